import PyProof.Rows.All
import Wide.All
import OpenK.AllK
import Wide.FinOn
import HandS.ForMost
import HandS.Flow
import HandS.IsInst
import HandS.Walk
import KE.LtData
import HandS.Wide
import HandS.TupAny
import HandS.Zip
import KE.GoesMore
import HandS.Conv
import HandS.Star
import HandS.ClsMeth
import HandS.Property
import HandS.DictComp
import HandS.More
import HandS.Replace
import HandS.RaiseMore
import HandS.Exc
import HandS.ExcOwn
import HandS.ExcIs
import KE.GoesEnum
import PyProof.TupleOfSeq
import HandS.Steps
import HandS.SlotsOwn
import PyProof.InstNe
import HandS.Lambda
import HandS.ExcInit
import HandS.ExcField
import HandS.Small
import HandS.CallSlots
import KE.KUnpackStar
import KE.KUnpack
import HandS.Style
import HandS.WordsExc
import HandS.EndBits
import HandS.EndTab
import HandS.MakeKwOnly
import HandS.Defaults
import HandS.SortInts
import HandS.TryOnly
import HandS.DeepEq
import KE.KEqDict
import HandS.Strs
import HandS.SetFor
import HandS.StrMore
import HandS.Set
import HandS.Text
import KE.KRevSl
import PyProof.AutoSeq1
import HandS.OwnEq
import KE.DataMinMax
import KE.SortKeyHeap
import HandS.Deep
import KE.KStateDown
import HandS.Head0
import HandS.Head1
import HandS.Head2
import HandS.HeadHook1
import HandS.HeadHook2
import HandS.HeadHook3
import HandS.HeadHook4
import PySem.Challenge.RW_callstairs_k04_pieces_gathered
import KE.KDictZip
import KE.KEqNest
import HandS.ExcValue
import HandS.RevRange
import HandS.ListItems
import PyProof.DictUpdate
import PyProof.DictDisplay
import HandS.Rev
import KE.KStar
import PyProof.CompFree
import HandS.Comp
import HandS.DictEq
import HandS.Finally
set_option Elab.async false
set_option linter.all false
set_option maxRecDepth 100000
set_option maxHeartbeats 0
noncomputable section
namespace Cs
open PySem PySem.Spec L2
theorem same_none {H H' : Hp} (e : Same H H') {l : Addr} (h : H' l = none) : H l = none := e.free h
theorem same_new {H : Hp} {p : Addr} {o : HO} (h : H p = none) : Same H (upd H p o) := fun a u e => by
  rw [upd_ne (ne_of_none e h)]; exact e
structure Grow (M : Addr → Prop) (G H G' H' : Hp) : Prop where
  h : ∀ b o, ¬ M b → H b = some o → H' b = some o
  g : Same G G'
  s : Same G' H'
  n : ∀ b, H b ≠ none → G' b = G b
  m : ∀ b, H b ≠ none → H' b ≠ none
  t : ∀ b ps, G' b = some (.tbl ps) → G b = some (.tbl ps)
  u : ∀ b ps, H' b = some (.tbl ps) → ∃ ps', H b = some (.tbl ps')
abbrev NoM : Addr → Prop := fun _ => False
section
variable {M : Addr → Prop} {G H G1 H1 G2 H2 G' H' : Hp} {p : Addr} {o : HO}
theorem Grow.refl (s : Same G H) : Grow M G H G H := ⟨fun _ _ _ e => e, Same.refl _, s, fun _ _ => rfl, fun _ h => h, fun _ _ h => h, fun _ _ h => ⟨_, h⟩⟩
theorem Grow.trans (a : Grow M G H G1 H1) (b : Grow M G1 H1 G2 H2) : Grow M G H G2 H2 :=
  ⟨fun c o hc e => b.h c o hc (a.h c o hc e), a.g.trans b.g, b.s, fun c hc => (b.n c (a.m c hc)).trans (a.n c hc), fun c hc => b.m c (a.m c hc), fun c ps h => a.t c ps (b.t c ps h), fun c ps h => let ⟨ps', h'⟩ := b.u c ps h; a.u c ps' h'⟩
theorem Grow.any (a : Grow NoM G H G' H') : Grow M G H G' H' := ⟨fun c o _ e => a.h c o (fun z => z) e, a.g, a.s, a.n, a.m, a.t, a.u⟩
theorem Grow.same (a : Grow NoM G H G' H') : Same H H' := fun c o e => a.h c o (fun z => z) e
theorem Grow.new (s : Same G H) (hp : H p = none) (no : ∀ ps, o ≠ .tbl ps := by intro _ z; cases z) : Grow M G H (upd G p o) (upd H p o) := by
  have gp : G p = none := same_none s hp
  refine ⟨fun b u _ e => same_new hp b u e, same_new gp, fun b u e => ?_, fun b hb => ?_, fun b hb => ?_, fun b ps e => ?_, fun b ps e => ?_⟩
  rotate_left 4
  · by_cases c : b = p
    · subst c; rw [upd_same] at e; exact absurd (Option.some.inj e) (no ps)
    · rw [upd_ne c] at e; exact ⟨_, e⟩
  rotate_left 3
  · by_cases c : b = p
    · subst c; rw [upd_same] at e; exact absurd (Option.some.inj e) (no ps)
    · rw [upd_ne c] at e; exact e
  · by_cases c : b = p
    · subst c; rw [upd_same] at e ⊢; exact e
    · rw [upd_ne c] at e ⊢; exact s b u e
  · exact upd_ne (fun z => hb (by rw [z]; exact hp))
  · rw [upd_ne (fun z => hb (by rw [z]; exact hp))]; exact hb
theorem Grow.own (s : Same G H) (hp : H p = none) (no : ∀ ps, o ≠ .tbl ps := by intro _ z; cases z) : Grow M G H G (upd H p o) :=
  ⟨fun b u _ e => same_new hp b u e, Same.refl _, s.trans (same_new hp), fun _ _ => rfl, fun b hb => by
    rw [upd_ne (fun z => hb (by rw [z]; exact hp))]; exact hb, fun _ _ h => h, fun b ps e => by
    by_cases c : b = p
    · subst c; rw [upd_same] at e; exact absurd (Option.some.inj e) (no ps)
    · rw [upd_ne c] at e; exact ⟨_, e⟩⟩
theorem Grow.put (a : Grow M G H G' H') (hp : H p = none ∨ M p) (gp : G' p = none) (no : ∀ ps, o ≠ .tbl ps := by intro _ z; cases z) : Grow M G H G' (upd H' p o) := by
  refine ⟨fun b u hb e => ?_, a.g, fun b u e => ?_, a.n, fun b hb => ?_, a.t, fun b ps e => by
    by_cases c : b = p
    · subst c; rw [upd_same] at e; exact absurd (Option.some.inj e) (no ps)
    · rw [upd_ne c] at e; exact a.u b ps e⟩
  · rcases hp with hp | hp
    · rw [upd_ne (ne_of_none e hp)]; exact a.h b u hb e
    · rw [upd_ne (fun z => hb (by rw [z]; exact hp))]; exact a.h b u hb e
  · rw [upd_ne (ne_of_none e gp)]; exact a.s b u e
  · by_cases c : b = p
    · subst c; rw [upd_same]; exact fun z => by cases z
    · rw [upd_ne c]; exact a.m b hb
theorem Grow.freeze (a : Grow M G H G' H') (hp : H p = none) (gp : G' p = none) (e : H' p = some o) (no : ∀ ps, o ≠ .tbl ps := by intro _ z; cases z) : Grow M G H (upd G' p o) H' := by
  refine ⟨a.h, a.g.trans (same_new gp), fun b u q => ?_, fun b hb => ?_, a.m, fun b ps q => ?_, a.u⟩
  rotate_left 2
  · by_cases c : b = p
    · subst c; rw [upd_same] at q; exact absurd (Option.some.inj q) (no ps)
    · rw [upd_ne c] at q; exact a.t b ps q
  · by_cases c : b = p
    · subst c; rw [upd_same] at q; rw [e]; exact q
    · rw [upd_ne c] at q; exact a.s b u q
  · rw [upd_ne (fun z => hb (by rw [z]; exact hp))]; exact a.n b hb
end
def keyD : Key → PyData
  | .inl i => .int i
  | .inr x => .str x
def dctD (ks : List Key) (ds : List PyData) : List (PyData × PyData) := List.zipWith (fun k d => (keyD k, d)) ks ds
def kvL (ks : List Key) (xs : List V) : List (Key × V) := List.zipWith (fun k x => (k, x)) ks xs
mutual
inductive Dp (K : PySem.W.Frag) (H : Hp) : V → PyData → Prop
  | non : Dp K H .non .none
  | bl (b : Bool) : Dp K H (.bl b) (.bool b)
  | int (i : Int) : Dp K H (.int i) (.int i)
  | str (x : Str) : Dp K H (.str x) (.str x)
  | lst {a : Addr} {xs : List V} {ds : List PyData} : SqL K H a xs → DpAll K H xs ds → Dp K H (.ref a) (.list ds)
  | tup {a : Addr} {xs : List V} {ds : List PyData} : SqT K H a xs → DpAll K H xs ds → Dp K H (.ref a) (.tuple ds)
  | dct {a : Addr} {ks : List Key} {xs : List V} {ds : List PyData} : Rd H a (.dK (kvL ks xs)) → ks.length = xs.length → ks.Nodup → DpAll K H xs ds → Dp K H (.ref a) (.dict (dctD ks ds))
inductive DpAll (K : PySem.W.Frag) (H : Hp) : List V → List PyData → Prop
  | nil : DpAll K H [] []
  | cons {v : V} {vs : List V} {d : PyData} {ds : List PyData} : Dp K H v d → DpAll K H vs ds → DpAll K H (v :: vs) (d :: ds)
end
mutual
theorem Dp.old {K : PySem.W.Frag} {H : Hp} : ∀ (d : PyData) (v : V), d.hasDict = false → Dp K H v d → L2.Dp K H v d
  | .none, _, _, h => by cases h; exact .non
  | .bool b, _, _, h => by cases h; exact .bl b
  | .int i, _, _, h => by cases h; exact .int i
  | .str x, _, _, h => by cases h; exact .str x
  | .list ds, _, n, h => by
    cases h with
    | lst hs ha => exact .lst hs (DpAll.old ds _ (by simpa only [PyData.hasDict] using n) ha)
  | .tuple ds, _, n, h => by
    cases h with
    | tup hs ha => exact .tup hs (DpAll.old ds _ (by simpa only [PyData.hasDict] using n) ha)
  | .dict _, _, n, h => by simp [PyData.hasDict] at n
theorem DpAll.old {K : PySem.W.Frag} {H : Hp} : ∀ (ds : List PyData) (vs : List V), PyData.hasDictAll ds = false → DpAll K H vs ds → L2.DpAll K H vs ds
  | [], _, _, h => by cases h; exact .nil
  | d :: ds, _, n, h => by
    have n' : (d.hasDict || PyData.hasDictAll ds) = false := by simpa only [PyData.hasDictAll] using n
    have n2 := Bool.or_eq_false_iff.mp n'
    cases h with
    | cons h1 h2 => exact .cons (Dp.old d _ n2.1 h1) (DpAll.old ds _ n2.2 h2)
end
theorem zd7 {d : PyData} (h : SeqAt.shaped d = true) : d.hasDict = false := by
  refine PyData.hasDict_of_canLay d ?_
  unfold SeqAt.shaped at h
  simp only [Bool.and_eq_true] at h
  exact h.1
abbrev Rp := Hp → V → Prop
section
variable {K : PySem.W.Frag}
theorem zaa9 {G G' : Hp} {a : Addr} {xs : List V} (e : Same G G') (h : SqL K G a xs) : SqL K G' a xs := e.seq h
theorem zby {G G' : Hp} {a : Addr} {xs : List V} (e : Same G G') (h : SqT K G a xs) : SqT K G' a xs := by
  rcases h with (h | ⟨o, h⟩) | h
  · exact .inl (.inl (e _ _ h))
  · exact .inl (.inr ⟨o, e _ _ h⟩)
  · exact .inr h
theorem zi6 {G G' : Hp} {a : Addr} {u : HO} (e : Same G G') (h : Rd G a u) : Rd G' a u := by
  rcases h with h | ⟨o, h⟩
  · exact .inl (e _ _ h)
  · exact .inr ⟨o, e _ _ h⟩
mutual
theorem zuj {G G' : Hp} (e : Same G G') : ∀ {d : PyData} {v : V}, Dp K G v d → Dp K G' v d
  | _, _, .non => .non
  | _, _, .bl b => .bl b
  | _, _, .int i => .int i
  | _, _, .str x => .str x
  | _, _, .lst hs ha => .lst (zaa9 e hs) (zim e ha)
  | _, _, .tup hs ha => .tup (zby e hs) (zim e ha)
  | _, _, .dct hr hl hn ha => .dct (zi6 e hr) hl hn (zim e ha)
theorem zim {G G' : Hp} (e : Same G G') : ∀ {ds : List PyData} {vs : List V}, DpAll K G vs ds → DpAll K G' vs ds
  | _, _, .nil => .nil
  | _, _, .cons h1 h2 => .cons (zuj e h1) (zim e h2)
end
theorem zay {G G' : Hp} (e : Same G G') (d : PyData) (v : V) (h : Dp K G v d) : Dp K G' v d := zuj e h
theorem zaq {G G' : Hp} (e : Same G G') (ds : List PyData) (vs : List V) (h : DpAll K G vs ds) : DpAll K G' vs ds := zim e h
theorem zan {G : Hp} : ∀ {vs : List V} {ds : List PyData}, DpAll K G vs ds → vs.length = ds.length
  | _, _, .nil => rfl
  | _, _, .cons _ t => congrArg (· + 1) (zan t)
theorem zhz {G : Hp} : ∀ {vs : List V} {ds : List PyData} {i : Nat} {d : PyData}, DpAll K G vs ds → ds[i]? = some d → ∃ v, vs[i]? = some v ∧ Dp K G v d
  | _, _, _, _, .nil, e => by simp at e
  | _, _, 0, _, .cons h _, e => by
    have e' := Option.some.inj e
    subst e'
    exact ⟨_, rfl, h⟩
  | _, _, i + 1, d, .cons _ t, e => zhz (i := i) t e
theorem zgr {G : Hp} : ∀ {vs : List V} {ds : List PyData} {i : Nat} {v : V}, DpAll K G vs ds → vs[i]? = some v → ∃ d, ds[i]? = some d ∧ Dp K G v d
  | _, _, _, _, .nil, e => by simp at e
  | _, _, 0, _, .cons h _, e => by
    have e' := Option.some.inj e
    subst e'
    exact ⟨_, rfl, h⟩
  | _, _, i + 1, d, .cons _ t, e => zgr (i := i) t e
theorem zdj {G : Hp} : ∀ {vs ws : List V} {ds es : List PyData}, DpAll K G vs ds → DpAll K G ws es → DpAll K G (vs ++ ws) (ds ++ es)
  | _, _, _, _, .nil, h => h
  | _, _, _, _, .cons h t, k => .cons h (zdj t k)
theorem zjw {G : Hp} : ∀ {vs : List V} {ds : List PyData} (n : Nat), DpAll K G vs ds → DpAll K G (vs.take n) (ds.take n)
  | _, _, 0, _ => .nil
  | _, _, _ + 1, .nil => .nil
  | _, _, n + 1, .cons h t => .cons h (zjw n t)
theorem zjx {G : Hp} : ∀ {vs : List V} {ds : List PyData} (n : Nat), DpAll K G vs ds → DpAll K G (vs.drop n) (ds.drop n)
  | _, _, 0, h => h
  | _, _, _ + 1, .nil => .nil
  | _, _, n + 1, .cons _ t => zjx n t
theorem zkg {G : Hp} : ∀ {vs : List V} {ds : List PyData} (n : Nat), DpAll K G vs ds → DpAll K G (vs.eraseIdx n) (ds.eraseIdx n)
  | _, _, _, .nil => .nil
  | _, _, 0, .cons _ t => t
  | _, _, n + 1, .cons h t => .cons h (zkg n t)
end
def EvP (te : TE) (σ : L2.St) (G : Hp) (R : Rp) : Prop := ∀ H, Same G H → ∀ Q : VK, (∀ v G' H', Grow NoM G H G' H' → R G' v → Q v H') → te σ H Q
abbrev I (i : Int) : PyData := .int i
abbrev S (s : Str) : PyData := .str s
abbrev B (b : Bool) : PyData := .bool b
abbrev T (ds : List PyData) : PyData := .tuple ds
abbrev L (ds : List PyData) : PyData := .list ds
section
variable {K : PySem.W.Frag} {σ : L2.St} {G G1 H : Hp} {b : Bool} {ta tb tc te : TE} {t u : TT} {tA : TA} {R R' X Y Z : Rp} {r r' : R2} {v : V} {i : Nat}
theorem EvP.imp (h : EvP te σ G R) (f : ∀ G v, R G v → R' G v) : EvP te σ G R' := fun H s Q q => h H s Q fun v G' H' g r => q v G' H' g (f _ _ r)
theorem zad8 {α β : Type} {xs : List α} {ys : List β} {i : Int} {y : β} (hl : xs.length = ys.length) (h : atI ys i = some y) : ∃ j : Nat, ys[j]? = some y ∧ ∀ x, xs[j]? = some x → atI xs i = some x := by
  unfold atI at h ⊢
  rw [hl]
  cases e : ixN ys.length i with
  | none => rw [e] at h; cases h
  | some j =>
    rw [e] at h
    exact ⟨j, h, fun x hx => hx⟩
end
end Cs
namespace Cs
open PySem PySem.Spec L2
section
variable {K : PySem.W.Frag} {σ : L2.St} {M : Addr → Prop} {G G0 G1 H H0 H1 : Hp} {b : Bool} {ta tb tc te : TE} {t u : TT} {tA : TA} {R R' X Y Z : Rp} {r r' : R2} {v : V} {i : Nat} {D : Ends} {Q : VK} {ts tS : TS} {d : PyData}
end
end Cs
namespace Cs
open PySem PySem.Spec L2
section
variable {X : Cx} {f : Value → Value → Sem Value} {r1 r2 : R2}
theorem zm8 (h1 : OpR X f r1) (h2 : OpR X f r2) : OpR X f (fun x y H Q => r1 x y H Q ∨ r2 x y H Q) := by
  intro pins s σ H x y v u Q I rx ry h
  rcases h with h | h
  · exact h1 pins s σ H x y v u Q I rx ry h
  · exact h2 pins s σ H x y v u Q I rx ry h
def rLtD (K : PySem.W.Frag) : R2 := fun x y H Q => ∃ d e, L2.Dp K H x d ∧ L2.Dp K H y e ∧ PySem.W.alike d e = true ∧ d ≠ .none ∧ d.depth ≤ 64 ∧ Q (.bl (PySem.W.dataLt d e)) H
theorem zaew (hu : X.A.units + 64 < cLine) : OpR X (compareOp .Lt) (rLtD X.K) := by
  intro pins s σ H x y v u Q I rx ry h
  obtain ⟨d, e, hd, he, al, nn, dp, q⟩ := h
  obtain ⟨as, r1⟩ := Dp.reads I d x v hd rx
  obtain ⟨bs, r2⟩ := Dp.reads I e y u he ry
  have R := PySem.W.rcLt_alike d e X.A s v u as bs r1 r2 al nn (by have := Nat.min_le_left d.depth e.depth; omega)
  have z : wpAny (model X.prog X.w) X.A (compareOp .Lt v u) (EP X pins σ Q) X.xe s := R X.prog X.w X.xe (EP X pins σ Q) ⟨.bl _, H, I, rfl, q⟩
  exact z
def rAddI : R2 := rI0 fun i j => .int (i + j)
def rAddS : R2 := fun x y H Q => ∃ i j, x = .str i ∧ y = .str j ∧ i.length + j.length ≤ sizeLine ∧ Q (.str (i ++ j)) H
def rCatQ (K : PySem.W.Frag) : R2 := fun x y H Q => ∃ l b xs zs, x = .ref l ∧ y = .ref b ∧ SqL K H l xs ∧ SqL K H b zs ∧ xs.length + zs.length ≤ sizeLine ∧ ∀ p, H p = none → Q (.ref p) (upd H p (.lst (xs ++ zs)))
theorem zac8 : OpR X (binaryOp .Add) (rCatQ X.K) := by
  intro pins s σ H x y v u Q I rx ry h
  obtain ⟨l, b, xs, zs, rfl, rfl, hH, hB, hz, q⟩ := h
  cases rx
  cases ry
  obtain ⟨its, r, p1, _⟩ := I.list hH
  obtain ⟨its2, r2, p2, _⟩ := I.list hB
  obtain ⟨⟨cls, dd, data, sl⟩, ho, hc, n, hd⟩ := p1.isList
  obtain ⟨⟨cls2, dd2, data2, sl2⟩, ho2, hc2, n2, hd2⟩ := p2.isList
  simp only at hc hd hc2 hd2
  subst hc hd hc2 hd2
  have e : its.toArray ++ its2.toArray = (its ++ its2).toArray := by simp
  have l1 := r.length
  have l2 := r2.length
  refine concat_meets ⟨_, ho, rfl⟩ ⟨_, ho2, rfl⟩ noFill_list_add seq_list_add PySem.F.slot_list_add PySem.F.entry_list_add (PySem.F.args_list_add_2 _ _) (PyProof.Rows.list_addW l b its.toArray its2.toArray n n2 dd dd2 sl sl2 (by simp only [List.size_toArray]; omega)) ⟨ho, ho2, ?_⟩
  rw [e]
  exact ⟨.ref _, _, I.lnew (t' := s.toks) (r.append r2) (by rw [List.length_append]; omega), rfl, q _ I.fresh⟩
def rAddD (K : PySem.W.Frag) : R2 := fun x y H Q => rAddI x y H Q ∨ (rAddS x y H Q ∨ (rCatQ K x y H Q ∨ rCatA K x y H Q))
theorem zcx : OpR X (binaryOp .Add) (rAddD X.K) := zm8 op_add (zm8 op_add_str (zm8 zac8 op_catA))
def CPowW (i j : Int) : Prop := 0 ≤ j ∧ ((i.natAbs.log2 + 1 : Nat) : Int) * j ≤ 2 ^ 27
theorem zvt : OpR X (binaryOp .Pow) (rI CPowW fun i j => .int (i ^ j.toNat)) := opI fun i j _ _ _ _ _ hc q => by
  refine PyProof.Rows.pow_int hc.1 ?_ q
  have b : Builtin.Int.intBits i ≤ i.natAbs.log2 + 1 := by
    unfold Builtin.Int.intBits
    split <;> omega
  have h1 : ((Builtin.Int.intBits i : Nat) : Int) ≤ ((i.natAbs.log2 + 1 : Nat) : Int) := Int.ofNat_le.mpr b
  exact Int.le_trans (Int.mul_le_mul_of_nonneg_right h1 hc.1) hc.2
def rMulI : R2 := rI CMulW fun i j => .int (i * j)
def rMulD : R2 := fun x y H Q => rMulI x y H Q ∨ rRep x y H Q
theorem zi9 : OpR X (binaryOp .Mult) rMulD := zm8 op_mulW op_rep
def rInD (K : PySem.W.Frag) : R2 := fun x y H Q => rIn K false x y H Q ∨ (∃ i j, x = .str i ∧ y = .str j ∧ Q (.bl (!(Builtin.Str.occurrences j i 0 j.length 1).isEmpty)) H)
theorem op_inD : OpR X (compareOp .In) (rInD X.K) := zm8 op_in_seq op_in_str
theorem zyf {r r' : V → Option Int → Option Int → Hp → VK → Prop} (h1 : SlR X r) (h2 : SlR X r') : SlR X (fun x lo hi H Q => r x lo hi H Q ∨ r' x lo hi H Q) := by
  intro pins s σ H x v vl vu lo hi sl Q I rx hs pl pu h
  rcases h with h | h
  · exact h1 pins s σ H x v vl vu lo hi sl Q I rx hs pl pu h
  · exact h2 pins s σ H x v vl vu lo hi sl Q I rx hs pl pu h
def rSlD (K : PySem.W.Frag) : V → Option Int → Option Int → Hp → VK → Prop := fun x lo hi H Q => rSlL K x lo hi H Q ∨ (rSlA K x lo hi H Q ∨ rSlS x lo hi H Q)
theorem sl_D : SlR X (rSlD X.K) := zyf sl_list (zyf sl_tupA sl_str)
def rLenD (K : PySem.W.Frag) : List V → Hp → VK → Prop := fun xs H Q => ∃ x n, xs = [x] ∧ LenV K x H n ∧ Q (.int n) H
theorem zaas : CallR X (.builtin "len") (rLenD X.K) := call_len
def zvh (K : PySem.W.Frag) : List V → Hp → VK → Prop := fun xs H Q => ∃ p ys, xs = [.ref p] ∧ (SqL K H p ys ∨ SqT K H p ys) ∧ ∀ l, H l = none → Q (.ref l) (upd H l (.lst ys))
theorem zxz : CallR X (.type "list") (zvh X.K) := call_list_of
def zvg (K : PySem.W.Frag) : List V → Hp → VK → Prop := fun xs H Q => ∃ p ys, xs = [.ref p] ∧ ((SqL K H p ys ∧ ∀ l, H l = none → Q (.ref l) (upd H l (.tup ys))) ∨ (SqT K H p ys ∧ Q (.ref p) H))
theorem zu4 : CallR X (.type "tuple") (zvg X.K) := call_tuple_of
def rSubI : R2 := rI0 fun i j => .int (i - j)
def rModI : R2 := rI (fun _ j => j ≠ 0) fun i j => .int (i.fmod j)
def rDivI : R2 := rI CDivN fun i j => .int (i.fdiv j)
def rPowI : R2 := rI CPowW fun i j => .int (i ^ j.toNat)
def rGtI : R2 := rI0 fun i j => .bl (decide (j < i))
def rLeI : R2 := rI0 fun i j => .bl (decide (i ≤ j))
def rMax2 : List V → Hp → VK → Prop := fun xs H Q => ∃ i j, xs = [.int i, .int j] ∧ Q (.int (if j > i then j else i)) H
theorem zqm (hc : X.calm = true) : CallR X (.builtin "max") rMax2 := call_max2 hc
end
section
variable {K : PySem.W.Frag} {σ : L2.St} {G G1 H : Hp} {b : Bool} {ta tb tc te : TE} {t u : TT} {tA : TA} {X Y Z : Rp} {d d' : PyData}
end
end Cs
namespace Cs
open PySem PySem.Spec L2
def LIM : Nat := 1000000
def StAt (a : Addr) (c : Nat) (H : Hp) : Prop := ∃ x y z : Int, H a = some (.lst [.int x, .int y, .int z]) ∧ 0 ≤ z ∧ z ≤ (c : Int)
abbrev At1 (a : Addr) : Addr → Prop := fun b => b = a
section
variable {K : PySem.W.Frag} {σ : L2.St} {M : Addr → Prop} {a : Addr} {c k k1 k2 n : Nat} {G G0 G1 H H0 H1 G' H' : Hp} {b : Bool} {ta tb tc te : TE} {t u : TT} {tA : TA} {R R' X Y Z : Rp} {r r' : R2} {v : V} {i : Nat} {D : Ends} {Q : VK} {ts tS : TS} {d : PyData}
theorem StAt.at (h : StAt a c H) (e : ∀ o, H a = some o → H' a = some o) : StAt a c H' := by
  obtain ⟨x, y, z, h1, h2, h3⟩ := h
  exact ⟨x, y, z, e _ h1, h2, h3⟩
theorem StAt.some (h : StAt a c H) : H a ≠ none := by
  obtain ⟨x, y, z, h1, _⟩ := h
  rw [h1]
  exact fun z => by cases z
theorem StAt.keep (h : StAt a c H) (g : Grow NoM G H G' H') : StAt a c H' := h.at fun o e => g.same _ _ e
theorem Grow.none (g : Grow M G H G' H') (ha : H a ≠ none) (ga : G a = none) : G' a = none := (g.n a ha).trans ga
def EvS (a : Addr) (k : Nat) (te : TE) (σ : L2.St) (G : Hp) (R : Rp) : Prop := ∀ H c, Same G H → G a = none → StAt a c H → c + k ≤ LIM → ∀ Q : VK, (∀ v G' H', Grow (At1 a) G H G' H' → StAt a (c + k) H' → R G' v → Q v H') → te σ H Q
theorem EvS.imp (h : EvS a k te σ G R) (f : ∀ G v, R G v → R' G v) : EvS a k te σ G R' := fun H c s ga sa hl Q q => h H c s ga sa hl Q fun v G' H' g s2 r => q v G' H' g s2 (f _ _ r)
end
end Cs
namespace Cs
open PySem PySem.Spec L2
section
variable {K : PySem.W.Frag} {H : Hp} {Q : VK} {E : XK} {vs : List V}
theorem zk5 {i j : Int} {a b : Nat} (ha : i.natAbs < 2 ^ a) (hb : j.natAbs < 2 ^ b) (h0 : 0 < a) (h1 : 0 < b) (h : a + b ≤ 1000000) : CMulW i j := wide_mul ha hb h0 h1 h
theorem zjc {a b : Int} (h : 0 < b) : 0 ≤ a.fmod b ∧ a.fmod b < b := by
  rw [Int.fmod_eq_emod_of_nonneg a (Int.le_of_lt h)]
  exact ⟨Int.emod_nonneg a (by omega), Int.emod_lt_of_pos a h⟩
end
end Cs
namespace Cs
open PySem PySem.Spec L2
section
variable {K : PySem.W.Frag} {H : Hp} {Q : VK} {E : XK} {vs : List V}
end
end Cs
namespace Cs
open PySem PySem.Spec L2
section
variable {K : PySem.W.Frag} {σ : L2.St} {a : Addr} {c k : Nat} {G H : Hp} {Q : VK} {E : XK} {vs : List V} {ta te : TE} {tA : TA} {tl th : TO} {lo hi : Option Int} {R : Rp}
end
end Cs
namespace Cs
open PySem PySem.Spec L2
end Cs
namespace Cs
open PySem PySem.Spec L2
def isWord (x : Str) : Bool := x.cps.toList.all fun c => decide (97 ≤ c) && decide (c ≤ 122)
section
variable {K : PySem.W.Frag} {σ : L2.St} {G H : Hp} {Q : VK} {E : XK} {vs : List V} {ta tb : TE}
end
end Cs
namespace Cs
open PySem PySem.Spec L2
section
variable {K : PySem.W.Frag} {σ : L2.St} {G H : Hp} {Q : VK} {E : XK} {vs : List V} {ta tb : TE}
end
end Cs
namespace Cs
open PySem PySem.Spec L2
section
variable {prog : Program} {w : World} {A : Around} {E : Value → Shared → Prop} {s : Shared} {r d : Addr} {n : Nat} {P : Nat → Value → Prop} {OK : Heap → Prop}
theorem znu {Q₁ : Value → Shared → Prop} (S : PySem.W.KdlSrc prog w "dict" r d n P OK) (hh : A.handled = none) (hok : OK s.heap) (hn : n ≤ sizeLine)
    (h : ∀ (h' : Heap) (tk : Nat) (acc : Array Value), (∀ b o, s.heap.get? b = some o → h'.get? b = some o) → ItemsOf P acc n →
      Q₁ (.ref h'.objs.size) { s with heap := h'.push { cls := .type "tuple", data := .seq acc }, toks := tk }) :
    codeAny (model prog w) A (.call (.builtin "tuple.__new__") ⟨[.type "tuple", .ref r], []⟩) (wants Q₁ E) s := by
  refine codeAny_of_tree ?_
  show wpAny _ A.in1 (do checkBuiltinCall "tuple.__new__" ⟨[.type "tuple", .ref r], []⟩; again (.builtin "tuple.__new__" ⟨[.type "tuple", .ref r], []⟩)) _ _ s
  refine wpAny_bind (wpAny_of_eq (PySem.F.newCall_tuple_1 _) (wpAny_pure ⟨plainId_quiet PySem.F.plain_tuple_new _, codeAny_builtin PySem.F.entry_tuple_new ?_⟩))
  rw [Around.under_plainId PySem.F.plain_tuple_new _]
  have hsub := sub_tuple_self
  have hinit := init_tuple_lookup
  have hmh := madeHere_tuple
  have hTI : s.TypeIs (.ref r) "dict" := S.type _ hok
  have hh1 : A.in1.handled = none := hh
  wp_walk using wpAny_typeOf hTI, PySem.W.kdu_collect (A := A.in1) S hh1 hok hn
  intro h' tk acc hk hacc
  show wpAny _ _ (Builtin.Tuple.tupleExact acc.toList.toArray >>= fun v => ret v) _ _ _
  unfold Builtin.Tuple.tupleExact
  refine wpAny_bind (wpAny_newObj_type ?_ (by show acc.toList.toArray.size ≤ sizeLine; simp only [Array.toArray_toList]; rw [hacc.1]; exact hn))
  refine wpAny_pure ?_
  have e : acc.toList.toArray = acc := by simp
  rw [e]
  exact h h' tk acc hk hacc
theorem zrg {Q : Value → Shared → Prop} (S : PySem.W.KdlSrc prog w "dict" r d n P OK) (hh : A.handled = none) (hok : OK s.heap) (hn : n ≤ sizeLine)
    (hQ : ∀ (h' : Heap) (tk : Nat) (acc : Array Value), (∀ b o, s.heap.get? b = some o → h'.get? b = some o) → ItemsOf P acc n →
      Q (.ref h'.objs.size) { s with heap := h'.push { cls := .type "tuple", data := .seq acc }, toks := tk }) :
    wpAny (model prog w) A (call (.type "tuple") [.ref r]) Q E s := by
  refine callType_codes (Q₁ := fun obj s₁ => s₁.TypeIs obj "tuple" ∧ Q obj s₁) PySem.F.called_tuple (PySem.F.typeCall_tuple_1 _) PySem.F.entry_object_init
    (znu (A := A.in1) S hh hok hn fun h' tk acc hk hacc => ⟨⟨_, Heap.get?_push_size _ rfl, rfl⟩, hQ h' tk acc hk hacc⟩) fun obj s₁ h₁ => ?_
  exact ⟨h₁.1, PySem.F.args_object_init_2 obj _, object_init_meets PySem.F.called_tuple.init.lookup PySem.F.called_tuple.made (by decide) prog w A.in1 _ s₁ ⟨h₁.1, rfl, h₁.2⟩⟩
end
def zvf : List V → Hp → VK → Prop := fun xs H Q => ∃ p kvs, xs = [.ref p] ∧ Rd H p (.dK kvs) ∧ ∀ q, H q = none → Q (.ref q) (upd H q (.tup (kvs.map fun kv => kV kv.1)))
theorem zsj {X : Cx} (hc : X.calm = true) : CallR X (.type "tuple") zvf := by
  intro pins s σ H xs us Q I r h
  obtain ⟨p, kvs, e, hk, q⟩ := h
  subst e
  obtain ⟨u, eu, rx⟩ := vals1 r
  subst eu
  obtain rfl : u = Value.ref p := rx
  obtain ⟨z, lo, vs, rk, hd⟩ := dk_rd I.hok hk
  obtain ⟨ep, hat⟩ := hd.dictAt
  have hl : kvs.length = vs.length := Paired.length rk
  refine zrg (PySem.W.kdl_dict (knd := mixKind X.prog X.w) (kvs := vs) (ep := ep) lo) (I.ok.hd hc) hat (by rw [← hl]; exact z) fun h' tk acc hk hacc => ?_
  have I1 : Inv X pins σ H { s with heap := h', toks := tk } := I.kept hk
  refine ⟨.ref h'.objs.size, upd H h'.objs.size (.tup (kvs.map fun kv => kV kv.1)), I1.laid (t' := tk) (fun b o e => Heap.get?_push_of_some _ e) (Nat.le_refl _) (show ObjOk X.prog X.w _ _ _ (.tup (kvs.map fun kv => kV kv.1)) from ⟨?_, acc.toList, ?_, ?_⟩), rfl, q _ (I1.hok.fresh (Nat.le_refl _))⟩
  · rw [List.length_map]; exact z
  · have el : acc.toList.length = acc.size := by simp
    refine vals_of_at (by rw [List.length_map, el, hacc.1, hl]) fun j x w h1 h2 => ?_
    obtain ⟨k, y, hky, hi⟩ := hacc.2 j w (by rw [← Array.getElem?_toList]; exact h2)
    have e1 : (kvs.map (·.1))[j]? = some k := by
      rw [KV.keys rk, List.getElem?_map, hky] <;> rfl
    have e2 : (kvs.map fun kv => kV kv.1)[j]? = some (kV k) := by
      have e3 : (kvs.map fun kv => kV kv.1) = (kvs.map (·.1)).map kV := by rw [List.map_map] <;> rfl
      rw [e3, List.getElem?_map, e1] <;> rfl
    rw [e2] at h1
    cases h1
    exact keyIs_rel hi
  · rw [Array.toArray_toList]; exact PyProof.Rows.IsTup.new _ _
def zx9 (K : PySem.W.Frag) (i : Nat) (C : Addr) (sp : Sp) (E : XK) (te : TE) : TE := fun σ H Q => σ[i]? = some (some (.ref C)) ∧ te σ H fun y H1 => ∃ a xs, y = V.ref a ∧ (SqT K H1 a xs ∨ SqL K H1 a xs) ∧
  ∀ x dx, H1 x = Option.none → H1 dx = Option.none → dx ≠ x → sp (V.ref x :: xs) (upd (upd H1 dx (.own x)) x (.ins C dx [])) (fun v H2 => v = .non ∧ Q (.ref x) H2) E
theorem zabo {X : Cx} {CX : CXT} {k i : Nat} {f C : Addr} {sp : Sp} {E : XK} {x : Str} {e : Expr} {te : TE} {p sp_ pos : Pos} (M : Mk X.K C f) (F : FnR X.prog X.w X.K X.mg X.base CX k f sp) (hr : Room (k + 1) X.A) (hN : X.N[i]? = some x) (hv : Vis X.env.scope x) (hx : Passes CX X E) (he : PE X e te)
    (hdb : (x == ("__debug__" : Str)) = false := by decide) (hcd : (x == ("__classdict__" : Str)) = false := by decide) (hst : starEach [.Starred e sp_] X.env = [(true, eval e X.env)] := by rfl) :
    PE X (.Call (.Name x p) [.Starred e sp_] [] pos) (zx9 X.K i C sp E te) := by
  refine ⟨fun pins s σ H Q I h => ?_⟩
  obtain ⟨hs, ht⟩ := h
  refine wpAny_Call_Name_kw (thn ((pe_var (pos := p) hN hv hdb hcd).run pins s σ H (fun v H1 => v = .ref C ∧ H1 = H) I ⟨.ref C, hs, rfl, rfl⟩) fun u s1 ⟨v, H1, I1, r1, q1⟩ => ?_)
  obtain ⟨rfl, rfl⟩ := q1
  cases r1
  refine PySem.W.callWith_S (h₀ := X.base) I.ok.mod.kin M.kp (thn (he.run pins s1 σ _ _ I1 ht) fun v s1 ⟨y, H1, I1, ry, a, xs, ey, hxs, q⟩ => ?_) hst
  subst ey
  obtain rfl : v = Value.ref a := ry
  exact StX.star_any I1 hxs fun us s2 I2 rv => ⟨I2.kIn, StX.run_makeR M F hr hx I2 rv q⟩
end Cs
namespace Cs
open PySem PySem.Spec L2
theorem pi_or {X : Cx} {tg e : Expr} {w1 w2 : TI} (h1 : PI X tg e w1) (h2 : PI X tg e w2) : PI X tg e (fun σ H R => w1 σ H R ∨ w2 σ H R) := by
  refine ⟨fun pins s σ H R I h => ?_⟩
  rcases h with h | h
  · exact h1.run pins s σ H R I h
  · exact h2.run pins s σ H R I h
def iAny (K : PySem.W.Frag) (te : TE) : TI := fun σ H R => iList K te σ H R ∨ (iTup K te σ H R ∨ iStr te σ H R)
theorem zee {X : Cx} {tg e : Expr} {te : TE} (h : PE X e te) : PI X tg e (iAny X.K te) := pi_or (pi_list h) (pi_or (pi_tup h) (pi_str h))
def rLeS : R2 := fun x y H Q => ∃ i j, x = .str i ∧ y = .str j ∧ Q (.bl (!decide (j.cps.toList < i.cps.toList))) H
def zrv : List V → Hp → VK → Prop := fun xs H Q => ∃ (a : Addr) (kvs : List (Key × V)) (ks : List Str), xs = [.ref a] ∧ Rd H a (.dK kvs) ∧ kvs.map (·.1) = ks.map Sum.inr ∧ ks.length < 64 ∧
    ∀ ys p, ys.Perm ks → PyProof.Rows.sortedS ys = true → H p = none → Q (.ref p) (upd H p (.lst (ys.map V.str)))
theorem zsk {X : Cx} (hcalm : X.calm = true) : CallR X (.builtin "sorted") zrv := call_sortedD hcalm
section
variable {K : PySem.W.Frag} {σ : L2.St} {G G' H : Hp} {Q : VK} {E : XK} {vs : List V} {ta tb tc te : TE} {tA : TA} {d x y z : PyData} {v : V}
def zah (x : Str) : Bool := decide (0 < x.length) && decide (x.length ≤ 6) && isWord x
end
end Cs
namespace Cs
open PySem PySem.Spec L2
section
variable {K : PySem.W.Frag} {σ : L2.St} {M : Addr → Prop} {G G' G1 G0 H0 H H' H1 : Hp} {Q : VK} {E : XK} {vs : List V} {ta tb tc te tk tv td ty : TE} {tA : TA} {t : TT} {d x y z : PyData} {v : V} {a : Addr} {R : Rp}
def noSeq (o : Option HO) : Prop := ∀ xs, o ≠ some (.lst xs) ∧ o ≠ some (.tup xs) ∧ (∀ f, o ≠ some (.frz f (.lst xs))) ∧ ∀ f, o ≠ some (.frz f (.tup xs))
mutual
theorem zad4 (e : ∀ b, b ≠ a → G' b = G b) (n : noSeq (G a)) (nd : ∀ kvs, Rd G a (.dK kvs) → Rd G' a (.dK kvs)) : ∀ {d : PyData} {v : V}, Dp K G v d → Dp K G' v d
  | _, _, .non => .non
  | _, _, .bl b => .bl b
  | _, _, .int i => .int i
  | _, _, .str x => .str x
  | _, _, .lst (a := b) (xs := xs) hs ha => by
      refine .lst ?_ (zmj e n nd ha)
      rcases hs with (q | ⟨o, q⟩) | q
      · have ne : b ≠ a := fun z => (n xs).1 (by rw [← z]; exact q)
        exact .inl (.inl ((e b ne).trans q))
      · have ne : b ≠ a := fun z => (n xs).2.2.1 o (by rw [← z]; exact q)
        exact .inl (.inr ⟨o, (e b ne).trans q⟩)
      · exact .inr q
  | _, _, .tup (a := b) (xs := xs) hs ha => by
      refine .tup ?_ (zmj e n nd ha)
      rcases hs with (q | ⟨o, q⟩) | q
      · have ne : b ≠ a := fun z => (n xs).2.1 (by rw [← z]; exact q)
        exact .inl (.inl ((e b ne).trans q))
      · have ne : b ≠ a := fun z => (n xs).2.2.2 o (by rw [← z]; exact q)
        exact .inl (.inr ⟨o, (e b ne).trans q⟩)
      · exact .inr q
  | _, _, .dct (a := b) hr hl hn ha => by
      refine .dct ?_ hl hn (zmj e n nd ha)
      by_cases c : b = a
      · subst c; exact nd _ hr
      · rcases hr with q | ⟨o, q⟩
        · exact .inl ((e b c).trans q)
        · exact .inr ⟨o, (e b c).trans q⟩
theorem zmj (e : ∀ b, b ≠ a → G' b = G b) (n : noSeq (G a)) (nd : ∀ kvs, Rd G a (.dK kvs) → Rd G' a (.dK kvs)) : ∀ {ds : List PyData} {vs : List V}, DpAll K G vs ds → DpAll K G' vs ds
  | _, _, .nil => .nil
  | _, _, .cons h1 h2 => .cons (zad4 e n nd h1) (zmj e n nd h2)
end
end
end Cs
namespace Cs
open PySem PySem.Spec L2
section
variable {K : PySem.W.Frag} {σ : L2.St} {M : Addr → Prop} {G G' G1 G0 H0 H H' H1 : Hp} {Q : VK} {E : XK} {vs : List V} {ta tb tc te tk tv td ty : TE} {tA : TA} {t : TT} {d x y z : PyData} {v : V} {a : Addr} {R : Rp}
section
variable {J : It} {n : Nat} {Gd : Hp → Prop} {Y : Nat → Hp → V → Hp → Prop}
end
def zlw (ks ys : List Str) : Prop := ys.Perm ks ∧ PyProof.Rows.sortedS ys = true
end
end Cs
namespace Cs
open PySem PySem.Spec L2
section
variable {K : PySem.W.Frag} {C : Addr} {σ : L2.St} {M : Addr → Prop} {G G' G1 G0 H0 H H' H1 : Hp} {Q : VK} {E : XK} {vs : List V} {ta tb tc te tk tv td ty : TE} {tA : TA} {t : TT} {d x y z : PyData} {v : V} {a : Addr} {R : Rp}
end
end Cs
namespace Cs
open PySem PySem.Spec L2
theorem zq3 : ∀ l m : List Nat, l < m ∨ l = m ∨ m < l
  | [], [] => .inr (.inl rfl)
  | [], _ :: _ => .inl List.Lex.nil
  | _ :: _, [] => .inr (.inr List.Lex.nil)
  | a :: l, b :: m => by
    rcases Nat.lt_trichotomy a b with h | h | h
    · exact .inl (List.Lex.rel h)
    · subst h
      rcases zq3 l m with h | h | h
      · exact .inl (List.Lex.cons h)
      · exact .inr (.inl (by rw [h]))
      · exact .inr (.inr (List.Lex.cons h))
    · exact .inr (.inr (List.Lex.rel h))
theorem zael {x y : Str} (h : x.cps.toList = y.cps.toList) : x = y := PySem.W.str_of_cps h
theorem zk1 {α : Type} {r : α → α → Prop} (anti : ∀ a b, r a b → r b a → a = b) : ∀ {l m : List α}, l.Perm m → l.Pairwise r → m.Pairwise r → l = m
  | [], m, h, _, _ => (List.nil_perm.mp h).symm
  | a :: l, [], h, _, _ => absurd h.symm (by simp)
  | a :: l, b :: m, h, hl, hm => by
    have e : a = b := by
      have ha : a ∈ b :: m := h.mem_iff.mp List.mem_cons_self
      have hb : b ∈ a :: l := h.mem_iff.mpr List.mem_cons_self
      rcases List.mem_cons.mp ha with q | q
      · exact q
      · rcases List.mem_cons.mp hb with k | k
        · exact k.symm
        · exact anti a b ((List.pairwise_cons.mp hl).1 b k) ((List.pairwise_cons.mp hm).1 a q)
    subst e
    rw [zk1 anti (List.perm_cons a |>.mp h) (List.pairwise_cons.mp hl).2 (List.pairwise_cons.mp hm).2]
def LeT (a b : Str) : Prop := ¬ (b.cps.toList < a.cps.toList)
theorem zzw {a b c : Str} (h : LeT a b) (k : LeT b c) : LeT a c := fun z => by
  rcases zq3 a.cps.toList b.cps.toList with q | q | q
  · exact k (List.lt_trans z q)
  · exact k (by rw [← q]; exact z)
  · exact h q
theorem zab5 (a b : Str) (h : LeT a b) (k : LeT b a) : a = b := by
  rcases zq3 a.cps.toList b.cps.toList with q | q | q
  · exact absurd q k
  · exact zael q
  · exact absurd q h
theorem zrt : ∀ {r : List Str} {p : Str}, PyProof.Rows.risingS p r = true → (p :: r).Pairwise LeT
  | [], p, _ => List.pairwise_singleton _ _
  | x :: r, p, h => by
    unfold PyProof.Rows.risingS at h
    rw [Bool.and_eq_true, PyProof.Rows.ltCps_eq] at h
    have h1 : LeT p x := by
      intro z
      rw [decide_eq_true z] at h
      cases h.1
    have ih := zrt (r := r) (p := x) h.2
    refine List.pairwise_cons.mpr ⟨fun y hy => ?_, ih⟩
    rcases List.mem_cons.mp hy with rfl | hy
    · exact h1
    · exact zzw h1 ((List.pairwise_cons.mp ih).1 y hy)
theorem zrq : ∀ {l : List Str}, PyProof.Rows.sortedS l = true → l.Pairwise LeT
  | [], _ => List.Pairwise.nil
  | _ :: _, h => zrt h
theorem zyd {ks ys : List Str} (h : zlw ks ys) (hk : PyProof.Rows.sortedS ks = true) : ys = ks := zk1 zab5 h.1 (zrq h.2) (zrq hk)
section
variable {K : PySem.W.Frag} {C : Addr} {σ : L2.St} {M : Addr → Prop} {G G' G1 G0 H0 H H' H1 : Hp} {Q : VK} {E : XK} {vs : List V} {ta tb tc te tk tv td ty : TE} {tA : TA} {t : TT} {d x y z : PyData} {v : V} {a : Addr} {R R' Z : Rp} {k k1 k2 : Nat}
end
end Cs
namespace Cs
open PySem PySem.Spec L2
def zyp (K : PySem.W.Frag) : List V → Hp → VK → Prop := fun xs H Q => ∃ (a : Addr) (ps : List Addr) (kvs : List (Key × V)), xs = [.ref a] ∧ SqL K H a (ps.map V.ref) ∧ Paired (fun p kv => SqT K H p [kV kv.1, kv.2]) ps kvs ∧
    ∀ p, H p = none → Q (.ref p) (upd H p (.dK (mergeK [] kvs)))
theorem zu5 {X : Cx} (hcalm : X.calm = true) : CallR X (.type "dict") (zyp X.K) := call_dictP hcalm
section
variable {K : PySem.W.Frag} {C : Addr} {σ : L2.St} {M : Addr → Prop} {G G' G1 G0 H0 H H' H1 : Hp} {Q : VK} {E : XK} {vs : List V} {ta tb tc te tk tv td ty : TE} {tA : TA} {t : TT} {d x y z : PyData} {v : V} {a : Addr} {R R' Z : Rp} {k k1 k2 : Nat}
end
end Cs
namespace Cs
open PySem PySem.Spec L2
section
variable {K : PySem.W.Frag} {C : Addr} {M : Addr → Prop} {G G' G1 G0 H0 H H' H1 : Hp} {Q : VK} {E : XK} {vs : List V} {D : Ends} {v w : V} {a : Addr} {n m : Int} {ws us : List Str}
def spLaw (K : PySem.W.Frag) : Sp := fun vs H Q _ => ∃ (a : Addr) (ns : List Int), vs = [.ref a] ∧ SqL K H a (ns.map V.int) ∧ ns.length ≤ 63 ∧ ∀ H', Q (.bl true) H'
end
end Cs
namespace Cs
open PySem PySem.Spec L2
section
variable {K : PySem.W.Frag} {vs : List V} {H : Hp} {Q : V → Hp → Prop} {E : XK}
end
end Cs
namespace Cs
open PySem PySem.Spec L2 PyProof.Rows
section
variable {X : Cx} {pins : List (Addr × Obj)} {σ : L2.St} {H : Hp} {s : Shared}
theorem zo0 : ∀ {ks : List Key} {xs : List V} {vs : List (Key × Value)}, ks.length = xs.length → KV (kvL ks xs) vs → vs.map (·.1) = ks ∧ Vals xs (vs.map (·.2))
  | [], [], _, _, h => by cases h; exact ⟨rfl, .nil⟩
  | k :: ks, x :: xs, _, hl, h => by
    cases h with
    | cons h1 h2 =>
      obtain ⟨e1, e2⟩ := zo0 (Nat.succ.inj hl) h2
      obtain ⟨rfl, r⟩ := h1
      exact ⟨by rw [List.map_cons, e1], .cons r e2⟩
  | [], _ :: _, _, hl, _ => by cases hl
  | _ :: _, [], _, hl, _ => by cases hl
theorem zxv {k : Key} {u : Value} (h : keyIs k u = true) : (∃ as, ∀ hp, Reads hp u (keyD k) as) := by
  rcases keyIs_shape h with ⟨i, t, rfl, rfl⟩ | ⟨x, t, rfl, rfl⟩
  · exact ⟨_, fun _ => Reads.int i t⟩
  · exact ⟨_, fun _ => Reads.str x t⟩
theorem zu2 {k : Key} {u : Value} (h : keyIs k u = true) (hs : (keyD k).showable = true) (hz : (keyD k).shown.length ≤ sizeLine) (bs : List Addr) (hp : Heap) (n : Nat) : ReprK X.prog X.w bs hp n u (keyD k).shown := by
  rcases keyIs_shape h with ⟨i, t, rfl, rfl⟩ | ⟨x, t, rfl, rfl⟩
  · simp only [keyD, PyData.shown]
    exact .of_is (ReprIs.int t (by simpa [keyD, PyData.showable] using hs)) _ _ _
  · simp only [keyD, PyData.shown]
    exact .of_is (ReprIs.str x t (by simpa only [keyD, PyData.shown] using hz)) _ _ _
theorem zl4 : ∀ {es : List DictEntry} {vs : List (Key × Value)}, Pairs (mixKind X.prog X.w) es vs → es.map (·.val) = vs.map (·.2)
  | _, _, .nil => rfl
  | _, _, .cons _ e h => by rw [List.map_cons, List.map_cons, zl4 h, e]
theorem zr0 (hp : Heap) : ∀ {es : List DictEntry} {vs : List (Key × Value)}, Pairs (mixKind X.prog X.w) es vs → ∃ as, ReadsAll hp (es.map (·.key)) ((vs.map (·.1)).map keyD) as
  | _, _, .nil => ⟨_, .nil⟩
  | _, _, .cons k _ h => by
    obtain ⟨as, r⟩ := zxv (show keyIs _ _ = true from k)
    obtain ⟨bs, q⟩ := zr0 hp h
    exact ⟨_, .cons (r hp) q⟩
theorem zl8 (hp : Heap) (bs : List Addr) (n : Nat) : ∀ {es : List DictEntry} {vs : List (Key × Value)}, Pairs (mixKind X.prog X.w) es vs → PyData.showableAll ((vs.map (·.1)).map keyD) = true → (∀ t ∈ PyData.shownAll ((vs.map (·.1)).map keyD), t.length ≤ sizeLine) →
    ReprAllK X.prog X.w bs hp n (es.map (·.key)) (PyData.shownAll ((vs.map (·.1)).map keyD))
  | _, _, .nil, _, _ => by simp only [List.map_nil, PyData.shownAll]; exact .nil
  | _, _, .cons (kv := kv) (kvs := kvs) k _ h, hs, hz => by
    simp only [List.map_cons, PyData.shownAll, PyData.showableAll, Bool.and_eq_true] at hs hz ⊢
    exact .cons (zu2 (show keyIs _ _ = true from k) hs.1 (hz _ (List.mem_cons_self ..)) _ _ _) (zl8 hp bs n h hs.2 fun t ht => hz t (List.mem_cons_of_mem _ ht))
theorem zfm : ∀ {ks : List Key} {ds : List PyData}, ks.length = ds.length → (dctD ks ds).map (·.1) = ks.map keyD
  | [], [], _ => rfl
  | k :: ks, d :: ds, h => by
    show keyD k :: (dctD ks ds).map (·.1) = _
    rw [zfm (Nat.succ.inj h)]; rfl
  | [], _ :: _, h => by cases h
  | _ :: _, [], h => by cases h
theorem zeq : ∀ {ks : List Key} {ds : List PyData}, ks.length = ds.length → (dctD ks ds).map (·.2) = ds
  | [], [], _ => rfl
  | k :: ks, d :: ds, h => by
    show d :: (dctD ks ds).map (·.2) = _
    rw [zeq (Nat.succ.inj h)]
  | [], _ :: _, h => by cases h
  | _ :: _, [], h => by cases h
def Shows (P : Program) (w : World) (h : Heap) (u : Value) (d : PyData) : Prop := (∃ as, Reads h u d as) ∧ (d.showable = true → d.shown.length ≤ sizeLine → ∃ bs, ReadAtMost h d.depth bs ∧ ReprK P w bs h d.depth u d.shown)
def zacn (P : Program) (w : World) (h : Heap) (us : List Value) (ds : List PyData) : Prop := (∃ as, ReadsAll h us ds as) ∧
  (PyData.showableAll ds = true → (∀ t ∈ PyData.shownAll ds, t.length ≤ sizeLine) → ∃ bs, ReadAtMost h (PyData.depthAll ds) bs ∧ ReprAllK P w bs h (PyData.depthAll ds) us (PyData.shownAll ds))
mutual
theorem Dp.shows (I : Inv X pins σ H s) : ∀ {d : PyData} {v : V}, Dp X.K H v d → ∀ {u : Value}, RelV v u → Shows X.prog X.w s.heap u d
  | _, _, .non, _, r => by
    cases r
    exact ⟨⟨_, .none⟩, fun _ _ => ⟨[], (fun _ h => nomatch h), by simp only [PyData.shown]; exact .of_is ReprIs.none _ _ _⟩⟩
  | _, _, .bl b, _, r => by
    cases r
    exact ⟨⟨_, .bool b⟩, fun _ _ => ⟨[], (fun _ h => nomatch h), by simp only [PyData.shown]; exact .of_is (ReprIs.bool b) _ _ _⟩⟩
  | _, _, .int i, _, r => by
    obtain ⟨t, rfl⟩ := r
    exact ⟨⟨_, .int i t⟩, fun q _ => ⟨[], (fun _ h => nomatch h), by simp only [PyData.shown]; exact .of_is (ReprIs.int t (by simpa [PyData.showable] using q)) _ _ _⟩⟩
  | _, _, .str x, _, r => by
    obtain ⟨t, rfl⟩ := r
    exact ⟨⟨_, .str x t⟩, fun _ z => ⟨[], (fun _ h => nomatch h), by simp only [PyData.shown]; exact .of_is (ReprIs.str x t (by simpa only [PyData.shown] using z)) _ _ _⟩⟩
  | _, _, .lst (ds := ds) hs ha, _, r => by
    cases r
    obtain ⟨its, rv, ⟨o, n, ho, hc, _, hd⟩, _⟩ := I.list hs
    obtain ⟨⟨as, hr⟩, sh⟩ := DpAll.shows I ha rv
    have rd : Reads s.heap _ (.list ds) _ := Reads.list ho hc hd hr
    refine ⟨⟨_, rd⟩, fun q z => ?_⟩
    have z2 : (listText (PyData.shownAll ds)).length ≤ sizeLine := by simpa only [PyData.shown] using z
    obtain ⟨bs, hb, hk⟩ := sh (by simpa [PyData.showable] using q) fun t ht => Nat.le_trans (listText_mem_le ht) z2
    have na := not_mem_of_deeper rd (by simp only [PyData.depth]; omega) hb
    refine ⟨_, ReadAtMost.cons rd (by simp only [PyData.depth]; omega) hb, ?_⟩
    simp only [PyData.depth, PyData.shown]
    cases its with
    | nil =>
      cases hr
      simp only [PyData.shownAll, listText_nil]
      exact ReprK.listEmpty ho hc hd
    | cons x l => exact ReprK.list ho hc hd na (by simpa using hk.length_eq) (fun i y e => hk.item i y (by simpa using e))
  | _, _, .tup (ds := ds) hs ha, _, r => by
    cases r
    obtain ⟨its, rv, ⟨o, ho, hc, n, hd⟩, _⟩ := I.tuple hs
    obtain ⟨⟨as, hr⟩, sh⟩ := DpAll.shows I ha rv
    have rd : Reads s.heap _ (.tuple ds) _ := Reads.tuple ho hc hd hr
    refine ⟨⟨_, rd⟩, fun q z => ?_⟩
    have z2 : (tupleText (PyData.shownAll ds)).length ≤ sizeLine := by simpa only [PyData.shown] using z
    obtain ⟨bs, hb, hk⟩ := sh (by simpa [PyData.showable] using q) fun t ht => Nat.le_trans (tupleText_mem_le ht) z2
    have na := not_mem_of_deeper rd (by simp only [PyData.depth]; omega) hb
    refine ⟨_, ReadAtMost.cons rd (by simp only [PyData.depth]; omega) hb, ?_⟩
    simp only [PyData.depth, PyData.shown]
    exact ReprK.tuple ho hc hd na hk
  | _, _, .dct (a := a) (ks := ks) (xs := xs) (ds := ds) hr hl hn ha, _, r => by
    cases r
    have hl2 : ks.length = ds.length := by rw [hl, zan ha]
    obtain ⟨_, hsys, vs, kv, o, es, ep, ho, ⟨hc, _, _⟩, hdat, _, hp, _⟩ := dk_rd I.hok hr
    obtain ⟨e1, rv⟩ := zo0 hl kv
    have ev := zl4 hp
    rw [← ev] at rv
    obtain ⟨⟨b2, rd2⟩, sh⟩ := DpAll.shows I ha rv
    obtain ⟨b1, rd1⟩ := zr0 s.heap hp
    rw [e1] at rd1
    have rd : Reads s.heap (.ref a) (.dict (dctD ks ds)) _ := Reads.dict ho hc hdat (by rw [zfm hl2]; exact rd1) (by rw [zeq hl2]; exact rd2)
    refine ⟨⟨_, rd⟩, fun q z => ?_⟩
    have z2 : (dictText (PyData.shownKv (dctD ks ds))).length ≤ sizeLine := by simpa only [PyData.shown] using z
    obtain ⟨s1, s2⟩ := PyData.showableKv_split _ (show PyData.showableKv (dctD ks ds) = true by simpa [PyData.showable] using q)
    obtain ⟨bs, hb, hk⟩ := sh (by rw [zeq hl2] at s2; exact s2) fun t ht => by
      obtain ⟨p, hp, hpl⟩ := PyData.shownKv_val_le (dctD ks ds) t (by rw [zeq hl2]; exact ht)
      exact Nat.le_trans hpl (Nat.le_trans (dictText_mem_le hp) z2)
    have kk := zl8 s.heap bs (PyData.depthKv (dctD ks ds)) hp (by rw [e1, ← zfm hl2]; exact s1) fun t ht => by
      rw [e1, ← zfm hl2] at ht
      obtain ⟨p, hp, hpl⟩ := PyData.shownKv_key_le (dctD ks ds) t ht
      exact Nat.le_trans hpl (Nat.le_trans (dictText_mem_le hp) z2)
    have dv : PyData.depthAll ds ≤ PyData.depthKv (dctD ks ds) := by
      have := PyData.depthAll_vals_le (dctD ks ds)
      rwa [zeq hl2] at this
    have hb2 := hb.mono dv
    have na := not_mem_of_deeper rd (by simp only [PyData.depth]; omega) hb2
    refine ⟨_, ReadAtMost.cons rd (by simp only [PyData.depth]; omega) hb2, ?_⟩
    simp only [PyData.depth, PyData.shown, PyData.shownKv_eq]
    rw [zfm hl2, zeq hl2]
    rw [e1] at kk
    exact ReprK.dict ho hc hdat hsys na (ReprEntriesK.of_two es.toList _ _ kk (hk.more_le (fun _ h => h) dv))
theorem DpAll.shows (I : Inv X pins σ H s) : ∀ {ds : List PyData} {vs : List V}, DpAll X.K H vs ds → ∀ {us : List Value}, Vals vs us → zacn X.prog X.w s.heap us ds
  | _, _, .nil, _, r => by
    cases r
    exact ⟨⟨_, .nil⟩, fun _ _ => ⟨[], (fun _ h => nomatch h), by simp only [PyData.shownAll]; exact .nil⟩⟩
  | _, _, .cons (d := d) (ds := ds) h1 h2, _, r => by
    cases r with
    | cons r1 r2 =>
      obtain ⟨⟨as, q1⟩, k1⟩ := Dp.shows I h1 r1
      obtain ⟨⟨bs, q2⟩, k2⟩ := DpAll.shows I h2 r2
      refine ⟨⟨_, .cons q1 q2⟩, fun q z => ?_⟩
      have q' : d.showable = true ∧ PyData.showableAll ds = true := by simpa [PyData.showableAll] using q
      simp only [PyData.shownAll] at z
      obtain ⟨c1, m1, w1⟩ := k1 q'.1 (z _ (List.mem_cons_self ..))
      obtain ⟨c2, m2, w2⟩ := k2 q'.2 fun t ht => z t (List.mem_cons_of_mem _ ht)
      simp only [PyData.depthAll, PyData.shownAll]
      exact ⟨c1 ++ c2, (m1.mono (Nat.le_max_left _ _)).append (m2.mono (Nat.le_max_right _ _)),
        .cons ((w1.more fun b hb => List.mem_append_left _ hb).level_le (Nat.le_max_left _ _)) (w2.more_le (fun b hb => List.mem_append_right _ hb) (Nat.le_max_right _ _))⟩
end
def zyn (K : PySem.W.Frag) : List V → Hp → VK → Prop := fun xs H Q => ∃ v d, xs = [v] ∧ Dp K H v d ∧ d.showable = true ∧ d.shown.length ≤ sizeLine ∧ d.depth ≤ 64 ∧ Q (.str d.shown) H
theorem zql (hg : X.A.guards = some []) (hu : X.A.units + 66 < cLine) : CallR X (.builtin "repr") (zyn X.K) := by
  intro pins s σ H xs us Q I r h
  obtain ⟨v, d, rfl, hd, hs, hz, hdp, q⟩ := h
  obtain ⟨u, rfl, ru⟩ := vals1 r
  have fin : ∀ (h' : Heap) (t tk : Tok), (∀ b o, s.heap.get? b = some o → h'.get? b = some o) → ∃ x t', Value.str d.shown t = .str x t' ∧ EP X pins σ Q (.str d.shown t) { s with heap := h', toks := tk } := fun h' t tk k =>
    ⟨_, _, rfl, .str d.shown, H, I.kept (t' := tk) k, ⟨_, rfl⟩, q⟩
  cases hd with
  | non =>
    cases ru
    simp only [PyData.shown] at q
    exact PySem.P.repr_of_none ⟨.str _, H, I.tok _, ⟨_, rfl⟩, q⟩
  | bl b =>
    cases ru
    simp only [PyData.shown] at q
    exact PySem.P.repr_of_bool ⟨.str _, H, I.tok _, ⟨_, rfl⟩, by cases b <;> exact q⟩
  | int i =>
    obtain ⟨t, rfl⟩ := ru
    simp only [PyData.shown] at q
    exact PySem.P.repr_of_int (by simpa [PyData.showable] using hs) ⟨.str _, H, I.tok _, ⟨_, rfl⟩, q⟩
  | str x =>
    obtain ⟨t, rfl⟩ := ru
    simp only [PyData.shown] at q hz
    exact PySem.P.repr_of_str ⟨.str _, H, I.tok _, ⟨_, rfl⟩, q⟩ hz
  | lst hs1 ha =>
    rename_i a xs ds
    cases ru
    obtain ⟨its, rv, ⟨o, n, ho, hc, _, hdt⟩, _⟩ := I.list hs1
    obtain ⟨⟨as, hr⟩, sh⟩ := DpAll.shows I ha rv
    have rd : Reads s.heap (.ref a) (.list ds) _ := Reads.list ho hc hdt hr
    have z2 : (listText (PyData.shownAll ds)).length ≤ sizeLine := by simpa only [PyData.shown] using hz
    obtain ⟨bs, hb, hk⟩ := sh (by simpa [PyData.showable] using hs) fun t ht => Nat.le_trans (listText_mem_le ht) z2
    have na := not_mem_of_deeper rd (by simp only [PyData.depth]; omega) hb
    simp only [PyData.shown] at fin
    simp only [PyData.depth] at hdp
    refine call_repr_slot (by omega) ⟨_, ho, hc⟩ F.slot_list_repr.toG ?_
    cases its with
    | nil =>
      cases hr
      simp only [PyData.shownAll, listText_nil] at fin
      exact call_list_repr_empty ⟨_, ho, hc⟩ ho hdt (fin s.heap _ _ fun _ _ e => e)
    | cons x l =>
      exact call_list_reprK ho hc hdt na (by simpa using hk.length_eq) (fun i y e => hk.item i y (by simpa using e)) (show X.A.in1.guards = some [] from hg) (fun b _ => Clear.nil b) (by show X.A.units + 1 + _ < cLine; omega) (fun _ _ e => e) (fun h' t tk k => fin h' t tk k) z2
  | tup hs1 ha =>
    rename_i a xs ds
    cases ru
    obtain ⟨its, rv, ⟨o, ho, hc, n, hdt⟩, _⟩ := I.tuple hs1
    obtain ⟨⟨as, hr⟩, sh⟩ := DpAll.shows I ha rv
    have rd : Reads s.heap (.ref a) (.tuple ds) _ := Reads.tuple ho hc hdt hr
    have z2 : (tupleText (PyData.shownAll ds)).length ≤ sizeLine := by simpa only [PyData.shown] using hz
    obtain ⟨bs, hb, hk⟩ := sh (by simpa [PyData.showable] using hs) fun t ht => Nat.le_trans (tupleText_mem_le ht) z2
    have na := not_mem_of_deeper rd (by simp only [PyData.depth]; omega) hb
    simp only [PyData.shown] at fin
    simp only [PyData.depth] at hdp
    refine call_repr_slot (by omega) ⟨_, ho, hc⟩ F.slot_tuple_repr ?_
    exact call_tuple_reprK ho hc hdt na hk (show X.A.in1.guards = some [] from hg) (fun b _ => Clear.nil b) (by show X.A.units + 1 + _ < cLine; omega) (fun _ _ e => e) (fun h' t tk k => fin h' t tk k) z2
  | dct hr1 hl hn ha =>
    rename_i a ks xs ds
    cases ru
    have sh := Dp.shows I (.dct hr1 hl hn ha) (u := .ref a) rfl
    obtain ⟨as, rd⟩ := sh.1
    have hl2 : ks.length = ds.length := by rw [hl, zan ha]
    obtain ⟨_, hsys, vs, kv, o, es, ep, ho, ⟨hc, _, _⟩, hdat, _, hp, _⟩ := dk_rd I.hok hr1
    obtain ⟨e1, rv⟩ := zo0 hl kv
    rw [← zl4 hp] at rv
    obtain ⟨_, sh2⟩ := DpAll.shows I ha rv
    have z2 : (dictText (PyData.shownKv (dctD ks ds))).length ≤ sizeLine := by simpa only [PyData.shown] using hz
    obtain ⟨s1, s2⟩ := PyData.showableKv_split _ (show PyData.showableKv (dctD ks ds) = true by simpa [PyData.showable] using hs)
    obtain ⟨bs, hb, hk⟩ := sh2 (by rw [zeq hl2] at s2; exact s2) fun t ht => by
      obtain ⟨p, hp, hpl⟩ := PyData.shownKv_val_le (dctD ks ds) t (by rw [zeq hl2]; exact ht)
      exact Nat.le_trans hpl (Nat.le_trans (dictText_mem_le hp) z2)
    have kk := zl8 s.heap bs (PyData.depthKv (dctD ks ds)) hp (by rw [e1, ← zfm hl2]; exact s1) fun t ht => by
      rw [e1, ← zfm hl2] at ht
      obtain ⟨p, hp, hpl⟩ := PyData.shownKv_key_le (dctD ks ds) t ht
      exact Nat.le_trans hpl (Nat.le_trans (dictText_mem_le hp) z2)
    have dv : PyData.depthAll ds ≤ PyData.depthKv (dctD ks ds) := by
      have := PyData.depthAll_vals_le (dctD ks ds)
      rwa [zeq hl2] at this
    have na := not_mem_of_deeper rd (by simp only [PyData.depth]; omega) (hb.mono dv)
    rw [e1] at kk
    have hE := ReprEntriesK.of_two es.toList _ _ kk (hk.more_le (fun _ h => h) dv)
    have et : PyData.shownKv (dctD ks ds) = List.zipWith (fun k v : Str => k ++ ": " ++ v) (PyData.shownAll (ks.map keyD)) (PyData.shownAll ds) := by rw [PyData.shownKv_eq, zfm hl2, zeq hl2]
    simp only [PyData.shown] at fin
    simp only [PyData.depth] at hdp
    rw [et] at fin z2
    refine call_repr_slot (by omega) ⟨_, ho, hc⟩ F.slot_dict_repr ?_
    exact call_dict_reprK ho hc hdat hsys na hE (show X.A.in1.guards = some [] from hg) (fun b _ => Clear.nil b) (by show X.A.units + 1 + _ < cLine; omega) (fun _ _ e => e) (fun h' t tk k => fin h' t tk k) z2
end
end Cs
namespace Cs
open PySem PySem.Spec L2 PyProof.Rows
section
variable {P : Program} {w : World} {K : PySem.W.Frag} {mg mb : Str → Option Value} {base : Heap} {CX : CXT} {j k : Nat} {f fa a : Addr} {fd : FuncData} {N ps : List Str} {sp : Sp} {x qual : Str} {st : Stmt}
structure FnG (P : Program) (w : World) (K : PySem.W.Frag) (mg : Str → Option Value) (base : Heap) (CX : CXT) (k : Nat) (f : Addr) (fd : FuncData) (ps : List Str) (sp : Sp) : Prop where
  many : ∀ vs H Q E, sp vs H Q E → vs.length = ps.length
  goes : ∀ (A : Around) (out : List Env) (s : Shared) (H : Hp) (ar : Args) (us : List Value) (vs : List V) (Q : VK) (E : XK), A.guards = some [] → Room k A → Env0 P w K mg base A out s H → BindsTo s fd ar (ps.zip us) → Vals vs us → sp vs H Q E →
    codeAny (model P w) A (.call (.ref f) ar) (CR CX out P w H s Q E) s
theorem FnOk.g (F : FnOk P w K mg base CX k f fd ps sp) : FnG P w K mg base CX k f fd ps sp := ⟨F.len, fun A out s H ar us vs Q E _ => F.run A out s H ar us vs Q E⟩
theorem Fun.okG (F : Fun K x qual st f fd) (S : FnScope N ps (defScope st)) (many : ∀ vs H Q E, sp vs H Q E → vs.length = ps.length)
    (inner : ∀ (cdv : Value) (A : Around) (out : List Env) (s : Shared) (H : Hp) (vs : List V) (Q : VK) (E : XK), A.guards = some [] → Room k (A.deeper (envOfC qual (defScope st) s.heap.objs.size f cdv)) → sp vs H Q E →
      ∃ t, PSs (cxOf CX0 P w K mg base N qual (defScope st) f cdv A out s H E).nox (defBody st) t ∧ t { nx := fun _ H' => Q .non H', rt := Q } (start N vs) H) : FnG P w K mg base CX0 (k + 1) f fd ps sp := by
  obtain ⟨oc, od, kV, doc, pm, an, cdv, ct, osl, e, lk, hcd⟩ := F.ex
  subst e
  refine ⟨many, fun A out s H ar us vs Q E hg room e0 hb r hsp => ?_⟩
  have old : ∀ b o, base.get? b = some o → s.heap.get? b = some o := fun b o z => (e0.bs b o z).1
  have inK : K.In s.heap := e0.mod.kin.keeps old
  have kinds : ∀ y ∈ ps.zip us, (defScope st).names.lookup y.1 = some .local ∨ ((defScope st).names.lookup y.1 = some .cell ∧ ((cellsFrom (s.heap.objs.size + 1) (defScope st).names []).lookup y.1).isSome = true) := by
    rintro ⟨n, v⟩ hy
    exact (S.par n (List.of_mem_zip hy).1).imp id fun q => ⟨q, PySem.W.cellsFrom_some _ _ _ (.inl q)⟩
  refine codeAny_call_function room.depth (inK _ _ lk) rfl S.co S.gen rfl (PySem.W.codeRec_of inK hcd) (hb _ _ _ _ (wpAny_newFunctionEnv_cells S.kind kinds fun env he s1 x => ?_))
  subst he
  refine ⟨(e0.mod.nolimit.keeps old).keeps x.toInCall.keep, codeAny_func ?_⟩
  obtain ⟨t, ht, hq⟩ := inner cdv A out s H vs Q E hg (room.deeper _) hsp
  have I0 := inv_start (CX := CX0) S room.hd e0 (many _ _ _ _ hsp) r x (E := E)
  refine wpAny_mono (ht.nox.run [] s1 (start N vs) H _ I0 hq) (fun fl s' hs => ?_) fun e s' hs => hs
  cases fl with
  | ret u =>
    obtain ⟨v, σ', H', J, rv, q⟩ := hs
    exact ⟨v, H', J.os, J.bare, J.base, J.hok, rv, q⟩
  | next =>
    obtain ⟨σ', H', J, q⟩ := hs
    exact ⟨V.non, H', J.os, J.bare, J.base, J.hok, rfl, q⟩
  | brk => exact hs.choose_spec.choose_spec.2.elim
  | cont => exact hs.choose_spec.choose_spec.2.elim
end
section
variable {X : Cx} {CX : CXT} {k : Nat} {f : Addr} {fd : FuncData} {ps : List Str} {ds : List Value} {dvs : List V} {sp : Sp} {E : XK} {x : Str} {e : Expr} {es : List Expr} {t : TA} {p pos : Pos}
theorem pe_callG (hgd : X.A.guards = some []) (F : FnG X.prog X.w X.K X.mg X.base CX k f fd ps sp) (hr : Room k X.A) (hg : Gl X x) (hm : X.mg x = some (.ref f)) (hk : PySem.W.keepIn X.K (.ref f) = true) (hb : Binds X.K fd ps ds) (hd : Vals dvs ds) (hx : Passes CX X E)
    (ha : PA X (e :: es) t) (hdb : (x == ("__debug__" : Str)) = false := by decide) (he : starEach (e :: es) X.env = (false, eval e X.env) :: starEach es X.env := by rfl) (hpl : (backTo pos (starEach es X.env)).any (·.1) = false := by rfl) :
    PE X (.Call (.Name x p) (e :: es) [] pos) (tCall sp dvs E t) := by
  refine ⟨fun pins s σ H Q I h => wpAny_Call_Name_kw (ld_glob I hg hm ?_ hdb)⟩
  refine PySem.W.callWith_K (h₀ := X.base) I.ok.mod.kin hk (thn (ha.run pos pins s σ H _ I h) fun us s1 ⟨vs, H1, I1, r, q⟩ => ⟨I1.kIn, ?_⟩) he hpl
  have both : Vals (vs ++ dvs) (us ++ ds) := r.append hd
  have hl : (us ++ ds).length = ps.length := both.length.symm.trans (F.many _ _ _ _ q)
  refine wpAny_call (codeAny_mono (F.goes X.A X.stack s1 H1 ⟨us, []⟩ _ _ Q E hgd hr I1.env0 (hb s1 us I1.kIn hl) both q) fun r s' hq => ?_)
  cases r with
  | error err => exact hx pins σ H1 s1 err s' I1 hq
  | ok fl => cases fl with
    | ret u => exact I1.after hq
    | next => exact hq.elim
    | brk => exact hq.elim
    | cont => exact hq.elim
end
section
variable {P : Program} {w : World} {K : PySem.W.Frag} {mg mb : Str → Option Value} {CX : CXT} {k : Nat} {fa a : Addr} {fd : FuncData} {x : Str} {sp : Sp} {s₁ : Shared} {vs : List Value} {ns : List Int}
abbrev zz0 (s₁ : Shared) : Result → Shared → Prop := fun r s' => r = .ok (.ret (.bool true)) ∧ OldK s₁.heap s'.heap ∧ s'.os = s₁.os ∧ AllBare s'.gens
end
end Cs
namespace Cs
open PySem PySem.Spec L2 PyProof.Rows
def XO (cls : Value) (d : Option Addr) (a : Addr) : HO := .ext fun h => ∃ (oe : Obj) (vs : Array Value), h.get? a = some oe ∧ Zc cls d oe ∧ oe.data = .fields vs
theorem xo_ok {P : Program} {w : World} {H : Hp} {h : Heap} {a : Addr} {cls : Value} {d : Option Addr} {oe : Obj} {vs : Array Value} (e : h.get? a = some oe) (z : Zc cls d oe) (q : oe.data = .fields vs) : ObjOk P w H h a (XO cls d a) :=
  ⟨⟨oe, vs, e, z, q⟩, ⟨oe, e⟩, fun _ _ ⟨o, v, e', r⟩ k => ⟨o, v, k o e', r⟩⟩
theorem xo_at {P : Program} {w : World} {H : Hp} {h : Heap} {a : Addr} {cls : Value} {d : Option Addr} (hok : HOk P w H h) (e : H a = some (XO cls d a)) : ∃ (oe : Obj) (vs : Array Value), h.get? a = some oe ∧ Zc cls d oe ∧ oe.data = .fields vs :=
  (show ObjOk P w H h a (.ext fun h => ∃ (oe : Obj) (vs : Array Value), h.get? a = some oe ∧ Zc cls d oe ∧ oe.data = .fields vs) from hok a _ e).1
section
variable {X : Cx} {pins : List (Addr × Obj)} {σ σ0 : L2.St} {H H0 : Hp} {s s0 : Shared} {a : Addr} {cls : Value} {d : Option Addr} {oe : Obj} {vs : Array Value}
theorem zaej (I0 : Inv X pins σ0 H0 s0) (new : s0.heap.get? a = none) (I : Inv X pins σ H s) (he : s.heap.get? a = some oe) (hz : Zc cls d oe) (hd : oe.data = .fields vs) (hn : H a = none) (nL : a ≠ X.env.locals) : Inv X pins σ (upd H a (XO cls d a)) s := by
  have isOld : ∀ {b : Addr} {o : Obj}, s0.heap.get? b = some o → b ≠ a := fun q z => by rw [z, new] at q; cases q
  have notA : ∀ {b : Addr} {o : HO}, H b = some o → b ≠ a := fun q z => by rw [z, hn] at q; cases q
  have B := I.base
  refine ⟨I.ok, I.os, I.bare, ⟨B.keep, B.slot, fun b o e n hx => ?_, B.there, fun b xs e => ?_, fun b o u e => ?_, fun b ps e => ?_⟩, I.loc, I.cell, ?_, fun x c e => ?_, fun p hp => ?_, fun b u e => ?_, I.len⟩
  · obtain ⟨o', q⟩ := I0.base.there b o e hx
    rw [upd_ne (isOld q)]
    exact B.free b o e n hx
  · have q := B.tups b xs e
    rw [upd_ne (notA q)]; exact q
  · have q := B.frzs b o u e
    rw [upd_ne (notA q)]; exact q
  · obtain ⟨m, q⟩ := B.tbls b ps e
    exact ⟨m, by rw [upd_ne (notA q)]; exact q⟩
  · rw [upd_ne (Ne.symm nL)]; exact I.free
  · obtain ⟨v, o, q, _⟩ := I0.cell x c e
    rw [upd_ne (isOld q)]; exact I.freeC x c e
  · obtain ⟨q, n, r⟩ := I.pin p hp
    refine ⟨q, ?_, r⟩
    rw [upd_ne (isOld (I0.pin p hp).1)]; exact n
  · by_cases c : b = a
    · subst c
      rw [upd_same] at e
      cases e
      exact xo_ok he hz hd
    · rw [upd_ne c] at e
      exact (I.hok b u e).stay (fun _ _ _ q => q) (fun c q => by rw [upd_ne (notA q)]; exact q) fun c xs q => by rw [upd_ne (notA q)]; exact q
end
def wKeep (K : PySem.W.Frag) (c : Value) (i : Nat) (ts : Addr → Value → Option Addr → TS) (Wout : WX) (D : Ends) : WX := fun cls d σ H =>
  ∃ b, PySem.W.exmOne K cls c = some b ∧ (b = true → ∀ a, H a = none → ts a cls d { nx := fun σ' H' => H' a = none → D.nx (σ'.set i none) (upd H' a (XO cls d a)), rt := D.rt, bk := fun σ' H' => D.bk (σ'.set i none) H', ct := fun σ' H' => D.ct (σ'.set i none) H' } (σ.set i (some (.ref a))) H) ∧
    (b = false → Wout cls d σ H)
section
variable {X : Cx} {x n : Str} {c : Value} {i : Nat} {body suite : List Stmt} {b₀ : Stmt} {np pos pos' : Pos} {tb : WX → TS} {ts : Addr → Value → Option Addr → TS} {Wout : WX}
theorem zuy (hs : X.stack = X.env :: X.outer) (hf : X.env.frame = some X.env.locals) (hN : X.N.Nodup) (hi : X.N[i]? = some n) (hln : X.env.kindOf n = some .local) (hc : Names X x c) (tk : Takes X Wout)
    (hb : ∀ (W : WX) (pn : List (Addr × Obj)) (xe : Value → Shared → Prop), Takes (X.tr pn xe) W → PassesOwn (model X.prog X.w) X.A X.env xe → PSs (X.tr pn xe) body (tb W))
    (hsu : ∀ (a : Addr) (oe : Obj) (cls : Value) (d : Option Addr) (pn : List (Addr × Obj)), Zc cls d oe → (∃ vs, oe.data = .fields vs) → PSs (X.suite a ((a, oe) :: pn)) (b₀ :: suite) (ts a cls d)) :
    PS X (.Try body [.ExceptHandler (some (.Name x np)) (some n) (b₀ :: suite) pos'] [] [] pos) (fun D σ H => tb (wKeep X.K c i ts Wout D) D σ H) := by
  refine ⟨fun pins s σ H D I h => wpAny_Try_except ?_⟩
  have ok := I.ok
  have fr2 : X.A.frames = some (X.env :: X.outer) := by rw [ok.frames, hs]
  let xe1 : Value → Shared → Prop := fun e t1 => wpAny (model X.prog X.w) X.A (noteFrame e X.env) (fun _ t2 => wpAny (model X.prog X.w) X.A (setFlight e none) (fun _ t3 => wpAny (model X.prog X.w) X.A
    (handleBy e X.env [.ExceptHandler (some (.Name x np)) (some n) (b₀ :: suite) pos']) (SP X pins D) X.xe t3) X.xe t2) X.xe t1
  have land : Takes (X.tr (X.pn ++ pins) xe1) (wKeep X.K c i ts Wout D) := by
    rintro u s' ⟨a, B, sI, pins', σ', H', cls, d, rfl, J0, nb, up, sky, na, os, ag, b, hb1, hyes, hno⟩
    show wpAny (model X.prog X.w) X.A (noteFrame (.ref a) X.env) _ _ _
    have J : Inv X pins σ' H' sI := J0.ofTry ok
    refine Sky.land (E₁ := X.xe) Zc.steady fr2 hf (by rw [← hs]; exact sky) fun h3 fl3 up3 => ?_
    have J3 : Inv X pins σ' H' { s' with heap := h3 } := J.landed nb fl3.1 (up.trans up3) os ag
    obtain ⟨oe3, vs3, he3, hz3, hd3⟩ := fl3.there
    have offFr : a ∉ frs (X.env :: X.outer) := fun hm => by
      obtain ⟨_, o', e', hnf⟩ := fl3.2.2.1.mem hm
      rw [he3] at e'
      cases e'
      exact hnf _ hd3
    have nL : a ≠ X.env.locals := fun z => offFr (List.mem_filterMap.mpr ⟨X.env, List.mem_cons_self, by rw [hf, z]⟩)
    have nF : a ∉ X.fs := fun hm => by
      obtain ⟨e, he, q⟩ := List.mem_filterMap.mp hm
      exact offFr (List.mem_filterMap.mpr ⟨e, List.mem_cons_of_mem _ he, q⟩)
    have newA : sI.heap.get? a = none := by
      cases q : sI.heap.get? a with
      | none => rfl
      | some o =>
        have y := nb a o q (by rw [hs]; exact offFr)
        rw [fl3.2.1] at y
        cases y
    have S3 := J3.suite he3 hd3 na nL nF
    refine wpAny_handleBy_cons (codeAny_handlers_test ?_) (fun q => nomatch q)
    have tyE : PySem.W.Looks (model X.prog X.w) h3 (typeOf (.ref a)) cls := fun A Q E s k q => wpAny_typeOf_ref (k _ _ he3) (by rw [hz3.1]; exact q)
    have hits := PySem.W.exm_one (M := model X.prog X.w) J3.kIn tyE hb1
    have named : ∀ {Q : Value → Shared → Prop} {E : Value → Shared → Prop}, Q c { s' with heap := h3 } → wpAny (model X.prog X.w) (X.A.mark (some (.ref a))) (eval (.Name x np) X.env) Q E { s' with heap := h3 } := by
      intro Q E q
      rcases hc with ⟨hg, hdbg, hm | ⟨hm, hv, hnn⟩⟩
      · exact ld_glob (X := X.suite a ((a, oe3) :: (X.pn ++ pins))) S3 hg hm q hdbg
      · exact ld_blt (X := X.suite a ((a, oe3) :: (X.pn ++ pins))) S3 hg hm hv q hnn hdbg
    refine named (hits.here ?_)
    cases b with
    | false =>
      refine wpAny_handleBy_nil (env := X.env) (A := X.A) (e := .ref a) ?_
      obtain ⟨_, _, _, oe, vs, T, oT, ts', he, hz, hd, h1, hr⟩ := id fl3
      have out : wpAny (model X.prog X.w) X.A (setFlight (.ref a) X.env.frame) (fun _ s4 => wpAny (model X.prog X.w) X.A (throw (.ref a) : Sem Flow) (SP X pins D) X.xe s4) X.xe { s' with heap := h3 } := by
        rw [hf]
        refine HandSPX.setFlight_upZ fl3 fun h4 hh4 up4 => wpAny_throw (tk _ _ ⟨a, B, sI, pins, σ', H', cls, d, rfl, J, nb, (up.trans up3).trans up4, .inr (.inr (by rw [hs]; exact hh4)), na, os, ag, hno rfl⟩)
      unfold PySem.passOn
      refine wpAny_bind (wpAny_field he hd h1 ?_)
      rw [if_neg (by simp : ¬ ((Value.ref T == Value.none) = true))]
      first
        | exact wpAny_bind (wpAny_pure (wpAny_bind out))
        | exact wpAny_bind out
    | true =>
      refine codeAny_handlers_suite_as (HandSPX.lands_againZ fl3 fun h4 fl4 up4 => ?_)
      have J4 : Inv X pins σ' H' { s' with heap := h4 } := J.landed nb fl4.1 ((up.trans up3).trans up4) os ag
      obtain ⟨oe4, vs4, he4, hz4, hd4⟩ := fl4.there
      refine store_ok (X := X.suite a ((a, oe4) :: (X.pn ++ pins))) (v := .ref a) (J4.suite he4 hd4 na nL nF) hN hi (.inl hln) rfl (fun s5 S5 => ?_) (.inr hln)
      refine wpAny_mono ((hsu a oe4 cls d (X.pn ++ pins) hz4 ⟨_, hd4⟩).run [] s5 _ H' _ S5 (hyes rfl a na)) (fun f s6 hsp => ?_) (fun _ _ z => z.elim)
      cases f with
      | next =>
        obtain ⟨σ6, H6, S6, q6⟩ := hsp
        obtain ⟨e6, n6, _, _, _⟩ := S6.pin (a, oe4) (List.mem_append_left _ List.mem_cons_self)
        have T6 := zaej J newA (S6.unsuite ok) e6 hz4 hd4 n6 nL
        exact gone_ok T6 hN hi hln fun s7 J7 => ⟨_, _, J7, q6 n6⟩
      | brk =>
        obtain ⟨σ6, H6, S6, q6⟩ := hsp
        exact gone_ok (S6.unsuite ok) hN hi hln fun s7 J7 => ⟨_, _, J7, q6⟩
      | cont =>
        obtain ⟨σ6, H6, S6, q6⟩ := hsp
        exact gone_ok (S6.unsuite ok) hN hi hln fun s7 J7 => ⟨_, _, J7, q6⟩
      | ret u =>
        obtain ⟨v6, σ6, H6, S6, r6, q6⟩ := hsp
        exact gone_ok (S6.unsuite ok) hN hi hln fun s7 J7 => ⟨_, _, _, J7, r6, q6⟩
  refine wpAny_mono ((hb (wKeep X.K c i ts Wout D) (X.pn ++ pins) xe1 land PassesOwn.looking).run [] s σ H D (I.toTry _) h) (fun f s1 hsp => ?_) (fun e s1 he => he)
  cases f with
  | next =>
    obtain ⟨σ', H', J', q⟩ := hsp
    exact wpAny_execs_nil ⟨σ', H', J'.ofTry ok, q⟩
  | brk => exact ⟨_, _, hsp.choose_spec.choose_spec.1.ofTry ok, hsp.choose_spec.choose_spec.2⟩
  | cont => exact ⟨_, _, hsp.choose_spec.choose_spec.1.ofTry ok, hsp.choose_spec.choose_spec.2⟩
  | ret u =>
    obtain ⟨v, σ', H', J', r, q⟩ := hsp
    exact ⟨v, σ', H', J'.ofTry ok, r, q⟩
end
end Cs
namespace Cs
open PySem PySem.Spec L2 PyProof.Rows
theorem zu1 {v : Value} {o : Obj} {H : Heap → Prop} (B : Begins v o H) :
    Meets (Builtin.«enumerate.__new__» ⟨[.type "enumerate", v], []⟩) (fun _ R s => H s.heap ∧
      R (.ok (.ret (.ref (s.heap.push o).objs.size))) { s with heap := (s.heap.push o).push { cls := .type "enumerate", data := .fields #[.none, .bool false, .ref s.heap.objs.size, rawInt 0, .none, .none] } }) :=
  .of_wp fun prog w A R s h => by
    obtain ⟨hp, g, d, tk, os⟩ := s
    obtain ⟨h1, h⟩ := h
    have isub := sub_enumerate
    have it1 : ∀ {A' : Around} {E : Value → Shared → Prop} {Q : Value → Shared → Prop}, Q (.ref hp.objs.size) ⟨hp.push o, g, d, tk, os⟩ → wpAny (model prog w) A' (pyIter v) Q E ⟨hp, g, d, tk, os⟩ := fun q => B.iter prog w _ _ ⟨hp, g, d, tk, os⟩ _ h1 q
    wp_walk
    refine wpAny_stack_any fun st => wpAny_pure ?_
    split
    · rename_i c _ _ _ _ _
      cases (c == Value.type "enumerate") <;>
      · wp_walk using it1
        exact ⟨_, rfl, h⟩
    · wp_walk using it1
      exact ⟨_, rfl, h⟩
section
variable {prog : Program} {w : World} {A : Around} {E : Value → Shared → Prop} {s : Shared}
theorem zud {v : Value} {o : Obj} {H : Heap → Prop} {Q : Value → Shared → Prop} (B : Begins v o H) (h1 : H s.heap)
    (h : ∀ h', IsEnum h' (s.heap.objs.size + 1) s.heap.objs.size 0 .none → h'.get? s.heap.objs.size = some o → h'.objs.size = s.heap.objs.size + 2 → (∀ b u, s.heap.get? b = some u → h'.get? b = some u) → Q (.ref (s.heap.objs.size + 1)) { s with heap := h' }) :
    wpAny (model prog w) A (call (.type "enumerate") [v]) Q E s := by
  have sz : (s.heap.push o).objs.size = s.heap.objs.size + 1 := Heap.size_push ..
  refine callType_new F.called_enumerate (by decide) (F.typeCall_enumerate_1 _) (F.newCall_enumerate_1 _) (fun obj => F.args_object_init_2 obj _) F.entry_enumerate_new (zu1 B) ⟨h1, ?_⟩
  have en : IsEnum ((s.heap.push o).push { cls := .type "enumerate", data := .fields #[.none, .bool false, .ref s.heap.objs.size, rawInt 0, .none, .none] }) (s.heap.objs.size + 1) s.heap.objs.size 0 .none := by
    have q := Heap.get?_push_size (s.heap.push o) (o := { cls := .type "enumerate", data := .fields #[.none, .bool false, .ref s.heap.objs.size, rawInt 0, .none, .none] }) rfl
    rwa [sz] at q
  show _ ∧ _
  rw [sz]
  exact ⟨⟨_, en, rfl⟩, h _ en (Heap.get?_push_of_some _ (Heap.get?_push_size _ B.free)) (by rw [Heap.size_push, sz]) fun b u x => Heap.get?_push_of_some _ (Heap.get?_push_of_some _ x)⟩
end
def IteT (K : PySem.W.Frag) (a : Addr) : It :=
  ⟨fun i H => ∃ (xs : List V) (x : V), SqT K H a xs ∧ xs[i]? = some x, fun i H v H' => ∃ T x, v = .ref T ∧ H T = none ∧ H' = upd H T (.tup [.int (i : Nat), x]) ∧ ∀ xs, SqT K H a xs → xs[i]? = some x, fun i H => ∃ xs : List V, SqT K H a xs ∧ xs.length = i⟩
theorem zxh {P : Program} {w : World} {K : PySem.W.Frag} {elts : List Expr} {kk : Nat} {tpos : Pos} (a e it : Addr) :
    Turn P w K (.Tuple elts kk tpos) (IteT K a) [e, it] e (fun i h => (∃ old, IsEnum h e it ((i : Nat) : Int) old) ∧ h.IsTupleIter it a i ∧ e ≠ it ∧ a ≠ e ∧ a ≠ it) where
  mem := List.mem_cons_self
  obj := fun i h st b hb => by
    obtain ⟨⟨old, he⟩, ⟨o, ho, hc, hd⟩, _⟩ := st
    rcases List.mem_cons.mp hb with z | z
    · rw [z]; exact ⟨_, he, fun v q => nomatch q⟩
    · rw [List.mem_singleton.mp z]; exact ⟨o, ho, fun v q => by rw [hd] at q; cases q⟩
  keep := fun i h h' st k => by
    obtain ⟨⟨old, he⟩, hi, hne⟩ := st
    exact ⟨⟨old, k e List.mem_cons_self _ he⟩, hi.at fun o q => k it (List.mem_cons_of_mem _ List.mem_cons_self) o q, hne⟩
  item := by
    intro X hP hw hK hc i pins s σ H E I hf st hg
    subst hP hw hK
    obtain ⟨⟨old, he⟩, hit, hne, ha1, ha2⟩ := st
    obtain ⟨xs, x, hq, hx⟩ := hg
    obtain ⟨its, rv, p, hz⟩ := I.tuple hq
    obtain ⟨u, hu, ru⟩ := rv.get hx
    have el : e < s.heap.objs.size := Heap.lt_size he
    have il : it < s.heap.objs.size := by obtain ⟨_, q, _⟩ := hit; exact Heap.lt_size q
    have quiet : X.A.in1.handled = none := I.ok.hd hc
    have isT : s.heap.IsTuple a its.toArray := p
    have lt : i < its.toArray.size := by
      have h0 := (List.getElem?_eq_some_iff.mp hu).1
      simpa using h0
    have offE : e ∉ [it, a] := fun q => by
      rcases List.mem_cons.mp q with z | z
      · exact hne z
      · exact ha1 (List.mem_singleton.mp z).symm
    refine wpAny_pyNext_enum_itemD (Draws.tuple quiet it a ha2 its.toArray) he ⟨hit, isT⟩ lt hne offE fun y h' tk py ho hit' hT hsz hk => ?_
    have ey : y = u := by
      have q : its.toArray[i]? = some u := by simpa using hu
      rw [q] at py
      exact (Option.some.inj py).symm
    subst ey
    refine ⟨_, rfl, wpAny_letOwnedTupleGo_enum (s := { s with heap := h', toks := tk + 1 }) ho fun h'' he' sb => ?_⟩
    have hT2 : h''.get? s.heap.objs.size = some { cls := .type "tuple", data := .seq #[.int i tk, y] } := (sb.2 _ (Nat.ne_of_gt el)).trans hT
    have new : ObjOk X.prog X.w (upd H s.heap.objs.size (.tup [.int (i : Nat), x])) h'' s.heap.objs.size (.tup [.int (i : Nat), x]) := ⟨by show 2 ≤ sizeLine; decide, [.int i tk, y], .cons ⟨_, rfl⟩ (.cons ru .nil), ⟨_, hT2, rfl, _, rfl⟩⟩
    have I1 := I.turnedNew (t' := tk + 1) (ch := [e, it]) (fun b ob hb q => (sb.2 b (fun z => hb (by rw [z]; exact List.mem_cons_self))).trans (hk b ob (fun z => hb (by rw [z]; exact List.mem_cons_self)) (fun z => hb (by rw [z]; exact List.mem_cons_of_mem _ List.mem_cons_self)) q)) hf (Nat.le_refl _) new
    refine ⟨.ref s.heap.objs.size, _, I1, rfl, ⟨_, x, rfl, I.hok.fresh (Nat.le_refl _), rfl, fun ys hy => by rw [I.tuple_inj hy hq]; exact hx⟩, ⟨⟨y, ?_⟩, hit'.1.at fun o q => (sb.2 it (Ne.symm hne)).trans q, hne, ha1, ha2⟩, fun b hb => ?_⟩
    · rw [show ((i + 1 : Nat) : Int) = (i : Int) + 1 by omega]; exact he'
    · have lt2 : b < s.heap.objs.size := by
        rcases List.mem_cons.mp hb with z | z
        · rw [z]; exact el
        · rw [List.mem_singleton.mp z]; exact il
      rw [upd_ne (Nat.ne_of_lt lt2)]
      exact (hf b hb).1
  done := by
    intro X hP hw hK hc i pins s σ H E I hf st hg
    subst hP hw hK
    obtain ⟨⟨old, he⟩, hit, hne, ha1, ha2⟩ := st
    obtain ⟨xs, hq, hx⟩ := hg
    obtain ⟨its, rv, p, hz⟩ := I.tuple hq
    obtain ⟨f0, f1, f2, f3, f4, f5⟩ := hf it (List.mem_cons_of_mem _ List.mem_cons_self)
    have quiet : X.A.in1.handled = none := I.ok.hd hc
    have en : its.toArray.size = i := by rw [List.size_toArray, ← rv.length, hx]
    have D := Draws.tuple (prog := X.prog) (w := X.w) quiet it a ha2 its.toArray
    rw [en] at D
    exact wpAny_pyNext_enum_endD D he ⟨hit, p⟩ fun h' eb => ⟨rfl, I.turned (t' := s.toks) (fun b o hb q => eb b o hb q) f0 f1 f3 f4 f5⟩
  self := fun A i s Q E st h => let ⟨⟨_, he⟩, _⟩ := st; wpAny_pyIter_enum he h
def zz4 (K : PySem.W.Frag) (ta : TA) : TI := fun σ H R => ta σ H fun vs H1 => ∃ a xs, vs = [.ref a] ∧ SqT K H1 a xs ∧ R (IteT K a) H1
theorem zabm {X : Cx} {e : Expr} {ta : TA} {p pos tpos : Pos} {elts : List Expr} {kk : Nat} (hg : Gl X "enumerate") (hm : X.mg "enumerate" = none) (ha : PA X [e] ta) (hs : starEach [e] X.env = [(false, eval e X.env)] := by rfl) :
    PI X (.Tuple elts kk tpos) (.Call (.Name "enumerate" p) [e] [] pos) (zz4 X.K ta) := by
  refine ⟨fun pins s σ H R I h => Call_ (ld_blt I hg hm boot_enumerate (callWith_type1 (thn (ha.run pos pins s σ H _ I h) fun us s1 ⟨vs, H1, I1, r1, q1⟩ => ?_) hs rfl))⟩
  obtain ⟨a, xs, ex, hq, q⟩ := q1
  subst ex
  obtain ⟨u, rfl, ru⟩ := vals1 r1
  cases ru
  obtain ⟨its, rv, p', hz⟩ := I1.tuple hq
  refine zud (begins_tuple a its.toArray) p' fun h' en hit hsz hk => wpAny_pyIter_enum en ?_
  have I2 : Inv X pins σ H1 { s1 with heap := h' } := I1.kept (t' := s1.toks) hk
  have la : a < s1.heap.objs.size := by obtain ⟨o, q, _⟩ := p'; exact Heap.lt_size q
  refine ⟨s1.heap.objs.size + 1, [s1.heap.objs.size + 1, s1.heap.objs.size], _, _, H1, rfl, I2, zxh a (s1.heap.objs.size + 1) s1.heap.objs.size, ⟨⟨.none, en⟩, ⟨_, hit, rfl, rfl⟩, Nat.succ_ne_self _, Nat.ne_of_lt (Nat.lt_succ_of_lt la), Nat.ne_of_lt la⟩, fun c hc => ?_, q⟩
  have hle : s1.heap.objs.size ≤ c := by
    rcases List.mem_cons.mp hc with z | z
    · rw [z]; exact Nat.le_succ _
    · rw [List.mem_singleton.mp z]; exact Nat.le_refl _
  exact I1.fpOk hle (I1.hok.fresh hle)
def zz5 (K : PySem.W.Frag) (ta : TA) : TI := fun σ H R => iEnum K ta σ H R ∨ zz4 K ta σ H R
theorem zos {X : Cx} {e : Expr} {ta : TA} {p pos tpos : Pos} {elts : List Expr} {kk : Nat} (hg : Gl X "enumerate") (hm : X.mg "enumerate" = none) (ha : PA X [e] ta) (hs : starEach [e] X.env = [(false, eval e X.env)] := by rfl) :
    PI X (.Tuple elts kk tpos) (.Call (.Name "enumerate" p) [e] [] pos) (zz5 X.K ta) := pi_or (pi_enum hg hm ha hs) (zabm hg hm ha hs)
end Cs
namespace Cs
open PySem PySem.Spec L2 PyProof.Rows
section
variable {X : Cx}
def zru (K : PySem.W.Frag) : List V → Hp → VK → Prop := fun xs H Q => ∃ (a : Addr) (ss : List Str), xs = [.ref a] ∧ SqT K H a (ss.map V.str) ∧ ss.length < 64 ∧ ∀ ys p, ys.Perm ss → sortedS ys = true → H p = none → Q (.ref p) (upd H p (.lst (ys.map V.str)))
theorem zu3 : CallR X (.builtin "sorted") (zru X.K) := by
  intro pins s σ H xs us Q I r h
  obtain ⟨a, ss, rfl, hs, h64, q⟩ := h
  obtain ⟨u, rfl, ru⟩ := vals1 r
  cases ru
  obtain ⟨its, rv, ⟨o, ho, hc, n, hd⟩, _⟩ := I.tuple hs
  have l1 : ss.length = its.length := by have := rv.length; rwa [List.length_map] at this
  have hS := rv.strs
  have l64 : its.length < 64 := by rw [← l1]; exact h64
  refine Calls.call_function_entry PyProof.Rows.kind_sorted PyProof.Rows.plain_sorted PyProof.Rows.entry_sorted (PyProof.Rows.args_sorted1 _) ?_
  unfold Builtin.«sorted»
  refine wpAny_bind (m := checkCount "sorted" 1 1 _) (wpAny_pure (wpAny_bind (wpAny_collect_seq a (.inr rfl) ho hc hd (fun h' hk => ?_) (by rw [List.size_toArray, sizeLine_eq]; omega))))
  have J : Inv X pins σ H { s with heap := h' } := I.kept (t' := s.toks) hk
  rw [show its.toArray.toList = its from rfl]
  refine wpAny_bind (wpAny_newList ?_ (by rw [sizeLine_eq]; omega))
  have hoL : (h'.push (seqObj "list" its.toArray 0)).get? h'.objs.size = some (seqObj "list" its.toArray 0) := Heap.get?_push_size _ rfl
  show wpAny _ _ _ _ _ { s with heap := h'.push (seqObj "list" its.toArray 0) }
  refine wpAny_bind (wpAny_holding (wpAny_call_entry PyProof.Rows.slot_list_sort ⟨_, hoL, rfl⟩ PyProof.Rows.entry_list_sort
    (list_sort_treeK strKind_oneLt (s := { s with heap := h'.push (seqObj "list" its.toArray 0) }) hoL hS.keysOf (fun v1 v2 rest e => keyKind_strs (by rw [← e]; exact hS)) l64 fun st' hp hs => ⟨_, rfl, ?_⟩) (PyProof.Rows.args_list_sort _)))
  obtain ⟨ys, g1, g2, g3⟩ := sorted_out_str hS hp hs
  obtain ⟨e', he'⟩ := PyProof.Rows.sortedHeap_at (vs := its) (out := (arrOf st').map (·.2)) hoL
  have small : (ys.map V.str).length ≤ sizeLine := by
    rw [List.length_map, g2.length_eq]
    exact Nat.le_trans (Nat.le_of_lt h64) (by decide)
  refine wpAny_pure ⟨_, rfl, .ref h'.objs.size, upd H h'.objs.size (.lst (ys.map V.str)), J.laid (t' := s.toks) (fun b u e => ?_) (Nat.le_refl _) ⟨small, ((arrOf st').map (·.2)).toList, e', vals_of_strs g1, by rw [Array.toArray_toList]; exact he'⟩, rfl, q ys _ g2 g3 (J.hok.fresh (Nat.le_refl _))⟩
  have lb : b < h'.objs.size := Heap.lt_size e
  rw [PyProof.Rows.sortedHeap_old (Nat.ne_of_lt lb) (by rw [size_push']; exact Nat.lt_succ_of_lt lb)]
  exact Heap.get?_push_of_some _ e
def zsx (K : PySem.W.Frag) : List V → Hp → VK → Prop := fun xs H Q => rSortedS K xs H Q ∨ zru K xs H Q
theorem zxy : CallR X (.builtin "sorted") (zsx X.K) := CallR.or cr_sortedS zu3
end
end Cs
namespace Cs
open PySem PySem.Spec L2 PyProof.Rows
section
variable {X : Cx}
end
section
variable {K : PySem.W.Frag} {σ : L2.St} {G G1 H : Hp} {ta tb : TE} {tA : TA} {d : PyData}
end
end Cs
namespace Cs
open PySem PySem.Spec L2 PyProof.Rows
section
variable {K : PySem.W.Frag} {σ : L2.St} {M : Addr → Prop} {G G' G1 G0 H0 H H' H1 : Hp} {Q : VK} {E : XK} {vs : List V} {ta tb tc te tk tv td ty : TE} {tA : TA} {t : TT} {d x y z : PyData} {v : V} {a : Addr} {R : Rp}
end
end Cs
namespace Cs
open PySem PySem.Spec L2 PyProof.Rows
section
variable {K : PySem.W.Frag} {C Cb : Addr} {σ : L2.St} {M : Addr → Prop} {G G' G1 G0 H0 H H' H1 : Hp} {Q : VK} {E : XK} {vs : List V} {ta tb tc te tk tv td ty : TE} {tA : TA} {t : TT} {d x y z : PyData} {v : V} {a : Addr} {R : Rp}
end
end Cs
namespace Cs
open PySem PySem.Spec L2 PyProof.Rows
section
variable {X : Cx} {CX : CXT} {C g : Addr} {n : Nat} {sp : Sp} {E : XK}
def rEqO (K : PySem.W.Frag) (C : Addr) (sp : Sp) (E : XK) : R2 := fun x y H Q => ∃ a dx fs t, x = .ref a ∧ H a = some (.ins C dx fs) ∧ TyX K H y t ∧ PySem.W.notFirst K C t = true ∧ sp [x, y] H Q E
theorem zaex (hs : PySem.W.findIn X.K (.ref C) "__eq__" = some (some (.ref g))) (hf : PySem.W.isFn X.K (.ref g) = true) (F : FnR X.prog X.w X.K X.mg X.base CX n g sp) (hr : Room n X.A) (hx : Passes CX X E) : OpR X (compareOp .Eq) (rEqO X.K C sp E) := by
  intro pins s σ H x y v u Q I rx ry h
  obtain ⟨a, dx, fs, t, rfl, ha, hty, hn, q⟩ := h
  cases (show v = Value.ref a from rx)
  obtain ⟨mA, O, _, _, _, _⟩ := ins_get I.hok ha
  obtain ⟨od, J, _⟩ := O.look
  obtain ⟨P, kx, hp, _⟩ := kit_of I ry hty
  obtain ⟨m, hF⟩ := I.fr
  have hop : compareOp .Eq (.ref a) u = richCompare .Eq (.ref a) u := rfl
  rw [hop]
  refine PySem.W.cmp_K (op := .Eq) (tb := t) hr.units0 hF I.ok.mod.kin J (kx.ty _ _ I.kIn hp) hn hs hf ?_
  refine wpAny_mono (wpAny_call (run_fnR (us := [.ref a, u]) (vs := [.ref a, y]) F hr hx I (.cons rfl (.cons ry .nil)) q)) (fun w s' z => ?_) fun _ _ x => x
  obtain ⟨z', H', I', rz, qz⟩ := z
  exact SlX.cmpback rz ⟨z', H', I', rz, qz⟩
end
end Cs
namespace Cs
open PySem PySem.Spec L2 PyProof.Rows
def zi7 (K : PySem.W.Frag) (C g : Addr) : Bool := match K.lookup C with
  | some ⟨.type "type", _, .cls cd, sl⟩ => (match cd.mro, sl.toList with
    | [.ref C', .type "object"], [_, _, _, _, some (.builtin _), _] => C' == C && !cd.hasDel && (PySem.W.nsOkIn K cd.ns && (PySem.W.nsIn K cd.ns "__eq__" == some (some (.ref g)) && PySem.W.nsIn K cd.ns "__ne__" == some none))
    | _, _ => false)
  | _ => false
theorem ns_at {K : PySem.W.Frag} {h : Heap} {N : Addr} {mg : Str → Option Value} {n : Str} {v : Value} (X : K.In h) (G : h.Ns N mg) (e : PySem.W.nsIn K N n = some (some v)) : mg n = some v := by
  obtain ⟨o, es, ep, ho, hd, _, hf⟩ := G
  unfold PySem.W.nsIn at e
  split at e
  · rename_i c d es' n' sl q
    have z := X _ _ q
    rw [ho] at z
    cases z
    cases hd
    split at e
    · rename_i en he
      have ev : en.val = v := Option.some.inj (Option.some.inj e)
      have z : nsFind es n = some en.val := by
        unfold nsFind findBy
        rw [← Array.find?_toList, he]
        rfl
      rw [← hf n, z, ev]
    · split at e <;> cases e
  · cases e
theorem zabr {K : PySem.W.Frag} {h : Heap} {C g x dx : Addr} (X : K.In h) (q : zi7 K C g = true) (hf : PySem.W.isFn K (.ref g) = true) (hx : h.get? x = some (PySem.W.instObj C dx)) : h.OwnEqNoNe x C g "object" [.type "object"] := by
  unfold zi7 at q
  split at q
  · rename_i dd cd sl ho
    split at q
    · rename_i C' k0 k1 k2 k3 n k5 hm hs
      simp only [Bool.and_eq_true, beq_iff_eq, Bool.not_eq_true'] at q
      obtain ⟨⟨rfl, hdel⟩, hok, hq, hne⟩ := q
      obtain ⟨nm, bs, mro, ns, qn, hd, sn, sub, ab, col, del⟩ := cd
      dsimp only at hm hdel hok hq hne
      subst hm hdel
      have hsl : sl = #[k0, k1, k2, k3, some (.builtin n), k5] := by
        obtain ⟨l⟩ := sl
        simp only at hs
        rw [hs]
      subst hsl
      unfold PySem.W.isFn PySem.W.typeIn at hf
      simp only [beq_iff_eq] at hf
      cases e : K.lookup g with
      | none => rw [e] at hf; cases hf
      | some og =>
        rw [e] at hf
        have hc : og.cls = .type "function" := Option.some.inj hf
        have N : h.Ns ns (h.nsMap ns) := .of_isNs (PySem.W.isNs_of_in X hok)
        exact ⟨_, og, nm, qn, ns, bs, hd, sn, sub, ab, col, dd, k0, k1, k2, k3, k5, n, _, _, hx, rfl, X _ _ ho, N, ns_at X N hq, X _ _ e, hc, F.cmp_object.mro, F.cmp_object.eq.lookup, PySem.W.nsMap_none_of_in X hok hne⟩
    · cases q
  · cases q
section
variable {X : Cx} {CX : CXT} {C g : Addr} {n : Nat} {sp : Sp} {E : XK}
def rNeO (C : Addr) (sp : Sp) (E : XK) : R2 := fun x y H Q => ∃ a dx fs b dy gs, x = .ref a ∧ y = .ref b ∧ H a = some (.ins C dx fs) ∧ H b = some (.ins C dy gs) ∧ sp [x, y] H (fun v H' => ∃ k, v = .bl k ∧ Q (.bl (!k)) H') E
theorem zm9 (q : zi7 X.K C g = true) (hf : PySem.W.isFn X.K (.ref g) = true) (F : FnR X.prog X.w X.K X.mg X.base CX n g sp) (hr : Room (n + 1) X.A) (hx : Passes CX X E) : OpR X (compareOp .NotEq) (rNeO C sp E) := by
  intro pins s σ H x y v u Q I rx ry h
  obtain ⟨a, dx, fs, b, dy, gs, rfl, rfl, ha, hb, q1⟩ := h
  cases (show v = Value.ref a from rx)
  cases (show u = Value.ref b from ry)
  obtain ⟨mA, O, _, _, _, _⟩ := ins_get I.hok ha
  obtain ⟨mB, OB, _, _, _, _⟩ := ins_get I.hok hb
  have oa := zabr I.kIn q hf O.obj
  obtain ⟨hp, gn, dr, tk, os⟩ := s
  refine compareOp_ne_ownEq PySem.F.cmp_object oa OB.obj rfl (by have := hr.un; omega) ?_
  have room : Room n X.A.in1 := hr.in1
  refine wpAny_call (codeAny_mono (F X.A.in1 X.stack _ H [.ref a, .ref b] [.ref a, .ref b] _ E room I.env0.in1 (.cons rfl (.cons rfl .nil)) q1) fun r s' hq => ?_)
  cases r with
  | error e => exact hx pins σ H _ e s' I hq
  | ok fl => cases fl with
    | ret w =>
      obtain ⟨z, H', I', rz, k, ek, qk⟩ := I.after hq
      subst ek
      have ew : w = Value.bool k := rz
      subst ew
      exact ⟨k, rfl, .bl (!k), H', I', rfl, qk⟩
    | next => exact hq.elim
    | brk => exact hq.elim
    | cont => exact hq.elim
end
end Cs
namespace Cs
open PySem PySem.Spec L2 PyProof.Rows
section
variable {X : Cx}
end
structure IsC (K : PySem.W.Frag) (C : Addr) : Prop where
  cl : Cls K C
  ha : PySem.W.findIn K (.ref C) "__class__" = some (some (.builtin "object.__class__"))
  hn : PySem.W.specialIn K (.builtin "object.__class__") "__get__" = some (some (.builtin "getset_descriptor.__get__"))
  ht : PySem.W.takesIn K (.builtin "object.__class__") = some true
  hm : PySem.W.mroIn K C (.type "object") = some true
theorem IsC.ty {K : PySem.W.Frag} {C a dx : Addr} {H : Hp} {fs : List (Str × V)} (T : IsC K C) (e : H a = some (.ins C dx fs)) : TyX K H (.ref a) (.ref C) := .base (.ins e T.cl T.ha T.hn T.ht T.hm)
section
variable {K : PySem.W.Frag} {C Cb : Addr} {σ : L2.St} {M : Addr → Prop} {G G' G1 G0 H0 H H' H1 : Hp} {Q : VK} {E : XK} {vs : List V} {ta tb tc te tk tv td ty : TE} {tA : TA} {t : TT} {d x y z : PyData} {v : V} {a : Addr} {R : Rp} {n k df : PyData} {ys : List Str}
end
end Cs
namespace Mi
open PySem PySem.Spec L2 Cs
inductive D where
  | non | bl (b : Bool) | int (i : Int) | str (s : Str) | ty (n : String)
  | lst (ds : List D) | tup (ds : List D) | dct (ks : List Key) (ds : List D)
  | obj (C : String) (ks : List Str) (ds : List D) | exc (C : String) (ks : List Str) (ds : List D)
  | cls (C : String) | own (n : Nat)
inductive Cell where
  | lst (ds : List D) | dct (ks : List Key) (ds : List D) | lck (ks : List Key) (ds : List D) | obj (C : String) (ks : List Str) (ds : List D)
def Cell.isL : Cell → Bool
  | .lck _ _ => true
  | _ => false
abbrev Store := List (Option Cell)
structure Exc where
  C : String
  ks : List Str
  ds : List D
inductive Res (α : Type) where
  | ok (a : α) (μ : Store) | exc (x : Exc) (μ : Store) | bad
abbrev Env := List (Option D)
inductive ResS where
  | nx (ρ : Env) (μ : Store) | rt (d : D) (μ : Store) | bk (ρ : Env) (μ : Store) | ct (ρ : Env) (μ : Store) | exc (x : Exc) (μ : Store) | bad
abbrev ME := Env → Store → Res D
abbrev MT := Env → Store → Res Bool
abbrev MA := Env → Store → Res (List D)
abbrev MS := Nat → Env → Store → ResS
structure Wd where
  K : PySem.W.Frag
  cm : String → Option Addr
  tabs : List (Addr × Str)
def live (μ : Store) (n : Nat) : Prop := ∃ x, μ[n]? = some (some x)
structure Cf where
  ι : Nat → Addr
  μ : Store
  G : Hp
  H : Hp
  L : Addr → Option HO
  T : List (Addr × Str)
def fsL (ks : List Str) (xs : List V) : List (Str × V) := List.zipWith (fun k x => (k, x)) ks xs
mutual
inductive Dp (W : Wd) (c : Cf) : V → D → Prop
  | non : Dp W c .non .non
  | bl (b : Bool) : Dp W c (.bl b) (.bl b)
  | int (i : Int) : Dp W c (.int i) (.int i)
  | str (x : Str) : Dp W c (.str x) (.str x)
  | ty (n : String) : Dp W c (.ty n) (.ty n)
  | lst {a : Addr} {xs : List V} {ds : List D} : SqL W.K c.G a xs → DpA W c xs ds → Dp W c (.ref a) (.lst ds)
  | tup {a : Addr} {xs : List V} {ds : List D} : SqT W.K c.G a xs → DpA W c xs ds → Dp W c (.ref a) (.tup ds)
  | dct {a : Addr} {ks : List Key} {xs : List V} {ds : List D} : Rd c.G a (.dK (kvL ks xs)) → ks.length = xs.length → ks.Nodup → DpA W c xs ds → Dp W c (.ref a) (.dct ks ds)
  | obj {a : Addr} {C : String} {g dx : Addr} {ks : List Str} {xs : List V} {ds : List D} : W.cm C = some g → c.G a = some (.ins g dx (fsL ks xs)) → ks.length = xs.length → DpA W c xs ds → Dp W c (.ref a) (.obj C ks ds)
  | exc {a : Addr} {C : String} {g : Addr} {d : Option Addr} {ks : List Str} {xs : List V} {ds : List D} : W.cm C = some g → c.G a = some (XO (.ref g) d a) → (∀ dx, d = some dx → c.G dx = some (.xd (fsL ks xs))) → (d = none → ks = []) → ks.length = xs.length → DpA W c xs ds → Dp W c (.ref a) (.exc C ks ds)
  | cls {C : String} {g : Addr} : W.cm C = some g → Dp W c (.ref g) (.cls C)
  | own {n : Nat} : n < c.μ.length → Dp W c (.ref (c.ι n)) (.own n)
inductive DpA (W : Wd) (c : Cf) : List V → List D → Prop
  | nil : DpA W c [] []
  | cons {v : V} {vs : List V} {d : D} {ds : List D} : Dp W c v d → DpA W c vs ds → DpA W c (v :: vs) (d :: ds)
end
structure Le (c c' : Cf) : Prop where
  g : Same c.G c'.G
  len : c.μ.length ≤ c'.μ.length
  ag : ∀ n, n < c.μ.length → c'.ι n = c.ι n
theorem Le.refl (c : Cf) : Le c c := ⟨Same.refl _, Nat.le_refl _, fun _ _ => rfl⟩
theorem Le.trans {a b c : Cf} (h : Le a b) (k : Le b c) : Le a c := ⟨h.g.trans k.g, Nat.le_trans h.len k.len, fun n hn => (k.ag n (Nat.lt_of_lt_of_le hn h.len)).trans (h.ag n hn)⟩
section
variable {W : Wd} {c c' : Cf}
mutual
theorem zay (e : Le c c') : ∀ {d : D} {v : V}, Dp W c v d → Dp W c' v d
  | _, _, .non => .non
  | _, _, .bl b => .bl b
  | _, _, .int i => .int i
  | _, _, .str x => .str x
  | _, _, .ty n => .ty n
  | _, _, .lst hs ha => .lst (e.g.seq hs) (zaq e ha)
  | _, _, .tup hs ha => .tup (Cs.zby e.g hs) (zaq e ha)
  | _, _, .dct hr hl hn ha => .dct (zi6 e.g hr) hl hn (zaq e ha)
  | _, _, .obj hc h hl ha => .obj hc (e.g _ _ h) hl (zaq e ha)
  | _, _, .exc hc h hd hn hl ha => .exc hc (e.g _ _ h) (fun dx q => e.g _ _ (hd dx q)) hn hl (zaq e ha)
  | _, _, .cls hc => .cls hc
  | _, _, .own hn => by
    rw [← e.ag _ hn]
    exact .own (Nat.lt_of_lt_of_le hn e.len)
theorem zaq (e : Le c c') : ∀ {ds : List D} {vs : List V}, DpA W c vs ds → DpA W c' vs ds
  | _, _, .nil => .nil
  | _, _, .cons h1 h2 => .cons (zay e h1) (zaq e h2)
end
theorem zan : ∀ {vs : List V} {ds : List D}, DpA W c vs ds → vs.length = ds.length
  | _, _, .nil => rfl
  | _, _, .cons _ t => congrArg (· + 1) (zan t)
theorem zhz : ∀ {vs : List V} {ds : List D} {i : Nat} {d : D}, DpA W c vs ds → ds[i]? = some d → ∃ v, vs[i]? = some v ∧ Dp W c v d
  | _, _, _, _, .nil, e => by simp at e
  | _, _, 0, _, .cons h _, e => by cases Option.some.inj e; exact ⟨_, rfl, h⟩
  | _, _, i + 1, d, .cons _ t, e => zhz (i := i) t e
theorem zgr : ∀ {vs : List V} {ds : List D} {i : Nat} {v : V}, DpA W c vs ds → vs[i]? = some v → ∃ d, ds[i]? = some d ∧ Dp W c v d
  | _, _, _, _, .nil, e => by simp at e
  | _, _, 0, _, .cons h _, e => by cases Option.some.inj e; exact ⟨_, rfl, h⟩
  | _, _, i + 1, d, .cons _ t, e => zgr (i := i) t e
theorem zdj : ∀ {vs ws : List V} {ds es : List D}, DpA W c vs ds → DpA W c ws es → DpA W c (vs ++ ws) (ds ++ es)
  | _, _, _, _, .nil, h => h
  | _, _, _, _, .cons h t, k => .cons h (zdj t k)
theorem zjw : ∀ {vs : List V} {ds : List D} (n : Nat), DpA W c vs ds → DpA W c (vs.take n) (ds.take n)
  | _, _, 0, _ => .nil
  | _, _, _ + 1, .nil => .nil
  | _, _, n + 1, .cons h t => .cons h (zjw n t)
theorem zjx : ∀ {vs : List V} {ds : List D} (n : Nat), DpA W c vs ds → DpA W c (vs.drop n) (ds.drop n)
  | _, _, 0, h => h
  | _, _, _ + 1, .nil => .nil
  | _, _, n + 1, .cons _ t => zjx n t
theorem zkg : ∀ {vs : List V} {ds : List D} (n : Nat), DpA W c vs ds → DpA W c (vs.eraseIdx n) (ds.eraseIdx n)
  | _, _, _, .nil => .nil
  | _, _, 0, .cons _ t => t
  | _, _, n + 1, .cons h t => .cons h (zkg n t)
theorem zwz : ∀ {vs : List V} {ds : List D} (n : Nat) {v : V} {d : D}, DpA W c vs ds → Dp W c v d → DpA W c (vs.set n v) (ds.set n d)
  | _, _, _, _, _, .nil, _ => .nil
  | _, _, 0, _, _, .cons _ t, k => .cons k t
  | _, _, n + 1, _, _, .cons h t, k => .cons h (zwz n t k)
end
mutual
def D.pd : D → Option PyData
  | .non => some .none
  | .bl b => some (.bool b)
  | .int i => some (.int i)
  | .str s => some (.str s)
  | .lst ds => (pds ds).map .list
  | .tup ds => (pds ds).map .tuple
  | .dct ks ds => (pds ds).map fun ps => .dict (dctD ks ps)
  | _ => none
def pds : List D → Option (List PyData)
  | [] => some []
  | d :: ds => match d.pd, pds ds with
    | some p, some ps => some (p :: ps)
    | _, _ => none
end
mutual
theorem dp_pd {W : Wd} {c : Cf} : ∀ {d : D} {v : V} {p : PyData}, Dp W c v d → d.pd = some p → Cs.Dp W.K c.G v p
  | _, _, _, .non, e => by cases Option.some.inj e; exact .non
  | _, _, _, .bl b, e => by cases Option.some.inj e; exact .bl b
  | _, _, _, .int i, e => by cases Option.some.inj e; exact .int i
  | _, _, _, .str i, e => by cases Option.some.inj e; exact .str i
  | _, _, _, .ty n, e => by cases e
  | .lst ds, _, p, .lst hs ha, e => by
    unfold D.pd at e
    cases q : pds ds with
    | none => rw [q] at e; cases e
    | some ps =>
      rw [q] at e
      cases Option.some.inj e
      exact .lst hs (zqg ha q)
  | .tup ds, _, p, .tup hs ha, e => by
    unfold D.pd at e
    cases q : pds ds with
    | none => rw [q] at e; cases e
    | some ps =>
      rw [q] at e
      cases Option.some.inj e
      exact .tup hs (zqg ha q)
  | .dct ks ds, _, p, .dct hr hl hn ha, e => by
    unfold D.pd at e
    cases q : pds ds with
    | none => rw [q] at e; cases e
    | some ps =>
      rw [q] at e
      cases Option.some.inj e
      exact .dct hr hl hn (zqg ha q)
  | _, _, _, .obj .., e => by cases e
  | _, _, _, .exc .., e => by cases e
  | _, _, _, .cls .., e => by cases e
  | _, _, _, .own .., e => by cases e
theorem zqg {W : Wd} {c : Cf} : ∀ {ds : List D} {vs : List V} {ps : List PyData}, DpA W c vs ds → pds ds = some ps → Cs.DpAll W.K c.G vs ps
  | _, _, _, .nil, e => by cases Option.some.inj e; exact .nil
  | d :: ds, _, _, .cons h t, e => by
    unfold pds at e
    split at e
    · rename_i p ps h1 h2
      cases Option.some.inj e
      exact .cons (dp_pd h h1) (zqg t h2)
    · cases e
end
def CellAt (W : Wd) (c : Cf) (o : HO) : Cell → Prop
  | .lst ds => ∃ xs, o = .lst xs ∧ DpA W c xs ds
  | .dct ks ds => ∃ xs, o = .dK (kvL ks xs) ∧ ks.length = xs.length ∧ ks.Nodup ∧ DpA W c xs ds
  | .lck ks ds => ∃ xs od, o = .frz od (.dK (kvL ks xs)) ∧ ks.length = xs.length ∧ ks.Nodup ∧ DpA W c xs ds
  | .obj C ks ds => ∃ g dx xs, W.cm C = some g ∧ o = .ins g dx (fsL ks xs) ∧ ks.length = xs.length ∧ DpA W c xs ds
structure TabOk (W : Wd) (c : Cf) : Prop where
  w : c.T = W.tabs
  n : ∀ a ps, c.G a ≠ some (.tbl ps)
  o : ∀ a ps, c.H a = some (.tbl ps) → ∃ q, (a, q) ∈ c.T
  t : ∀ p ∈ c.T, ∃ ps : Array Value, c.H p.1 = some (.tbl ps) ∧ TriplesOk ps.toList ∧ ∀ (pos : Pos) (cv : Value), PySem.codeAmong pos ps.toList = some cv → ∃ a, cv = .ref a ∧ c.H a = some (LamX.CodeO a p.2)
theorem TabOk.mono {W : Wd} {c c' : Cf} (h : TabOk W c) (eT : c'.T = c.T) (g : ∀ b q, c.H b = some (LamX.CodeO b q) → c'.H b = some (LamX.CodeO b q)) (hn : ∀ a ps, c'.G a = some (.tbl ps) → c.G a = some (.tbl ps)) (hu : ∀ a ps, c'.H a = some (.tbl ps) → ∃ ps', c.H a = some (.tbl ps')) (hH : ∀ p ∈ c.T, ∀ ps, c.H p.1 = some (.tbl ps) → c'.H p.1 = some (.tbl ps)) : TabOk W c' := by
  refine ⟨eT.trans h.w, fun a ps e => h.n a ps (hn a ps e), fun a ps e => let ⟨ps', e'⟩ := hu a ps e; eT ▸ h.o a ps' e', fun p hp => ?_⟩
  obtain ⟨ps, h1, h2, h3⟩ := h.t p (by rw [← eT]; exact hp)
  refine ⟨ps, hH p (by rw [← eT]; exact hp) ps h1, h2, fun pos cv e => ?_⟩
  obtain ⟨a, e1, e2⟩ := h3 pos cv e
  exact ⟨a, e1, g a _ e2⟩
theorem zhr {H : Hp} {p : Addr} {o : HO} (no : ∀ ps, o ≠ .tbl ps) : ∀ a ps, upd H p o a = some (.tbl ps) → ∃ ps', H a = some (.tbl ps') := fun a ps e => by
  by_cases c : a = p
  · subst c; rw [upd_same] at e; exact absurd (Option.some.inj e) (no ps)
  · rw [upd_ne c] at e; exact ⟨_, e⟩
theorem zfn {H : Hp} {p : Addr} {o : HO} (hp : ∀ q, H p ≠ some (LamX.CodeO p q)) : ∀ b q, H b = some (LamX.CodeO b q) → upd H p o b = some (LamX.CodeO b q) := fun b q e => by
  rw [upd_ne (fun z => hp q (by rw [← z]; exact e))]; exact e
theorem zmk {H : Hp} {p : Addr} (hp : H p = none) : ∀ q, H p ≠ some (LamX.CodeO p q) := fun q z => by rw [hp] at z; cases z
theorem zul {kvs : List (Key × V)} {p : Addr} {q : Str} : HO.dK kvs ≠ LamX.CodeO p q := fun z => by unfold LamX.CodeO at z; cases z
theorem zr9 {od : Obj} {u : HO} {p : Addr} {q : Str} : HO.frz od u ≠ LamX.CodeO p q := fun z => by unfold LamX.CodeO at z; cases z
structure Ok (W : Wd) (c : Cf) : Prop where
  s : Same c.G c.H
  lk : ∀ a o, c.L a = some o → c.H a = some o ∧ ∃ od u, o = .frz od u
  at' : ∀ n x, c.μ[n]? = some (some x) → c.G (c.ι n) = none ∧ ∃ o, c.H (c.ι n) = some o ∧ CellAt W c o x
  inj : ∀ n m, live c.μ n → live c.μ m → c.ι n = c.ι m → n = m
  lc : ∀ n x, c.μ[n]? = some (some x) → x.isL = true → c.L (c.ι n) ≠ none
  tb : TabOk W c
def Mo (c : Cf) : Addr → Prop := fun b => (∃ n, live c.μ n ∧ b = c.ι n) ∨ ∃ ps, c.H b = some (.tbl ps)
structure Step (c c' : Cf) : Prop where
  g : Grow (Mo c) c.G c.H c'.G c'.H
  len : c.μ.length ≤ c'.μ.length
  ag : ∀ n, n < c.μ.length → c'.ι n = c.ι n
  dead : ∀ n, n < c.μ.length → live c'.μ n → live c.μ n
  fresh : ∀ n, c.μ.length ≤ n → live c'.μ n → c.H (c'.ι n) = none
  lk : c'.L = c.L
  tk : c'.T = c.T
theorem zat {μ : Store} {n : Nat} (h : live μ n) : n < μ.length := by
  obtain ⟨x, h⟩ := h
  exact (List.getElem?_eq_some_iff.mp h).1
theorem Step.le {c c' : Cf} (h : Step c c') : Le c c' := ⟨h.g.g, h.len, h.ag⟩
theorem Step.refl {W : Wd} {c : Cf} (h : Ok W c) : Step c c := ⟨Grow.refl h.s, Nat.le_refl _, fun _ _ => rfl, fun _ _ k => k, fun n hn k => absurd (zat k) (Nat.not_lt_of_le hn), rfl, rfl⟩
theorem Ok.hcell {W : Wd} {c : Cf} (h : Ok W c) {n : Nat} (l : live c.μ n) : c.H (c.ι n) ≠ none := by
  obtain ⟨x, hx⟩ := l
  obtain ⟨_, o, ho, _⟩ := h.at' n x hx
  rw [ho]; exact fun z => by cases z
theorem Step.trans {a b c : Cf} (h : Step a b) (k : Step b c) : Step a c := by
  have sub : ∀ d o, a.H d = some o → Mo b d → Mo a d := by
    rintro d o e (⟨n, l, rfl⟩ | ⟨q, hq⟩)
    · rcases Nat.lt_or_ge n a.μ.length with hn | hn
      · exact .inl ⟨n, h.dead n hn l, h.ag n hn⟩
      · have := h.fresh n hn l
        rw [this] at e; cases e
    · by_cases m : Mo a d
      · exact m
      · have := h.g.h d o m e
        rw [hq] at this
        cases this
        exact .inr ⟨_, e⟩
  refine ⟨⟨fun d o n e => k.g.h d o (fun m => n (sub d o e m)) (h.g.h d o n e), h.g.g.trans k.g.g, k.g.s, fun d hd => (k.g.n d (h.g.m d hd)).trans (h.g.n d hd), fun d hd => k.g.m d (h.g.m d hd), fun d ps e => h.g.t d ps (k.g.t d ps e), fun d ps e => let ⟨ps', e'⟩ := k.g.u d ps e; h.g.u d ps' e'⟩,
    Nat.le_trans h.len k.len, fun n hn => (k.ag n (Nat.lt_of_lt_of_le hn h.len)).trans (h.ag n hn), fun n hn l => h.dead n hn (k.dead n (Nat.lt_of_lt_of_le hn h.len) l), fun n hn l => ?_, k.lk.trans h.lk, k.tk.trans h.tk⟩
  rcases Nat.lt_or_ge n b.μ.length with hn' | hn'
  · rw [k.ag n hn']
    exact h.fresh n hn (k.dead n hn' l)
  · have q := k.fresh n hn' l
    cases e : a.H (c.ι n) with
    | none => rfl
    | some o => exact absurd q (h.g.m _ (by rw [e]; exact fun z => by cases z))
theorem CellAt.mono {W : Wd} {c c' : Cf} {o : HO} {x : Cell} (e : Le c c') (_l : True) (h : CellAt W c o x) : CellAt W c' o x := by
  cases x with
  | lst ds => obtain ⟨xs, h1, h2⟩ := h; exact ⟨xs, h1, zaq e h2⟩
  | dct ks ds => obtain ⟨xs, h1, h2, h3, h4⟩ := h; exact ⟨xs, h1, h2, h3, zaq e h4⟩
  | lck ks ds => obtain ⟨xs, od, h1, h2, h3, h4⟩ := h; exact ⟨xs, od, h1, h2, h3, zaq e h4⟩
  | obj C ks ds => obtain ⟨g, dx, xs, h1, h2, h3, h4⟩ := h; exact ⟨g, dx, xs, h1, h2, h3, zaq e h4⟩
def Cf.to (c : Cf) (G' H' : Hp) : Cf := ⟨c.ι, c.μ, G', H', c.L, c.T⟩
theorem zj3 {W : Wd} {c : Cf} {G' H' : Hp} (h : Ok W c) (g : Grow NoM c.G c.H G' H') : Ok W (c.to G' H') ∧ Step c (c.to G' H') := by
  have le : Le c (c.to G' H') := ⟨g.g, Nat.le_refl _, fun _ _ => rfl⟩
  refine ⟨⟨g.s, fun a o e => ⟨g.same _ _ (h.lk a o e).1, (h.lk a o e).2⟩, fun n x e => ?_, h.inj, h.lc, h.tb.mono rfl (fun b q e => g.same _ _ e) g.t g.u fun p _ ps e => g.same _ _ e⟩, ⟨g.any, Nat.le_refl _, fun _ _ => rfl, fun _ _ k => k, fun n hn k => absurd (zat k) (Nat.not_lt_of_le hn), rfl, rfl⟩⟩
  obtain ⟨h1, o, h2, h3⟩ := h.at' n x e
  exact ⟨(g.n _ (h.hcell ⟨x, e⟩)).trans h1, o, g.same _ _ h2, h3.mono le trivial⟩
theorem zd4 {W : Wd} {c : Cf} {p : Addr} {o : HO} (h : Ok W c) (hp : c.H p = none) (no : ∀ ps, o ≠ .tbl ps := by intro _ z; cases z) : Ok W (c.to (upd c.G p o) (upd c.H p o)) ∧ Step c (c.to (upd c.G p o) (upd c.H p o)) :=
  zj3 h (.new h.s hp no)
def Cf.add (c : Cf) (p : Addr) (o : HO) (x : Cell) : Cf := ⟨fun n => if n = c.μ.length then p else c.ι n, c.μ ++ [some x], c.G, upd c.H p o, c.L, c.T⟩
theorem zzv {c : Cf} {p : Addr} {o : HO} {x : Cell} : Le c (c.add p o x) := ⟨Same.refl _, by simp [Cf.add], fun n hn => by simp [Cf.add, Nat.ne_of_lt hn]⟩
theorem ze7 {μ : Store} {y : Option Cell} {n : Nat} (h : live (μ ++ [y]) n) : live μ n ∨ (n = μ.length ∧ ∃ x, y = some x) := by
  obtain ⟨x, h⟩ := h
  rcases Nat.lt_trichotomy n μ.length with hn | hn | hn
  · rw [List.getElem?_append_left hn] at h
    exact .inl ⟨x, h⟩
  · subst hn
    simp at h
    exact .inr ⟨rfl, x, h⟩
  · rw [List.getElem?_eq_none (by simp; omega)] at h; cases h
theorem CellAt.noT {W : Wd} {c : Cf} {o : HO} {x : Cell} (h : CellAt W c o x) : ∀ ps, o ≠ .tbl ps := by
  intro ps e
  subst e
  cases x with
  | lst ds => obtain ⟨xs, h1, h2⟩ := h; cases h1
  | dct ks ds => obtain ⟨xs, h1, h2⟩ := h; cases h1
  | lck ks ds => obtain ⟨xs, od, h1, h2⟩ := h; cases h1
  | obj C ks ds => obtain ⟨g, dx, xs, h0, h1, h2⟩ := h; cases h1
theorem zop {W : Wd} {c : Cf} {p : Addr} {o : HO} {x : Cell} (h : Ok W c) (hp : c.H p = none) (hx : CellAt W c o x) (nx : x.isL = false := by rfl) : Ok W (c.add p o x) ∧ Step c (c.add p o x) := by
  have gp := same_none h.s hp
  have old : ∀ n, n < c.μ.length → (c.add p o x).ι n = c.ι n := fun n hn => by simp [Cf.add, Nat.ne_of_lt hn]
  have top : (c.add p o x).ι c.μ.length = p := by simp [Cf.add]
  have ne : ∀ n, live c.μ n → c.ι n ≠ p := fun n l z => h.hcell l (by rw [z]; exact hp)
  refine ⟨⟨fun b u e => ?_, fun a u e => ⟨by
    show upd c.H p o a = some u
    rw [upd_ne (ne_of_none (h.lk a u e).1 hp)]; exact (h.lk a u e).1, (h.lk a u e).2⟩, fun n y e => ?_, fun n m ln lm e => ?_, fun n y e hy => ?_, h.tb.mono rfl (zfn (zmk hp)) (fun _ _ e => e) (zhr hx.noT) fun q _ ps e => by
    show upd c.H p o q.1 = some (.tbl ps)
    rw [upd_ne (ne_of_none e hp)]; exact e⟩, ⟨(Grow.own h.s hp hx.noT), by simp [Cf.add], old, fun n hn l => ?_, fun n hn l => ?_, rfl, rfl⟩⟩
  · show upd c.H p o b = some u
    rw [upd_ne (ne_of_none e gp)]; exact h.s b u e
  · rcases ze7 ⟨y, e⟩ with l | ⟨rfl, _⟩
    · have hn := zat l
      have e' : c.μ[n]? = some (some y) := by rw [← e]; exact (List.getElem?_append_left hn).symm
      obtain ⟨h1, u, h2, h3⟩ := h.at' n y e'
      rw [old n hn]
      refine ⟨h1, u, ?_, h3.mono zzv trivial⟩
      show upd c.H p o (c.ι n) = some u
      rw [upd_ne (ne n l)]; exact h2
    · have ey : x = y := by
        have : (c.μ ++ [some x])[c.μ.length]? = some (some x) := by simp
        have e2 : (c.μ ++ [some x])[c.μ.length]? = some (some y) := e
        rw [this] at e2
        exact Option.some.inj (Option.some.inj e2)
      subst ey
      rw [top]
      exact ⟨gp, o, upd_same, hx.mono zzv trivial⟩
  · rcases ze7 ln with l | ⟨rfl, _⟩
    · rcases ze7 lm with k | ⟨rfl, _⟩
      · rw [old n (zat l), old m (zat k)] at e
        exact h.inj n m l k e
      · rw [old n (zat l), top] at e
        exact absurd e (ne n l)
    · rcases ze7 lm with k | ⟨rfl, _⟩
      · rw [old m (zat k), top] at e
        exact absurd e.symm (ne m k)
      · rfl
  · rcases ze7 ⟨y, e⟩ with l | ⟨rfl, _⟩
    · have e' : c.μ[n]? = some (some y) := by rw [← e]; exact (List.getElem?_append_left (zat l)).symm
      rw [old n (zat l)]
      exact h.lc n y e' hy
    · have e2 : (c.μ ++ [some x])[c.μ.length]? = some (some y) := e
      simp at e2
      rw [← e2, nx] at hy; cases hy
  · rcases ze7 l with l | ⟨rfl, _⟩
    · exact l
    · omega
  · rcases ze7 l with l | ⟨rfl, _⟩
    · exact absurd (zat l) (Nat.not_lt_of_le hn)
    · rw [top]; exact hp
def Cf.put (c : Cf) (n : Nat) (o : HO) (x : Cell) : Cf := ⟨c.ι, c.μ.set n (some x), c.G, upd c.H (c.ι n) o, c.L, c.T⟩
theorem zzt {c : Cf} {n : Nat} {o : HO} {x : Cell} : Le c (c.put n o x) := ⟨Same.refl _, by simp [Cf.put], fun _ _ => rfl⟩
theorem zjr {μ : Store} {x : Cell} {n m : Nat} (l : live μ n) (h : live (μ.set n (some x)) m) : live μ m := by
  obtain ⟨y, h⟩ := h
  by_cases e : n = m
  · subst e; exact l
  · rw [List.getElem?_set_ne e] at h; exact ⟨y, h⟩
theorem CellAt.noF {W : Wd} {c : Cf} {o : HO} {x : Cell} (h : CellAt W c o x) (n : x.isL = false) : ∀ od u, o ≠ .frz od u := by
  intro od u e
  subst e
  cases x with
  | lst ds => obtain ⟨xs, h1, h2⟩ := h; cases h1
  | dct ks ds => obtain ⟨xs, h1, h2⟩ := h; cases h1
  | lck ks ds => cases n
  | obj C ks ds => obtain ⟨g, dx, xs, h0, h1, h2⟩ := h; cases h1
theorem CellAt.noC {W : Wd} {c : Cf} {o : HO} {x : Cell} {a : Addr} (h : CellAt W c o x) : ∀ q, o ≠ LamX.CodeO a q := by
  intro q e
  unfold LamX.CodeO at e
  subst e
  cases x with
  | lst ds => obtain ⟨xs, h1, h2⟩ := h; cases h1
  | dct ks ds => obtain ⟨xs, h1, h2⟩ := h; cases h1
  | lck ks ds => obtain ⟨xs, od, h1, h2⟩ := h; cases h1
  | obj C ks ds => obtain ⟨g, dx, xs, h0, h1, h2⟩ := h; cases h1
theorem zji {W : Wd} {c : Cf} {n : Nat} {o : HO} {x y0 : Cell} (h : Ok W c) (hy0 : c.μ[n]? = some (some y0)) (ny0 : y0.isL = false) (hx : CellAt W c o x) (nx : x.isL = false := by rfl) : Ok W (c.put n o x) ∧ Step c (c.put n o x) := by
  have l : live c.μ n := ⟨y0, hy0⟩
  have gn : c.G (c.ι n) = none := (h.at' n y0 hy0).1
  refine ⟨⟨fun b u e => ?_, fun a u e => ⟨?_, (h.lk a u e).2⟩, fun m y e => ?_, fun a b la lb e => h.inj a b (zjr l la) (zjr l lb) e, fun m y e hy => ?_, h.tb.mono rfl (zfn fun q z => by
    obtain ⟨_, o', ho', hc'⟩ := h.at' n y0 hy0
    rw [ho'] at z
    exact hc'.noC q (Option.some.inj z)) (fun _ _ e => e) (zhr hx.noT) fun q _ ps e => by
    show upd c.H (c.ι n) o q.1 = some (.tbl ps)
    rw [upd_ne (fun z => ?_)]
    · exact e
    · obtain ⟨_, o', ho', hc'⟩ := h.at' n y0 hy0
      rw [z, ho'] at e
      exact hc'.noT ps (Option.some.inj e)⟩, ⟨(Grow.refl h.s).put (.inr (.inl ⟨n, l, rfl⟩)) gn hx.noT, by simp [Cf.put], fun _ _ => rfl, fun m _ k => zjr l k, fun m hm k => ?_, rfl, rfl⟩⟩
  · show upd c.H (c.ι n) o b = some u
    rw [upd_ne (ne_of_none e gn)]; exact h.s b u e
  · show upd c.H (c.ι n) o a = some u
    obtain ⟨h1, od, u', h2⟩ := h.lk a u e
    obtain ⟨_, o', ho', hc'⟩ := h.at' n y0 hy0
    have : a ≠ c.ι n := fun z => by
      rw [z, ho'] at h1
      exact hc'.noF ny0 od u' ((Option.some.inj h1).trans h2)
    rw [upd_ne this]; exact h1
  · show c.G (c.ι m) = none ∧ ∃ u, upd c.H (c.ι n) o (c.ι m) = some u ∧ _
    by_cases em : n = m
    · subst em
      have : x = y := by
        have e2 : (c.μ.set n (some x))[n]? = some (some y) := e
        rw [List.getElem?_set_self (zat l)] at e2
        exact Option.some.inj (Option.some.inj e2)
      subst this
      exact ⟨gn, o, upd_same, hx.mono zzt trivial⟩
    · have e2 : (c.μ.set n (some x))[m]? = some (some y) := e
      rw [List.getElem?_set_ne em] at e2
      obtain ⟨h1, u, h2, h3⟩ := h.at' m y e2
      refine ⟨h1, u, ?_, h3.mono zzt trivial⟩
      rw [upd_ne (fun z => em (h.inj m n ⟨y, e2⟩ l z).symm)]; exact h2
  · by_cases em : n = m
    · subst em
      have e2 : (c.μ.set n (some x))[n]? = some (some y) := e
      rw [List.getElem?_set_self (zat l)] at e2
      cases e2
      rw [nx] at hy; cases hy
    · have e2 : (c.μ.set n (some x))[m]? = some (some y) := e
      rw [List.getElem?_set_ne em] at e2
      exact h.lc m y e2 hy
  · have := zat k
    have e : (c.put n o x).μ.length = c.μ.length := by simp [Cf.put]
    rw [e] at this
    omega
def Cf.frz (c : Cf) (n : Nat) (o : HO) : Cf := ⟨c.ι, c.μ.set n none, upd c.G (c.ι n) o, c.H, c.L, c.T⟩
theorem zzu {W : Wd} {c : Cf} {n : Nat} {o : HO} (h : Ok W c) (l : live c.μ n) : Le c (c.frz n o) := by
  obtain ⟨y, hy⟩ := l
  exact ⟨same_new (h.at' n y hy).1, by simp [Cf.frz], fun _ _ => rfl⟩
theorem zgx {μ : Store} {n m : Nat} (h : live (μ.set n none) m) : live μ m ∧ n ≠ m := by
  obtain ⟨y, h⟩ := h
  by_cases e : n = m
  · subst e
    by_cases hn : n < μ.length
    · rw [List.getElem?_set_self hn] at h; cases h
    · rw [List.getElem?_eq_none (by simp; omega)] at h; cases h
  · rw [List.getElem?_set_ne e] at h; exact ⟨⟨y, h⟩, e⟩
theorem zaa8 {W : Wd} {c0 c : Cf} {n : Nat} {o : HO} (st : Step c0 c) (h : Ok W c) (l : live c.μ n) (hn : c0.μ.length ≤ n) (ho : c.H (c.ι n) = some o) : Ok W (c.frz n o) ∧ Step c0 (c.frz n o) := by
  have gn : c.G (c.ι n) = none := by
    obtain ⟨y, hy⟩ := l
    exact (h.at' n y hy).1
  have fr := st.fresh n hn l
  have noT : ∀ ps, o ≠ .tbl ps := by
    obtain ⟨y, hy⟩ := l
    obtain ⟨_, o', ho', hc'⟩ := h.at' n y hy
    rw [ho] at ho'
    cases ho'
    exact hc'.noT
  refine ⟨⟨fun b u e => ?_, h.lk, fun m y e => ?_, fun a b la lb e => h.inj a b (zgx la).1 (zgx lb).1 e, fun m y e hy => ?_, h.tb.mono rfl (fun _ _ e => e) (fun b ps e => ?_) (fun _ _ e => ⟨_, e⟩) fun _ _ _ e => e⟩, ⟨st.g.freeze fr gn ho noT, ?_, st.ag, fun m hm k => st.dead m hm (zgx k).1, fun m hm k => st.fresh m hm (zgx k).1, st.lk, st.tk⟩⟩
  · by_cases eb : b = c.ι n
    · subst eb
      have e' : upd c.G (c.ι n) o (c.ι n) = some u := e
      rw [upd_same] at e'
      rw [← e']; exact ho
    · have e' : upd c.G (c.ι n) o b = some u := e
      rw [upd_ne eb] at e'
      exact h.s b u e'
  · have k : live (c.μ.set n none) m := ⟨y, e⟩
    obtain ⟨k1, k2⟩ := zgx k
    have e2 : c.μ[m]? = some (some y) := by
      have e3 : (c.μ.set n none)[m]? = some (some y) := e
      rw [List.getElem?_set_ne k2] at e3
      exact e3
    obtain ⟨h1, u, h2, h3⟩ := h.at' m y e2
    refine ⟨?_, u, h2, h3.mono (zzu h l) trivial⟩
    show upd c.G (c.ι n) o (c.ι m) = none
    rw [upd_ne (fun z => k2 (h.inj m n k1 l z).symm)]; exact h1
  · obtain ⟨k1, k2⟩ := zgx ⟨y, e⟩
    have e3 : (c.μ.set n none)[m]? = some (some y) := e
    rw [List.getElem?_set_ne k2] at e3
    exact h.lc m y e3 hy
  · by_cases eb : b = c.ι n
    · subst eb
      have e' : upd c.G (c.ι n) o (c.ι n) = some (.tbl ps) := e
      rw [upd_same] at e'
      exact absurd (Option.some.inj e') (noT ps)
    · have e' : upd c.G (c.ι n) o b = some (.tbl ps) := e
      rw [upd_ne eb] at e'
      exact e'
  · simp [Cf.frz]; exact st.len
def ExcAt (W : Wd) (c : Cf) (u : Value) (o : Option Addr) (x : Exc) : Prop := ∃ g, W.cm x.C = some g ∧ u = .ref g ∧ ((o = none ∧ x.ks = [] ∧ x.ds = []) ∨ ∃ dx xs, o = some dx ∧ c.G dx = some (.xd (fsL x.ks xs)) ∧ x.ks.length = xs.length ∧ DpA W c xs x.ds)
def Wp {β α : Type} (W : Wd) (R : Cf → β → α → Prop) (r : Res α) (c : Cf) (Q : β → Hp → Prop) (E : XK) : Prop :=
  match r with
  | .ok d μ' => ∀ v c', c'.μ = μ' → Step c c' → Ok W c' → R c' v d → Q v c'.H
  | .exc x μ' => ∀ u o c', c'.μ = μ' → Step c c' → Ok W c' → ExcAt W c' u o x → E u o c'.H
  | .bad => False
def Res.bind {α β : Type} (r : Res α) (f : α → Store → Res β) : Res β :=
  match r with
  | .ok a μ => f a μ
  | .exc x μ => .exc x μ
  | .bad => .bad
theorem Wp.from {β α : Type} {W : Wd} {R : Cf → β → α → Prop} {r : Res α} {c c1 : Cf} {Q : β → Hp → Prop} {E : XK} (h : Wp W R r c Q E) (s : Step c c1) : Wp W R r c1 Q E := by
  cases r with
  | ok d μ => exact fun v c' e st => h v c' e (s.trans st)
  | exc x μ => exact fun u o c' e st => h u o c' e (s.trans st)
  | bad => exact h
theorem wp_bind {β β' α α' : Type} {W : Wd} {R : Cf → β → α → Prop} {R' : Cf → β' → α' → Prop} {r : Res α} {f : α → Store → Res α'} {c : Cf} {Q : β' → Hp → Prop} {Q1 : β → Hp → Prop} {E : XK} (h : Wp W R' (r.bind f) c Q E)
    (k : ∀ v d c1, Step c c1 → Ok W c1 → R c1 v d → Wp W R' (f d c1.μ) c1 Q E → Q1 v c1.H) : Wp W R r c Q1 E := by
  cases r with
  | ok d μ => exact fun v c' e st ok r => k v d c' st ok r (by rw [e]; exact h.from st)
  | exc x μ => exact h
  | bad => exact h
theorem zaj {β α : Type} {W : Wd} {R : Cf → β → α → Prop} {a : α} {v : β} {c : Cf} {Q : β → Hp → Prop} {E : XK} (h : Wp W R (.ok a c.μ) c Q E) (ok : Ok W c) (r : R c v a) : Q v c.H := h v c rfl (.refl ok) ok r
end Mi
namespace Mi
open PySem PySem.Spec L2
mutual
def D.pdW (f : Nat → Option PyData) : D → Option PyData
  | .non => some .none
  | .bl b => some (.bool b)
  | .int i => some (.int i)
  | .str s => some (.str s)
  | .lst ds => (pdsW f ds).map .list
  | .tup ds => (pdsW f ds).map .tuple
  | .dct ks ds => (pdsW f ds).map fun ps => .dict (Cs.dctD ks ps)
  | .own n => f n
  | _ => none
def pdsW (f : Nat → Option PyData) : List D → Option (List PyData)
  | [] => some []
  | d :: ds => match d.pdW f, pdsW f ds with
    | some p, some ps => some (p :: ps)
    | _, _ => none
end
def cellV (f : Nat → Option PyData) : Cell → Option PyData
  | .lst ds => (pdsW f ds).map .list
  | .dct ks ds => (pdsW f ds).map fun ps => .dict (Cs.dctD ks ps)
  | .lck ks ds => (pdsW f ds).map fun ps => .dict (Cs.dctD ks ps)
  | .obj .. => none
def vf : Nat → Store → Nat → Option PyData
  | 0, _, _ => none
  | k + 1, μ, n => match μ[n]? with
    | some (some x) => cellV (vf k μ) x
    | _ => none
def D.view (μ : Store) (d : D) : Option PyData := d.pdW (vf 4 μ)
section
variable {W : Wd} {c : Cf}
mutual
theorem zaae {f : Nat → Option PyData} (s : Same c.G c.H) (hf : ∀ n p, n < c.μ.length → f n = some p → Cs.Dp W.K c.H (.ref (c.ι n)) p) : ∀ {d : D} {v : V} {p : PyData}, Dp W c v d → d.pdW f = some p → Cs.Dp W.K c.H v p
  | _, _, _, .non, e => by cases Option.some.inj e; exact .non
  | _, _, _, .bl b, e => by cases Option.some.inj e; exact .bl b
  | _, _, _, .int i, e => by cases Option.some.inj e; exact .int i
  | _, _, _, .str i, e => by cases Option.some.inj e; exact .str i
  | _, _, _, .ty n, e => by cases e
  | .lst ds, _, p, .lst hs ha, e => by
    unfold D.pdW at e
    cases q : pdsW f ds with
    | none => rw [q] at e; cases e
    | some ps =>
      rw [q] at e
      cases Option.some.inj e
      exact .lst (s.seq hs) (zhy s hf ha q)
  | .tup ds, _, p, .tup hs ha, e => by
    unfold D.pdW at e
    cases q : pdsW f ds with
    | none => rw [q] at e; cases e
    | some ps =>
      rw [q] at e
      cases Option.some.inj e
      exact .tup (Cs.zby s hs) (zhy s hf ha q)
  | .dct ks ds, _, p, .dct hr hl hn ha, e => by
    unfold D.pdW at e
    cases q : pdsW f ds with
    | none => rw [q] at e; cases e
    | some ps =>
      rw [q] at e
      cases Option.some.inj e
      exact .dct (Cs.zi6 s hr) hl hn (zhy s hf ha q)
  | _, _, _, .obj .., e => by cases e
  | _, _, _, .exc .., e => by cases e
  | _, _, _, .cls .., e => by cases e
  | _, _, _, .own hn, e => hf _ _ hn e
theorem zhy {f : Nat → Option PyData} (s : Same c.G c.H) (hf : ∀ n p, n < c.μ.length → f n = some p → Cs.Dp W.K c.H (.ref (c.ι n)) p) : ∀ {ds : List D} {vs : List V} {ps : List PyData}, DpA W c vs ds → pdsW f ds = some ps → Cs.DpAll W.K c.H vs ps
  | _, _, _, .nil, e => by cases Option.some.inj e; exact .nil
  | d :: ds, _, _, .cons h t, e => by
    unfold pdsW at e
    split at e
    · rename_i p ps h1 h2
      cases Option.some.inj e
      exact .cons (zaae s hf h h1) (zhy s hf t h2)
    · cases e
end
theorem vf_ok (ok : Ok W c) : ∀ k n p, n < c.μ.length → vf k c.μ n = some p → Cs.Dp W.K c.H (.ref (c.ι n)) p
  | 0, _, _, _, e => by cases e
  | k + 1, n, p, hn, e => by
    unfold vf at e
    split at e
    · rename_i x hx
      obtain ⟨_, o, ho, hc⟩ := ok.at' n x hx
      cases x with
      | lst ds =>
        obtain ⟨xs, rfl, ha⟩ := hc
        unfold cellV at e
        dsimp only at e
        cases q : pdsW (vf k c.μ) ds with
        | none => rw [q] at e; cases e
        | some ps =>
          rw [q] at e
          cases Option.some.inj e
          exact .lst (.inl (.inl ho)) (zhy ok.s (vf_ok ok k) ha q)
      | dct ks ds =>
        obtain ⟨xs, rfl, hl, hnd, ha⟩ := hc
        unfold cellV at e
        dsimp only at e
        cases q : pdsW (vf k c.μ) ds with
        | none => rw [q] at e; cases e
        | some ps =>
          rw [q] at e
          cases Option.some.inj e
          exact .dct (.inl ho) hl hnd (zhy ok.s (vf_ok ok k) ha q)
      | lck ks ds =>
        obtain ⟨xs, od, rfl, hl, hnd, ha⟩ := hc
        unfold cellV at e
        dsimp only at e
        cases q : pdsW (vf k c.μ) ds with
        | none => rw [q] at e; cases e
        | some ps =>
          rw [q] at e
          cases Option.some.inj e
          exact .dct (.inr ⟨od, ho⟩) hl hnd (zhy ok.s (vf_ok ok k) ha q)
      | obj C ks ds => cases e
    · cases e
theorem zln (ok : Ok W c) {d : D} {v : V} {p : PyData} (h : Dp W c v d) (e : d.view c.μ = some p) : Cs.Dp W.K c.H v p := zaae ok.s (vf_ok ok 4) h e
def seqL (μ : Store) : D → Option (List D)
  | .lst ds => some ds
  | .own n => match μ[n]? with
    | some (some (.lst ds)) => some ds
    | _ => none
  | _ => none
def seqT : D → Option (List D)
  | .tup ds => some ds
  | _ => none
def dctOf (μ : Store) : D → Option (List Key × List D)
  | .dct ks ds => some (ks, ds)
  | .own n => match μ[n]? with
    | some (some (.dct ks ds)) => some (ks, ds)
    | some (some (.lck ks ds)) => some (ks, ds)
    | _ => none
  | _ => none
def objOf (μ : Store) : D → Option (String × List Str × List D)
  | .obj C ks ds => some (C, ks, ds)
  | .own n => match μ[n]? with
    | some (some (.obj C ks ds)) => some (C, ks, ds)
    | _ => none
  | _ => none
theorem zcu (ok : Ok W c) {d : D} {v : V} {ds : List D} (h : Dp W c v d) (e : seqL c.μ d = some ds) : ∃ a xs, v = .ref a ∧ SqL W.K c.H a xs ∧ DpA W c xs ds := by
  cases h with
  | lst hs ha =>
    cases Option.some.inj e
    exact ⟨_, _, rfl, ok.s.seq hs, ha⟩
  | own hn =>
    unfold seqL at e
    dsimp only at e
    split at e
    · rename_i x hx
      cases Option.some.inj e
      obtain ⟨_, o, ho, xs, rfl, ha⟩ := ok.at' _ _ hx
      exact ⟨_, xs, rfl, .inl (.inl ho), ha⟩
    · cases e
  | _ => cases e
theorem zn3 (ok : Ok W c) {d : D} {v : V} {ds : List D} (h : Dp W c v d) (e : seqT d = some ds) : ∃ a xs, v = .ref a ∧ SqT W.K c.H a xs ∧ DpA W c xs ds := by
  cases h with
  | tup hs ha =>
    cases Option.some.inj e
    exact ⟨_, _, rfl, Cs.zby ok.s hs, ha⟩
  | _ => cases e
theorem zns (ok : Ok W c) {d : D} {v : V} {ks : List Key} {ds : List D} (h : Dp W c v d) (e : dctOf c.μ d = some (ks, ds)) : ∃ a xs, v = .ref a ∧ Rd c.H a (.dK (Cs.kvL ks xs)) ∧ ks.length = xs.length ∧ ks.Nodup ∧ DpA W c xs ds := by
  cases h with
  | dct hr hl hn ha =>
    cases Option.some.inj e
    exact ⟨_, _, rfl, Cs.zi6 ok.s hr, hl, hn, ha⟩
  | own hn =>
    unfold dctOf at e
    dsimp only at e
    split at e
    · rename_i x hx
      cases Option.some.inj e
      obtain ⟨_, o, ho, xs, rfl, hl, hnd, ha⟩ := ok.at' _ _ hx
      exact ⟨_, xs, rfl, .inl ho, hl, hnd, ha⟩
    · rename_i x hx
      cases Option.some.inj e
      obtain ⟨_, o, ho, xs, od, rfl, hl, hnd, ha⟩ := ok.at' _ _ hx
      exact ⟨_, xs, rfl, .inr ⟨od, ho⟩, hl, hnd, ha⟩
    · cases e
  | _ => cases e
theorem zy1 (ok : Ok W c) {d : D} {v : V} {C : String} {ks : List Str} {ds : List D} (h : Dp W c v d) (e : objOf c.μ d = some (C, ks, ds)) : ∃ a g dx xs, v = .ref a ∧ W.cm C = some g ∧ c.H a = some (.ins g dx (fsL ks xs)) ∧ ks.length = xs.length ∧ DpA W c xs ds := by
  cases h with
  | obj hc hg hl ha =>
    cases Option.some.inj e
    exact ⟨_, _, _, _, rfl, hc, ok.s _ _ hg, hl, ha⟩
  | own hn =>
    unfold objOf at e
    dsimp only at e
    split at e
    · rename_i x hx
      cases Option.some.inj e
      obtain ⟨_, o, ho, g, dx, xs, hc, rfl, hl, ha⟩ := ok.at' _ _ hx
      exact ⟨_, g, dx, xs, rfl, hc, ho, hl, ha⟩
    · cases e
  | _ => cases e
def newL (b : Bool) (ds : List D) (μ : Store) : Res D := if b = true then .ok (.own μ.length) (μ ++ [some (.lst ds)]) else .ok (.lst ds) μ
def newK (b : Bool) (ks : List Key) (ds : List D) (μ : Store) : Res D := if b = true then .ok (.own μ.length) (μ ++ [some (.dct ks ds)]) else .ok (.dct ks ds) μ
variable {Q : VK} {E : XK}
theorem zq0 {p : Addr} {o : HO} {x : Cell} : Dp W (c.add p o x) (.ref p) (.own c.μ.length) := by
  have e : (c.add p o x).ι c.μ.length = p := by simp [Cf.add]
  have := Dp.own (W := W) (c := c.add p o x) (n := c.μ.length) (by simp [Cf.add])
  rw [e] at this; exact this
theorem zfe {b : Bool} {ds : List D} {xs : List V} {p : Addr} (h : Wp W (Dp W) (newL b ds c.μ) c Q E) (ok : Ok W c) (ha : DpA W c xs ds) (hp : c.H p = none) : Q (.ref p) (upd c.H p (.lst xs)) := by
  cases b with
  | true =>
    obtain ⟨h1, h2⟩ := zop (x := .lst ds) ok hp ⟨xs, rfl, ha⟩
    exact h (.ref p) _ rfl h2 h1 zq0
  | false =>
    obtain ⟨h1, h2⟩ := zd4 (o := .lst xs) ok hp
    exact h (.ref p) (c.to (upd c.G p (.lst xs)) (upd c.H p (.lst xs))) rfl h2 h1 (.lst (.inl (.inl upd_same)) (zaq h2.le ha))
theorem zu7 {b : Bool} {ks : List Key} {ds : List D} {xs : List V} {p : Addr} (h : Wp W (Dp W) (newK b ks ds c.μ) c Q E) (ok : Ok W c) (ha : DpA W c xs ds) (hl : ks.length = xs.length) (hn : ks.Nodup) (hp : c.H p = none) : Q (.ref p) (upd c.H p (.dK (Cs.kvL ks xs))) := by
  cases b with
  | true =>
    obtain ⟨h1, h2⟩ := zop (x := .dct ks ds) ok hp ⟨xs, rfl, hl, hn, ha⟩
    exact h (.ref p) _ rfl h2 h1 zq0
  | false =>
    obtain ⟨h1, h2⟩ := zd4 (o := .dK (Cs.kvL ks xs)) ok hp
    exact h (.ref p) (c.to (upd c.G p (.dK (Cs.kvL ks xs))) (upd c.H p (.dK (Cs.kvL ks xs)))) rfl h2 h1 (.dct (.inl upd_same) hl hn (zaq h2.le ha))
theorem zi5 {ds : List D} {xs : List V} {p : Addr} (h : Wp W (Dp W) (.ok (.tup ds) c.μ) c Q E) (ok : Ok W c) (ha : DpA W c xs ds) (hp : c.H p = none) : Q (.ref p) (upd c.H p (.tup xs)) := by
  obtain ⟨h1, h2⟩ := zd4 (o := .tup xs) ok hp
  exact h (.ref p) (c.to (upd c.G p (.tup xs)) (upd c.H p (.tup xs))) rfl h2 h1 (.tup (.inl (.inl upd_same)) (zaq h2.le ha))
end
def EnvR (W : Wd) (c : Cf) (σ : L2.St) (ρ : Env) : Prop := σ.length = ρ.length ∧ ∀ (i : Nat) (d : D), ρ[i]? = some (some d) → ∃ v, σ[i]? = some (some v) ∧ Dp W c v d
theorem EnvR.mono {W : Wd} {c c' : Cf} {σ : L2.St} {ρ : Env} (e : Le c c') (h : EnvR W c σ ρ) : EnvR W c' σ ρ := ⟨h.1, fun i d q => by
  obtain ⟨v, h1, h2⟩ := h.2 i d q
  exact ⟨v, h1, zay e h2⟩⟩
theorem EnvR.set {W : Wd} {c : Cf} {σ : L2.St} {ρ : Env} {v : V} {d : D} (i : Nat) (h : EnvR W c σ ρ) (r : Dp W c v d) : EnvR W c (σ.set i (some v)) (ρ.set i (some d)) := by
  refine ⟨by rw [List.length_set, List.length_set]; exact h.1, fun j e q => ?_⟩
  by_cases hj : i = j
  · subst hj
    have hl : i < ρ.length := by
      have := (List.getElem?_eq_some_iff.mp q).1
      rwa [List.length_set] at this
    rw [List.getElem?_set_self hl] at q
    cases Option.some.inj (Option.some.inj q)
    exact ⟨v, List.getElem?_set_self (by rw [h.1]; exact hl), r⟩
  · rw [List.getElem?_set_ne hj] at q
    obtain ⟨u, h1, h2⟩ := h.2 j e q
    exact ⟨u, by rw [List.getElem?_set_ne hj]; exact h1, h2⟩
theorem EnvR.unset {W : Wd} {c : Cf} {σ : L2.St} {ρ : Env} (i : Nat) (h : EnvR W c σ ρ) : EnvR W c (σ.set i none) (ρ.set i none) := by
  refine ⟨by rw [List.length_set, List.length_set]; exact h.1, fun j e q => ?_⟩
  by_cases hj : i = j
  · subst hj
    have hl : i < ρ.length := by
      have := (List.getElem?_eq_some_iff.mp q).1
      rwa [List.length_set] at this
    rw [List.getElem?_set_self hl] at q
    cases Option.some.inj q
  · rw [List.getElem?_set_ne hj] at q
    obtain ⟨u, h1, h2⟩ := h.2 j e q
    exact ⟨u, by rw [List.getElem?_set_ne hj]; exact h1, h2⟩
def wipeD (ρ : Env) : List Nat → Env
  | [] => ρ
  | v :: vs => (wipeD ρ vs).set v none
theorem EnvR.wipe {W : Wd} {c : Cf} {σ : L2.St} {ρ : Env} (h : EnvR W c σ ρ) : ∀ vs : List Nat, EnvR W c (L2.wipe σ vs) (wipeD ρ vs)
  | [] => h
  | v :: vs => (EnvR.wipe h vs).unset v
def zao (n : Nat) (ds : List D) : Env := ds.map some ++ List.replicate (n - ds.length) none
theorem EnvR.start {W : Wd} {c : Cf} {N : List Str} {vs : List V} {ds : List D} (h : DpA W c vs ds) : EnvR W c (L2.start N vs) (zao N.length ds) := by
  have hl := zan h
  refine ⟨by simp [L2.start, zao, hl], fun i d q => ?_⟩
  unfold zao at q
  by_cases hi : i < ds.length
  · rw [List.getElem?_append_left (by simpa using hi), List.getElem?_map] at q
    cases e : ds[i]? with
    | none => rw [e] at q; cases q
    | some d' =>
      rw [e] at q
      cases Option.some.inj (Option.some.inj q)
      obtain ⟨v, h1, h2⟩ := zhz h e
      refine ⟨v, ?_, h2⟩
      unfold L2.start
      rw [List.getElem?_append_left (by simp; omega), List.getElem?_map, h1]; rfl
  · rw [List.getElem?_append_right (by simp; omega)] at q
    rw [List.getElem?_replicate] at q
    split at q
    · cases Option.some.inj q
    · cases q
section
variable (W : Wd) (E : XK)
def tE (m : ME) : TE := fun σ H Q => ∃ ρ c, c.H = H ∧ Ok W c ∧ EnvR W c σ ρ ∧ Wp W (Dp W) (m ρ c.μ) c Q E
def tT (m : MT) : TT := fun σ H Q => ∃ ρ c, c.H = H ∧ Ok W c ∧ EnvR W c σ ρ ∧ Wp W (fun _ (b d : Bool) => b = d) (m ρ c.μ) c Q E
def tA (m : MA) : TA := fun σ H Q => ∃ ρ c, c.H = H ∧ Ok W c ∧ EnvR W c σ ρ ∧ Wp W (DpA W) (m ρ c.μ) c Q E
end
section
variable {W : Wd} {E : XK} {X : Cx} {e : Expr} {es : List Expr}
theorem zav {t t' : TE} (h : PE X e t) (f : ∀ σ H Q, t' σ H Q → t σ H Q) : PE X e t' := ⟨fun pins s σ H Q I q => h.run pins s σ H Q I (f _ _ _ q)⟩
theorem zqx {t t' : TT} (h : PT X e t) (f : ∀ σ H Q, t' σ H Q → t σ H Q) : PT X e t' := ⟨fun pins s σ H Q I q => h.run pins s σ H Q I (f _ _ _ q)⟩
theorem zvj {t t' : TT} (h : PW X e t) (f : ∀ σ H Q, t' σ H Q → t σ H Q) : PW X e t' := ⟨fun wh pins s σ H Q I q => h.run wh pins s σ H Q I (f _ _ _ q)⟩
theorem zvo {t t' : TA} (h : PA X es t) (f : ∀ σ H Q, t' σ H Q → t σ H Q) : PA X es t' := ⟨fun p pins s σ H Q I q => h.run p pins s σ H Q I (f _ _ _ q)⟩
def mVar (i : Nat) : ME := fun ρ μ => match ρ[i]? with
  | some (some d) => .ok d μ
  | _ => .bad
theorem zab {i : Nat} (h : PE X e (tVar i)) : PE X e (tE W E (mVar i)) := zav h fun σ H Q ⟨ρ, c, hH, ok, env, w⟩ => by
  subst hH
  unfold mVar at w
  split at w
  · rename_i d hd
    obtain ⟨v, h1, h2⟩ := env.2 i d hd
    exact ⟨v, h1, zaj w ok h2⟩
  · exact w.elim
def mC (d : D) : ME := fun _ μ => .ok d μ
theorem me_c {v : V} {d : D} (h : PE X e (tC v)) (hd : ∀ c, Dp W c v d) : PE X e (tE W E (mC d)) := zav h fun σ H Q ⟨ρ, c, hH, ok, env, w⟩ => by
  subst hH
  exact zaj w ok (hd c)
theorem zk9 (h : PE X e (tC .non)) : PE X e (tE W E (mC .non)) := me_c h fun _ => .non
theorem me_bl {b : Bool} (h : PE X e (tC (.bl b))) : PE X e (tE W E (mC (.bl b))) := me_c h fun _ => .bl b
theorem zad {i : Int} (h : PE X e (tC (.int i))) : PE X e (tE W E (mC (.int i))) := me_c h fun _ => .int i
theorem zak {x : Str} (h : PE X e (tC (.str x))) : PE X e (tE W E (mC (.str x))) := me_c h fun _ => .str x
def OpM (W : Wd) (E : XK) (r : R2) (f : D → D → Store → Res D) : Prop := ∀ c x y v u Q, Ok W c → Dp W c v x → Dp W c u y → Wp W (Dp W) (f x y c.μ) c Q E → r v u c.H Q
def mOp (f : D → D → Store → Res D) (a b : ME) : ME := fun ρ μ => (a ρ μ).bind fun x μ => (b ρ μ).bind fun y μ => f x y μ
theorem te_op {r : R2} {f : D → D → Store → Res D} {a b : ME} {σ : L2.St} {H : Hp} {Q : VK} (hf : OpM W E r f) (h : tE W E (mOp f a b) σ H Q) : tOp r (tE W E a) (tE W E b) σ H Q := by
  obtain ⟨ρ, c, hH, ok, env, w⟩ := h
  exact ⟨ρ, c, hH, ok, env, wp_bind w fun v x c1 s1 ok1 r1 w1 => ⟨ρ, c1, rfl, ok1, env.mono s1.le, wp_bind w1 fun u y c2 s2 ok2 r2 w2 => hf c2 x y v u Q ok2 (zay s2.le r1) r2 w2⟩⟩
theorem me_op {r : R2} {f : D → D → Store → Res D} {a b : ME} (hf : OpM W E r f) (h : PE X e (tOp r (tE W E a) (tE W E b))) : PE X e (tE W E (mOp f a b)) := zav h fun _ _ _ => te_op hf
def mUn (f : D → Store → Res D) (a : ME) : ME := fun ρ μ => (a ρ μ).bind f
def CbM (W : Wd) (E : XK) (r : List V → Hp → VK → Prop) (f : List D → Store → Res D) : Prop := ∀ c xs vs Q, Ok W c → DpA W c vs xs → Wp W (Dp W) (f xs c.μ) c Q E → r vs c.H Q
def mCb (f : List D → Store → Res D) (a : MA) : ME := fun ρ μ => (a ρ μ).bind f
theorem me_cb {r : List V → Hp → VK → Prop} {f : List D → Store → Res D} {a : MA} (hf : CbM W E r f) (h : PE X e (tCB r (tA W E a))) : PE X e (tE W E (mCb f a)) := zav h fun σ H Q ⟨ρ, c, hH, ok, env, w⟩ =>
  ⟨ρ, c, hH, ok, env, wp_bind w fun v x c1 s1 ok1 r1 w1 => hf c1 x v Q ok1 r1 w1⟩
def zeg (f g : D → D → Store → Res D) (a b d : ME) : ME := fun ρ μ => (a ρ μ).bind fun x μ => (b ρ μ).bind fun y μ => (f x y μ).bind fun z μ => match z with
  | .bl true => (d ρ μ).bind fun w μ => g y w μ
  | .bl false => .ok (.bl false) μ
  | _ => .bad
theorem zaay {f g : D → D → Store → Res D} {d : ME} {ρ : Env} {σ : L2.St} {c c2 : Cf} {x y : D} {u : V} {r' : R2} {Q : VK} (w2 : Wp W (Dp W) ((f x y c2.μ).bind fun z μ => match z with
  | .bl true => (d ρ μ).bind fun w μ => g y w μ
  | .bl false => .ok (.bl false) μ
  | _ => .bad) c2 Q E) (env : EnvR W c σ ρ) (s : Step c c2) (r2 : Dp W c2 u y) (hg : OpM W E r' g) : Wp W (Dp W) (f x y c2.μ) c2 (fun z H3 => ∃ k, z = .bl k ∧ (if k = true then tE W E d σ H3 fun w' H4 => r' u w' H4 Q else Q (.bl false) H3)) E :=
    wp_bind w2 fun z dz c3 s3 ok3 r3 w3 => by
      cases r3 with
      | bl b =>
        refine ⟨b, rfl, ?_⟩
        cases b with
        | true =>
          rw [if_pos rfl]
          exact ⟨ρ, c3, rfl, ok3, env.mono (s.le.trans s3.le), wp_bind w3 fun t dt c4 s4 ok4 r4 w4 => hg c4 y dt u t Q ok4 (zay (s3.le.trans s4.le) r2) r4 w4⟩
        | false =>
          rw [if_neg Bool.false_ne_true]
          exact zaj w3 ok3 (.bl false)
      | _ => exact w3.elim
theorem zaa6 {r r' : R2} {f g : D → D → Store → Res D} {a b d : ME} {σ : L2.St} {H : Hp} {Q : VK} (hf : OpM W E r f) (hg : OpM W E r' g) (h : tE W E (zeg f g a b d) σ H Q) : tChain r r' (tE W E a) (tE W E b) (tE W E d) σ H Q := by
  obtain ⟨ρ, c, hH, ok, env, w⟩ := h
  exact ⟨ρ, c, hH, ok, env, wp_bind w fun v x c1 s1 ok1 r1 w1 => ⟨ρ, c1, rfl, ok1, env.mono s1.le, wp_bind w1 fun u y c2 s2 ok2 r2 w2 => hf c2 x y v u _ ok2 (zay s2.le r1) r2 (zaay w2 env (s1.trans s2) r2 hg)⟩⟩
theorem zov {r r' : R2} {f g : D → D → Store → Res D} {a b d : ME} (hf : OpM W E r f) (hg : OpM W E r' g) (h : PE X e (tChain r r' (tE W E a) (tE W E b) (tE W E d))) : PE X e (tE W E (zeg f g a b d)) := zav h fun _ _ _ => zaa6 hf hg
def mAndV (a b : ME) : ME := fun ρ μ => (a ρ μ).bind fun x μ => match x with
  | .bl true => b ρ μ
  | .bl false => .ok (.bl false) μ
  | _ => .bad
def mOrV (a b : ME) : ME := fun ρ μ => (a ρ μ).bind fun x μ => match x with
  | .bl false => b ρ μ
  | .bl true => .ok (.bl true) μ
  | _ => .bad
def mNotV (a : ME) : ME := fun ρ μ => (a ρ μ).bind fun x μ => match x with
  | .bl k => .ok (.bl (!k)) μ
  | _ => .bad
theorem zgd {a b : ME} (h : PE X e (tAndV (tE W E a) (tE W E b))) : PE X e (tE W E (mAndV a b)) := zav h fun σ H Q ⟨ρ, c, hH, ok, env, w⟩ =>
  ⟨ρ, c, hH, ok, env, wp_bind w fun v x c1 s1 ok1 r1 w1 => by
    cases r1 with
    | bl k =>
      refine ⟨k, rfl, ?_⟩
      cases k with
      | true => rw [if_pos rfl]; exact ⟨ρ, c1, rfl, ok1, env.mono s1.le, w1⟩
      | false => rw [if_neg Bool.false_ne_true]; exact zaj w1 ok1 (.bl false)
    | _ => exact w1.elim⟩
theorem zae6 {a : ME} (h : PE X e (tNotV (tE W E a))) : PE X e (tE W E (mNotV a)) := zav h fun σ H Q ⟨ρ, c, hH, ok, env, w⟩ =>
  ⟨ρ, c, hH, ok, env, wp_bind w fun v x c1 s1 ok1 r1 w1 => by
    cases r1 with
    | bl k => exact ⟨k, rfl, zaj w1 ok1 (.bl _)⟩
    | _ => exact w1.elim⟩
def truD (μ : Store) : D → Option Bool
  | .non => some false
  | .bl b => some b
  | .int i => some (i != 0)
  | .str x => if x.length ≤ sizeLine then some ((x.length : Int) != 0) else none
  | .lst ds => some (!ds.isEmpty)
  | .tup ds => some (!ds.isEmpty)
  | .own n => match μ[n]? with
    | some (some (.lst ds)) => some (!ds.isEmpty)
    | some (some (.dct ks _)) => some (!ks.isEmpty)
    | _ => none
  | _ => none
theorem zh7 {α β : Type} {xs : List α} {ys : List β} (h : xs.length = ys.length) : xs.isEmpty = ys.isEmpty := by
  cases xs <;> cases ys <;> simp_all
theorem zdh {ks : List Key} {xs : List V} (h : ks.length = xs.length) : (Cs.kvL ks xs).length = ks.length := by simp [Cs.kvL, h]
theorem zx7 {c : Cf} {v : V} {d : D} {k : Bool} (ok : Ok W c) (h : Dp W c v d) (e : truD c.μ d = some k) : TruV W.K v c.H k := by
  cases h with
  | non => cases Option.some.inj e; rfl
  | bl b => cases Option.some.inj e; rfl
  | int i => cases Option.some.inj e; rfl
  | str x =>
    unfold truD at e
    dsimp only at e
    split at e
    · rename_i hx
      cases Option.some.inj e
      exact ⟨hx, rfl⟩
    · cases e
  | lst hs ha => cases Option.some.inj e; exact .inl ⟨_, ok.s.seq hs, by rw [zh7 (zan ha)]⟩
  | tup hs ha => cases Option.some.inj e; exact .inr (.inl ⟨_, Cs.zby ok.s hs, by rw [zh7 (zan ha)]⟩)
  | own hn =>
    unfold truD at e
    dsimp only at e
    split at e
    · rename_i ds hx
      cases Option.some.inj e
      obtain ⟨_, o, ho, xs, rfl, ha⟩ := ok.at' _ _ hx
      exact .inl ⟨xs, .inl (.inl ho), by rw [zh7 (zan ha)]⟩
    · rename_i ks ds hx
      cases Option.some.inj e
      obtain ⟨_, o, ho, xs, rfl, hl, _, ha⟩ := ok.at' _ _ hx
      exact .inr (.inr ⟨_, ho, by rw [zh7 (zdh hl)]⟩)
    · cases e
  | _ => cases e
def mOrT (a b : ME) : ME := fun ρ μ => (a ρ μ).bind fun x μ => match truD μ x with
  | some false => b ρ μ
  | some true => .ok x μ
  | none => .bad
theorem zae5 {a b : ME} (h : PE X e (tOrT W.K (tE W E a) (tE W E b))) : PE X e (tE W E (mOrT a b)) := zav h fun σ H Q ⟨ρ, c, hH, ok, env, w⟩ =>
  ⟨ρ, c, hH, ok, env, wp_bind w fun v x c1 s1 ok1 r1 w1 => by
    split at w1
    · rename_i e; exact ⟨false, zx7 ok1 r1 e, by rw [if_neg Bool.false_ne_true]; exact ⟨ρ, c1, rfl, ok1, env.mono s1.le, w1⟩⟩
    · rename_i e; exact ⟨true, zx7 ok1 r1 e, by rw [if_pos rfl]; exact zaj w1 ok1 r1⟩
    · exact w1.elim⟩
def mB (a : ME) : MT := fun ρ μ => (a ρ μ).bind fun x μ => match x with
  | .bl k => .ok k μ
  | _ => .bad
def mTru (a : ME) : MT := fun ρ μ => (a ρ μ).bind fun x μ => match truD μ x with
  | some k => .ok k μ
  | none => .bad
theorem tb_of {a : ME} {σ : L2.St} {H : Hp} {Q : Bool → Hp → Prop} (h : tT W E (mB a) σ H Q) : tE W E a σ H fun x H1 => ∃ k, x = .bl k ∧ Q k H1 := by
  obtain ⟨ρ, c, hH, ok, env, w⟩ := h
  refine ⟨ρ, c, hH, ok, env, wp_bind w fun v x c1 s1 ok1 r1 w1 => ?_⟩
  cases r1 with
  | bl k => exact ⟨k, rfl, zaj w1 ok1 rfl⟩
  | _ => exact w1.elim
theorem zcm {a : ME} (h : PT X e (tB (tE W E a))) : PT X e (tT W E (mB a)) := zqx h fun _ _ _ => tb_of
theorem zap {r : R2} {f : D → D → Store → Res D} {a b : ME} (hf : OpM W E r f) (h : PT X e (tTest (tOp r (tE W E a) (tE W E b)))) : PT X e (tT W E (mB (mOp f a b))) := zqx h fun _ _ _ q => te_op hf (tb_of q)
def mAnd (a b : MT) : MT := fun ρ μ => (a ρ μ).bind fun x μ => if x = true then b ρ μ else .ok false μ
def mOr (a b : MT) : MT := fun ρ μ => (a ρ μ).bind fun x μ => if x = true then .ok true μ else b ρ μ
def mNot (a : MT) : MT := fun ρ μ => (a ρ μ).bind fun x μ => .ok (!x) μ
theorem zaeg {a b : MT} {σ : L2.St} {H : Hp} {Q : Bool → Hp → Prop} (h : tT W E (mAnd a b) σ H Q) : L2.tAnd (tT W E a) (tT W E b) σ H Q := by
  obtain ⟨ρ, c, hH, ok, env, w⟩ := h
  refine ⟨ρ, c, hH, ok, env, wp_bind w fun v x c1 s1 ok1 r1 w1 => ?_⟩
  subst r1
  cases v with
  | true => rw [if_pos rfl] at w1 ⊢; exact ⟨ρ, c1, rfl, ok1, env.mono s1.le, w1⟩
  | false => rw [if_neg Bool.false_ne_true] at w1 ⊢; exact zaj w1 ok1 rfl
theorem tt_or {a b : MT} {σ : L2.St} {H : Hp} {Q : Bool → Hp → Prop} (h : tT W E (mOr a b) σ H Q) : L2.tOr (tT W E a) (tT W E b) σ H Q := by
  obtain ⟨ρ, c, hH, ok, env, w⟩ := h
  refine ⟨ρ, c, hH, ok, env, wp_bind w fun v x c1 s1 ok1 r1 w1 => ?_⟩
  subst r1
  cases v with
  | false => rw [if_neg Bool.false_ne_true] at w1 ⊢; exact ⟨ρ, c1, rfl, ok1, env.mono s1.le, w1⟩
  | true => rw [if_pos rfl] at w1 ⊢; exact zaj w1 ok1 rfl
theorem zdo {a b : MT} (h : PW X e (L2.tAnd (tT W E a) (tT W E b))) : PW X e (tT W E (mAnd a b)) := zvj h fun _ _ _ => zaeg
theorem mw_or {a b : MT} (h : PW X e (L2.tOr (tT W E a) (tT W E b))) : PW X e (tT W E (mOr a b)) := zvj h fun _ _ _ => tt_or
theorem zga {a : MT} (h : PT X e (L2.tNot (tT W E a))) : PT X e (tT W E (mNot a)) := zqx h fun σ H Q ⟨ρ, c, hH, ok, env, w⟩ =>
  ⟨ρ, c, hH, ok, env, wp_bind w fun v x c1 s1 ok1 r1 w1 => by
    subst r1
    exact zaj w1 ok1 rfl⟩
def mIf (t : MT) (a b : ME) : ME := fun ρ μ => (t ρ μ).bind fun x μ => if x = true then a ρ μ else b ρ μ
theorem me_if {t : MT} {a b : ME} (h : PE X e (tIf (tT W E t) (tE W E a) (tE W E b))) : PE X e (tE W E (mIf t a b)) := zav h fun σ H Q ⟨ρ, c, hH, ok, env, w⟩ =>
  ⟨ρ, c, hH, ok, env, wp_bind w fun v x c1 s1 ok1 r1 w1 => by
    subst r1
    cases v with
    | true => rw [if_pos rfl] at w1 ⊢; exact ⟨ρ, c1, rfl, ok1, env.mono s1.le, w1⟩
    | false => rw [if_neg Bool.false_ne_true] at w1 ⊢; exact ⟨ρ, c1, rfl, ok1, env.mono s1.le, w1⟩⟩
def mNil : MA := fun _ μ => .ok [] μ
def mCons (a : ME) (b : MA) : MA := fun ρ μ => (a ρ μ).bind fun x μ => (b ρ μ).bind fun xs μ => .ok (x :: xs) μ
theorem zac (h : PA X es tNil) : PA X es (tA W E mNil) := zvo h fun σ H Q ⟨ρ, c, hH, ok, env, w⟩ => by
  subst hH
  exact zaj w ok .nil
theorem zaa {a : ME} {b : MA} (h : PA X es (tCons (tE W E a) (tA W E b))) : PA X es (tA W E (mCons a b)) := zvo h fun σ H Q ⟨ρ, c, hH, ok, env, w⟩ =>
  ⟨ρ, c, hH, ok, env, wp_bind w fun v x c1 s1 ok1 r1 w1 => ⟨ρ, c1, rfl, ok1, env.mono s1.le, wp_bind w1 fun vs xs c2 s2 ok2 r2 w2 => zaj w2 ok2 (.cons (zay s2.le r1) r2)⟩⟩
def mTup (a : MA) : ME := fun ρ μ => (a ρ μ).bind fun xs μ => if xs.length ≤ sizeLine then .ok (.tup xs) μ else .bad
def mLst (b : Bool) (a : MA) : ME := fun ρ μ => (a ρ μ).bind fun xs μ => if xs.length ≤ sizeLine then newL b xs μ else .bad
theorem za9 {a : MA} (h : PE X e (tTup (tA W E a))) : PE X e (tE W E (mTup a)) := zav h fun σ H Q ⟨ρ, c, hH, ok, env, w⟩ =>
  ⟨ρ, c, hH, ok, env, wp_bind w fun v x c1 s1 ok1 r1 w1 => by
    split at w1
    · rename_i hl; exact ⟨by rw [zan r1]; exact hl, fun p hp => zi5 w1 ok1 r1 hp⟩
    · exact w1.elim⟩
theorem zba {b : Bool} {a : MA} (h : PE X e (tLst (tA W E a))) : PE X e (tE W E (mLst b a)) := zav h fun σ H Q ⟨ρ, c, hH, ok, env, w⟩ =>
  ⟨ρ, c, hH, ok, env, wp_bind w fun v x c1 s1 ok1 r1 w1 => by
    split at w1
    · rename_i hl; exact ⟨by rw [zan r1]; exact hl, fun p hp => zfe w1 ok1 r1 hp⟩
    · exact w1.elim⟩
end
end Mi
namespace Mi
open PySem PySem.Spec L2
def WpS (W : Wd) (r : ResS) (c0 cs : Cf) (D : Ends) (E : XK) : Prop :=
  match r with
  | .nx ρ μ => ∀ σ c, c.μ = μ → Step c0 c → Le cs c → Ok W c → EnvR W c σ ρ → D.nx σ c.H
  | .rt d μ => ∀ v c, c.μ = μ → Step c0 c → Ok W c → Dp W c v d → D.rt v c.H
  | .bk ρ μ => ∀ σ c, c.μ = μ → Step c0 c → Le cs c → Ok W c → EnvR W c σ ρ → D.bk σ c.H
  | .ct ρ μ => ∀ σ c, c.μ = μ → Step c0 c → Le cs c → Ok W c → EnvR W c σ ρ → D.ct σ c.H
  | .exc x μ => ∀ u o c, c.μ = μ → Step c0 c → Ok W c → ExcAt W c u o x → E u o c.H
  | .bad => False
def Res.st {α : Type} (r : Res α) (f : α → Store → ResS) : ResS :=
  match r with
  | .ok a μ => f a μ
  | .exc x μ => .exc x μ
  | .bad => .bad
theorem zdl {β α : Type} {W : Wd} {R : Cf → β → α → Prop} {r : Res α} {f : α → Store → ResS} {c0 cs c : Cf} {D : Ends} {Q1 : β → Hp → Prop} {E : XK} (h : WpS W (r.st f) c0 cs D E) (s0 : Step c0 c)
    (k : ∀ v d c1, Step c0 c1 → Step c c1 → Ok W c1 → R c1 v d → WpS W (f d c1.μ) c0 cs D E → Q1 v c1.H) : Wp W R r c Q1 E := by
  cases r with
  | ok d μ => exact fun v c' e st ok r => k v d c' (s0.trans st) st ok r (by rw [e]; exact h)
  | exc x μ => exact fun u o c' e st ok r => h u o c' e (s0.trans st) ok r
  | bad => exact h
def tS (W : Wd) (E : XK) (m : MS) : TS := fun D σ H => ∃ c0 cs ρ c, c.H = H ∧ Ok W c ∧ Step c0 c ∧ Le cs c ∧ EnvR W c σ ρ ∧ WpS W (m c0.μ.length ρ c.μ) c0 cs D E
section
variable {W : Wd} {E : XK} {X : Cx} {st : Stmt} {ss : List Stmt} {e tg iter : Expr}
theorem zd2 {t t' : TS} (h : PS X st t) (f : ∀ D σ H, t' D σ H → t D σ H) : PS X st t' := ⟨fun pins s σ H D I q => h.run pins s σ H D I (f _ _ _ q)⟩
theorem zs0 {t t' : TS} (h : PSs X ss t) (f : ∀ D σ H, t' D σ H → t D σ H) : PSs X ss t' := ⟨fun pins s σ H D I q => h.run pins s σ H D I (f _ _ _ q)⟩
def mNext : MS := fun _ ρ μ => .nx ρ μ
def mSeq (a b : MS) : MS := fun n ρ μ => match a n ρ μ with
  | .nx ρ μ => b n ρ μ
  | r => r
theorem zaeh {D : Ends} {σ : L2.St} {H : Hp} (h : tS W E mNext D σ H) : tNext D σ H := by
  obtain ⟨c0, cs, ρ, c, hH, ok, s, le, env, w⟩ := h
  subst hH
  exact w σ c rfl s le ok env
theorem za0 (h : PSs X ss tNext) : PSs X ss (tS W E mNext) := zs0 h fun _ _ _ => zaeh
theorem zaf {a b : MS} (h : PSs X ss (tSeq (tS W E a) (tS W E b))) : PSs X ss (tS W E (mSeq a b)) := zs0 h fun D σ H ⟨c0, cs, ρ, c, hH, ok, s, le, env, w⟩ => by
  refine ⟨c0, cs, ρ, c, hH, ok, s, le, env, ?_⟩
  unfold mSeq at w
  cases e : a c0.μ.length ρ c.μ with
  | nx ρ' μ' => rw [e] at w; exact fun σ' c' e' s' le' ok' env' => ⟨c0, cs, ρ', c', rfl, ok', s', le', env', by rw [e']; exact w⟩
  | rt d μ' => rw [e] at w; exact w
  | bk ρ' μ' => rw [e] at w; exact w
  | ct ρ' μ' => rw [e] at w; exact w
  | exc x μ' => rw [e] at w; exact w
  | bad => rw [e] at w; exact w
def mRet (a : ME) : MS := fun _ ρ μ => (a ρ μ).st fun d μ => .rt d μ
def mRetN : MS := fun _ _ μ => .rt .non μ
def mDrop (a : ME) : MS := fun _ ρ μ => (a ρ μ).st fun _ μ => .nx ρ μ
theorem zas {a : ME} (h : PS X st (tRet (tE W E a))) : PS X st (tS W E (mRet a)) := zd2 h fun D σ H ⟨c0, cs, ρ, c, hH, ok, s, le, env, w⟩ =>
  ⟨ρ, c, hH, ok, env, zdl w s fun v d c1 s1 _ ok1 r1 w1 => w1 v c1 rfl s1 ok1 r1⟩
theorem zcf {a : ME} (h : PS X st (tDrop (tE W E a))) : PS X st (tS W E (mDrop a)) := zd2 h fun D σ H ⟨c0, cs, ρ, c, hH, ok, s, le, env, w⟩ =>
  ⟨ρ, c, hH, ok, env, zdl w s fun v d c1 s1 s2 ok1 r1 w1 => w1 σ c1 rfl s1 (le.trans s2.le) ok1 (env.mono s2.le)⟩
def mBrk : MS := fun _ ρ μ => .bk ρ μ
def mCnt : MS := fun _ ρ μ => .ct ρ μ
def mIfS (t : MT) (a b : MS) : MS := fun n ρ μ => (t ρ μ).st fun k μ => if k = true then a n ρ μ else b n ρ μ
theorem ms_if {t : MT} {a b : MS} (h : PS X st (tIfS (tT W E t) (tS W E a) (tS W E b))) : PS X st (tS W E (mIfS t a b)) := zd2 h fun D σ H ⟨c0, cs, ρ, c, hH, ok, s, le, env, w⟩ =>
  ⟨ρ, c, hH, ok, env, zdl w s fun v d c1 s1 s2 ok1 r1 w1 => by
    subst r1
    cases v with
    | true => rw [if_pos rfl] at w1 ⊢; exact ⟨c0, cs, ρ, c1, rfl, ok1, s1, le.trans s2.le, env.mono s2.le, w1⟩
    | false => rw [if_neg Bool.false_ne_true] at w1 ⊢; exact ⟨c0, cs, ρ, c1, rfl, ok1, s1, le.trans s2.le, env.mono s2.le, w1⟩⟩
abbrev MG := D → Env → Store → Res Env
abbrev MGs := List D → Env → Store → Res Env
def tG (W : Wd) (E : XK) (g : MG) : TG := fun v σ H k => ∃ ρ c d, c.H = H ∧ Ok W c ∧ EnvR W c σ ρ ∧ Dp W c v d ∧ Wp W (EnvR W) (g d ρ c.μ) c k E
def tGs (W : Wd) (E : XK) (g : MGs) : TGs := fun vs σ H k => ∃ ρ c ds, c.H = H ∧ Ok W c ∧ EnvR W c σ ρ ∧ DpA W c vs ds ∧ Wp W (EnvR W) (g ds ρ c.μ) c k E
theorem zk0 {t t' : TG} (h : PG X e t) (f : ∀ v σ H Q, t' v σ H Q → t v σ H Q) : PG X e t' := ⟨fun pins s σ H v u Q I r q => h.run pins s σ H v u Q I r (f _ _ _ _ q)⟩
theorem zs2 {es : List Expr} {t t' : TGs} (h : PGs X es t) (f : ∀ v σ H Q, t' v σ H Q → t v σ H Q) : PGs X es t' := ⟨fun pins s σ H v u Q I r q => h.run pins s σ H v u Q I r (f _ _ _ _ q)⟩
def zam (i : Nat) : MG := fun d ρ μ => .ok (ρ.set i (some d)) μ
theorem zbu {i : Nat} (h : PG X e (gName i)) : PG X e (tG W E (zam i)) := zk0 h fun v σ H Q ⟨ρ, c, d, hH, ok, env, r, w⟩ => by
  subst hH
  exact zaj w ok (env.set i r)
def mgNil : MGs := fun ds ρ μ => match ds with
  | [] => .ok ρ μ
  | _ => .bad
def zbp (a : MG) (b : MGs) : MGs := fun ds ρ μ => match ds with
  | d :: ds => (a d ρ μ).bind fun ρ μ => b ds ρ μ
  | [] => .bad
theorem zn6 {es : List Expr} (h : PGs X es gNil) : PGs X es (tGs W E mgNil) := zs2 h fun v σ H Q ⟨ρ, c, ds, hH, ok, env, r, w⟩ => by
  subst hH
  cases r with
  | nil => exact ⟨rfl, zaj w ok env⟩
  | cons => exact w.elim
theorem zfj {es : List Expr} {a : MG} {b : MGs} (h : PGs X es (gCons (tG W E a) (tGs W E b))) : PGs X es (tGs W E (zbp a b)) := zs2 h fun v σ H Q ⟨ρ, c, ds, hH, ok, env, r, w⟩ => by
  cases r with
  | nil => exact w.elim
  | cons h1 h2 => exact ⟨_, _, rfl, ρ, c, _, hH, ok, env, h1, wp_bind w fun σ1 ρ1 c1 s1 ok1 r1 w1 => ⟨ρ1, c1, _, rfl, ok1, r1, zaq s1.le h2, w1⟩⟩
def mgTup (n : Nat) (g : MGs) : MG := fun d ρ μ => match d with
  | .tup ds => if ds.length = n then g ds ρ μ else .bad
  | _ => .bad
theorem ztg {n : Nat} {g : MGs} (h : PG X e (gTup W.K n (tGs W E g))) : PG X e (tG W E (mgTup n g)) := zk0 h fun v σ H Q ⟨ρ, c, d, hH, ok, env, r, w⟩ => by
  cases r with
  | tup hs ha =>
    unfold mgTup at w
    dsimp only at w
    split at w
    · rename_i hn
      exact ⟨_, _, rfl, by rw [← hH]; exact Cs.zby ok.s hs, by rw [zan ha]; exact hn, ρ, c, _, hH, ok, env, ha, w⟩
    · exact w.elim
  | _ => exact w.elim
def mAsg (a : ME) (g : MG) : MS := fun _ ρ μ => (a ρ μ).st fun d μ => (g d ρ μ).st fun ρ μ => .nx ρ μ
theorem zk7 {a : ME} {g : MG} (h : PS X st (tAsg (tE W E a) (tG W E g))) : PS X st (tS W E (mAsg a g)) := zd2 h fun D σ H ⟨c0, cs, ρ, c, hH, ok, s, le, env, w⟩ =>
  ⟨ρ, c, hH, ok, env, zdl w s fun v d c1 s1 s2 ok1 r1 w1 => ⟨ρ, c1, d, rfl, ok1, env.mono s2.le, r1, zdl w1 s1 fun σ2 ρ2 c2 s3 s4 ok2 r2 w2 => w2 σ2 c2 rfl s3 (le.trans (s2.le.trans s4.le)) ok2 r2⟩⟩
def mSet (i : Nat) (a : ME) : MS := fun _ ρ μ => (a ρ μ).st fun d μ => .nx (ρ.set i (some d)) μ
theorem zca {i : Nat} {a : ME} (h : PS X st (tAsg (tE W E a) (gName i))) : PS X st (tS W E (mSet i a)) := zd2 h fun D σ H ⟨c0, cs, ρ, c, hH, ok, s, le, env, w⟩ =>
  ⟨ρ, c, hH, ok, env, zdl w s fun v d c1 s1 s2 ok1 r1 w1 => w1 _ c1 rfl s1 (le.trans s2.le) ok1 ((env.mono s2.le).set i r1)⟩
def mPar (i j : Nat) (a : MA) : MS := fun _ ρ μ => (a ρ μ).st fun ds μ => match ds with
  | [x, y] => .nx ((ρ.set i (some x)).set j (some y)) μ
  | _ => .bad
theorem zk6 {i j : Nat} {a : MA} (h : PS X st (tPar i j (tA W E a))) : PS X st (tS W E (mPar i j a)) := zd2 h fun D σ H ⟨c0, cs, ρ, c, hH, ok, s, le, env, w⟩ =>
  ⟨ρ, c, hH, ok, env, zdl w s fun vs ds c1 s1 s2 ok1 r1 w1 => by
    split at w1
    · cases r1 with
      | cons h1 h2 =>
        cases h2 with
        | cons h2 h3 =>
          cases h3
          exact ⟨_, _, rfl, w1 _ c1 rfl s1 (le.trans s2.le) ok1 (((env.mono s2.le).set i h1).set j h2)⟩
    · exact w1.elim⟩
def frzC : Cell → Option D
  | .lst ds => some (.lst ds)
  | .dct ks ds => some (.dct ks ds)
  | .obj C ks ds => some (.obj C ks ds)
  | .lck _ _ => none
theorem zz8 {c0 c : Cf} {n : Nat} {x : Cell} {d : D} (st : Step c0 c) (ok : Ok W c) (hx : c.μ[n]? = some (some x)) (hn : c0.μ.length ≤ n) (e : frzC x = some d) :
    ∃ c', c'.H = c.H ∧ c'.μ = c.μ.set n none ∧ Step c0 c' ∧ Ok W c' ∧ Le c c' ∧ Dp W c' (.ref (c.ι n)) d := by
  obtain ⟨_, o, ho, hc⟩ := ok.at' n x hx
  have l : live c.μ n := ⟨x, hx⟩
  obtain ⟨h1, h2⟩ := zaa8 st ok l hn ho
  have le := zzu (o := o) ok l
  refine ⟨c.frz n o, rfl, rfl, h2, h1, le, ?_⟩
  cases x with
  | lst ds =>
    obtain ⟨xs, rfl, ha⟩ := hc
    cases Option.some.inj e
    exact .lst (.inl (.inl upd_same)) (zaq le ha)
  | dct ks ds =>
    obtain ⟨xs, rfl, hl, hnd, ha⟩ := hc
    cases Option.some.inj e
    exact .dct (.inl upd_same) hl hnd (zaq le ha)
  | obj C ks ds =>
    obtain ⟨g, dx, xs, hg, rfl, hl, ha⟩ := hc
    cases Option.some.inj e
    exact .obj hg upd_same hl (zaq le ha)
  | lck ks ds => cases e
def mFrz (i : Nat) (m : MS) : MS := fun n ρ μ => match ρ[i]? with
  | some (some (.own k)) => if n ≤ k then match μ[k]? with
      | some (some x) => match frzC x with
        | some d => m n (ρ.set i (some d)) (μ.set k none)
        | none => .bad
      | _ => .bad
    else .bad
  | _ => .bad
theorem zaei {i : Nat} {m : MS} {D : Ends} {σ : L2.St} {H : Hp} (h : tS W E (mFrz i m) D σ H) : tS W E m D σ H := by
  obtain ⟨c0, cs, ρ, c, hH, ok, s, le, env, w⟩ := h
  unfold mFrz at w
  split at w
  · rename_i k hk
    split at w
    · rename_i hn
      split at w
      · rename_i x hx
        split at w
        · rename_i d hd
          obtain ⟨c', h1, h2, h3, h4, h5, h6⟩ := zz8 s ok hx hn hd
          refine ⟨c0, cs, _, c', h1.trans hH, h4, h3, le.trans h5, ?_, by rw [h2]; exact w⟩
          obtain ⟨v, hv, hr⟩ := env.2 i _ hk
          cases hr with
          | own _ =>
            have e2 := (env.mono h5).set i h6
            have : σ.set i (some (.ref (c.ι k))) = σ := by
              apply List.ext_getElem?
              intro j
              by_cases hj : i = j
              · subst hj
                rw [List.getElem?_set_self (List.getElem?_eq_some_iff.mp hv).1]; exact hv.symm
              · rw [List.getElem?_set_ne hj]
            rw [this] at e2
            exact e2
        · exact w.elim
      · exact w.elim
    · exact w.elim
  · exact w.elim
theorem zik {i : Nat} {m : MS} (h : PS X st (tS W E m)) : PS X st (tS W E (mFrz i m)) := zd2 h fun _ _ _ => zaei
structure Src where
  items : List D
  w : List Nat
def watch (w : List Nat) (μ μ' : Store) : Prop := ∀ n ∈ w, μ'[n]? = μ[n]?
theorem zbo {μ μ' : Store} : watch [] μ μ' := fun _ h => by cases h
structure zhq (W : Wd) (J : It) (c : Cf) (s : Src) : Prop where
  ex : ∃ (Gd : Hp → Prop) (Y : Nat → Hp → V → Hp → Prop), Walk J s.items.length Gd Y ∧ (∀ c', Le c c' → c'.L = c.L → Ok W c' → watch s.w c.μ c'.μ → Gd c'.H) ∧
    ∀ i x c2 H', i < s.items.length → Le c c2 → c2.L = c.L → Ok W c2 → watch s.w c.μ c2.μ → Y i c2.H x H' → ∃ d G3, s.items[i]? = some d ∧ Cs.Grow Cs.NoM c2.G c2.H G3 H' ∧ Dp W (c2.to G3 H') x d
abbrev MI := Env → Store → Res Src
def tI (W : Wd) (E : XK) (m : MI) : TI := fun σ H R => ∃ ρ c, c.H = H ∧ Ok W c ∧ EnvR W c σ ρ ∧ Wp W (fun c J s => zhq W J c s) (m ρ c.μ) c R E
theorem zqy {t t' : TI} (h : PI X tg iter t) (f : ∀ σ H Q, t' σ H Q → t σ H Q) : PI X tg iter t' := ⟨fun pins s σ H R I q => h.run pins s σ H R I (f _ _ _ q)⟩
open Classical in
def forS (w : List Nat) (μ0 : Store) (g : MG) (body : MS) (n : Nat) : List D → Env → Store → ResS
  | [], ρ, μ => if watch w μ0 μ then .nx ρ μ else .bad
  | d :: ds, ρ, μ => if watch w μ0 μ then match g d ρ μ with
      | .ok ρ μ => match body n ρ μ with
        | .nx ρ μ => forS w μ0 g body n ds ρ μ
        | .ct ρ μ => forS w μ0 g body n ds ρ μ
        | .bk ρ μ => .nx ρ μ
        | r => r
      | .exc x μ => .exc x μ
      | .bad => .bad
    else .bad
def mFor (i : MI) (g : MG) (body : MS) : MS := fun n ρ μ => (i ρ μ).st fun s μ => forS s.w μ g body n s.items ρ μ
theorem zqa {w : List Nat} {μ0 : Store} {g : MG} {body : MS} {n : Nat} {ds : List D} {ρ : Env} {μ : Store} {c0 cs : Cf} {D : Ends} (h : WpS W (forS w μ0 g body n ds ρ μ) c0 cs D E) : watch w μ0 μ := by
  cases ds with
  | nil =>
    unfold forS at h
    split at h
    · assumption
    · exact h.elim
  | cons d ds =>
    unfold forS at h
    split at h
    · assumption
    · exact h.elim
theorem zd6 {i : MI} {g : MG} {body : MS} (h : PS X st (tFor (tI W E i) (tG W E g) (tS W E body))) : PS X st (tS W E (mFor i g body)) := zd2 h fun D σ H ⟨c0, cs, ρ, c, hH, ok, s, le, env, w⟩ => by
  refine ⟨ρ, c, hH, ok, env, zdl w s fun J src c1 s1 s2 ok1 hw w1 => ?_⟩
  obtain ⟨Gd, Y, wk, hG, hY⟩ := hw.ex
  refine for_it wk (fun i σ' H' => ∃ ρ' c', c'.H = H' ∧ Ok W c' ∧ Step c0 c' ∧ Le c1 c' ∧ EnvR W c' σ' ρ' ∧ WpS W (forS src.w c1.μ g body c0.μ.length (src.items.drop i) ρ' c'.μ) c0 cs D E)
    ⟨ρ, c1, rfl, ok1, s1, .refl _, env.mono s2.le, w1⟩ (fun i σ' H' _ ⟨ρ', c', hH', ok', st', le', env', w'⟩ => by rw [← hH']; exact hG c' le' (st'.lk.trans s1.lk.symm) ok' (zqa w')) ?_ ?_
  · rintro i x σ' H2 H3 hi ⟨ρ', c', rfl, ok', st', le', env', w'⟩ hy
    obtain ⟨d, G3, hd, g3, hx⟩ := hY i x c' H3 hi le' (st'.lk.trans s1.lk.symm) ok' (zqa w') hy
    have hdrop : src.items.drop i = d :: src.items.drop (i + 1) := by
      rw [List.drop_eq_getElem_cons hi]
      congr 1
      rw [List.getElem?_eq_getElem hi] at hd
      exact Option.some.inj hd
    obtain ⟨ok3, st3⟩ := zj3 ok' g3
    rw [hdrop] at w'
    unfold forS at w'
    split at w'
    · refine ⟨ρ', c'.to G3 H3, d, rfl, ok3, env'.mono st3.le, hx, ?_⟩
      have s3 := st'.trans st3
      have le3 := le'.trans st3.le
      revert w'
      show WpS W (match g d ρ' (c'.to G3 H3).μ with
        | .ok ρ μ => match body c0.μ.length ρ μ with
          | .nx ρ μ => forS src.w c1.μ g body c0.μ.length (src.items.drop (i + 1)) ρ μ
          | .ct ρ μ => forS src.w c1.μ g body c0.μ.length (src.items.drop (i + 1)) ρ μ
          | .bk ρ μ => .nx ρ μ
          | r => r
        | .exc x μ => .exc x μ
        | .bad => .bad) c0 cs D E → _
      cases g d ρ' (c'.to G3 H3).μ with
      | ok ρ4 μ4 =>
        intro w4 σ4 c4 e4 st4 ok4 r4
        refine ⟨c0, c1, ρ4, c4, rfl, ok4, s3.trans st4, le3.trans st4.le, r4, ?_⟩
        dsimp only at w4
        rw [e4]
        cases hb : body c0.μ.length ρ4 μ4 with
        | nx ρ5 μ5 =>
          rw [hb] at w4
          exact fun σ5 c5 e5 st5 le5 ok5 env5 => ⟨ρ5, c5, rfl, ok5, st5, le5, env5, by rw [e5]; exact w4⟩
        | ct ρ5 μ5 =>
          rw [hb] at w4
          exact fun σ5 c5 e5 st5 le5 ok5 env5 => ⟨ρ5, c5, rfl, ok5, st5, le5, env5, by rw [e5]; exact w4⟩
        | bk ρ5 μ5 => rw [hb] at w4; exact fun σ5 c5 e5 st5 le5 ok5 env5 => w4 σ5 c5 e5 st5 (le.trans (s2.le.trans le5)) ok5 env5
        | rt d μ5 => rw [hb] at w4; exact w4
        | exc x μ5 => rw [hb] at w4; exact w4
        | bad => rw [hb] at w4; exact w4
      | exc x μ4 => exact fun w4 u o c4 e4 st4 ok4 r4 => w4 u o c4 e4 (s3.trans st4) ok4 r4
      | bad => exact fun w4 => w4
    · exact w'.elim
  · rintro σ' H' ⟨ρ', c', rfl, ok', st', le', env', w'⟩
    rw [List.drop_length] at w'
    unfold forS at w'
    split at w'
    · exact w' σ' c' rfl st' (le.trans (s2.le.trans le')) ok' env'
    · exact w'.elim
end
end Mi
namespace Mi
open PySem PySem.Spec L2
section
variable {W : Wd} {E : XK} {X : Cx} {st : Stmt} {ss : List Stmt} {e tg iter : Expr}
def zcd (t : MT) (body : MS) (n : Nat) : Nat → Env → Store → ResS
  | 0, _, _ => .bad
  | k + 1, ρ, μ => match t ρ μ with
    | .ok b μ => if b = true then match body n ρ μ with
        | .nx ρ μ => zcd t body n k ρ μ
        | .ct ρ μ => zcd t body n k ρ μ
        | .bk ρ μ => .nx ρ μ
        | r => r
      else .nx ρ μ
    | .exc x μ => .exc x μ
    | .bad => .bad
open Classical in
def zjq (t : MT) (body : MS) : MS := fun n ρ μ => if h : ∃ k, zcd t body n k ρ μ ≠ .bad then zcd t body n (choose h) ρ μ else .bad
theorem zkj {t : MT} {body : MS} {n : Nat} : ∀ {k : Nat} {ρ : Env} {μ : Store} {r : ResS}, zcd t body n k ρ μ = r → r ≠ .bad → zcd t body n (k + 1) ρ μ = r
  | 0, ρ, μ, r, h, hr => absurd h.symm hr
  | k + 1, ρ, μ, r, h, hr => by
    unfold zcd at h ⊢
    cases ht : t ρ μ with
    | ok b μ1 =>
      rw [ht] at h
      dsimp only at h ⊢
      cases b with
      | true =>
        rw [if_pos rfl] at h ⊢
        cases hb : body n ρ μ1 with
        | nx ρ2 μ2 => rw [hb] at h; exact zkj h hr
        | ct ρ2 μ2 => rw [hb] at h; exact zkj h hr
        | bk ρ2 μ2 => rw [hb] at h; exact h
        | rt d μ2 => rw [hb] at h; exact h
        | exc x μ2 => rw [hb] at h; exact h
        | bad => rw [hb] at h; exact h
      | false => rw [if_neg Bool.false_ne_true] at h ⊢; exact h
    | exc x μ1 => rw [ht] at h; exact h
    | bad => rw [ht] at h; exact h
theorem zmw {t : MT} {body : MS} {n k : Nat} {ρ : Env} {μ : Store} {r : ResS} (h : zcd t body n k ρ μ = r) (hr : r ≠ .bad) : ∀ j, zcd t body n (k + j) ρ μ = r
  | 0 => h
  | j + 1 => zkj (zmw h hr j) hr
theorem zzh {t : MT} {body : MS} {n k : Nat} {ρ : Env} {μ : Store} {r : ResS} (h : zcd t body n k ρ μ = r) (hr : r ≠ .bad) : zjq t body n ρ μ = r := by
  have ex : ∃ k, zcd t body n k ρ μ ≠ .bad := ⟨k, by rw [h]; exact hr⟩
  unfold zjq
  rw [dif_pos ex]
  have h2 := Classical.choose_spec ex
  have h3 := zmw (rfl : zcd t body n (Classical.choose ex) ρ μ = _) h2 k
  have h4 := zmw h hr (Classical.choose ex)
  rw [← h3, Nat.add_comm, h4]
theorem zaby {t : MT} {body : MS} (h : PS X st (tWhile (tT W E t) (tS W E body))) : PS X st (tS W E (zjq t body)) := zd2 h fun D σ H ⟨c0, cs, ρ, c, hH, ok, s, le, env, w⟩ => by
  unfold zjq at w
  split at w
  · rename_i ex
    revert w
    generalize Classical.choose ex = k
    intro w
    refine ⟨fun m σ H => ∃ ρ c, c.H = H ∧ Ok W c ∧ Step c0 c ∧ Le cs c ∧ EnvR W c σ ρ ∧ WpS W (zcd t body c0.μ.length m ρ c.μ) c0 cs D E, ⟨k, ρ, c, hH, ok, s, le, env, w⟩, ?_⟩
    rintro m σ H ⟨ρ, c, hH, ok, s, le, env, w⟩
    cases m with
    | zero => exact w.elim
    | succ m =>
      refine ⟨ρ, c, hH, ok, env, ?_⟩
      revert w
      show WpS W (match t ρ c.μ with
        | .ok b μ => if b = true then match body c0.μ.length ρ μ with
            | .nx ρ μ => zcd t body c0.μ.length m ρ μ
            | .ct ρ μ => zcd t body c0.μ.length m ρ μ
            | .bk ρ μ => .nx ρ μ
            | r => r
          else .nx ρ μ
        | .exc x μ => .exc x μ
        | .bad => .bad) c0 cs D E → _
      cases t ρ c.μ with
      | ok b μ1 =>
        intro w b' c1 e1 s1 ok1 hb
        subst hb
        dsimp only at w
        have s01 := s.trans s1
        have le1 := le.trans s1.le
        cases b' with
        | false =>
          rw [if_neg Bool.false_ne_true] at w ⊢
          exact w σ c1 e1 s01 le1 ok1 (env.mono s1.le)
        | true =>
          rw [if_pos rfl] at w ⊢
          refine ⟨fun σ' H' => ∃ m', m' < m + 1 ∧ ∃ ρ c, c.H = H' ∧ Ok W c ∧ Step c0 c ∧ Le cs c ∧ EnvR W c σ' ρ ∧ WpS W (zcd t body c0.μ.length m' ρ c.μ) c0 cs D E, fun _ _ z => z, ?_⟩
          refine ⟨c0, cs, ρ, c1, rfl, ok1, s01, le1, env.mono s1.le, ?_⟩
          rw [e1]
          cases hb : body c0.μ.length ρ μ1 with
          | nx ρ5 μ5 =>
            rw [hb] at w
            exact fun σ5 c5 e5 st5 le5 ok5 env5 => ⟨m, Nat.lt_succ_self m, ρ5, c5, rfl, ok5, st5, le5, env5, by rw [e5]; exact w⟩
          | ct ρ5 μ5 =>
            rw [hb] at w
            exact fun σ5 c5 e5 st5 le5 ok5 env5 => ⟨m, Nat.lt_succ_self m, ρ5, c5, rfl, ok5, st5, le5, env5, by rw [e5]; exact w⟩
          | bk ρ5 μ5 => rw [hb] at w; exact w
          | rt d μ5 => rw [hb] at w; exact w
          | exc x μ5 => rw [hb] at w; exact w
          | bad => rw [hb] at w; exact w
      | exc x μ1 => exact fun w u o c4 e4 st4 ok4 r4 => w u o c4 e4 (s.trans st4) ok4 r4
      | bad => exact fun w => w
  · exact w.elim
theorem le_to {c : Cf} {G' H' : Hp} (g : Same c.G G') : Le c (c.to G' H') := ⟨g, Nat.le_refl _, fun _ _ => rfl⟩
def D.cell : D → List Nat
  | .own n => [n]
  | _ => []
theorem zph {μ μ' : Store} {d : D} (h : watch d.cell μ μ') : seqL μ' d = seqL μ d := by
  cases d with
  | own n =>
    unfold seqL
    dsimp only
    rw [h n (by simp [D.cell])]
  | _ => rfl
variable {c : Cf} {v : V} {d : D} {ds : List D} {a : Addr}
theorem zaed (ok : Ok W c) (h : Dp W c (.ref a) d) (e : seqL c.μ d = some ds) : zhq W (Itl W.K a) c ⟨ds, d.cell⟩ := by
  have at2 : ∀ c2, Le c c2 → Ok W c2 → watch d.cell c.μ c2.μ → ∃ xs, SqL W.K c2.H a xs ∧ DpA W c2 xs ds := fun c2 le ok2 hw => by
    obtain ⟨a', xs, ea, hs, ha⟩ := zcu ok2 (zay le h) (by rw [zph hw]; exact e)
    cases ea
    exact ⟨xs, hs, ha⟩
  refine ⟨fun H => ∃ xs, SqL W.K H a xs ∧ xs.length = ds.length, fun i H x H' => H' = H ∧ ∀ xs, SqL W.K H a xs → xs[i]? = some x, ⟨?_, ?_, ?_⟩, ?_, ?_⟩
  · rintro i H hi ⟨xs, hs, hl⟩
    exact ⟨xs, xs[i]'(by rw [hl]; exact hi), hs, by rw [List.getElem?_eq_getElem]⟩
  · rintro H ⟨xs, hs, hl⟩
    exact ⟨xs, hs, by rw [hl]; exact Nat.le_refl _⟩
  · exact fun _ _ _ _ _ _ y => y
  · intro c2 le _ ok2 hw
    obtain ⟨xs, hs, ha⟩ := at2 c2 le ok2 hw
    exact ⟨xs, hs, zan ha⟩
  · rintro i x c2 H' hi le _ ok2 hw ⟨rfl, hx⟩
    obtain ⟨xs, hs, ha⟩ := at2 c2 le ok2 hw
    obtain ⟨d, h1, h2⟩ := zgr ha (hx xs hs)
    exact ⟨d, c2.G, h1, .refl ok2.s, h2⟩
theorem zaea (ok : Ok W c) (h : Dp W c (.ref a) d) (e : seqT d = some ds) : zhq W (Itt W.K a) c ⟨ds, []⟩ := by
  cases h with
  | tup hs ha =>
    cases Option.some.inj e
    refine ⟨_, _, (zan ha) ▸ walk_tup, fun c' le _ ok' _ => Cs.zby ok'.s (Cs.zby le.g hs), ?_⟩
    rintro i x c2 H' hi le _ ok2 _ ⟨rfl, hx⟩
    obtain ⟨d, h1, h2⟩ := zgr ha hx
    exact ⟨d, c2.G, h1, .refl ok2.s, zay le h2⟩
  | _ => cases e
def chars (z : Str) : List D := z.cps.toList.map fun k => .str ⟨#[k]⟩
theorem zaeb {z : Str} : zhq W (Its z) c ⟨chars z, []⟩ := by
  refine ⟨_, _, (show (chars z).length = z.cps.size by simp [chars]) ▸ walk_str (z := z), fun _ _ _ _ _ => True.intro, ?_⟩
  rintro i x c2 H' hi le _ ok2 _ ⟨rfl, k, hk, rfl⟩
  refine ⟨.str ⟨#[k]⟩, c2.G, ?_, .refl ok2.s, .str _⟩
  show (chars z)[i]? = _
  unfold chars
  rw [List.getElem?_map, Array.getElem?_toList, hk]; rfl
def zce (lo : Int) (n : Nat) : List D := (List.range n).map fun i => .int (lo + (i : Nat))
theorem zpk {lo : Int} {n : Nat} : (zce lo n).length = n := by simp [zce]
theorem zaec {lo : Int} {n : Nat} : zhq W (Itr lo n) c ⟨zce lo n, []⟩ := by
  refine ⟨fun _ => True, YFn fun i => .int (lo + i), by show Walk _ (zce lo n).length _ _; rw [zpk]; exact walk_range, fun _ _ _ _ _ => True.intro, ?_⟩
  rintro i x c2 H' hi le _ ok2 _ ⟨rfl, rfl⟩
  have hi' : i < n := Nat.lt_of_lt_of_eq hi zpk
  exact ⟨.int (lo + (i : Nat)), c2.G, by simp [zce, hi'], .refl ok2.s, .int _⟩
def zdn (μ : Store) (d : D) : Option (List D × List Nat) := match seqL μ d with
  | some ds => some (ds, d.cell)
  | none => match d with
    | .tup ds => some (ds, [])
    | .str z => some (chars z, [])
    | _ => none
def miAny (a : ME) : MI := fun ρ μ => (a ρ μ).bind fun d μ => match zdn μ d with
  | some (ds, w) => .ok ⟨ds, w⟩ μ
  | none => .bad
theorem zef {m : ME} (h : PI X tg iter (Cs.iAny W.K (tE W E m))) : PI X tg iter (tI W E (miAny m)) := zqy h fun σ H R ⟨ρ, c, hH, ok, env, w⟩ => by
  unfold miAny at w
  cases em : m ρ c.μ with
  | exc x μ =>
    rw [em] at w
    exact .inl ⟨ρ, c, hH, ok, env, by rw [em]; exact w⟩
  | bad => rw [em] at w; exact w.elim
  | ok d μ =>
    rw [em] at w
    unfold Res.bind at w
    dsimp only at w
    cases ei : zdn μ d with
    | none => rw [ei] at w; exact w.elim
    | some p =>
      rw [ei] at w
      unfold zdn at ei
      split at ei
      · rename_i ds hs
        cases Option.some.inj ei
        refine .inl ⟨ρ, c, hH, ok, env, ?_⟩
        rw [em]
        intro v c1 e1 s1 ok1 r1
        subst e1
        obtain ⟨a, xs, rfl, h1, h2⟩ := zcu ok1 r1 hs
        exact ⟨a, rfl, ⟨xs, h1⟩, w _ c1 rfl s1 ok1 (zaed ok1 r1 hs)⟩
      · split at ei
        · cases Option.some.inj ei
          refine .inr (.inl ⟨ρ, c, hH, ok, env, ?_⟩)
          rw [em]
          intro v c1 e1 s1 ok1 r1
          subst e1
          obtain ⟨a, xs, rfl, h1, h2⟩ := zn3 ok1 r1 rfl
          exact ⟨a, rfl, ⟨xs, h1⟩, w _ c1 rfl s1 ok1 (zaea ok1 r1 rfl)⟩
        · cases Option.some.inj ei
          refine .inr (.inr ⟨ρ, c, hH, ok, env, ?_⟩)
          rw [em]
          intro v c1 e1 s1 ok1 r1
          subst e1
          cases r1
          exact ⟨_, rfl, w _ c1 rfl s1 ok1 zaeb⟩
        · cases ei
def zew (a : MA) : MI := fun ρ μ => (a ρ μ).bind fun ds μ => match ds with
  | [.int j] => if -(2 ^ 62) ≤ j ∧ j < 2 ^ 62 then .ok ⟨zce 0 j.toNat, []⟩ μ else .bad
  | _ => .bad
theorem zhv {m : MA} (h : PI X tg iter (iRng1 (tA W E m))) : PI X tg iter (tI W E (zew m)) := zqy h fun σ H R ⟨ρ, c, hH, ok, env, w⟩ =>
  ⟨ρ, c, hH, ok, env, wp_bind w fun vs ds c1 s1 ok1 r1 w1 => by
    split at w1
    · cases r1 with
      | cons h1 h2 =>
        cases h1; cases h2
        split at w1
        · rename_i hj
          exact ⟨_, rfl, hj.1, hj.2, zaj w1 ok1 zaec⟩
        · exact w1.elim
    · exact w1.elim⟩
def zy9 (a : MA) : MI := fun ρ μ => (a ρ μ).bind fun ds μ => match ds with
  | [.int i, .int j] => if -(2 ^ 62) ≤ i ∧ i < 2 ^ 62 ∧ -(2 ^ 62) ≤ j ∧ j < 2 ^ 62 then .ok ⟨zce i (j - i).toNat, []⟩ μ else .bad
  | _ => .bad
end
end Mi
namespace Mi
open PySem PySem.Spec L2
section
variable {W : Wd} {E : XK} {X : Cx} {st : Stmt} {ss : List Stmt} {e tg iter : Expr} {c : Cf} {v : V} {d : D} {ds : List D} {a : Addr}
def enumD (ds : List D) : List D := (List.range ds.length).map fun i => .tup [.int (i : Nat), ds.getD i .non]
def zipD (ds es : List D) : List D := (ds.zip es).map fun p => .tup [p.1, p.2]
theorem zkf : (enumD ds).length = ds.length := by simp [enumD]
theorem zr7 {i : Nat} {d : D} (hi : ds[i]? = some d) : (enumD ds)[i]? = some (.tup [.int (i : Nat), d]) := by
  have hl := (List.getElem?_eq_some_iff.mp hi).1
  unfold enumD
  rw [List.getElem?_map, List.getElem?_range hl, Option.map_some]
  simp [List.getD, hi]
theorem zs5 {c2 : Cf} {T : Addr} {x y : V} {d e : D} (ok : Ok W c2) (hT : c2.H T = none) (hx : Dp W c2 x d) (hy : Dp W c2 y e) :
    ∃ G3, Cs.Grow Cs.NoM c2.G c2.H G3 (upd c2.H T (.tup [x, y])) ∧ Dp W (c2.to G3 (upd c2.H T (.tup [x, y]))) (.ref T) (.tup [d, e]) := by
  have le : Le c2 (c2.to (upd c2.G T (.tup [x, y])) (upd c2.H T (.tup [x, y]))) := le_to (Cs.same_new (Cs.same_none ok.s hT))
  exact ⟨_, .new ok.s hT, .tup (.inl (.inl upd_same)) (.cons (zay le hx) (.cons (zay le hy) .nil))⟩
theorem zacp (ok : Ok W c) (h : Dp W c (.ref a) d) (e : seqL c.μ d = some ds) : zhq W (Ite W.K a) c ⟨enumD ds, d.cell⟩ := by
  have at2 : ∀ c2, Le c c2 → Ok W c2 → watch d.cell c.μ c2.μ → ∃ xs, SqL W.K c2.H a xs ∧ DpA W c2 xs ds := fun c2 le ok2 hw => by
    obtain ⟨a', xs, ea, hs, ha⟩ := zcu ok2 (zay le h) (by rw [zph hw]; exact e)
    cases ea
    exact ⟨xs, hs, ha⟩
  refine ⟨fun H => ∃ xs, SqL W.K H a xs ∧ xs.length = ds.length, fun i H v H' => ∃ T x, v = .ref T ∧ H T = none ∧ H' = upd H T (.tup [.int (i : Nat), x]) ∧ ∀ xs, SqL W.K H a xs → xs[i]? = some x, ⟨?_, ?_, ?_⟩, ?_, ?_⟩
  · rintro i H hi ⟨xs, hs, hl⟩
    have hi' : i < ds.length := Nat.lt_of_lt_of_eq hi zkf
    exact ⟨xs, xs[i]'(by rw [hl]; exact hi'), hs, by rw [List.getElem?_eq_getElem]⟩
  · rintro H ⟨xs, hs, hl⟩
    exact ⟨xs, hs, by rw [hl]; exact Nat.le_of_eq zkf.symm⟩
  · exact fun _ _ _ _ _ _ y => y
  · intro c2 le _ ok2 hw
    obtain ⟨xs, hs, ha⟩ := at2 c2 le ok2 hw
    exact ⟨xs, hs, zan ha⟩
  · rintro i x c2 H' hi le _ ok2 hw ⟨T, y, rfl, hT, rfl, hx⟩
    obtain ⟨xs, hs, ha⟩ := at2 c2 le ok2 hw
    obtain ⟨d, h1, h2⟩ := zgr ha (hx xs hs)
    obtain ⟨G3, g, r⟩ := zs5 ok2 hT (.int (i : Nat)) h2
    exact ⟨_, G3, zr7 h1, g, r⟩
theorem zaco (ok : Ok W c) (h : Dp W c (.ref a) d) (e : seqT d = some ds) : zhq W (Cs.IteT W.K a) c ⟨enumD ds, []⟩ := by
  cases h with
  | @tup _ xs _ hs ha =>
    cases Option.some.inj e
    refine ⟨fun H => SqT W.K H a xs, fun i H v H' => ∃ T x, v = .ref T ∧ H T = none ∧ H' = upd H T (.tup [.int (i : Nat), x]) ∧ xs[i]? = some x, ⟨?_, ?_, ?_⟩, fun c' le _ ok' _ => Cs.zby ok'.s (Cs.zby le.g hs), ?_⟩
    · intro i H hi hs
      have hi' : i < xs.length := Nat.lt_of_lt_of_eq hi (zkf.trans (zan ha).symm)
      exact ⟨_, _, hs, List.getElem?_eq_getElem hi'⟩
    · exact fun H hs => ⟨_, hs, (zan ha).trans zkf.symm⟩
    · rintro i H x H' hi hs ⟨T, y, h1, h2, h3, h4⟩
      exact ⟨T, y, h1, h2, h3, h4 _ hs⟩
    · rintro i x c2 H' hi le _ ok2 hw ⟨T, y, rfl, hT, rfl, hx⟩
      obtain ⟨d, h1, h2⟩ := zgr ha hx
      obtain ⟨G3, g, r⟩ := zs5 ok2 hT (.int (i : Nat)) (zay le h2)
      exact ⟨_, G3, zr7 h1, g, r⟩
  | _ => cases e
def zgc (a : MA) : MI := fun ρ μ => (a ρ μ).bind fun xs μ => match xs with
  | [d] => match seqL μ d with
    | some ds => .ok ⟨enumD ds, d.cell⟩ μ
    | none => match seqT d with
      | some ds => .ok ⟨enumD ds, []⟩ μ
      | none => .bad
  | _ => .bad
theorem zq5 {m : MA} (h : PI X tg iter (Cs.zz5 W.K (tA W E m))) : PI X tg iter (tI W E (zgc m)) := zqy h fun σ H R ⟨ρ, c, hH, ok, env, w⟩ => by
  unfold zgc at w
  cases em : m ρ c.μ with
  | exc x μ =>
    rw [em] at w
    exact .inl ⟨ρ, c, hH, ok, env, by rw [em]; exact w⟩
  | bad => rw [em] at w; exact w.elim
  | ok xs μ =>
    rw [em] at w
    unfold Res.bind at w
    dsimp only at w
    split at w
    · rename_i d
      split at w
      · rename_i ds hs
        refine .inl ⟨ρ, c, hH, ok, env, ?_⟩
        rw [em]
        intro v c1 e1 s1 ok1 r1
        subst e1
        cases r1 with
        | cons r1 r2 =>
          cases r2
          obtain ⟨a, xs, rfl, h1, h2⟩ := zcu ok1 r1 hs
          exact ⟨a, xs, rfl, h1, w _ c1 rfl s1 ok1 (zacp ok1 r1 hs)⟩
      · split at w
        · rename_i ds hs
          refine .inr ⟨ρ, c, hH, ok, env, ?_⟩
          rw [em]
          intro v c1 e1 s1 ok1 r1
          subst e1
          cases r1 with
          | cons r1 r2 =>
            cases r2
            obtain ⟨a, xs, rfl, h1, h2⟩ := zn3 ok1 r1 hs
            exact ⟨a, xs, rfl, h1, w _ c1 rfl s1 ok1 (zaco ok1 r1 hs)⟩
        · exact w.elim
    · exact w.elim
theorem zjh {i : Nat} {x : Option V} : ∀ {vs : List Nat} {σ : L2.St}, i ∈ vs → L2.wipe (σ.set i x) vs = L2.wipe σ vs
  | v :: vs, σ, h => by
    by_cases hv : i ∈ vs
    · show (L2.wipe (σ.set i x) vs).set v none = (L2.wipe σ vs).set v none
      rw [zjh hv]
    · have e : i = v := by
        rcases List.mem_cons.mp h with z | z
        · exact z
        · exact absurd z hv
      subst e
      show (L2.wipe (σ.set i x) vs).set i none = (L2.wipe σ vs).set i none
      have : ∀ {us : List Nat} {σ : L2.St}, i ∉ us → L2.wipe (σ.set i x) us = (L2.wipe σ us).set i x := by
        intro us
        induction us with
        | nil => intro σ _; rfl
        | cons u us ih =>
          intro σ hu
          show (L2.wipe (σ.set i x) us).set u none = ((L2.wipe σ us).set u none).set i x
          rw [ih (fun z => hu (List.mem_cons_of_mem _ z)), List.set_comm _ _ (fun z => hu (by rw [z]; exact List.mem_cons_self))]
      rw [this hv, List.set_set]
theorem zrh {vs : List Nat} {σ : L2.St} : L2.wipe (L2.wipe σ vs) vs = L2.wipe σ vs := by
  have : ∀ us : List Nat, (∀ u ∈ us, u ∈ vs) → L2.wipe (L2.wipe σ us) vs = L2.wipe σ vs := by
    intro us
    induction us with
    | nil => intro _; rfl
    | cons u us ih =>
      intro h
      show L2.wipe ((L2.wipe σ us).set u none) vs = _
      rw [zjh (h u List.mem_cons_self)]
      exact ih fun z hz => h z (List.mem_cons_of_mem _ hz)
  exact this vs fun _ h => h
def LcT (W : Wd) (g : TG) (vs : List Nat) (m : D → Env → Option Env) : Prop := ∀ c v d σ ρ ρ2 (k : L2.St → Hp → Prop), Ok W c → EnvR W c σ ρ → Dp W c v d → m d ρ = some ρ2 → (∀ σ2, EnvR W c σ2 ρ2 → L2.wipe σ2 vs = L2.wipe σ vs → k σ2 c.H) → g v σ c.H k
def zbk (i : Nat) : D → Env → Option Env := fun d ρ => some (ρ.set i (some d))
def zp3 (i j : Nat) : D → Env → Option Env := fun d ρ => match d with
  | .tup [x, y] => some ((ρ.set i (some x)).set j (some y))
  | _ => none
theorem ze8 {i : Nat} {vs : List Nat} (hi : i ∈ vs) : LcT W (gName i) vs (zbk i) := fun c v d σ ρ ρ2 k ok env r e q => by
  cases Option.some.inj e
  exact q _ (env.set i r) (zjh hi)
theorem zab6 {i j : Nat} {vs : List Nat} (hi : i ∈ vs) (hj : j ∈ vs) : LcT W (gTup W.K 2 (gCons (gName i) (gCons (gName j) gNil))) vs (zp3 i j) := fun c v d σ ρ ρ2 k ok env r e q => by
  unfold zp3 at e
  split at e
  · cases Option.some.inj e
    cases r with
    | tup hs ha =>
      cases ha with
      | cons h1 h2 =>
        cases h2 with
        | cons h2 h3 =>
          cases h3
          exact ⟨_, _, rfl, Cs.zby ok.s hs, rfl, _, _, rfl, _, _, rfl, rfl, q _ ((env.set i h1).set j h2) (by rw [zjh hj, zjh hi])⟩
  · cases e
def E0' : XK := fun _ _ _ => False
open Classical in
def lcA (w : List Nat) (μ0 : Store) (g : D → Env → Option Env) (t : MT) (el : ME) (ρ : Env) : List D → List D → Store → Res (List D)
  | [], acc, μ => if watch w μ0 μ then .ok acc μ else .bad
  | d :: ds, acc, μ => if watch w μ0 μ then match g d ρ with
      | some ρ2 => match t ρ2 μ with
        | .ok true μ => match el ρ2 μ with
          | .ok y μ => if acc.length < sizeLine then lcA w μ0 g t el ρ ds (acc ++ [y]) μ else .bad
          | _ => .bad
        | .ok false μ => lcA w μ0 g t el ρ ds acc μ
        | _ => .bad
      | none => .bad
    else .bad
def mLc (b : Bool) (i : MI) (g : D → Env → Option Env) (t : MT) (el : ME) (vs : List Nat) : ME := fun ρ μ => (i ρ μ).bind fun s μ => (lcA s.w μ g t el (wipeD ρ vs) s.items [] μ).bind fun xs μ => newL b xs μ
theorem zrz {w : List Nat} {μ0 : Store} {g : D → Env → Option Env} {t : MT} {el : ME} {ρ : Env} {ds acc : List D} {μ : Store} (h : lcA w μ0 g t el ρ ds acc μ ≠ .bad) : watch w μ0 μ := by
  cases ds with
  | nil =>
    unfold lcA at h
    split at h
    · assumption
    · exact absurd rfl h
  | cons d ds =>
    unfold lcA at h
    split at h
    · assumption
    · exact absurd rfl h
theorem znj {w : List Nat} {μ0 : Store} {g : D → Env → Option Env} {t : MT} {el : ME} {ρ : Env} {x : Exc} {μ' : Store} : ∀ {ds acc : List D} {μ : Store}, lcA w μ0 g t el ρ ds acc μ ≠ .exc x μ'
  | [], acc, μ => by
    unfold lcA
    split
    · exact fun z => by cases z
    · exact fun z => by cases z
  | d :: ds, acc, μ => by
    unfold lcA
    split
    · split
      · split
        · split
          · split
            · exact znj
            · exact fun z => by cases z
          · exact fun z => by cases z
        · exact znj
        · exact fun z => by cases z
      · exact fun z => by cases z
    · exact fun z => by cases z
theorem zaez {p : Addr} {o : HO} (ok : Ok W c) (gp : c.G p = none) (hl : c.L p = none) (hm : ∀ n, live c.μ n → c.ι n ≠ p) (ht : ∀ q, (p, q) ∉ c.T) (hx : ∀ q, c.H p ≠ some (LamX.CodeO p q)) (no : ∀ ps, o ≠ .tbl ps) : Ok W (c.to c.G (upd c.H p o)) := by
  refine ⟨fun b u e => ?_, fun a u e => ⟨?_, (ok.lk a u e).2⟩, fun n x e => ?_, ok.inj, ok.lc, ok.tb.mono rfl (zfn hx) (fun _ _ e => e) (zhr no) fun q hq ps e => by
    show upd c.H p o q.1 = some (.tbl ps)
    rw [upd_ne (fun z => ht q.2 (by rw [← z]; exact hq))]; exact e⟩
  · show upd c.H p o b = some u
    rw [upd_ne (ne_of_none e gp)]; exact ok.s b u e
  · show upd c.H p o a = some u
    have : a ≠ p := fun z => by
      have e' : c.L a = some u := e
      rw [z, hl] at e'; cases e'
    rw [upd_ne this]; exact (ok.lk a u e).1
  · obtain ⟨h1, u, h2, h3⟩ := ok.at' n x e
    refine ⟨h1, u, ?_, h3.mono (c' := c.to c.G (upd c.H p o)) (le_to (Same.refl _)) trivial⟩
    show upd c.H p o (c.ι n) = some u
    rw [upd_ne (hm n ⟨x, e⟩)]; exact h2
theorem zae0 {p : Addr} (ok : Ok W c) (hp : c.H p = none) : c.L p = none := by
  cases e : c.L p with
  | none => rfl
  | some o => have := (ok.lk p o e).1; rw [hp] at this; cases this
structure Aside (W : Wd) (c1 c : Cf) (p : Addr) : Prop where
  ok : Ok W c
  st : Step c1 c
  g : c.G p = none
  m : ∀ n, live c.μ n → c.ι n ≠ p
  t : ∀ q, (p, q) ∉ c.T
  x : ∀ q, c.H p ≠ some (LamX.CodeO p q)
theorem zvw {p : Addr} (ok : Ok W c) (hp : c.H p = none) : ∀ q, (p, q) ∉ c.T := fun q m => by
  obtain ⟨ps, h, _⟩ := ok.tb.t _ m
  rw [hp] at h; cases h
theorem Aside.step {c1 c c' : Cf} {p : Addr} {o : HO} (h : Aside W c1 c p) (hp : c.H p = some o) (ok : Ok W c') (s : Step c c') (no : ∀ ps, o ≠ .tbl ps := by intro _ z; cases z) : Aside W c1 c' p ∧ c'.H p = some o := by
  have hm : ¬ Mo c p := fun z => z.elim (fun ⟨n, l, e⟩ => h.m n l e.symm) fun ⟨ps, m⟩ => no ps (Option.some.inj (hp.symm.trans m))
  have hne : c.H p ≠ none := by rw [hp]; exact fun z => by cases z
  refine ⟨⟨ok, h.st.trans s, by rw [s.g.n p hne]; exact h.g, fun n l e => ?_, by rw [s.tk]; exact h.t, by rw [s.g.h p o hm hp, ← hp]; exact h.x⟩, s.g.h p o hm hp⟩
  rcases Nat.lt_or_ge n c.μ.length with hn | hn
  · rw [s.ag n hn] at e
    exact h.m n (s.dead n hn l) e
  · have := s.fresh n hn l
    rw [e, hp] at this; cases this
theorem Aside.put {c1 c : Cf} {p : Addr} {o : HO} (h : Aside W c1 c p) (h1 : c1.H p = none) (ok1 : Ok W c1) (no : ∀ q, o ≠ LamX.CodeO p q := by intro _ z; unfold LamX.CodeO at z; cases z) (nt : ∀ ps, o ≠ .tbl ps := by intro _ z; cases z) : Aside W c1 (c.to c.G (upd c.H p o)) p := by
  have hL : c.L p = none := by rw [h.st.lk]; exact zae0 ok1 h1
  refine ⟨zaez h.ok h.g hL h.m h.t h.x nt, ⟨h.st.g.put (.inl h1) h.g nt, h.st.len, h.st.ag, h.st.dead, h.st.fresh, h.st.lk, h.st.tk⟩, h.g, h.m, h.t, fun q z => by
    have z' : upd c.H p o p = some (LamX.CodeO p q) := z
    rw [upd_same] at z'
    exact no q (Option.some.inj z')⟩
theorem Aside.done {c1 c : Cf} {p : Addr} {xs : List V} {ds : List D} {b : Bool} {Q : VK} {E : XK} (h : Aside W c1 c p) (h1 : c1.H p = none) (hp : c.H p = some (.lst xs)) (ha : DpA W c xs ds) (w : Wp W (Dp W) (newL b ds c.μ) c1 Q E) : Q (.ref p) c.H := by
  cases b with
  | false =>
    have le : Le c (⟨c.ι, c.μ, upd c.G p (.lst xs), c.H, c.L, c.T⟩ : Cf) := ⟨Cs.same_new h.g, Nat.le_refl _, fun _ _ => rfl⟩
    refine w (.ref p) ⟨c.ι, c.μ, upd c.G p (.lst xs), c.H, c.L, c.T⟩ rfl ⟨h.st.g.freeze h1 h.g hp, h.st.len, h.st.ag, h.st.dead, h.st.fresh, h.st.lk, h.st.tk⟩ ⟨fun q u e => ?_, h.ok.lk, fun n x e => ?_, h.ok.inj, h.ok.lc, h.ok.tb.mono rfl (fun _ _ e => e) (fun b ps e => by
      by_cases eb : b = p
      · subst eb
        have e' : upd c.G b (.lst xs) b = some (.tbl ps) := e
        rw [upd_same] at e'; cases e'
      · have e' : upd c.G p (.lst xs) b = some (.tbl ps) := e
        rw [upd_ne eb] at e'; exact e') (fun _ _ e => ⟨_, e⟩) fun _ _ _ e => e⟩ (.lst (.inl (.inl upd_same)) (zaq le ha))
    · by_cases eb : q = p
      · subst eb
        have e' : upd c.G q (.lst xs) q = some u := e
        rw [upd_same] at e'
        rw [← e']; exact hp
      · have e' : upd c.G p (.lst xs) q = some u := e
        rw [upd_ne eb] at e'
        exact h.ok.s q u e'
    · obtain ⟨k1, u, k2, k3⟩ := h.ok.at' n x e
      refine ⟨?_, u, k2, k3.mono le trivial⟩
      show upd c.G p (.lst xs) (c.ι n) = none
      rw [upd_ne (h.m n ⟨x, e⟩)]; exact k1
  | true =>
    have old : ∀ n, n < c.μ.length → (if n = c.μ.length then p else c.ι n) = c.ι n := fun n hn => by rw [if_neg (Nat.ne_of_lt hn)]
    have le : Le c (⟨fun n => if n = c.μ.length then p else c.ι n, c.μ ++ [some (.lst ds)], c.G, c.H, c.L, c.T⟩ : Cf) := ⟨Same.refl _, by simp, old⟩
    have fr : ∀ n, live (c.μ ++ [some (Cell.lst ds)]) n → live c.μ n ∨ n = c.μ.length := fun n l => by
      rcases ze7 l with z | ⟨z, _⟩
      · exact .inl z
      · exact .inr z
    have top : Dp W (⟨fun n => if n = c.μ.length then p else c.ι n, c.μ ++ [some (.lst ds)], c.G, c.H, c.L, c.T⟩ : Cf) (.ref p) (.own c.μ.length) := by
      have := Dp.own (W := W) (c := (⟨fun n => if n = c.μ.length then p else c.ι n, c.μ ++ [some (.lst ds)], c.G, c.H, c.L, c.T⟩ : Cf)) (n := c.μ.length) (by simp)
      simpa using this
    refine w (.ref p) ⟨fun n => if n = c.μ.length then p else c.ι n, c.μ ++ [some (.lst ds)], c.G, c.H, c.L, c.T⟩ rfl ⟨h.st.g, Nat.le_trans h.st.len (by simp), fun n hn => (old n (Nat.lt_of_lt_of_le hn h.st.len)).trans (h.st.ag n hn), fun n hn l => ?_, fun n hn l => ?_, h.st.lk, h.st.tk⟩ ⟨h.ok.s, h.ok.lk, fun n y e => ?_, fun n m ln lm e => ?_, fun n y e hy => ?_, h.ok.tb.mono rfl (fun _ _ e => e) (fun _ _ e => e) (fun _ _ e => ⟨_, e⟩) fun _ _ _ e => e⟩ top
    · rcases fr n l with l | rfl
      · exact h.st.dead n hn l
      · exact absurd hn (Nat.not_lt_of_le h.st.len)
    · rcases fr n l with l | rfl
      · show c1.H (if n = c.μ.length then p else c.ι n) = none
        rw [old n (zat l)]
        exact h.st.fresh n hn l
      · show c1.H (if c.μ.length = c.μ.length then p else _) = none
        rw [if_pos rfl]; exact h1
    · show c.G (if n = c.μ.length then p else c.ι n) = none ∧ ∃ o, c.H (if n = c.μ.length then p else c.ι n) = some o ∧ _
      rcases fr n ⟨y, e⟩ with l | rfl
      · have e' : c.μ[n]? = some (some y) := by rw [← e]; exact (List.getElem?_append_left (zat l)).symm
        obtain ⟨k1, u, k2, k3⟩ := h.ok.at' n y e'
        rw [old n (zat l)]
        exact ⟨k1, u, k2, k3.mono le trivial⟩
      · have ey : Cell.lst ds = y := by
          have e2 : (c.μ ++ [some (Cell.lst ds)])[c.μ.length]? = some (some y) := e
          simp at e2
          exact e2
        subst ey
        rw [if_pos rfl]
        exact ⟨h.g, _, hp, xs, rfl, zaq le ha⟩
    · have e' : (if n = c.μ.length then p else c.ι n) = (if m = c.μ.length then p else c.ι m) := e
      rcases fr n ln with l | rfl
      · rcases fr m lm with k | rfl
        · rw [old n (zat l), old m (zat k)] at e'
          exact h.ok.inj n m l k e'
        · rw [old n (zat l), if_pos rfl] at e'
          exact absurd e' (h.m n l)
      · rcases fr m lm with k | rfl
        · rw [old m (zat k), if_pos rfl] at e'
          exact absurd e'.symm (h.m m k)
        · rfl
    · show c.L (if n = c.μ.length then p else c.ι n) ≠ none
      rcases fr n ⟨y, e⟩ with l | rfl
      · have e' : c.μ[n]? = some (some y) := by rw [← e]; exact (List.getElem?_append_left (zat l)).symm
        rw [old n (zat l)]
        exact h.ok.lc n y e' hy
      · have e2 : (c.μ ++ [some (Cell.lst ds)])[c.μ.length]? = some (some y) := e
        simp at e2
        rw [← e2] at hy; cases hy
theorem zto {b : Bool} {g : TG} {gm : D → Env → Option Env} {t : MT} {el : ME} {vs : List Nat} {J : It} {src : Src} {ρ : Env} {σ : L2.St} {c1 : Cf} {Q : VK} (hg : LcT W g vs gm) (ok1 : Ok W c1) (env : EnvR W c1 σ ρ) (hw : zhq W J c1 src)
    (w1 : Wp W (Dp W) ((lcA src.w c1.μ gm t el (wipeD ρ vs) src.items [] c1.μ).bind fun xs μ => newL b xs μ) c1 Q E) : ∀ D, c1.H D = none → ∃ W' : Nat → Nat → Hp → Prop, (∃ m, W' 0 m (upd c1.H D (.lst []))) ∧ ∀ i m H, W' i m H →
  (J.stop i H ∧ Q (.ref D) H) ∨ (J.go i H ∧ ∃ Nx : Hp → Prop, (∀ H', Nx H' → ∃ m', m' < m ∧ W' (i + 1) m' H') ∧ ∀ x H', J.yld i H x H' → g x (L2.wipe σ vs) H' fun σ2 H2 => L2.wipe σ2 vs = L2.wipe σ vs ∧ tT W E0' t σ2 H2 fun b H3 =>
    if b = true then tE W E0' el σ2 H3 fun y H4 => ∃ acc, H4 D = some (.lst acc) ∧ acc.length < sizeLine ∧ Nx (upd H4 D (.lst (acc ++ [y]))) else Nx H3) := by
  intro p hp
  obtain ⟨Gd, Y, wk, hG, hY⟩ := hw.ex
  have env1 := env.wipe vs
  cases el0 : lcA src.w c1.μ gm t el (wipeD ρ vs) src.items [] c1.μ with
  | bad => rw [el0] at w1; exact w1.elim
  | exc x μ' => exact absurd el0 znj
  | ok xs μ' =>
    rw [el0] at w1
    have w1' : Wp W (Dp W) (newL b xs μ') c1 Q E := w1
    have as0 : Aside W c1 (c1.to c1.G (upd c1.H p (.lst []))) p := by
      have z : Aside W c1 c1 p := ⟨ok1, .refl ok1, Cs.same_none ok1.s hp, fun n l e => ok1.hcell l (by rw [e]; exact hp), zvw ok1 hp, zmk hp⟩
      exact z.put hp ok1
    refine lc_it wk (fun i H' => ∃ c' acc ac, c'.H = H' ∧ Aside W c1 c' p ∧ c'.H p = some (.lst ac) ∧ DpA W c' ac acc ∧ lcA src.w c1.μ gm t el (wipeD ρ vs) (src.items.drop i) acc c'.μ = .ok xs μ')
      ⟨c1.to c1.G (upd c1.H p (.lst [])), [], [], rfl, as0, upd_same, .nil, el0⟩ (fun i H' _ ⟨c', acc, ac, e, as, _, _, q⟩ => by
        rw [← e]; exact hG c' as.st.le as.st.lk as.ok (zrz (by rw [q]; exact fun z => by cases z))) ?_ ?_
    · rintro i x H2 H3 hi ⟨c', acc, ac, rfl, as, hp', ha, q⟩ hy
      have hw' : watch src.w c1.μ c'.μ := zrz (by rw [q]; exact fun z => by cases z)
      obtain ⟨d, G3, hd, g3, hx⟩ := hY i x c' H3 hi as.st.le as.st.lk as.ok hw' hy
      have hdrop : src.items.drop i = d :: src.items.drop (i + 1) := by
        rw [List.drop_eq_getElem_cons hi]
        congr 1
        rw [List.getElem?_eq_getElem hi] at hd
        exact Option.some.inj hd
      obtain ⟨ok3, st3⟩ := zj3 as.ok g3
      obtain ⟨as3, hp3⟩ := as.step hp' ok3 st3
      rw [hdrop] at q
      unfold lcA at q
      rw [if_pos hw'] at q
      cases eg : gm d (wipeD ρ vs) with
      | none => rw [eg] at q; cases q
      | some ρ2 =>
        rw [eg] at q
        dsimp only at q
        refine hg (c'.to G3 H3) x d (L2.wipe σ vs) (wipeD ρ vs) ρ2 _ ok3 (env1.mono (as.st.le.trans st3.le)) hx eg fun σ2 env2 hwp => ⟨hwp.trans zrh, ?_⟩
        refine ⟨ρ2, c'.to G3 H3, rfl, ok3, env2, ?_⟩
        show Wp W _ (t ρ2 c'.μ) _ _ _
        cases et : t ρ2 c'.μ with
        | bad => rw [et] at q; cases q
        | exc y μ2 => rw [et] at q; cases q
        | ok k μ2 =>
          rw [et] at q
          intro k' c4 e4 s4 ok4 hk
          subst hk
          obtain ⟨as4, hp4⟩ := as3.step hp3 ok4 s4
          cases k' with
          | false =>
            rw [if_neg Bool.false_ne_true]
            exact ⟨c4, acc, ac, rfl, as4, hp4, zaq (st3.le.trans s4.le) ha, by rw [e4]; exact q⟩
          | true =>
            rw [if_pos rfl]
            dsimp only at q
            refine ⟨ρ2, c4, rfl, ok4, env2.mono s4.le, ?_⟩
            rw [e4]
            cases ee : el ρ2 μ2 with
            | bad => rw [ee] at q; cases q
            | exc y μ5 => rw [ee] at q; cases q
            | ok y μ5 =>
              rw [ee] at q
              dsimp only at q
              intro u c5 e5 s5 ok5 r5
              obtain ⟨as5, hp5⟩ := as4.step hp4 ok5 s5
              have ha5 := zaq ((st3.le.trans s4.le).trans s5.le) ha
              split at q
              · rename_i hl
                refine ⟨ac, hp5, by rw [zan ha]; exact hl, c5.to c5.G (upd c5.H p (.lst (ac ++ [u]))), acc ++ [y], ac ++ [u], rfl, as5.put hp ok1, upd_same, zaq (le_to (Same.refl _)) (zdj ha5 (.cons r5 .nil)), ?_⟩
                show lcA _ _ _ _ _ _ _ _ c5.μ = _
                rw [e5]; exact q
              · cases q
    · rintro H' ⟨c', acc, ac, rfl, as, hp', ha, q⟩
      rw [List.drop_length] at q
      unfold lcA at q
      split at q
      · cases q
        exact as.done hp hp' ha w1'
      · cases q
theorem me_lc {b : Bool} {i : MI} {g : TG} {gm : D → Env → Option Env} {t : MT} {el : ME} {vs : List Nat} (hg : LcT W g vs gm) (h : PE X e (tLc (tI W E i) g (tT W E0' t) (tE W E0' el) vs)) : PE X e (tE W E (mLc b i gm t el vs)) := zav h fun σ H Q ⟨ρ, c, hH, ok, env, w⟩ =>
  ⟨ρ, c, hH, ok, env, wp_bind w fun J src c1 s1 ok1 hw w1 => zto hg ok1 (env.mono s1.le) hw w1⟩
theorem zij {es : List Expr} (h : PTs X es tYes) : PTs X es (tT W E (fun _ μ => .ok true μ)) := ⟨fun pins s σ H Q I ⟨ρ, c, hH, ok, env, w⟩ => h.run pins s σ H Q I (by subst hH; exact zaj w ok rfl)⟩
end
end Mi
namespace Mi
open PySem PySem.Spec L2
open Classical
section
variable {W : Wd} {E : XK} {X : Cx} {c : Cf} {v u : V} {d : D} {ds : List D} {Q : VK}
theorem zw1 {vs : List V} {ds : List D} (h : DpA W c vs ds) (lo hi : Option Int) : DpA W c (cutV vs lo hi) ((ds.drop (HT.sIx ds.length 0 lo)).take (HT.sIx ds.length ds.length hi - HT.sIx ds.length 0 lo)) := by
  unfold cutV
  rw [zan h]
  exact zjw _ (zjx _ h)
def cutD (ds : List D) (lo hi : Option Int) : List D := (ds.drop (HT.sIx ds.length 0 lo)).take (HT.sIx ds.length ds.length hi - HT.sIx ds.length 0 lo)
def fAdd (b : Bool) : D → D → Store → Res D := fun x y μ => match x, y with
  | .int i, .int j => .ok (.int (i + j)) μ
  | .str i, .str j => if i.length + j.length ≤ sizeLine then .ok (.str (i ++ j)) μ else .bad
  | .tup xs, .tup ys => if xs.length + ys.length ≤ sizeLine then .ok (.tup (xs ++ ys)) μ else .bad
  | x, y => match seqL μ x, seqL μ y with
    | some xs, some ys => if xs.length + ys.length ≤ sizeLine then newL b (xs ++ ys) μ else .bad
    | _, _ => .bad
theorem zcw {b : Bool} : OpM W E (Cs.rAddD W.K) (fAdd b) := fun c x y v u Q ok hx hy w => by
  have lists : ∀ xs ys, seqL c.μ x = some xs → seqL c.μ y = some ys → xs.length + ys.length ≤ sizeLine → Wp W (Dp W) (newL b (xs ++ ys) c.μ) c Q E → Cs.rAddD W.K v u c.H Q := by
    intro xs ys e1 e2 hl w
    obtain ⟨a, vs, rfl, h1, h2⟩ := zcu ok hx e1
    obtain ⟨a', ws, rfl, h3, h4⟩ := zcu ok hy e2
    exact .inr (.inr (.inl ⟨a, a', vs, ws, rfl, rfl, h1, h3, by rw [zan h2, zan h4]; exact hl, fun p hp => zfe w ok (zdj h2 h4) hp⟩))
  unfold fAdd at w
  split at w
  · cases hx; cases hy
    exact .inl ⟨_, _, rfl, rfl, zaj w ok (.int _)⟩
  · cases hx; cases hy
    split at w
    · rename_i hl; exact .inr (.inl ⟨_, _, rfl, rfl, hl, zaj w ok (.str _)⟩)
    · exact w.elim
  · split at w
    · rename_i hl
      cases hx with
      | tup h1 h2 =>
        cases hy with
        | tup h3 h4 =>
          refine .inr (.inr (.inr ⟨_, _, _, _, rfl, rfl, Cs.zby ok.s h1, Cs.zby ok.s h3, by rw [zan h2, zan h4]; exact hl, fun e => ?_, fun _ e => ?_, fun _ _ p hp => zi5 w ok (zdj h2 h4) hp⟩))
          · subst e
            cases h2
            exact zaj w ok (.tup h3 h4)
          · subst e
            cases h4
            rw [List.append_nil] at w
            exact zaj w ok (.tup h1 h2)
    · exact w.elim
  · split at w
    · rename_i e1 e2
      split at w
      · rename_i hl; exact lists _ _ e1 e2 hl w
      · exact w.elim
    · exact w.elim
def fI2 (g : Int → Int → D) : D → D → Store → Res D := fun x y μ => match x, y with
  | .int i, .int j => .ok (g i j) μ
  | _, _ => .bad
theorem zs7 {g : Int → Int → V} {gd : Int → Int → D} (hg : ∀ c i j, Dp W c (g i j) (gd i j)) : OpM W E (rI0 g) (fI2 gd) := fun c x y v u Q ok hx hy w => by
  unfold fI2 at w
  split at w
  · cases hx; cases hy
    exact ⟨_, _, rfl, rfl, zaj w ok (hg _ _ _)⟩
  · exact w.elim
theorem zac5 : OpM W E Cs.rSubI (fI2 fun i j => .int (i - j)) := zs7 fun _ _ _ => .int _
theorem zyx : OpM W E Cs.rGtI (fI2 fun i j => .bl (decide (j < i))) := zs7 fun _ _ _ => .bl _
theorem zpp : OpM W E Cs.rLeI (fI2 fun i j => .bl (decide (i ≤ j))) := zs7 fun _ _ _ => .bl _
def fI2c (C : Int → Int → Prop) (g : Int → Int → D) : D → D → Store → Res D := fun x y μ => match x, y with
  | .int i, .int j => if C i j then .ok (g i j) μ else .bad
  | _, _ => .bad
theorem opm_I {C : Int → Int → Prop} {g : Int → Int → V} {gd : Int → Int → D} (hg : ∀ c i j, Dp W c (g i j) (gd i j)) : OpM W E (rI C g) (fI2c C gd) := fun c x y v u Q ok hx hy w => by
  unfold fI2c at w
  split at w
  · cases hx; cases hy
    split at w
    · rename_i hc; exact ⟨_, _, rfl, rfl, hc, zaj w ok (hg _ _ _)⟩
    · exact w.elim
  · exact w.elim
theorem zk4 : OpM W E Cs.rModI (fI2c (fun _ j => j ≠ 0) fun i j => .int (i.fmod j)) := opm_I fun _ _ _ => .int _
theorem zvs : OpM W E Cs.rDivI (fI2c CDivN fun i j => .int (i.fdiv j)) := opm_I fun _ _ _ => .int _
theorem zvp : OpM W E Cs.rPowI (fI2c Cs.CPowW fun i j => .int (i ^ j.toNat)) := opm_I fun _ _ _ => .int _
def ownL (μ : Store) : D → Option (Nat × List D)
  | .own n => match μ[n]? with
    | some (some (.lst ds)) => some (n, ds)
    | _ => none
  | _ => none
theorem zgw {n : Nat} (ok : Ok W c) (h : Dp W c v d) (e : ownL c.μ d = some (n, ds)) : d = .own n ∧ c.μ[n]? = some (some (.lst ds)) ∧ v = .ref (c.ι n) ∧ ∃ xs, c.H (c.ι n) = some (.lst xs) ∧ DpA W c xs ds := by
  cases h with
  | own hn =>
    unfold ownL at e
    dsimp only at e
    split at e
    · rename_i x hx
      cases Option.some.inj e
      obtain ⟨_, o, ho, xs, rfl, ha⟩ := ok.at' _ _ hx
      exact ⟨rfl, hx, rfl, xs, ho, ha⟩
    · cases e
  | _ => cases e
def ownK (μ : Store) : D → Option (Nat × List Key × List D)
  | .own n => match μ[n]? with
    | some (some (.dct ks ds)) => some (n, ks, ds)
    | _ => none
  | _ => none
theorem zq1 {n : Nat} {ks : List Key} (ok : Ok W c) (h : Dp W c v d) (e : ownK c.μ d = some (n, ks, ds)) : d = .own n ∧ c.μ[n]? = some (some (.dct ks ds)) ∧ v = .ref (c.ι n) ∧ ∃ xs, c.H (c.ι n) = some (.dK (Cs.kvL ks xs)) ∧ ks.length = xs.length ∧ ks.Nodup ∧ DpA W c xs ds := by
  cases h with
  | own hn =>
    unfold ownK at e
    dsimp only at e
    split at e
    · rename_i x hx
      cases Option.some.inj e
      obtain ⟨_, o, ho, xs, rfl, hl, hnd, ha⟩ := ok.at' _ _ hx
      exact ⟨rfl, hx, rfl, xs, ho, hl, hnd, ha⟩
    · cases e
  | _ => cases e
def fMul (b : Bool) : D → D → Store → Res D := fun x y μ => match x, y with
  | .int i, .int j => if CMulW i j then .ok (.int (i * j)) μ else .bad
  | x, .int k => match ownL μ x with
    | some (_, xs) => if -(2 ^ 63) ≤ k ∧ k < 2 ^ 63 ∧ xs.length * k.toNat ≤ sizeLine then newL b (List.replicate k.toNat xs).flatten μ else .bad
    | none => .bad
  | _, _ => .bad
theorem zw0 {vs : List V} {ds : List D} (h : DpA W c vs ds) : ∀ n, DpA W c (List.replicate n vs).flatten (List.replicate n ds).flatten
  | 0 => .nil
  | n + 1 => by
    rw [List.replicate_succ, List.replicate_succ, List.flatten_cons, List.flatten_cons]
    exact zdj h (zw0 h n)
theorem zi8 {b : Bool} : OpM W E Cs.rMulD (fMul b) := fun c x y v u Q ok hx hy w => by
  unfold fMul at w
  split at w
  · cases hx; cases hy
    split at w
    · rename_i hc; exact .inl ⟨_, _, rfl, rfl, hc, zaj w ok (.int _)⟩
    · exact w.elim
  · split at w
    · rename_i n xs e
      split at w
      · rename_i hc
        cases hy
        obtain ⟨rfl, _, rfl, vs, h1, h2⟩ := zgw ok hx e
        exact .inr ⟨_, _, vs, rfl, rfl, h1, hc.1, hc.2.1, by rw [zan h2]; exact hc.2.2, fun p hp => zfe w ok (zw0 h2 _) hp⟩
      · exact w.elim
    · exact w.elim
  · exact w.elim
def zfb (neg : Bool) : D → D → Store → Res D := fun x y μ => match x.view μ, y.view μ with
  | some p, some q => if SeqAt.shaped p = true ∧ SeqAt.shaped q = true then .ok (.bl (if neg = true then !PyData.eqv p q else PyData.eqv p q)) μ else .bad
  | _, _ => .bad
def eqOne (neg : Bool) : D → D → Store → Res D := fun x y μ => match x, y with
  | .str a, .str b => .ok (.bl (if neg = true then !(a == b) else a == b)) μ
  | _, _ => zfb neg x y μ
def fEq (neg : Bool) : D → D → Store → Res D := fun x y μ => match seqL μ x, seqL μ y with
  | some xs, some ys => if xs.length = ys.length then zfb neg x y μ else .ok (.bl neg) μ
  | _, _ => eqOne neg x y μ
def rEqZ (K : PySem.W.Frag) (b : Bool) (r : R2) : R2 := fun x y H Q => (r x y H Q ∨ ∃ p q xs ys, x = .ref p ∧ y = .ref q ∧ SqL K H p xs ∧ SqL K H q ys ∧ xs.length ≠ ys.length ∧ Q (.bl b) H) ∨ ∃ i j : Str, x = .str i ∧ y = .str j ∧ Q (.bl (if b = true then !(i == j) else i == j)) H
theorem za7 {X : Cx} (hu : X.A.units + 64 < cLine) : OpR X (compareOp .Eq) (rEqZ X.K false (rEqD X.K)) := fun pins s σ H x y v u Q I rx ry h => by
  rcases h with (h | ⟨p, q, xs, ys, rfl, rfl, hp, hq, hn, w⟩) | ⟨i, j, rfl, rfl, w⟩
  rotate_left 2
  · refine op_eq pins s σ H _ _ v u Q I rx ry ⟨rfl, ?_⟩
    rw [dec_str]
    exact w
  · exact op_eqD hu pins s σ H x y v u Q I rx ry h
  · cases rx; cases ry
    obtain ⟨i1, r1, l1, _⟩ := I.list hp
    obtain ⟨i2, r2, l2, _⟩ := I.list hq
    exact SeqAt.RcAt.lists_lengths l1.isList l2.isList (by simp only [List.size_toArray, bne_iff_ne]; rw [← r1.length, ← r2.length]; exact hn) (by omega) X.prog X.w _ _ ⟨.bl _, H, I, rfl, w⟩
theorem zs8 {X : Cx} (hu : X.A.units + 64 < cLine) : OpR X (compareOp .NotEq) (rEqZ X.K true (rNeD X.K)) := fun pins s σ H x y v u Q I rx ry h => by
  rcases h with (h | ⟨p, q, xs, ys, rfl, rfl, hp, hq, hn, w⟩) | ⟨i, j, rfl, rfl, w⟩
  rotate_left 2
  · refine op_ne pins s σ H _ _ v u Q I rx ry ⟨rfl, ?_⟩
    rw [dec_str]
    exact w
  · exact op_neD hu pins s σ H x y v u Q I rx ry h
  · cases rx; cases ry
    obtain ⟨i1, r1, l1, _⟩ := I.list hp
    obtain ⟨i2, r2, l2, _⟩ := I.list hq
    exact SeqAt.RcNeAt.lists_lengths l1.isList l2.isList (by simp only [List.size_toArray, bne_iff_ne]; rw [← r1.length, ← r2.length]; exact hn) (by omega) X.prog X.w _ _ ⟨.bl _, H, I, rfl, w⟩
theorem zub {neg : Bool} {x y : D} (ok : Ok W c) (hx : Dp W c v x) (hy : Dp W c u y) (w : Wp W (Dp W) (zfb neg x y c.μ) c Q E) :
    ∃ p q, Cs.Dp W.K c.H v p ∧ Cs.Dp W.K c.H u q ∧ SeqAt.shaped p = true ∧ SeqAt.shaped q = true ∧ Q (.bl (if neg = true then !PyData.eqv p q else PyData.eqv p q)) c.H := by
  unfold zfb at w
  split at w
  · rename_i p q e1 e2
    split at w
    · rename_i hs
      exact ⟨p, q, zln ok hx e1, zln ok hy e2, hs.1, hs.2, zaj w ok (.bl _)⟩
    · exact w.elim
  · exact w.elim
theorem za6 : OpM W E (rEqZ W.K false (rEqD W.K)) (fEq false) := fun c x y v u Q ok hx hy w => by
  have fin : Wp W (Dp W) (zfb false x y c.μ) c Q E → rEqZ W.K false (rEqD W.K) v u c.H Q := fun w => by
    obtain ⟨p, q, h1, h2, s1, s2, k⟩ := zub ok hx hy w
    exact .inl (.inl ⟨p, q, h1.old _ _ (Cs.zd7 s1), h2.old _ _ (Cs.zd7 s2), s1, s2, k⟩)
  unfold fEq at w
  split at w
  · rename_i xs ys e1 e2
    split at w
    · exact fin w
    · rename_i hn
      obtain ⟨a, us, rfl, h1, h2⟩ := zcu ok hx e1
      obtain ⟨b, ws, rfl, h3, h4⟩ := zcu ok hy e2
      exact .inl (.inr ⟨a, b, us, ws, rfl, rfl, h1, h3, by rw [zan h2, zan h4]; exact hn, zaj w ok (.bl _)⟩)
  · unfold eqOne at w
    split at w
    · cases hx; cases hy
      exact .inr ⟨_, _, rfl, rfl, zaj w ok (.bl _)⟩
    · exact fin w
theorem zs6 : OpM W E (rEqZ W.K true (rNeD W.K)) (fEq true) := fun c x y v u Q ok hx hy w => by
  have fin : Wp W (Dp W) (zfb true x y c.μ) c Q E → rEqZ W.K true (rNeD W.K) v u c.H Q := fun w => by
    obtain ⟨p, q, h1, h2, s1, s2, k⟩ := zub ok hx hy w
    exact .inl (.inl ⟨p, q, h1.old _ _ (Cs.zd7 s1), h2.old _ _ (Cs.zd7 s2), s1, s2, k⟩)
  unfold fEq at w
  split at w
  · rename_i xs ys e1 e2
    split at w
    · exact fin w
    · rename_i hn
      obtain ⟨a, us, rfl, h1, h2⟩ := zcu ok hx e1
      obtain ⟨b, ws, rfl, h3, h4⟩ := zcu ok hy e2
      exact .inl (.inr ⟨a, b, us, ws, rfl, rfl, h1, h3, by rw [zan h2, zan h4]; exact hn, zaj w ok (.bl _)⟩)
  · unfold eqOne at w
    split at w
    · cases hx; cases hy
      exact .inr ⟨_, _, rfl, rfl, zaj w ok (.bl _)⟩
    · exact fin w
def fLt : D → D → Store → Res D := fun x y μ => match x.view μ, y.view μ with
  | some p, some q => if p.hasDict = false ∧ q.hasDict = false ∧ PySem.W.alike p q = true ∧ p ≠ .none ∧ p.depth ≤ 64 then .ok (.bl (PySem.W.dataLt p q)) μ else .bad
  | _, _ => .bad
theorem zaev : OpM W E (Cs.rLtD W.K) fLt := fun c x y v u Q ok hx hy w => by
  unfold fLt at w
  split at w
  · rename_i p q e1 e2
    split at w
    · rename_i hs
      exact ⟨p, q, (zln ok hx e1).old _ _ hs.1, (zln ok hy e2).old _ _ hs.2.1, hs.2.2.1, hs.2.2.2.1, hs.2.2.2.2, zaj w ok (.bl _)⟩
    · exact w.elim
  · exact w.elim
def fLeS : D → D → Store → Res D := fun x y μ => match x, y with
  | .str i, .str j => .ok (.bl (!decide (j.cps.toList < i.cps.toList))) μ
  | _, _ => .bad
theorem zvu {X : Cx} : OpR X (compareOp .LtE) Cs.rLeS := op_le_str
theorem zvq : OpM W E Cs.rLeS fLeS := fun c x y v u Q ok hx hy w => by
  unfold fLeS at w
  split at w
  · cases hx; cases hy
    exact ⟨_, _, rfl, rfl, zaj w ok (.bl _)⟩
  · exact w.elim
def zdc : D → Bool
  | .non => true
  | _ => false
theorem zaaf (h : Dp W c v d) : decide (v = V.non) = zdc d := by
  cases h <;> first | rfl | exact decide_eq_false (fun z => by cases z)
def fIsN (neg : Bool) : D → D → Store → Res D := fun x y μ => match y with
  | .non => .ok (.bl (if neg = true then !zdc x else zdc x)) μ
  | _ => .bad
theorem zvr : OpM W E rIsN (fIsN false) := fun c x y v u Q ok hx hy w => by
  unfold fIsN at w
  split at w
  · cases hy
    exact ⟨rfl, by rw [zaaf hx]; exact zaj w ok (.bl _)⟩
  · exact w.elim
theorem zabs : OpM W E rNotN (fIsN true) := fun c x y v u Q ok hx hy w => by
  unfold fIsN at w
  split at w
  · cases hy
    exact ⟨rfl, by rw [zaaf hx]; exact zaj w ok (.bl _)⟩
  · exact w.elim
def flatD : D → Bool
  | .non => true
  | .bl _ => true
  | .int _ => true
  | .str _ => true
  | _ => false
def eqF : D → D → Bool
  | .non, .non => true
  | .bl a, .bl b => a == b
  | .bl a, .int b => (if a then 1 else 0) == b
  | .int a, .bl b => a == (if b then 1 else 0)
  | .int a, .int b => a == b
  | .str a, .str b => a == b
  | _, _ => false
def inF (x : D) (ds : List D) : Bool := ds.any fun y => eqF y x
theorem zw2 (h : Dp W c v d) (f : flatD d = true) : flatV v = true := by
  cases h <;> first | rfl | cases f
theorem zad0 {e : D} (h1 : Dp W c v d) (h2 : Dp W c u e) (f1 : flatD d = true) (f2 : flatD e = true) : L2.eqV v u = eqF d e := by
  cases h1 <;> cases h2 <;> first | rfl | cases f1 | cases f2
theorem zui : ∀ {vs : List V} {ds : List D}, DpA W c vs ds → ds.all flatD = true → vs.all flatV = true
  | _, _, .nil, _ => rfl
  | _, _, .cons h t, f => by
    rw [List.all_cons, Bool.and_eq_true] at f ⊢
    exact ⟨zw2 h f.1, zui t f.2⟩
theorem zwi (h : Dp W c v d) (f : flatD d = true) : ∀ {vs : List V} {ds : List D}, DpA W c vs ds → ds.all flatD = true → inV v vs = inF d ds
  | _, _, .nil, _ => rfl
  | _, _, .cons h1 t, g => by
    rw [List.all_cons, Bool.and_eq_true] at g
    have ih := zwi h f t g.2
    unfold inV inF at ih ⊢
    rw [List.any_cons, List.any_cons, ih, zad0 h1 h g.1 f]
def inS (i j : Str) : Bool := !(Builtin.Str.occurrences j i 0 j.length 1).isEmpty
def fIn (neg : Bool) : D → D → Store → Res D := fun x y μ => match x, y with
  | .str i, .str j => .ok (.bl (if neg = true then !inS i j else inS i j)) μ
  | x, y => match (match seqL μ y with
      | some ds => some ds
      | none => seqT y) with
    | some ds => if flatD x = true ∧ ds.all flatD = true then .ok (.bl (if neg = true then !inF x ds else inF x ds)) μ else .bad
    | none => .bad
theorem zjv {x y : D} {ds : List D} (ok : Ok W c) (hy : Dp W c u y) (e : (match seqL c.μ y with
      | some ds => some ds
      | none => seqT y) = some ds) : ∃ a xs, u = .ref a ∧ (SqL W.K c.H a xs ∨ SqT W.K c.H a xs) ∧ DpA W c xs ds := by
  split at e
  · rename_i ds' h
    cases Option.some.inj e
    obtain ⟨a, xs, rfl, h1, h2⟩ := zcu ok hy h
    exact ⟨a, xs, rfl, .inl h1, h2⟩
  · obtain ⟨a, xs, rfl, h1, h2⟩ := zn3 ok hy e
    exact ⟨a, xs, rfl, .inr h1, h2⟩
theorem zpq : OpM W E (Cs.rInD W.K) (fIn false) := fun c x y v u Q ok hx hy w => by
  unfold fIn at w
  split at w
  · cases hx; cases hy
    exact .inr ⟨_, _, rfl, rfl, zaj w ok (.bl _)⟩
  · split at w
    · rename_i ds e
      split at w
      · rename_i hf
        obtain ⟨a, xs, rfl, h1, h2⟩ := zjv (x := x) ok hy e
        refine .inl ⟨a, xs, rfl, h1, zw2 hx hf.1, zui h2 hf.2, ?_⟩
        rw [if_neg Bool.false_ne_true, zwi hx hf.1 h2 hf.2]
        rw [if_neg Bool.false_ne_true] at w
        exact zaj w ok (.bl _)
      · exact w.elim
    · exact w.elim
def fIx : D → D → Store → Res D := fun x y μ => match x, y with
  | .str z, .int i => if z.length ≤ sizeLine then match atI z.cps.toList i with
      | some k => .ok (.str ⟨#[k]⟩) μ
      | none => .bad
    else .bad
  | x, .int i => match (match seqL μ x with
      | some ds => some ds
      | none => seqT x) with
    | some ds => match atI ds i with
      | some d => .ok d μ
      | none => .bad
    | none => .bad
  | _, _ => .bad
theorem zafp {vs : List V} {ds : List D} {i : Int} {d : D} (h : DpA W c vs ds) (e : atI ds i = some d) : ∃ v, atI vs i = some v ∧ Dp W c v d := by
  obtain ⟨j, h1, h2⟩ := Cs.zad8 (zan h) e
  obtain ⟨v, h3, h4⟩ := zhz h h1
  exact ⟨v, h2 v h3, h4⟩
theorem zag : OpM W E (rIx W.K) fIx := fun c x y v u Q ok hx hy w => by
  unfold fIx at w
  split at w
  · cases hx; cases hy
    split at w
    · rename_i hl
      split at w
      · rename_i k hk; exact .inr (.inr ⟨_, _, k, rfl, rfl, hl, hk, zaj w ok (.str _)⟩)
      · exact w.elim
    · exact w.elim
  · split at w
    · rename_i ds e
      split at w
      · rename_i d hd
        cases hy
        obtain ⟨a, xs, rfl, h1, h2⟩ := zjv (x := x) ok hx e
        obtain ⟨z, h3, h4⟩ := zafp h2 hd
        rcases h1 with h1 | h1
        · exact .inl ⟨a, xs, _, z, rfl, rfl, h1, h3, zaj w ok h4⟩
        · exact .inr (.inl ⟨a, xs, _, z, rfl, rfl, h1, h3, zaj w ok h4⟩)
      · exact w.elim
    · exact w.elim
  · exact w.elim
abbrev MO := Env → Store → Res (Option Int)
def tO (W : Wd) (E : XK) (m : MO) : St → Hp → (Option Int → Hp → Prop) → Prop := fun σ H Q => ∃ ρ c, c.H = H ∧ Ok W c ∧ EnvR W c σ ρ ∧ Wp W (fun _ (b d : Option Int) => b = d) (m ρ c.μ) c Q E
def znf : MO := fun _ μ => .ok none μ
def zgb (a : ME) : MO := fun ρ μ => (a ρ μ).bind fun d μ => match d with
  | .int i => .ok (some i) μ
  | _ => .bad
theorem zvk {o : Option Expr} {t t' : St → Hp → (Option Int → Hp → Prop) → Prop} (h : PO X o t) (f : ∀ σ H Q, t' σ H Q → t σ H Q) : PO X o t' := ⟨fun pins s σ H Q I q => h.run pins s σ H Q I (f _ _ _ q)⟩
theorem zv1 {o : Option Expr} (h : PO X o tNoPart) : PO X o (tO W E znf) := zvk h fun σ H Q ⟨ρ, c, hH, ok, env, w⟩ => by
  subst hH
  exact zaj w ok rfl
theorem zn5 {o : Option Expr} {a : ME} (h : PO X o (tPart (tE W E a))) : PO X o (tO W E (zgb a)) := zvk h fun σ H Q ⟨ρ, c, hH, ok, env, w⟩ =>
  ⟨ρ, c, hH, ok, env, wp_bind w fun v x c1 s1 ok1 r1 w1 => by
    split at w1
    · cases r1; exact ⟨_, rfl, zaj w1 ok1 rfl⟩
    · exact w1.elim⟩
def fSl (b : Bool) (x : D) (lo hi : Option Int) (μ : Store) : Res D := match x with
  | .str z => if z.length ≤ sizeLine then .ok (.str (cutS z lo hi)) μ else .bad
  | .tup ds => .ok (.tup (cutD ds lo hi)) μ
  | x => match seqL μ x with
    | some ds => newL b (cutD ds lo hi) μ
    | none => .bad
def mSl (b : Bool) (a : ME) (l h : MO) : ME := fun ρ μ => (a ρ μ).bind fun x μ => (l ρ μ).bind fun lo μ => (h ρ μ).bind fun hi μ => fSl b x lo hi μ
theorem zaal {ds : List D} {lo hi : Option Int} (h : HT.sIx ds.length 0 lo = 0 ∧ HT.sIx ds.length ds.length hi = ds.length) : cutD ds lo hi = ds := by
  unfold cutD
  rw [h.1, h.2]
  simp
theorem zou {e : Expr} {b : Bool} {a : ME} {l h' : MO} (h : PE X e (tSl (Cs.rSlD W.K) (tE W E a) (tO W E l) (tO W E h'))) : PE X e (tE W E (mSl b a l h')) := zav h fun σ H Q ⟨ρ, c, hH, ok, env, w⟩ => by
  refine ⟨ρ, c, hH, ok, env, wp_bind w fun v x c1 s1 ok1 r1 w1 => ⟨ρ, c1, rfl, ok1, env.mono s1.le, wp_bind w1 fun lo' lo c2 s2 ok2 r2 w2 => ⟨ρ, c2, rfl, ok2, env.mono (s1.le.trans s2.le), wp_bind w2 fun hi' hi c3 s3 ok3 r3 w3 => ?_⟩⟩⟩
  subst r2 r3
  have r := zay (s2.le.trans s3.le) r1
  unfold fSl at w3
  split at w3
  · cases r
    split at w3
    · rename_i hl; exact .inr (.inr ⟨_, rfl, hl, zaj w3 ok3 (.str _)⟩)
    · exact w3.elim
  · cases r with
    | tup hs ha =>
      refine .inr (.inl ⟨_, _, rfl, Cs.zby ok3.s hs, fun hw => ?_, fun _ p hp => ?_⟩)
      · rw [zan ha] at hw
        rw [zaal hw] at w3
        exact zaj w3 ok3 (.tup hs ha)
      · exact zi5 w3 ok3 (zw1 ha _ _) hp
  · split at w3
    · rename_i ds e
      obtain ⟨a, xs, rfl, h1, h2⟩ := zcu ok3 r e
      exact .inl ⟨a, xs, rfl, h1, fun p hp => zfe w3 ok3 (zw1 h2 _ _) hp⟩
    · exact w3.elim
def fNeg : D → Store → Res D := fun x μ => match x with
  | .int i => .ok (.int (-i)) μ
  | _ => .bad
theorem zxn {X : Cx} : CallR X (.builtin "len") (fun xs H Q => ∃ a kvs, xs = [.ref a] ∧ Rd H a (.dK kvs) ∧ Q (.int kvs.length) H) := by
  intro pins s σ H xs us Q I r h
  obtain ⟨a, kvs, rfl, e, q⟩ := h
  obtain ⟨u, rfl, rx⟩ := vals1 r
  cases rx
  exact d_len I e fun t s' I' => ⟨.int kvs.length, H, I', ⟨t, rfl⟩, q⟩
def rLenA (K : PySem.W.Frag) : List V → Hp → VK → Prop := fun xs H Q => Cs.rLenD K xs H Q ∨ ∃ a kvs, xs = [.ref a] ∧ Rd H a (.dK kvs) ∧ Q (.int kvs.length) H
theorem zb5 {X : Cx} : CallR X (.builtin "len") (rLenA X.K) := CallR.or Cs.zaas zxn
def fLen : List D → Store → Res D := fun xs μ => match xs with
  | [.str z] => if z.length ≤ sizeLine then .ok (.int z.length) μ else .bad
  | [x] => match (match seqL μ x with
      | some ds => some ds
      | none => seqT x) with
    | some ds => .ok (.int ds.length) μ
    | none => match dctOf μ x with
      | some (ks, _) => .ok (.int ks.length) μ
      | none => .bad
  | _ => .bad
theorem zdk : CbM W E (rLenA W.K) fLen := fun c xs vs Q ok hx w => by
  unfold fLen at w
  split at w
  · cases hx with
    | cons h1 h2 =>
      cases h1; cases h2
      split at w
      · rename_i hl; exact .inl ⟨_, _, rfl, ⟨hl, rfl⟩, zaj w ok (.int _)⟩
      · exact w.elim
  · cases hx with
    | cons h1 h2 =>
      cases h2
      split at w
      · rename_i ds e
        obtain ⟨a, xs, rfl, h3, h4⟩ := zjv (x := .non) ok h1 e
        refine .inl ⟨_, _, rfl, ?_, by rw [← zan h4] at w; exact zaj w ok (.int _)⟩
        rcases h3 with h3 | h3
        · exact .inl ⟨xs, h3, rfl⟩
        · exact .inr ⟨xs, h3, rfl⟩
      · split at w
        · rename_i ks ds e
          obtain ⟨a, xs, rfl, h3, h4, _, _⟩ := zns ok h1 e
          refine .inr ⟨a, _, rfl, h3, ?_⟩
          rw [zdh h4]
          exact zaj w ok (.int _)
        · exact w.elim
  · exact w.elim
def allB : List D → Option (List Bool)
  | [] => some []
  | .bl b :: ds => (allB ds).map (b :: ·)
  | _ => none
theorem zw9 : ∀ {ds : List D} {vs : List V} {bs : List Bool}, DpA W c vs ds → allB ds = some bs → vs = bs.map V.bl
  | [], _, _, h, e => by cases h; cases Option.some.inj e; rfl
  | .bl b :: ds, _, bs, h, e => by
    cases h with
    | cons h1 h2 =>
      cases h1
      unfold allB at e
      cases q : allB ds with
      | none => rw [q] at e; cases e
      | some bs' =>
        rw [q] at e
        cases Option.some.inj e
        rw [zw9 h2 q]; rfl
  | .non :: _, _, _, _, e => by cases e
  | .int _ :: _, _, _, _, e => by cases e
  | .str _ :: _, _, _, _, e => by cases e
  | .ty _ :: _, _, _, _, e => by cases e
  | .lst _ :: _, _, _, _, e => by cases e
  | .tup _ :: _, _, _, _, e => by cases e
  | .dct _ _ :: _, _, _, _, e => by cases e
  | .obj _ _ _ :: _, _, _, _, e => by cases e
  | .exc _ _ _ :: _, _, _, _, e => by cases e
  | .cls _ :: _, _, _, _, e => by cases e
  | .own _ :: _, _, _, _, e => by cases e
def fAll (any : Bool) : List D → Store → Res D := fun xs μ => match xs with
  | [x] => match (seqL μ x).bind allB with
    | some bs => .ok (.bl (if any = true then bs.any id else bs.all id)) μ
    | none => .bad
  | _ => .bad
theorem zafs {x : D} {bs : List Bool} (ok : Ok W c) (h : Dp W c v x) (e : (seqL c.μ x).bind allB = some bs) : ∃ a, v = .ref a ∧ SqL W.K c.H a (bs.map V.bl) := by
  cases q : seqL c.μ x with
  | none => rw [q] at e; cases e
  | some ds =>
    rw [q] at e
    obtain ⟨a, xs, rfl, h1, h2⟩ := zcu ok h q
    have := zw9 h2 e
    subst this
    exact ⟨a, rfl, h1⟩
theorem zrf : CbM W E (rAll W.K) (fAll false) := fun c xs vs Q ok hx w => by
  unfold fAll at w
  split at w
  · split at w
    · rename_i bs e
      cases hx with
      | cons h1 h2 =>
        cases h2
        obtain ⟨a, rfl, h3⟩ := zafs ok h1 e
        exact ⟨a, bs, rfl, h3, zaj w ok (.bl _)⟩
    · exact w.elim
  · exact w.elim
def keyDD : Key → D
  | .inl i => .int i
  | .inr x => .str x
theorem zaag {k : Key} : Dp W c (kV k) (keyDD k) := by
  cases k with
  | inl i => exact .int i
  | inr x => exact .str x
theorem zo7 : ∀ {ks : List Key} {xs : List V}, ks.length = xs.length → DpA W c ((Cs.kvL ks xs).map fun kv => kV kv.1) (ks.map keyDD)
  | [], xs, _ => .nil
  | k :: ks, [], h => by simp at h
  | k :: ks, x :: xs, h => .cons zaag (zo7 (by simpa using h))
def zyo (K : PySem.W.Frag) : List V → Hp → VK → Prop := fun xs H Q => Cs.zvh K xs H Q ∨ ∃ (a : Addr) (kvs : List (Key × V)), xs = [.ref a] ∧ Rd H a (.dK kvs) ∧ ∀ p, H p = none → Q (.ref p) (upd H p (.lst (kvs.map fun kv => kV kv.1)))
theorem zie {X : Cx} (hc : X.calm = true) : CallR X (.type "list") (zyo X.K) := CallR.or Cs.zxz (call_listD hc)
def fList (b : Bool) : List D → Store → Res D := fun xs μ => match xs with
  | [x] => match (match seqL μ x with
      | some ds => some ds
      | none => seqT x) with
    | some ds => newL b ds μ
    | none => match dctOf μ x with
      | some (ks, _) => newL b (ks.map keyDD) μ
      | none => .bad
  | _ => .bad
theorem zml {b : Bool} : CbM W E (zyo W.K) (fList b) := fun c xs vs Q ok hx w => by
  unfold fList at w
  split at w
  · cases hx with
    | cons h1 h2 =>
      cases h2
      split at w
      · rename_i ds e
        obtain ⟨a, xs, rfl, h3, h4⟩ := zjv (x := .non) ok h1 e
        exact .inl ⟨a, xs, rfl, h3, fun l hl => zfe w ok h4 hl⟩
      · split at w
        · rename_i ks ds e
          obtain ⟨a, xs, rfl, h3, h4, _, _⟩ := zns ok h1 e
          exact .inr ⟨a, _, rfl, h3, fun q hq => zfe w ok (zo7 h4) hq⟩
        · exact w.elim
  · exact w.elim
def rTupA (K : PySem.W.Frag) : List V → Hp → VK → Prop := fun xs H Q => Cs.zvg K xs H Q ∨ Cs.zvf xs H Q
theorem znw {X : Cx} (hc : X.calm = true) : CallR X (.type "tuple") (rTupA X.K) := CallR.or Cs.zu4 (Cs.zsj hc)
def fTuple : List D → Store → Res D := fun xs μ => match xs with
  | [.tup ds] => .ok (.tup ds) μ
  | [x] => match seqL μ x with
    | some ds => .ok (.tup ds) μ
    | none => match dctOf μ x with
      | some (ks, _) => .ok (.tup (ks.map keyDD)) μ
      | none => .bad
  | _ => .bad
theorem znv : CbM W E (rTupA W.K) fTuple := fun c xs vs Q ok hx w => by
  unfold fTuple at w
  split at w
  · cases hx with
    | cons h1 h2 =>
      cases h2
      cases h1 with
      | tup hs ha => exact .inl ⟨_, _, rfl, .inr ⟨Cs.zby ok.s hs, zaj w ok (.tup hs ha)⟩⟩
  · cases hx with
    | cons h1 h2 =>
      cases h2
      split at w
      · rename_i ds e
        obtain ⟨a, xs, rfl, h3, h4⟩ := zcu ok h1 e
        exact .inl ⟨a, xs, rfl, .inl ⟨h3, fun l hl => zi5 w ok h4 hl⟩⟩
      · split at w
        · rename_i ks ds e
          obtain ⟨a, xs, rfl, h3, h4, _, _⟩ := zns ok h1 e
          exact .inr ⟨a, _, rfl, h3, fun q hq => zi5 w ok (zo7 h4) hq⟩
        · exact w.elim
  · exact w.elim
def strsD : List D → Option (List Str)
  | [] => some []
  | .str x :: ds => (strsD ds).map (x :: ·)
  | _ => none
theorem zsq : ∀ {ds : List D} {vs : List V} {ss : List Str}, DpA W c vs ds → strsD ds = some ss → vs = ss.map V.str
  | [], _, _, h, e => by cases h; cases Option.some.inj e; rfl
  | .str b :: ds, _, bs, h, e => by
    cases h with
    | cons h1 h2 =>
      cases h1
      unfold strsD at e
      cases q : strsD ds with
      | none => rw [q] at e; cases e
      | some bs' =>
        rw [q] at e
        cases Option.some.inj e
        rw [zsq h2 q]; rfl
  | .non :: _, _, _, _, e => by cases e
  | .int _ :: _, _, _, _, e => by cases e
  | .bl _ :: _, _, _, _, e => by cases e
  | .ty _ :: _, _, _, _, e => by cases e
  | .lst _ :: _, _, _, _, e => by cases e
  | .tup _ :: _, _, _, _, e => by cases e
  | .dct _ _ :: _, _, _, _, e => by cases e
  | .obj _ _ _ :: _, _, _, _, e => by cases e
  | .exc _ _ _ :: _, _, _, _, e => by cases e
  | .cls _ :: _, _, _, _, e => by cases e
  | .own _ :: _, _, _, _, e => by cases e
def sortS (ss : List Str) : List Str := if h : ∃ ys, Cs.zlw ss ys then choose h else []
theorem ze4 {ss ys : List Str} (h : Cs.zlw ss ys) : sortS ss = ys := by
  have ex : ∃ ys, Cs.zlw ss ys := ⟨ys, h⟩
  unfold sortS
  rw [dif_pos ex]
  have h2 := choose_spec ex
  exact Cs.zyd ⟨h2.1.trans h.1.symm, h2.2⟩ h.2
theorem zmh : ∀ {ss : List Str}, DpA W c (ss.map V.str) (ss.map D.str)
  | [] => .nil
  | _ :: _ => .cons (.str _) zmh
def keysS : List Key → Option (List Str)
  | [] => some []
  | .inr x :: ks => (keysS ks).map (x :: ·)
  | _ => none
theorem zts : ∀ {ks : List Key} {ss : List Str}, keysS ks = some ss → ks = ss.map Sum.inr
  | [], _, e => by cases Option.some.inj e; rfl
  | .inr x :: ks, ss, e => by
    unfold keysS at e
    cases q : keysS ks with
    | none => rw [q] at e; cases e
    | some s' =>
      rw [q] at e
      cases Option.some.inj e
      rw [zts q]; rfl
  | .inl _ :: _, _, e => by cases e
theorem zjs : ∀ {ks : List Key} {xs : List V}, ks.length = xs.length → (Cs.kvL ks xs).map (·.1) = ks
  | [], _, _ => rfl
  | _ :: _, [], h => by simp at h
  | k :: ks, x :: xs, h => by
    show k :: (Cs.kvL ks xs).map (·.1) = _
    rw [zjs (by simpa using h)]
def zym (K : PySem.W.Frag) : List V → Hp → VK → Prop := fun xs H Q => Cs.zsx K xs H Q ∨ Cs.zrv xs H Q
theorem zqk {X : Cx} (hc : X.calm = true) : CallR X (.builtin "sorted") (zym X.K) := CallR.or Cs.zxy (Cs.zsk hc)
def ze0 (b : Bool) : List D → Store → Res D := fun xs μ => match xs with
  | [x] => match (match seqL μ x with
      | some ds => some ds
      | none => seqT x) with
    | some ds => match strsD ds with
      | some ss => if ss.length < 64 then newL b ((sortS ss).map .str) μ else .bad
      | none => .bad
    | none => match dctOf μ x with
      | some (ks, _) => match keysS ks with
        | some ss => if ss.length < 64 then newL b ((sortS ss).map .str) μ else .bad
        | none => .bad
      | none => .bad
  | _ => .bad
theorem zqj {b : Bool} : CbM W E (zym W.K) (ze0 b) := fun c xs vs Q ok hx w => by
  unfold ze0 at w
  split at w
  · cases hx with
    | cons h1 h2 =>
      cases h2
      split at w
      · rename_i ds e
        split at w
        · rename_i ss es
          split at w
          · rename_i hl
            obtain ⟨a, xs, rfl, h3, h4⟩ := zjv (x := .non) ok h1 e
            have ex := zsq h4 es
            subst ex
            rcases h3 with h3 | h3
            · exact .inl (.inl ⟨a, ss, rfl, h3, hl, fun ys p hp hs hn => by
                rw [ze4 ⟨hp, hs⟩] at w
                exact zfe w ok zmh hn⟩)
            · exact .inl (.inr ⟨a, ss, rfl, h3, hl, fun ys p hp hs hn => by
                rw [ze4 ⟨hp, hs⟩] at w
                exact zfe w ok zmh hn⟩)
          · exact w.elim
        · exact w.elim
      · split at w
        · rename_i ks ds e
          split at w
          · rename_i ss es
            split at w
            · rename_i hl
              obtain ⟨a, xs, rfl, h3, h4, _, _⟩ := zns ok h1 e
              refine .inr ⟨a, _, ss, rfl, h3, (zjs h4).trans (zts es), hl, fun ys p hp hs hn => ?_⟩
              rw [ze4 ⟨hp, hs⟩] at w
              exact zfe w ok zmh hn
            · exact w.elim
          · exact w.elim
        · exact w.elim
  · exact w.elim
def fRepr : List D → Store → Res D := fun xs μ => match xs with
  | [x] => match x.view μ with
    | some p => if p.showable = true ∧ p.shown.length ≤ sizeLine ∧ p.depth ≤ 64 then .ok (.str p.shown) μ else .bad
    | none => .bad
  | _ => .bad
theorem zum : CbM W E (Cs.zyn W.K) fRepr := fun c xs vs Q ok hx w => by
  unfold fRepr at w
  split at w
  · split at w
    · rename_i p e
      split at w
      · rename_i hs
        cases hx with
        | cons h1 h2 =>
          cases h2
          exact ⟨_, p, rfl, zln ok h1 e, hs.1, hs.2.1, hs.2.2, zaj w ok (.str _)⟩
      · exact w.elim
    · exact w.elim
  · exact w.elim
def fMax2 : List D → Store → Res D := fun xs μ => match xs with
  | [.int i, .int j] => .ok (.int (if j > i then j else i)) μ
  | _ => .bad
theorem zun : CbM W E Cs.rMax2 fMax2 := fun c xs vs Q ok hx w => by
  unfold fMax2 at w
  split at w
  · cases hx with
    | cons h1 h2 =>
      cases h2 with
      | cons h2 h3 =>
        cases h1; cases h2; cases h3
        exact ⟨_, _, rfl, zaj w ok (.int _)⟩
  · exact w.elim
end
end Mi
namespace Mi
open PySem PySem.Spec L2 PySem.W
section
variable {prog : Program} {w : World} {A : Around} {K : PySem.W.Frag} {x D : Addr} {ox od : Obj} {E : Value → Shared → Prop}
private abbrev gaB : Value := .builtin "BaseException.__getattribute__"
private abbrev gdB : Value := .builtin "getset_descriptor.__get__"
private abbrev ocB : Value := .builtin "object.__class__"
theorem xcls (C : ExcC K D) {Q : Option Value → Shared → Prop} : ∀ (s : Shared), K.In s.heap → InstAt s.heap x ox D (some od) → Q (some (.ref D)) { s with toks := s.toks + 1 } →
    wpAny (model prog w) A (getAttr? (.ref x) "__class__") Q E s := by
  rintro ⟨hp, gs, ds, tk, os⟩ kin inst q
  have isC : (clsIn K D).isSome = true := by
    obtain ⟨_, e, _⟩ := any_some C.hd
    rw [e]; rfl
  have found := findObj_data (od := od) isC C.ha C.hn C.ht
  have e1 : (gaB == Value.builtin "object.__getattribute__") = false := by decide +kernel
  have t1 := inst.type (M := model prog w)
  have t2 := looks_findIn (M := model prog w) kin C.hg
  have t3 := looks_findIn (M := model prog w) kin C.hk
  have t4 := looks_find (M := model prog w) kin inst found
  have t5 : Looks (model prog w) hp (isInstance (.ref x) (.type "BaseException")) true := t1.andThen (looks_subIn kin C.hs)
  have h1 : (onTheHeap (Value.ref D) && gaB == .builtin "object.__getattribute__") = false := by rw [e1]; rfl
  unfold getAttr? getAttrBy? getAttrBy
  refine wpAny_bind (wpAny_mkText (wpAny_bind (wpAny_attempt (wpAny_holding (wpAny_bind (t1.at (wpAny_bind (t2.at ?_))))))))
  change wpAny _ _ (if (onTheHeap (Value.ref D) && gaB == .builtin "object.__getattribute__") = true then _ else _) _ _ _
  rw [h1, if_neg Bool.false_ne_true]
  unfold getAttrByItsOwn hookBefore
  have h2 : onTheHeap (Value.ref D) = true := rfl
  rw [if_pos h2]
  refine wpAny_bind (t3.at (wpAny_bind (wpAny_attempt (wpAny_holding ?_))))
  unfold callGetattribute
  have h3 : (false && onTheHeap gaB) = false := rfl
  rw [h3, if_neg Bool.false_ne_true]
  unfold boundAndCalled
  rw [PySem.F.excAttr_ValueError.ga.bind (.ref x)]
  refine wpAny_bind (wpAny_pure ?_)
  change wpAny _ _ (call gaB [.ref x, .str "__class__" tk]) _ _ _
  refine wpAny_call (codeAny_call_builtin PySem.F.excAttr_ValueError.ga.plain PySem.F.entry_bexc_ga ?_)
  refine @check_slot (model prog w) _ _ ⟨hp, gs, ds, tk + 1, os⟩ _ "BaseException" "__getattribute__" (.ref x) [.str "__class__" tk] [] _
    (by decide +kernel) (by decide +kernel) t5 (PySem.F.args_bexc_ga _ _) ?_
  unfold Builtin.«object.__getattribute__»
  refine wpAny_bind (wpAny_of_eq (a := ((.ref x : Value), [Value.str "__class__" tk]))
    (by first | rfl | (simp only [slotArgs]; rfl)) (wpAny_bind (wpAny_pure (wpAny_bind (t1.at (wpAny_bind (t4.at ?_)))))))
  change wpAny _ _ (holding [ocB] (call gdB [ocB, .ref x, .ref D]) >>= ret) _ _ _
  refine wpAny_bind (wpAny_holding (wpAny_call (class_get (s := ⟨hp, gs, ds, tk + 1, os⟩) (ox := ox) (od := some od) kin inst C.hm ?_)))
  refine wpAny_pure ?_
  change wpAny _ _ (handedOut (.ref D)) _ _ _
  rw [handedOut_of (v := .ref D) rfl]
  first
    | exact wpAny_pure q
    | exact wpAny_pure (wpAny_pure q)
    | exact wpAny_pure (wpAny_bind (wpAny_pure (wpAny_pure q)))
end
theorem xkit {K : PySem.W.Frag} {D x : Addr} {ox od : Obj} (C : ExcC K D) : KitX K (.ref x) (.ref D) (fun h => InstAt h x ox D (some od)) := by
  have Z := handS_kitx_exc (x := x) (ox := ox) C.hg C.hk C.hs C.hd C.ha C.hn C.ht C.hm
  refine ⟨fun _ _ _ I => I.type, fun M h X I => ?_, Z.ne, fun X I k => xcls C _ X I k⟩
  obtain ⟨_, e, _⟩ := any_some C.hd
  unfold clsIn at e
  split at e
  · rename_i c' d' cd' sl' ho
    intro A1 Q1 E1 s1 k q
    unfold isType loadHead
    have there := k _ _ (X _ _ ho)
    exact wpAny_bind (wpAny_loadPart there (wpAny_pure q))
  · cases e
inductive TyM (K : PySem.W.Frag) (H : Hp) : V → Value → Prop
  | x {v : V} {t : Value} (h : TyX K H v t) : TyM K H v t
  | e0 {a g : Addr} (C : ExcC K g) (h : H a = some (Cs.XO (.ref g) none a)) : TyM K H (.ref a) (.ref g)
  | e1 {a g dx : Addr} {fs : List (Str × V)} (C : ExcC K g) (h : H a = some (Cs.XO (.ref g) (some dx) a)) (h2 : H dx = some (.xd fs)) : TyM K H (.ref a) (.ref g)
theorem TyM.kit {X : Cx} {pins : List (Addr × Obj)} {σ : L2.St} {H : Hp} {s : Shared} {v : V} {t u : Value} (I : Inv X pins σ H s) (r : RelV v u) (h : TyM X.K H v t) : ∃ P : Heap → Prop, KitX X.K u t P ∧ P s.heap ∧ u ≠ .builtin "__main__.__loader__#opaque" := by
  cases h with
  | x h => exact kit_of I r h
  | e0 C h =>
    cases r
    obtain ⟨oe, vs, hget, hz, hv⟩ := Cs.xo_at I.hok h
    refine ⟨_, handS_kitx_exc (ox := oe) C.hg C.hk C.hs C.hd C.ha C.hn C.ht C.hm, ?_, fun z => nomatch z⟩
    obtain ⟨oc, od, oda, osl⟩ := oe
    obtain ⟨h1, h2⟩ := hz
    dsimp only at h1 h2 hv
    subst h1 h2 hv
    exact ⟨hget, rfl, rfl, trivial⟩
  | @e1 _ _ dx fs C h h2 =>
    cases r
    obtain ⟨oe, vs, hget, hz, hv⟩ := Cs.xo_at I.hok h
    obtain ⟨mA, hns, _⟩ := (show ObjOk X.prog X.w H s.heap dx (.xd fs) from I.hok dx _ h2)
    obtain ⟨od, ho, _⟩ := lookIn_ns hns
    refine ⟨_, xkit (ox := oe) (od := od) C, ⟨hget, hz.1, by unfold PySem.W.notCls; rw [hv] <;> rfl, by rw [hz.2]; exact ho⟩, fun z => nomatch z⟩
def rIsM (K : PySem.W.Frag) : List V → Hp → VK → Prop := fun xs H Q => ∃ (x cl : V) (t u : Value) (b : Bool), xs = [x, cl] ∧ ClsV cl u ∧ TyM K H x t ∧ kitOne K t u = some b ∧ Q (.bl b) H
theorem zer {X : Cx} : CallR X (.builtin "isinstance") (rIsM X.K) := fun pins s σ H xs us Q I r ⟨x, cl, t, u, b, e0, k, ty, e, q⟩ => by
  subst e0
  obtain ⟨u1, u2, rfl, r1, r2⟩ := vals2 r
  cases k.eq r2
  obtain ⟨P, Z, p, hx⟩ := ty.kit I r1
  exact kia_one Z I.kIn p e hx fun tk => ⟨.bl b, H, I.tok tk, rfl, q⟩
def rIsMT (K : PySem.W.Frag) : List V → Hp → VK → Prop := fun xs H Q => ∃ (x : V) (tp : Addr) (cs : List V) (t : Value) (us : List Value) (b : Bool), xs = [x, .ref tp] ∧ H tp = some (.tup cs) ∧ Paired ClsV cs us ∧ TyM K H x t ∧ kitAny K t us = some b ∧ Q (.bl b) H
theorem zki {X : Cx} : CallR X (.builtin "isinstance") (rIsMT X.K) := fun pins s σ H xs us Q I r ⟨x, tp, cs, t, ws, b, e0, hT, k, ty, e, q⟩ => by
  subst e0
  obtain ⟨u1, u2, rfl, r1, r2⟩ := vals2 r
  cases (show u2 = Value.ref tp from r2)
  obtain ⟨P, Z, p, hx⟩ := ty.kit I r1
  have hT2 : ObjOk X.prog X.w H s.heap tp (.tup cs) := I.hok tp _ hT
  obtain ⟨_, its, rv, ⟨oc, od, dt, sl⟩, h1, h2, n, h3⟩ := hT2
  cases ClsV.all k rv
  simp only at h2 h3
  subst h2 h3
  exact kia_tup Z I.kIn p h1 e hx fun tk => ⟨.bl b, H, I.tok tk, rfl, q⟩
inductive TN where
  | b (n : String) | o (C : String)
def tnC : Cell → TN
  | .lst _ => .b "list"
  | .dct _ _ => .b "dict"
  | .lck _ _ => .b "dict"
  | .obj C _ _ => .o C
def tnD (μ : Store) : D → Option TN
  | .non => some (.b "NoneType")
  | .bl _ => some (.b "bool")
  | .int _ => some (.b "int")
  | .str _ => some (.b "str")
  | .lst _ => some (.b "list")
  | .tup _ => some (.b "tuple")
  | .dct _ _ => some (.b "dict")
  | .obj C _ _ => some (.o C)
  | .exc C _ _ => some (.o C)
  | .own n => match μ[n]? with
    | some (some x) => some (tnC x)
    | _ => none
  | _ => none
def errs : List String := ["CallError", "BadParameter", "BadSignature", "NoName", "BadCall", "BadPiece", "Repeated", "Refused", "BadRow", "BadCounts", "NothingBinds", "BadChain", "Stopped", "BadVariants", "BadVersions", "BadMoves", "Breaks", "NoFunction", "NoSite", "BadEntry", "BadText"]
def isaC (C T : String) : Bool := C == T || (errs.contains C && T == "CallError")
def isaN (C m : String) : Bool := errs.contains C && ["ValueError", "Exception", "BaseException"].contains m
def btys : List String := ["NoneType", "bool", "int", "str", "list", "tuple", "dict"]
def isaT : TN → D → Option Bool
  | .b n, .ty m => kitB n m
  | .b _, .cls _ => some false
  | .o C, .cls T => some (isaC C T)
  | .o C, .ty m => some (isaN C m)
  | _, _ => none
structure IsF (W : Wd) (ts ms : List String) : Prop where
  oo : ∀ C g T t, T ∈ ts → W.cm C = some g → W.cm T = some t → kitOne W.K (.ref g) (.ref t) = some (isaC C T)
  bo : ∀ n T t, n ∈ btys → T ∈ ts → W.cm T = some t → kitOne W.K (.type n) (.ref t) = some false
  ob : ∀ C g m, m ∈ ms → W.cm C = some g → kitOne W.K (.ref g) (.type m) = some (isaN C m)
  ins : ∀ C g, errs.contains C = false → W.cm C = some g → Cs.IsC W.K g
  exc : ∀ C g, errs.contains C = true → W.cm C = some g → ExcC W.K g
section
variable {W : Wd} {E : XK} {X : Cx} {c : Cf} {v : V} {d : D} {ts ms : List String} {e : Expr}
theorem tn_b (ok : Ok W c) (h : Dp W c v d) {n : String} (e : tnD c.μ d = some (.b n)) : TyX W.K c.H v (.type n) ∧ n ∈ btys := by
  cases h with
  | non => cases Option.some.inj e; exact ⟨.base .non, by decide⟩
  | bl b => cases Option.some.inj e; exact ⟨.base (.bl b), by decide⟩
  | int i => cases Option.some.inj e; exact ⟨.base (.int i), by decide⟩
  | str i => cases Option.some.inj e; exact ⟨.base (.str i), by decide⟩
  | lst hs _ =>
    cases Option.some.inj e
    refine ⟨?_, by decide⟩
    rcases ok.s.seq hs with (h | ⟨o, h⟩) | ⟨o, its, n, h, hc, _⟩
    · exact .base (.lst h)
    · exact .base (.frz h)
    · exact .kList h hc
  | tup hs _ =>
    cases Option.some.inj e
    refine ⟨?_, by decide⟩
    rcases Cs.zby ok.s hs with (h | ⟨o, h⟩) | ⟨o, its, n, h, hc, _⟩
    · exact .base (.tup h)
    · exact .fTuple h
    · exact .kTuple h hc
  | dct hr _ _ _ =>
    cases Option.some.inj e
    refine ⟨?_, by decide⟩
    rcases Cs.zi6 ok.s hr with h | ⟨o, h⟩
    · exact .base (.dK h)
    · exact .fDict h
  | own hn =>
    unfold tnD at e
    dsimp only at e
    split at e
    · rename_i x hx
      obtain ⟨_, o, ho, hc⟩ := ok.at' _ _ hx
      cases x with
      | lst ds =>
        obtain ⟨xs, rfl, _⟩ := hc
        cases Option.some.inj e
        exact ⟨.base (.lst ho), by decide⟩
      | dct ks ds =>
        obtain ⟨xs, rfl, _⟩ := hc
        cases Option.some.inj e
        exact ⟨.base (.dK ho), by decide⟩
      | lck ks ds =>
        obtain ⟨xs, od, rfl, _⟩ := hc
        cases Option.some.inj e
        exact ⟨.fDict ho, by decide⟩
      | obj C ks ds => cases Option.some.inj e
    · cases e
  | _ => cases e
theorem tn_o (F : IsF W ts ms) (ok : Ok W c) (h : Dp W c v d) {C : String} (e : tnD c.μ d = some (.o C)) : ∃ g, W.cm C = some g ∧ (errs.contains C = false ∨ errs.contains C = true) ∧ ((∃ a dx fs, v = .ref a ∧ c.H a = some (.ins g dx fs)) ∨ ∃ a, v = .ref a ∧ (c.H a = some (Cs.XO (.ref g) none a) ∨ ∃ dx fs, c.H a = some (Cs.XO (.ref g) (some dx) a) ∧ c.H dx = some (.xd fs))) := by
  have tf : ∀ b : Bool, b = false ∨ b = true := fun b => by cases b <;> simp
  cases h with
  | obj hc hg hl ha => cases Option.some.inj e; exact ⟨_, hc, tf _, .inl ⟨_, _, _, rfl, ok.s _ _ hg⟩⟩
  | @exc _ _ _ d _ _ _ hc hg hd hn hl ha =>
    cases Option.some.inj e
    cases d with
    | none => exact ⟨_, hc, tf _, .inr ⟨_, rfl, .inl (ok.s _ _ hg)⟩⟩
    | some dx => exact ⟨_, hc, tf _, .inr ⟨_, rfl, .inr ⟨dx, _, ok.s _ _ hg, ok.s _ _ (hd dx rfl)⟩⟩⟩
  | own hn =>
    unfold tnD at e
    dsimp only at e
    split at e
    · rename_i x hx
      obtain ⟨_, o, ho, hc⟩ := ok.at' _ _ hx
      cases x with
      | obj C ks ds =>
        cases Option.some.inj e
        obtain ⟨g, dx, xs, h1, rfl, _⟩ := hc
        exact ⟨g, h1, tf _, .inl ⟨_, _, _, rfl, ho⟩⟩
      | _ => cases Option.some.inj e
    · cases e
  | _ => cases e
def ztx : D → Bool
  | .exc _ _ _ => true
  | _ => false
def zfk (μ : Store) (d : D) : Bool := match tnD μ d with
  | some (.o C) => errs.contains C == ztx d
  | _ => true
theorem zx8 (F : IsF W ts ms) (ok : Ok W c) (h : Dp W c v d) (hk : zfk c.μ d = true) {tn : TN} (e : tnD c.μ d = some tn) : ∃ t, TyM W.K c.H v t ∧ ∀ cl u b, ClsV (match cl with | .ty n => .ty n | .cls C => .ref ((W.cm C).getD 0) | _ => .non) u → isaT tn cl = some b → (∀ n, cl = .ty n → n ∈ ms ∨ ∃ m, tn = .b m) → (∀ T, cl = .cls T → T ∈ ts ∧ W.cm T ≠ none) → kitOne W.K t u = some b := by
  cases tn with
  | b n =>
    obtain ⟨h1, h2⟩ := tn_b ok h e
    refine ⟨_, .x h1, fun cl u b hu hb _ hT => ?_⟩
    cases cl with
    | ty m => cases hu; exact kit_ty hb
    | cls T =>
      obtain ⟨g, hg⟩ := Option.ne_none_iff_exists'.mp (hT T rfl).2
      dsimp only at hu
      rw [hg] at hu
      cases hu
      cases Option.some.inj hb
      exact F.bo n T g h2 (hT T rfl).1 hg
    | _ => cases hb
  | o C =>
    obtain ⟨g, hg, tf, hv⟩ := tn_o F ok h e
    have key : TyM W.K c.H v (.ref g) := by
      unfold zfk at hk
      rw [e] at hk
      have hk' : errs.contains C = ztx d := beq_iff_eq.mp hk
      cases h with
      | obj hc hg' hl ha =>
        cases Option.some.inj e
        rw [hg] at hc; cases hc
        exact .x ((F.ins C g hk' hg).ty (ok.s _ _ hg'))
      | @exc _ _ _ d _ _ _ hc hg' hd hn hl ha =>
        cases Option.some.inj e
        rw [hg] at hc; cases hc
        cases d with
        | none => exact .e0 (F.exc C g hk' hg) (ok.s _ _ hg')
        | some dx => exact .e1 (F.exc C g hk' hg) (ok.s _ _ hg') (ok.s _ _ (hd dx rfl))
      | @own n hn =>
        have e' := e
        unfold tnD at e'
        dsimp only at e'
        split at e'
        · rename_i x hx
          obtain ⟨_, o, ho, hc⟩ := ok.at' _ _ hx
          cases x with
          | obj C' ks ds =>
            cases Option.some.inj e'
            obtain ⟨g', dx, xs, h1, rfl, _⟩ := hc
            rw [hg] at h1; cases h1
            exact .x ((F.ins C g hk' hg).ty ho)
          | _ => cases Option.some.inj e'
        · cases e'
      | _ => cases e
    refine ⟨_, key, fun cl u b hu hb hm hT => ?_⟩
    cases cl with
    | ty m =>
      cases hu
      cases Option.some.inj hb
      rcases hm m rfl with z | ⟨_, z⟩
      · exact F.ob C g m z hg
      · cases z
    | cls T =>
      obtain ⟨t, ht⟩ := Option.ne_none_iff_exists'.mp (hT T rfl).2
      dsimp only at hu
      rw [ht] at hu
      cases hu
      cases Option.some.inj hb
      exact F.oo C g T t (hT T rfl).1 hg ht
    | _ => cases hb
end
end Mi
namespace Mi
open PySem PySem.Spec L2
open Classical
section
variable {W : Wd} {E : XK} {X : Cx} {c : Cf} {v : V} {d : D} {ds : List D} {e : Expr} {st : Stmt} {Q : VK}
theorem zacm {t u : Value} {us : List Value} {a b : Bool} (h1 : PySem.W.kitOne W.K t u = some a) (h2 : PySem.W.kitAny W.K t us = some b) : PySem.W.kitAny W.K t (u :: us) = some (a || b) := by
  cases a with
  | true => exact kitAny_cons h1 (fun z => by cases z) (fun _ => rfl)
  | false => exact kitAny_cons h1 (fun _ => h2) (fun z => by cases z)
def lookF {α : Type} (f : Str) : List Str → List α → Option α
  | k :: ks, x :: xs => if f = k then some x else lookF f ks xs
  | _, _ => none
theorem zoz {f : Str} : ∀ {ks : List Str} {xs : List V} {ds : List D} {d : D}, DpA W c xs ds → lookF f ks ds = some d → ∃ v, (fsL ks xs).lookup f = some v ∧ Dp W c v d
  | [], _, _, _, _, e => by cases e
  | _ :: _, _, _, _, .nil, e => by cases e
  | k :: ks, _, _, d, .cons h1 h2, e => by
    unfold lookF at e
    show ∃ v, List.lookup f ((k, _) :: fsL ks _) = some v ∧ _
    by_cases hk : f = k
    · rw [if_pos hk] at e
      cases Option.some.inj e
      exact ⟨_, by rw [List.lookup_cons, hk, beq_self_eq_true], h1⟩
    · rw [if_neg hk] at e
      obtain ⟨v, h3, h4⟩ := zoz h2 e
      refine ⟨v, ?_, h4⟩
      rw [List.lookup_cons]
      have : (f == k) = false := beq_eq_false_iff_ne.mpr hk
      rw [this]; exact h3
structure FldC (W : Wd) (C : String) (f : Str) : Prop where
  cl : ∀ g, W.cm C = some g → Cls W.K g
  no : ∀ g, W.cm C = some g → NoAttr W.K g f
def mFld (Cs' : List String) (f : Str) (a : ME) : ME := fun ρ μ => (a ρ μ).bind fun x μ => match objOf μ x with
  | some (C, ks, ds) => if Cs'.contains C = true then match lookF f ks ds with
      | some d => .ok d μ
      | none => .bad
    else .bad
  | none => .bad
theorem zla {Cs' : List String} {f : Str} {a : ME} (F : ∀ C ∈ Cs', FldC W C f) (h : PE X e (tFld W.K (tE W E a) f)) : PE X e (tE W E (mFld Cs' f a)) := zav h fun σ H Q ⟨ρ, c, hH, ok, env, w⟩ =>
  ⟨ρ, c, hH, ok, env, wp_bind w fun v x c1 s1 ok1 r1 w1 => by
    split at w1
    · rename_i C ks ds e
      split at w1
      · rename_i hC
        split at w1
        · rename_i d ed
          obtain ⟨a, g, dx, xs, rfl, h1, h2, h3, h4⟩ := zy1 ok1 r1 e
          obtain ⟨u, h5, h6⟩ := zoz h4 ed
          have FC := F C (List.contains_iff_mem.mp hC)
          exact ⟨a, g, dx, _, u, rfl, h2, FC.cl g h1, FC.no g h1, h5, zaj w1 ok1 h6⟩
        · exact w1.elim
      · exact w1.elim
    · exact w1.elim⟩
def putFK (f : Str) : List Str → List Str
  | [] => [f]
  | k :: ks => if k = f then k :: ks else k :: putFK f ks
def putFV {α : Type} (f : Str) (z : α) : List Str → List α → List α
  | [], xs => xs ++ [z]
  | k :: ks, x :: xs => if k = f then z :: xs else x :: putFV f z ks xs
  | _ :: _, [] => []
theorem zyq {f : Str} {z : V} : ∀ {ks : List Str} {xs : List V}, ks.length = xs.length → putF f z (fsL ks xs) = fsL (putFK f ks) (putFV f z ks xs) ∧ (putFK f ks).length = (putFV f z ks xs).length
  | [], [], _ => ⟨rfl, rfl⟩
  | [], _ :: _, h => by simp at h
  | _ :: _, [], h => by simp at h
  | k :: ks, x :: xs, h => by
    have hl : ks.length = xs.length := by simpa using h
    obtain ⟨h1, h2⟩ := zyq (f := f) (z := z) hl
    by_cases hk : k = f
    · constructor
      · show (if k = f then (k, z) :: fsL ks xs else _) = fsL (if k = f then k :: ks else _) (if k = f then z :: xs else _)
        rw [if_pos hk, if_pos hk, if_pos hk]; rfl
      · show (if k = f then k :: ks else _ : List Str).length = (if k = f then z :: xs else _ : List V).length
        rw [if_pos hk, if_pos hk]; simp [hl]
    · constructor
      · show (if k = f then _ else (k, x) :: putF f z (fsL ks xs)) = fsL (if k = f then _ else k :: putFK f ks) (if k = f then _ else x :: putFV f z ks xs)
        rw [if_neg hk, if_neg hk, if_neg hk, h1]; rfl
      · show (if k = f then _ else k :: putFK f ks : List Str).length = (if k = f then _ else x :: putFV f z ks xs : List V).length
        rw [if_neg hk, if_neg hk]; simp [h2]
theorem zug {f : Str} {z : V} {dz : D} (hz : Dp W c z dz) : ∀ {ks : List Str} {xs : List V} {ds : List D}, DpA W c xs ds → DpA W c (putFV f z ks xs) (putFV f dz ks ds)
  | [], _, _, h => zdj h (.cons hz .nil)
  | _ :: _, _, _, .nil => .nil
  | k :: ks, _, _, .cons h1 h2 => by
    unfold putFV
    by_cases hk : k = f
    · rw [if_pos hk, if_pos hk]; exact .cons hz h2
    · rw [if_neg hk, if_neg hk]; exact .cons h1 (zug hz h2)
def ownO (μ : Store) : D → Option (Nat × String × List Str × List D)
  | .own n => match μ[n]? with
    | some (some (.obj C ks ds)) => some (n, C, ks, ds)
    | _ => none
  | _ => none
theorem zac4 {n : Nat} {C : String} {ks : List Str} (ok : Ok W c) (h : Dp W c v d) (e : ownO c.μ d = some (n, C, ks, ds)) : d = .own n ∧ c.μ[n]? = some (some (.obj C ks ds)) ∧ v = .ref (c.ι n) ∧ ∃ g dx xs, W.cm C = some g ∧ c.H (c.ι n) = some (.ins g dx (fsL ks xs)) ∧ ks.length = xs.length ∧ DpA W c xs ds := by
  cases h with
  | own hn =>
    unfold ownO at e
    dsimp only at e
    split at e
    · rename_i x hx
      cases Option.some.inj e
      obtain ⟨_, o, ho, g, dx, xs, hc, rfl, hl, ha⟩ := ok.at' _ _ hx
      exact ⟨rfl, hx, rfl, g, dx, xs, hc, ho, hl, ha⟩
    · cases e
  | _ => cases e
def mPutF (Cs' : List String) (f : Str) (o a : ME) : MS := fun _ ρ μ => (a ρ μ).st fun z μ => (o ρ μ).st fun x μ => match ownO μ x with
  | some (n, C, ks, ds) => if Cs'.contains C = true ∧ ks.length < 1000 then .nx ρ (μ.set n (some (.obj C (putFK f ks) (putFV f z ks ds)))) else .bad
  | none => .bad
theorem ztf {Cs' : List String} {f : Str} {o a : ME} (F : ∀ C ∈ Cs', FldC W C f) (h : PS X st (sFld W.K (tE W E o) (tE W E a) f)) : PS X st (tS W E (mPutF Cs' f o a)) := zd2 h fun D σ H ⟨c0, cs, ρ, c, hH, ok, s, le, env, w⟩ =>
  ⟨ρ, c, hH, ok, env, zdl w s fun y z c1 s1 s2 ok1 r1 w1 => ⟨ρ, c1, rfl, ok1, env.mono s2.le, zdl w1 s1 fun v x c2 s3 s4 ok2 r2 w2 => by
    split at w2
    · rename_i n C ks ds eo
      split at w2
      · rename_i hC
        obtain ⟨rfl, hx, rfl, g, dx, xs, h1, h2, h3, h4⟩ := zac4 ok2 r2 eo
        have FC := F C (List.contains_iff_mem.mp hC.1)
        obtain ⟨p1, p2⟩ := zyq (f := f) (z := y) h3
        have lfs : (fsL ks xs).length = ks.length := by simp [fsL, h3]
        refine ⟨c2.ι n, g, dx, _, rfl, h2, FC.cl g h1, FC.no g h1, by rw [lfs]; exact hC.2, ?_⟩
        rw [p1]
        obtain ⟨ok3, s5⟩ := zji (x := .obj C (putFK f ks) (putFV f z ks ds)) (o := .ins g dx (fsL (putFK f ks) (putFV f y ks xs))) ok2 hx rfl ⟨g, dx, _, h1, rfl, p2, zug (zay s4.le r1) h4⟩
        exact w2 σ _ rfl (s3.trans s5) (le.trans (s2.le.trans (s4.le.trans s5.le))) ok3 (env.mono (s2.le.trans (s4.le.trans s5.le)))
      · exact w2.elim
    · exact w2.elim⟩⟩
def spM (W : Wd) (m : List D → Store → Res D) : Sp := fun vs H Q E => ∃ c ds, c.H = H ∧ Ok W c ∧ DpA W c vs ds ∧ Wp W (Dp W) (m ds c.μ) c Q E
def mFn (N P : Nat) (body : MS) : List D → Store → Res D := fun ds μ => if ds.length = P then match body μ.length (zao N ds) μ with
    | .nx _ μ => .ok .non μ
    | .rt d μ => .ok d μ
    | .exc x μ => .exc x μ
    | _ => .bad
  else .bad
theorem zbb {N P : Nat} {body : MS} {vs : List V} {H : Hp} {E : XK} (h : spM W (mFn N P body) vs H Q E) : vs.length = P := by
  obtain ⟨c, ds, _, _, r, w⟩ := h
  unfold mFn at w
  split at w
  · rename_i hl; rw [zan r]; exact hl
  · exact w.elim
theorem pureM {N : List Str} {P : Nat} {body : MS} {vs : List V} {H : Hp} (h : spM W (mFn N.length P body) vs H Q E) : tS W E body { nx := fun _ H' => Q .non H', rt := Q } (L2.start N vs) H := by
  obtain ⟨c, ds, hH, ok, r, w⟩ := h
  unfold mFn at w
  split at w
  · refine ⟨c, c, zao N.length ds, c, hH, ok, .refl ok, .refl c, EnvR.start r, ?_⟩
    cases eb : body c.μ.length (zao N.length ds) c.μ with
    | nx ρ μ => rw [eb] at w; exact fun σ c' e s _ ok' _ => w .non c' e s ok' .non
    | rt d μ => rw [eb] at w; exact w
    | bk ρ μ => rw [eb] at w; exact w.elim
    | ct ρ μ => rw [eb] at w; exact w.elim
    | exc x μ => rw [eb] at w; exact w
    | bad => rw [eb] at w; exact w.elim
  · exact w.elim
def mCall (m : List D → Store → Res D) (a : MA) : ME := fun ρ μ => (a ρ μ).bind m
theorem zai {m : List D → Store → Res D} {a : MA} (h : PE X e (tCall (spM W m) [] E (tA W E a))) : PE X e (tE W E (mCall m a)) := zav h fun σ H Q ⟨ρ, c, hH, ok, env, w⟩ =>
  ⟨ρ, c, hH, ok, env, wp_bind w fun vs ds c1 s1 ok1 r1 w1 => ⟨c1, ds, rfl, ok1, by rw [List.append_nil]; exact r1, w1⟩⟩
def mMeth (C : String) (f : Str) (m : List D → Store → Res D) (o : ME) (a : MA) : ME := fun ρ μ => (o ρ μ).bind fun x μ => match objOf μ x with
  | some (C', ks, _) => if C' = C ∧ f ∉ ks then (a ρ μ).bind fun ds μ => m (x :: ds) μ else .bad
  | none => .bad
def mProp (C : String) (m : List D → Store → Res D) (o : ME) : ME := fun ρ μ => (o ρ μ).bind fun x μ => match objOf μ x with
  | some (C', _, _) => if C' = C then m [x] μ else .bad
  | none => .bad
def mkObj (frz : Bool) (C : String) (m : List D → Store → Res D) (ds : List D) (μ : Store) : Res D :=
  match m (.own μ.length :: ds) (μ ++ [some (.obj C [] [])]) with
  | .ok .non μ' => if frz = true then match μ'[μ.length]? with
      | some (some x) => match frzC x with
        | some d => .ok d (μ'.set μ.length none)
        | none => .bad
      | _ => .bad
    else .ok (.own μ.length) μ'
  | .exc x μ' => .exc x μ'
  | _ => .bad
theorem zu8 {frz : Bool} {C : String} {g : Addr} {m : List D → Store → Res D} {ds : List D} {vs : List V} {c : Cf} (hC : W.cm C = some g) (ok : Ok W c) (r : DpA W c vs ds) (w : Wp W (Dp W) (mkObj frz C m ds c.μ) c Q E) :
    ∀ x dx, c.H x = none → c.H dx = none → dx ≠ x → spM W m (.ref x :: vs) (upd (upd c.H dx (.own x)) x (.ins g dx [])) (fun v H2 => v = .non ∧ Q (.ref x) H2) E := by
  intro x dx hx hdx hne
  -- the dict's own mark lies aside: known, in a part that nothing speaks of
  obtain ⟨ok1, s1⟩ := zd4 (o := .own x) ok hdx
  have hx1 : (upd c.H dx (.own x)) x = none := by rw [upd_ne (Ne.symm hne)]; exact hx
  have cell : CellAt W (c.to (upd c.G dx (.own x)) (upd c.H dx (.own x))) (.ins g dx []) (.obj C [] []) := ⟨g, dx, [], hC, rfl, rfl, .nil⟩
  obtain ⟨ok2, s2⟩ := zop (p := x) ok1 hx1 cell
  have s12 := s1.trans s2
  refine ⟨(c.to (upd c.G dx (.own x)) (upd c.H dx (.own x))).add x (.ins g dx []) (.obj C [] []), .own c.μ.length :: ds, rfl, ok2, .cons zq0 (zaq s12.le r), ?_⟩
  unfold mkObj at w
  have em : ((c.to (upd c.G dx (.own x)) (upd c.H dx (.own x))).add x (.ins g dx []) (.obj C [] [])).μ = c.μ ++ [some (.obj C [] [])] := rfl
  rw [em]
  have top : ((c.to (upd c.G dx (.own x)) (upd c.H dx (.own x))).add x (.ins g dx []) (.obj C [] [])).ι c.μ.length = x := by
    simp [Cf.add, Cf.to]
  cases e : m (.own c.μ.length :: ds) (c.μ ++ [some (.obj C [] [])]) with
  | bad => rw [e] at w; exact w.elim
  | exc y μ' => rw [e] at w; exact fun u o c' e' s ok' r' => w u o c' e' (s12.trans s) ok' r'
  | ok d μ' =>
    rw [e] at w
    intro v c' e' s ok' r'
    cases d with
    | non =>
      cases r'
      refine ⟨rfl, ?_⟩
      dsimp only at w
      have lt : c.μ.length < ((c.to (upd c.G dx (.own x)) (upd c.H dx (.own x))).add x (.ins g dx []) (.obj C [] [])).μ.length := by rw [em]; simp
      have ax : c'.ι c.μ.length = x := (s.ag _ lt).trans top
      have st := s12.trans s
      cases frz with
      | false =>
        rw [if_neg Bool.false_ne_true] at w
        have q := Dp.own (W := W) (c := c') (n := c.μ.length) (Nat.lt_of_lt_of_le lt s.len)
        rw [ax] at q
        exact w (.ref x) c' e' st ok' q
      | true =>
        rw [if_pos rfl] at w
        split at w
        · rename_i y hy
          split at w
          · rename_i d' hd'
            rw [← e'] at hy w
            obtain ⟨c2, h1, h2, h3, h4, h5, h6⟩ := zz8 st ok' hy (Nat.le_refl _) hd'
            rw [ax] at h6
            have := w (.ref x) c2 h2 h3 h4 h6
            rw [h1] at this
            exact this
          · exact w.elim
        · exact w.elim
    | _ => exact w.elim
def mMake (frz : Bool) (C : String) (m : List D → Store → Res D) (a : MA) : ME := fun ρ μ => (a ρ μ).bind (mkObj frz C m)
def zlc (C : String) : MS := fun _ _ μ => .exc ⟨C, [], []⟩ μ
theorem zte {C : String} {g : Addr} (hC : W.cm C = some g) (h : PS X st (fun _ _ H => E (.ref g) none H)) : PS X st (tS W E (zlc C)) := zd2 h fun D σ H ⟨c0, cs, ρ, c, hH, ok, s, le, env, w⟩ => by
  subst hH
  exact w (.ref g) none c rfl s ok ⟨g, hC, rfl, .inl ⟨rfl, rfl, rfl⟩⟩
end
end Mi
namespace Mi
open PySem PySem.Spec L2
open Classical
section
variable {W : Wd} {E : XK} {X : Cx} {c : Cf} {v : V} {d : D} {ds : List D} {e tg iter : Expr} {st : Stmt} {Q : VK}
def MtC (W : Wd) (E : XK) (r : V → List V → Hp → VK → Prop) (f : D → List D → Store → Res D) : Prop := ∀ c x v xs vs Q, Ok W c → Dp W c v x → DpA W c vs xs → Wp W (Dp W) (f x xs c.μ) c Q E → r v vs c.H Q
def tyM (μ : Store) : D → Option String
  | .str _ => some "str"
  | .int _ => some "int"
  | .lst _ => some "list"
  | .own n => match μ[n]? with
    | some (some (.lst _)) => some "list"
    | some (some (.dct _ _)) => some "dict"
    | _ => none
  | _ => none
theorem zx5 (ok : Ok W c) (h : Dp W c v d) {T : String} (e : tyM c.μ d = some T) : tyV W.K T v c.H := by
  cases h with
  | str x => cases Option.some.inj e; rfl
  | int x => cases Option.some.inj e; rfl
  | lst hs ha => cases Option.some.inj e; exact .inl ⟨rfl, _, ok.s.seq hs⟩
  | own hn =>
    unfold tyM at e
    dsimp only at e
    split at e
    · rename_i ds hx
      cases Option.some.inj e
      obtain ⟨_, o, ho, xs, rfl, _⟩ := ok.at' _ _ hx
      exact .inl ⟨rfl, xs, .inl (.inl ho)⟩
    · rename_i ks ds hx
      cases Option.some.inj e
      obtain ⟨_, o, ho, xs, rfl, _⟩ := ok.at' _ _ hx
      exact .inr (.inr (.inl ⟨rfl, .inl ⟨_, ho⟩⟩))
    · cases e
  | _ => cases e
def mBm (T : String) (f : D → List D → Store → Res D) (o : ME) (a : MA) : ME := fun ρ μ => (o ρ μ).bind fun x μ => if tyM μ x = some T then (a ρ μ).bind fun xs μ => f x xs μ else .bad
theorem me_bm {T : String} {r : V → List V → Hp → VK → Prop} {f : D → List D → Store → Res D} {o : ME} {a : MA} (hf : MtC W E r f) (h : PE X e (tBM W.K T r (tE W E o) (tA W E a))) : PE X e (tE W E (mBm T f o a)) := zav h fun σ H Q ⟨ρ, c, hH, ok, env, w⟩ =>
  ⟨ρ, c, hH, ok, env, wp_bind w fun v x c1 s1 ok1 r1 w1 => by
    split at w1
    · rename_i ht
      exact ⟨zx5 ok1 r1 ht, ρ, c1, rfl, ok1, env.mono s1.le, wp_bind w1 fun vs xs c2 s2 ok2 r2 w2 => hf c2 x v xs vs Q ok2 (zay s2.le r1) r2 w2⟩
    · exact w1.elim⟩
theorem zzg {T : String} {r : V → List V → Hp → VK → Prop} {f : D → List D → Store → Res D} {o : ME} (hf : MtC W E r f) (h : PE X e (tBM0 W.K T r (tE W E o))) : PE X e (tE W E (mBm T f o mNil)) := zav h fun σ H Q ⟨ρ, c, hH, ok, env, w⟩ =>
  ⟨ρ, c, hH, ok, env, wp_bind w fun v x c1 s1 ok1 r1 w1 => by
    split at w1
    · rename_i ht
      exact ⟨zx5 ok1 r1 ht, hf c1 x v [] [] Q ok1 r1 .nil w1⟩
    · exact w1.elim⟩
theorem zi4 {α : D} {n : Nat} {xs : List V} {ds ds0 : List D} (w : Wp W (Dp W) (.ok α (c.μ.set n (some (.lst ds)))) c Q E) (ok : Ok W c) (hx : c.μ[n]? = some (some (.lst ds0))) (ha : DpA W c xs ds) {z : V} (hz : Dp W c z α) : Q z (upd c.H (c.ι n) (.lst xs)) := by
  obtain ⟨ok3, s5⟩ := zji (x := .lst ds) (o := .lst xs) ok hx rfl ⟨xs, rfl, ha⟩
  exact w z (c.put n (.lst xs) (.lst ds)) rfl s5 ok3 (zay s5.le hz)
theorem zu6 {α : D} {n : Nat} {ks ks0 : List Key} {xs : List V} {ds ds0 : List D} (w : Wp W (Dp W) (.ok α (c.μ.set n (some (.dct ks ds)))) c Q E) (ok : Ok W c) (hx : c.μ[n]? = some (some (.dct ks0 ds0))) (hl : ks.length = xs.length) (hnd : ks.Nodup) (ha : DpA W c xs ds) {z : V} (hz : Dp W c z α) : Q z (upd c.H (c.ι n) (.dK (Cs.kvL ks xs))) := by
  obtain ⟨ok3, s5⟩ := zji (x := .dct ks ds) (o := .dK (Cs.kvL ks xs)) ok hx rfl ⟨xs, rfl, hl, hnd, ha⟩
  exact w z (c.put n (.dK (Cs.kvL ks xs)) (.dct ks ds)) rfl s5 ok3 (zay s5.le hz)
def zbc : D → List D → Store → Res D := fun x xs μ => match ownL μ x, xs with
  | some (n, ds), [y] => if ds.length < sizeLine then .ok .non (μ.set n (some (.lst (ds ++ [y])))) else .bad
  | _, _ => .bad
theorem zc5 : MtC W E rAppend zbc := fun c x v xs vs Q ok hx hxs w => by
  unfold zbc at w
  split at w
  · rename_i n ds y e
    split at w
    · rename_i hl
      obtain ⟨rfl, hm, rfl, ws, h1, h2⟩ := zgw ok hx e
      cases hxs with
      | cons h3 h4 =>
        cases h4
        exact ⟨_, ws, _, rfl, rfl, h1, by rw [zan h2]; exact hl, zi4 w ok hm (zdj h2 (.cons h3 .nil)) .non⟩
    · exact w.elim
  · exact w.elim
def zlk : D → List D → Store → Res D := fun x xs μ => match ownL μ x, xs with
  | some (n, ds), [.int i] => if -(2 ^ 63) ≤ i ∧ i < 2 ^ 63 then match seqIndex? i ds.length with
      | some k => match ds[k]? with
        | some y => .ok y (μ.set n (some (.lst (ds.eraseIdx k))))
        | none => .bad
      | none => .bad
    else .bad
  | _, _ => .bad
theorem zy7 : MtC W E rPopAt zlk := fun c x v xs vs Q ok hx hxs w => by
  unfold zlk at w
  split at w
  · rename_i n ds i e
    split at w
    · rename_i hi
      split at w
      · rename_i k hk
        split at w
        · rename_i y hy
          obtain ⟨rfl, hm, rfl, ws, h1, h2⟩ := zgw ok hx e
          cases hxs with
          | cons h3 h4 =>
            cases h3; cases h4
            obtain ⟨z, h5, h6⟩ := zhz h2 hy
            exact ⟨_, ws, _, k, z, rfl, rfl, h1, hi.1, hi.2, by rw [zan h2]; exact hk, h5, zi4 w ok hm (zkg k h2) h6⟩
        · exact w.elim
      · exact w.elim
    · exact w.elim
  · exact w.elim
def zoa : D → List D → Store → Res D := fun x xs μ => match ownL μ x, xs with
  | some (n, ds), [.int i, y] => if ds.length < sizeLine ∧ 0 ≤ i ∧ i < 2 ^ 63 then .ok .non (μ.set n (some (.lst (ds.take i.toNat ++ [y] ++ ds.drop i.toNat)))) else .bad
  | _, _ => .bad
def zvi : V → List V → Hp → VK → Prop := fun x vs H Q => ∃ (l : Addr) (xs : List V) (i : Int) (y : V), x = .ref l ∧ vs = [.int i, y] ∧ H l = some (.lst xs) ∧ xs.length < sizeLine ∧ 0 ≤ i ∧ i < 2 ^ 63 ∧ Q .non (upd H l (.lst (xs.take i.toNat ++ [y] ++ xs.drop i.toNat)))
theorem zxt {X : Cx} : MtR X "list.insert" zvi := mt_insert
theorem zxr : MtC W E zvi zoa := fun c x v xs vs Q ok hx hxs w => by
  unfold zoa at w
  split at w
  · rename_i n ds i y e
    split at w
    · rename_i hi
      obtain ⟨rfl, hm, rfl, ws, h1, h2⟩ := zgw ok hx e
      cases hxs with
      | cons h3 h4 =>
        cases h4 with
        | cons h4 h5 =>
          cases h3; cases h5
          exact ⟨_, ws, _, _, rfl, rfl, h1, by rw [zan h2]; exact hi.1, hi.2.1, hi.2.2, zi4 w ok hm (zdj (zdj (zjw _ h2) (.cons h4 .nil)) (zjx _ h2)) .non⟩
    · exact w.elim
  · exact w.elim
theorem zt9 (l b : Addr) (xs ys : Array Value) (n m : Nat) (od : Option Addr) (sl : Array (Option Value)) (h0 : ¬ (!xs.isEmpty && Builtin.List.listTooLong (xs.size + ys.size)) = true) (h1 : xs.size ≤ sizeLine) (h2 : xs.size + ys.size ≤ sizeLine + 1) :
    Meets (Builtin.«list.extend» ⟨[.ref l, .ref b], []⟩) (fun _ R s => s.heap.get? l = some { cls := .type "list", data := .seq xs n } ∧ s.heap.get? b = some ⟨.type "tuple", od, .seq ys m, sl⟩ ∧ R (.ok (.ret .none)) { s with heap := s.heap.update l (Obj.mapSeq fun x => x ++ ys) }) :=
  .of_wp fun prog w A R ⟨hp, g, d, tk, os⟩ ⟨e1, e2, q⟩ => by
    have i1 := PySem.AutoSeq1.idx_int
    have i2 := PySem.AutoSeq1.sub_tuple_tuple
    have i3 := PySem.AutoSeq1.sub_list_list
    have i4 := PySem.AutoSeq1.sub_tuple_list
    have i5 := PySem.AutoSeq1.sub_list_tuple
    have big : (xs ++ ys).size ≤ sizeLine + 1 := Nat.le_trans (Nat.le_of_eq Array.size_append) h2
    simp only [] at e1 e2 q
    wp_walk using (wpAny_updateSeq e1 rfl (hz := h1) (_hz' := big)), PySem.AutoSeq1.wpAny_loadPart' e1, PySem.AutoSeq1.wpAny_loadPart' e2
    exact ⟨_, rfl, q⟩
def rExtA (K : PySem.W.Frag) : V → List V → Hp → VK → Prop := fun x vs H Q => rExtend x vs H Q ∨ ∃ l b xs zs, x = .ref l ∧ vs = [.ref b] ∧ H l = some (.lst xs) ∧ SqT K H b zs ∧ xs.length + zs.length ≤ sizeLine ∧ Q .non (upd H l (.lst (xs ++ zs)))
theorem zvz {X : Cx} : MtR X "list.extend" (rExtA X.K) := fun pins s σ H x vs v us Q I rx rv h => by
  rcases h with h | ⟨l, b, xs, zs, e1, e2, hH, hB, hz, q⟩
  · exact mt_extend pins s σ H x vs v us Q I rx rv h
  · subst e1 e2
    cases rx
    obtain ⟨u, rfl, ru⟩ := rv.one
    cases ru
    obtain ⟨z, its, n, r, hl, e⟩ := I.lstM hH
    obtain ⟨its2, r2, ⟨⟨oc, od, dt, sl⟩, h1, h2, n2, h3⟩, hz2⟩ := I.tuple hB
    simp only at h2 h3
    subst h2 h3
    have len2 := r2.length
    have fit : its.toArray.size + its2.toArray.size ≤ sizeLine := by simp only [List.size_toArray]; omega
    have long : ¬ (!its.toArray.isEmpty && Builtin.List.listTooLong (its.toArray.size + its2.toArray.size)) = true := by
      rw [notLongL fit, Bool.and_false]
      exact Bool.false_ne_true
    refine call_meets PySem.F.slot_list_extend ⟨_, e, rfl⟩ PySem.F.entry_list_extend (PySem.F.args_list_extend_2 _ _) (zt9 l b its.toArray its2.toArray n n2 od sl long (by simp only [List.size_toArray] at fit ⊢; omega) (by omega)) ⟨e, h1, ?_⟩
    exact ⟨.non, _, I.lset (its' := its ++ its2) hH e (by simp) (r.append r2) (by rw [List.length_append]; exact hz), rfl, q⟩
def zgz : D → List D → Store → Res D := fun x xs μ => match ownL μ x, xs with
  | some (n, ds), [y] => match (match ownL μ y with
      | some (_, es) => some es
      | none => seqT y) with
    | some es => if ds.length + es.length ≤ sizeLine then .ok .non (μ.set n (some (.lst (ds ++ es)))) else .bad
    | none => .bad
  | _, _ => .bad
theorem zpx : MtC W E (rExtA W.K) zgz := fun c x v xs vs Q ok hx hxs w => by
  unfold zgz at w
  split at w
  · rename_i n ds y e
    obtain ⟨rfl, hm, rfl, ws, h1, h2⟩ := zgw ok hx e
    cases hxs with
    | cons h3 h4 =>
      cases h4
      split at w
      · rename_i es e2
        split at w
        · rename_i hl
          split at e2
          · rename_i k es' e3
            cases Option.some.inj e2
            obtain ⟨rfl, _, rfl, zs, h5, h6⟩ := zgw ok h3 e3
            exact .inl ⟨_, _, ws, zs, rfl, rfl, h1, h5, by rw [zan h2, zan h6]; exact hl, zi4 w ok hm (zdj h2 h6) .non⟩
          · obtain ⟨a, zs, rfl, h5, h6⟩ := zn3 ok h3 e2
            exact .inr ⟨_, a, ws, zs, rfl, rfl, h1, h5, by rw [zan h2, zan h6]; exact hl, zi4 w ok hm (zdj h2 h6) .non⟩
        · exact w.elim
      · exact w.elim
  · exact w.elim
def zjo (o i : ME) : MG := fun z ρ μ => (o ρ μ).bind fun x μ => (i ρ μ).bind fun y μ => match ownL μ x, y with
  | some (n, ds), .int k => match ixN ds.length k with
    | some j => .ok ρ (μ.set n (some (.lst (ds.set j z))))
    | none => .bad
  | _, _ => .bad
theorem zv3 {o i : ME} (h : PG X e (gSub (tE W E o) (tE W E i) rSetL)) : PG X e (tG W E (zjo o i)) := zk0 h fun v σ H Q ⟨ρ, c, z, hH, ok, env, rz, w⟩ =>
  ⟨ρ, c, hH, ok, env, wp_bind w fun u x c1 s1 ok1 r1 w1 => ⟨ρ, c1, rfl, ok1, env.mono s1.le, wp_bind w1 fun u2 y c2 s2 ok2 r2 w2 => by
    split at w2
    · rename_i n ds k e
      split at w2
      · rename_i j hj
        obtain ⟨rfl, hm, rfl, ws, h1, h2⟩ := zgw ok2 (zay s2.le r1) e
        cases r2
        have le := s1.le.trans s2.le
        have ha := zwz j h2 (zay le rz)
        obtain ⟨ok3, s5⟩ := zji (x := .lst (ds.set j z)) (o := .lst (ws.set j v)) ok2 hm rfl ⟨_, rfl, ha⟩
        exact ⟨_, ws, _, j, rfl, rfl, h1, by rw [zan h2]; exact hj, w2 σ (c2.put n (.lst (ws.set j v)) (.lst (ds.set j z))) rfl s5 ok3 (env.mono (le.trans s5.le))⟩
      · exact w2.elim
    · exact w2.elim⟩⟩
def keyOf : D → Option Key
  | .int i => some (.inl i)
  | .str x => some (.inr x)
  | _ => none
theorem zjt {k : Key} (h : Dp W c v d) (e : keyOf d = some k) : v = kV k := by
  cases h <;> first | (cases Option.some.inj e; rfl) | cases e
def lookK {α : Type} (k : Key) : List Key → List α → Option α
  | k' :: ks, x :: xs => if k' = k then some x else lookK k ks xs
  | _, _ => none
theorem zoy {k : Key} : ∀ {ks : List Key} {xs : List V} {ds : List D}, ks.length = xs.length → DpA W c xs ds → (∀ d, lookK k ks ds = some d → ∃ v, valV (Cs.kvL ks xs) k = some v ∧ Dp W c v d) ∧ (lookK k ks ds = none → valV (Cs.kvL ks xs) k = none)
  | [], _, _, _, _ => ⟨fun _ e => (by cases e), fun _ => rfl⟩
  | _ :: _, [], _, h, _ => by simp at h
  | k' :: ks, x :: xs, _ :: ds, h, .cons h1 h2 => by
    have ih := zoy (k := k) (ks := ks) (by simpa using h) h2
    show (∀ d, (if k' = k then some _ else lookK k ks ds) = some d → ∃ v, valV ((k', x) :: Cs.kvL ks xs) k = some v ∧ _) ∧ ((if k' = k then some _ else lookK k ks ds) = none → valV ((k', x) :: Cs.kvL ks xs) k = none)
    by_cases hk : k' = k
    · rw [if_pos hk]
      exact ⟨fun d e => (by cases Option.some.inj e; exact ⟨x, valV_pos hk, h1⟩), fun e => (by cases e)⟩
    · rw [if_neg hk, valV_neg hk]
      exact ih
def mDGet (o i : ME) : ME := fun ρ μ => (o ρ μ).bind fun x μ => (i ρ μ).bind fun y μ => match dctOf μ x, keyOf y with
  | some (ks, ds), some k => match lookK k ks ds with
    | some d => .ok d μ
    | none => .bad
  | _, _ => .bad
theorem zv6 {o i : ME} (h : PE X e (tDGet (tE W E o) (tE W E i))) : PE X e (tE W E (mDGet o i)) := zav h fun σ H Q ⟨ρ, c, hH, ok, env, w⟩ =>
  ⟨ρ, c, hH, ok, env, wp_bind w fun v x c1 s1 ok1 r1 w1 => ⟨ρ, c1, rfl, ok1, env.mono s1.le, wp_bind w1 fun u y c2 s2 ok2 r2 w2 => by
    split at w2
    · rename_i ks ds k e1 e2
      split at w2
      · rename_i d ed
        obtain ⟨a, xs, rfl, h1, h2, h3, h4⟩ := zns ok2 (zay s2.le r1) e1
        obtain ⟨z, h5, h6⟩ := (zoy h2 h4).1 d ed
        have hu := zjt r2 e2
        exact ⟨a, z, rfl, .inl ⟨_, k, h1, hu, h5.symm⟩, zaj w2 ok2 h6⟩
      · exact w2.elim
    · exact w2.elim⟩⟩
def mDIn (neg : Bool) (i o : ME) : ME := fun ρ μ => (i ρ μ).bind fun y μ => (o ρ μ).bind fun x μ => match dctOf μ x, keyOf y with
  | some (ks, ds), some k => .ok (.bl (if neg = true then !(lookK k ks ds).isSome else (lookK k ks ds).isSome)) μ
  | _, _ => .bad
def putKK (ks : List Key) (k : Key) : List Key := if k ∈ ks then ks else ks ++ [k]
def putKV {α : Type} (k : Key) (z : α) : List Key → List α → List α
  | k' :: ks, x :: xs => if k' = k then z :: xs else x :: putKV k z ks xs
  | _, xs => xs ++ [z]
theorem zra {k : Key} : ∀ {ks : List Key} {xs : List V}, ks.length = xs.length → (((Cs.kvL ks xs).any fun kv => decide (kv.1 = k)) = true ↔ k ∈ ks)
  | [], _, _ => by simp [Cs.kvL]
  | _ :: _, [], h => by simp at h
  | k' :: ks, x :: xs, h => by
    have ih := zra (k := k) (ks := ks) (xs := xs) (by simpa using h)
    show (((k', x) :: Cs.kvL ks xs).any fun kv => decide (kv.1 = k)) = true ↔ _
    rw [List.any_cons, Bool.or_eq_true, ih, decide_eq_true_iff, List.mem_cons]
    exact ⟨fun z => z.elim (fun q => .inl q.symm) .inr, fun z => z.elim (fun q => .inl q.symm) .inr⟩
theorem zwa {k : Key} {z : V} : ∀ {ks : List Key} {xs : List V}, ks.length = xs.length → Cs.kvL ks xs ++ [(k, z)] = Cs.kvL (ks ++ [k]) (xs ++ [z])
  | [], [], _ => rfl
  | [], _ :: _, h => by simp at h
  | _ :: _, [], h => by simp at h
  | k' :: ks, x :: xs, h => by
    show (k', x) :: (Cs.kvL ks xs ++ [(k, z)]) = (k', x) :: Cs.kvL (ks ++ [k]) (xs ++ [z])
    rw [zwa (by simpa using h)]
theorem zsz {α : Type} {k : Key} {z : α} : ∀ {ks : List Key} {xs : List α}, ks.length = xs.length → k ∉ ks → putKV k z ks xs = xs ++ [z]
  | [], _, _, _ => by unfold putKV; rfl
  | _ :: _, [], h, _ => by simp at h
  | k' :: ks, x :: xs, h, n => by
    unfold putKV
    rw [if_neg (fun e => n (by rw [e]; exact List.mem_cons_self)), zsz (by simpa using h) (fun q => n (List.mem_cons_of_mem _ q))]
    rfl
theorem zp4 {k : Key} {z : V} : ∀ {ks : List Key} {xs : List V}, ks.length = xs.length → k ∉ ks → (Cs.kvL ks xs).map (fun kv => if kv.1 = k then (kv.1, z) else kv) = Cs.kvL ks xs
  | [], _, _, _ => rfl
  | _ :: _, [], h, _ => by simp at h
  | k' :: ks, x :: xs, h, n => by
    show (if k' = k then (k', z) else (k', x)) :: (Cs.kvL ks xs).map _ = (k', x) :: Cs.kvL ks xs
    rw [if_neg (fun e => n (by rw [e]; exact List.mem_cons_self)), zp4 (by simpa using h) (fun q => n (List.mem_cons_of_mem _ q))]
theorem zv9 {k : Key} {z : V} : ∀ {ks : List Key} {xs : List V}, ks.length = xs.length → ks.Nodup → k ∈ ks → (Cs.kvL ks xs).map (fun kv => if kv.1 = k then (kv.1, z) else kv) = Cs.kvL ks (putKV k z ks xs) ∧ (putKV k z ks xs).length = ks.length
  | [], _, _, _, m => by cases m
  | _ :: _, [], h, _, _ => by simp at h
  | k' :: ks, x :: xs, h, nd, m => by
    have hl : ks.length = xs.length := by simpa using h
    have nd' := List.nodup_cons.mp nd
    show (if k' = k then (k', z) else (k', x)) :: (Cs.kvL ks xs).map _ = Cs.kvL (k' :: ks) (putKV k z (k' :: ks) (x :: xs)) ∧ _
    unfold putKV
    by_cases hk : k' = k
    · rw [if_pos hk, if_pos hk, zp4 hl (by rw [← hk]; exact nd'.1)]
      exact ⟨rfl, by simp [hl]⟩
    · rw [if_neg hk, if_neg hk]
      have m' : k ∈ ks := by
        rcases List.mem_cons.mp m with e | e
        · exact absurd e.symm hk
        · exact e
      obtain ⟨h1, h2⟩ := zv9 (z := z) hl nd'.2 m'
      rw [h1]
      exact ⟨rfl, by simp [h2]⟩
theorem zsy {k : Key} {z : V} {ks : List Key} {xs : List V} (h : ks.length = xs.length) (nd : ks.Nodup) : putK (Cs.kvL ks xs) k z = Cs.kvL (putKK ks k) (putKV k z ks xs) ∧ (putKK ks k).length = (putKV k z ks xs).length ∧ (putKK ks k).Nodup := by
  unfold putK putKK
  by_cases hm : k ∈ ks
  · obtain ⟨h1, h2⟩ := zv9 (z := z) h nd hm
    rw [if_pos ((zra h).mpr hm), if_pos hm]
    exact ⟨h1, h2.symm, nd⟩
  · rw [if_neg (fun q => hm ((zra h).mp q)), if_neg hm, zsz h hm]
    exact ⟨zwa h, by simp [h], List.nodup_append.mpr ⟨nd, by simp, fun a ha b hb => by
      rw [List.mem_singleton.mp hb]; exact fun z => hm (z ▸ ha)⟩⟩
theorem zmi {k : Key} {z : V} {dz : D} (hz : Dp W c z dz) : ∀ {ks : List Key} {xs : List V} {ds : List D}, DpA W c xs ds → DpA W c (putKV k z ks xs) (putKV k dz ks ds)
  | [], _, _, h => by unfold putKV; exact zdj h (.cons hz .nil)
  | _ :: _, _, _, .nil => by unfold putKV; exact .cons hz .nil
  | k' :: ks, _, _, .cons h1 h2 => by
    unfold putKV
    by_cases hk : k' = k
    · rw [if_pos hk, if_pos hk]; exact .cons hz h2
    · rw [if_neg hk, if_neg hk]; exact .cons h1 (zmi hz h2)
def zk8 (o i : ME) : MG := fun z ρ μ => (o ρ μ).bind fun x μ => (i ρ μ).bind fun y μ => match ownK μ x, keyOf y with
  | some (n, ks, ds), some k => if ks.length < sizeLine then .ok ρ (μ.set n (some (.dct (putKK ks k) (putKV k z ks ds)))) else .bad
  | _, _ => .bad
theorem zv4 {o i : ME} (h : PG X e (gSub (tE W E o) (tE W E i) rSetD)) : PG X e (tG W E (zk8 o i)) := zk0 h fun v σ H Q ⟨ρ, c, z, hH, ok, env, rz, w⟩ =>
  ⟨ρ, c, hH, ok, env, wp_bind w fun u x c1 s1 ok1 r1 w1 => ⟨ρ, c1, rfl, ok1, env.mono s1.le, wp_bind w1 fun u2 y c2 s2 ok2 r2 w2 => by
    split at w2
    · rename_i n ks ds k e e2
      split at w2
      · rename_i hl
        obtain ⟨rfl, hm, rfl, xs, h1, h2, h3, h4⟩ := zq1 ok2 (zay s2.le r1) e
        have le := s1.le.trans s2.le
        obtain ⟨p1, p2, p3⟩ := zsy (k := k) (z := v) h2 h3
        have ha := zmi (k := k) (ks := ks) (zay le rz) h4
        obtain ⟨ok3, s5⟩ := zji (x := .dct (putKK ks k) (putKV k z ks ds)) (o := .dK (Cs.kvL (putKK ks k) (putKV k v ks xs))) ok2 hm rfl ⟨_, rfl, p2, p3, ha⟩
        refine ⟨_, _, rfl, .inl ⟨_, k, h1, zjt r2 e2, by rw [zdh h2]; exact hl, rfl⟩, ?_⟩
        rw [p1]
        exact w2 σ (c2.put n (.dK (Cs.kvL (putKK ks k) (putKV k v ks xs))) (.dct (putKK ks k) (putKV k z ks ds))) rfl s5 ok3 (env.mono (le.trans s5.le))
      · exact w2.elim
    · exact w2.elim⟩⟩
def mDNew (b : Bool) : ME := fun _ μ => newK b [] [] μ
theorem zn7 {b : Bool} (h : PE X e tDNewK) : PE X e (tE W E (mDNew b)) := zav h fun σ H Q ⟨ρ, c, hH, ok, env, w⟩ => by
  subst hH
  exact fun p hp => zu7 (xs := []) w ok .nil rfl .nil hp
def zg5 : List (ME × ME) → Env → Store → Res (List (D × D))
  | [], _, μ => .ok [] μ
  | (a, b) :: r, ρ, μ => (a ρ μ).bind fun x μ => (b ρ μ).bind fun y μ => (zg5 r ρ μ).bind fun ps μ => .ok ((x, y) :: ps) μ
def zg3 : List (D × D) → Option (List (Key × D))
  | [] => some []
  | (x, y) :: ps => match keyOf x, zg3 ps with
    | some k, some qs => some ((k, y) :: qs)
    | _, _ => none
def zbd : List Key → List D → List (Key × D) → List Key × List D
  | ks, ds, [] => (ks, ds)
  | ks, ds, (k, d) :: r => zbd (putKK ks k) (putKV k d ks ds) r
def mDisp (b : Bool) (trs : List (ME × ME)) : ME := fun ρ μ => (zg5 trs ρ μ).bind fun ps μ => match zg3 ps with
  | some qs => if qs.length ≤ 15 then newK b (zbd [] [] qs).1 (zbd [] [] qs).2 μ else .bad
  | none => .bad
end
end Mi
namespace Mi
open PySem PySem.Spec L2
open Classical
section
variable {W : Wd} {E : XK} {X : Cx} {c : Cf} {v : V} {d : D} {ds : List D} {e tg iter : Expr} {st : Stmt} {Q : VK}
structure Lk (a : Addr) (kvs : List (Key × V)) (G1 G2 : Hp) : Prop where
  off : ∀ b, b ≠ a → G1 b = G2 b
  at1 : G1 a = some (.dK kvs) ∨ ∃ o, G1 a = some (.frz o (.dK kvs))
  at2 : G2 a = some (.dK kvs) ∨ ∃ o, G2 a = some (.frz o (.dK kvs))
theorem Lk.symm {a : Addr} {kvs : List (Key × V)} {G1 G2 : Hp} (h : Lk a kvs G1 G2) : Lk a kvs G2 G1 := ⟨fun b n => (h.off b n).symm, h.at2, h.at1⟩
section
variable {a : Addr} {kvs : List (Key × V)} {G1 G2 : Hp}
theorem Lk.ne {b : Addr} {u : HO} (h : Lk a kvs G1 G2) (e : G1 b = some u) (n1 : u ≠ .dK kvs) (n2 : ∀ o, u ≠ .frz o (.dK kvs)) : G2 b = some u := by
  by_cases hb : b = a
  · subst hb
    rcases h.at1 with q | ⟨o, q⟩
    · rw [q] at e; exact absurd (Option.some.inj e).symm n1
    · rw [q] at e; exact absurd (Option.some.inj e).symm (n2 o)
  · rw [← h.off b hb]; exact e
theorem Lk.seqL {b : Addr} {xs : List V} {K : PySem.W.Frag} (h : Lk a kvs G1 G2) (s : SqL K G1 b xs) : SqL K G2 b xs := by
  rcases s with (s | ⟨o, s⟩) | s
  · exact .inl (.inl (h.ne s (fun z => by cases z) (fun _ z => by cases z)))
  · exact .inl (.inr ⟨o, h.ne s (fun z => by cases z) (fun _ z => by cases z)⟩)
  · exact .inr s
theorem Lk.seqT {b : Addr} {xs : List V} {K : PySem.W.Frag} (h : Lk a kvs G1 G2) (s : SqT K G1 b xs) : SqT K G2 b xs := by
  rcases s with (s | ⟨o, s⟩) | s
  · exact .inl (.inl (h.ne s (fun z => by cases z) (fun _ z => by cases z)))
  · exact .inl (.inr ⟨o, h.ne s (fun z => by cases z) (fun _ z => by cases z)⟩)
  · exact .inr s
theorem Lk.rd {b : Addr} {l : List (Key × V)} (h : Lk a kvs G1 G2) (s : Rd G1 b (.dK l)) : Rd G2 b (.dK l) := by
  by_cases hb : b = a
  · subst hb
    have : l = kvs := by
      rcases h.at1 with q | ⟨o, q⟩
      · rcases s with s | ⟨o', s⟩ <;> rw [q] at s <;> cases s; rfl
      · rcases s with s | ⟨o', s⟩ <;> rw [q] at s <;> cases s; rfl
    subst this
    exact h.at2
  · rcases s with s | ⟨o, s⟩
    · exact .inl (by rw [← h.off b hb]; exact s)
    · exact .inr ⟨o, by rw [← h.off b hb]; exact s⟩
mutual
theorem dp_lk {c1 c2 : Cf} (hi : c2.ι = c1.ι) (hm : c2.μ.length = c1.μ.length) (h : Lk a kvs c1.G c2.G) : ∀ {d : D} {v : V}, Dp W c1 v d → Dp W c2 v d
  | _, _, .non => .non
  | _, _, .bl b => .bl b
  | _, _, .int i => .int i
  | _, _, .str x => .str x
  | _, _, .ty n => .ty n
  | _, _, .lst hs ha => .lst (h.seqL hs) (zgh hi hm h ha)
  | _, _, .tup hs ha => .tup (h.seqT hs) (zgh hi hm h ha)
  | _, _, .dct hr hl hn ha => .dct (h.rd hr) hl hn (zgh hi hm h ha)
  | _, _, .obj hc q hl ha => .obj hc (h.ne q (fun z => by cases z) (fun _ z => by cases z)) hl (zgh hi hm h ha)
  | _, _, .exc hc q hd hn hl ha => .exc hc (h.ne q (fun z => by cases z) (fun _ z => by cases z)) (fun dx r => h.ne (hd dx r) (fun z => by cases z) (fun _ z => by cases z)) hn hl (zgh hi hm h ha)
  | _, _, .cls hc => .cls hc
  | _, _, .own hn => by
    rw [← hi]
    exact .own (by rw [hm]; exact hn)
theorem zgh {c1 c2 : Cf} (hi : c2.ι = c1.ι) (hm : c2.μ.length = c1.μ.length) (h : Lk a kvs c1.G c2.G) : ∀ {ds : List D} {vs : List V}, DpA W c1 vs ds → DpA W c2 vs ds
  | _, _, .nil => .nil
  | _, _, .cons h1 h2 => .cons (dp_lk hi hm h h1) (zgh hi hm h h2)
end
theorem zw5 {c1 c2 : Cf} {o : HO} {x : Cell} (hi : c2.ι = c1.ι) (hm : c2.μ.length = c1.μ.length) (hL : c2.L = c1.L) (h : Lk a kvs c1.G c2.G) (q : CellAt W c1 o x) : CellAt W c2 o x := by
  cases x with
  | lst ds => obtain ⟨xs, h1, h2⟩ := q; exact ⟨xs, h1, zgh hi hm h h2⟩
  | dct ks ds => obtain ⟨xs, h1, h2, h3, h4⟩ := q; exact ⟨xs, h1, h2, h3, zgh hi hm h h4⟩
  | lck ks ds => obtain ⟨xs, od, h1, h2, h3, h4⟩ := q; exact ⟨xs, od, h1, h2, h3, zgh hi hm h h4⟩
  | obj C ks ds => obtain ⟨g, dx, xs, h1, h2, h3, h4⟩ := q; exact ⟨g, dx, xs, h1, h2, h3, zgh hi hm h h4⟩
end
def mLock (i : Nat) (m : List Key → ME) : ME := fun ρ μ => match ρ[i]? with
  | some (some (.own n)) => match μ[n]? with
    | some (some (.dct ks ds)) => match m ks ρ (μ.set n (some (.lck ks ds))) with
      | .ok d μ' => match μ'[n]? with
        | some (some (.lck _ _)) => .ok d (μ'.set n (some (.dct ks ds)))
        | _ => .bad
      | _ => .bad
    | _ => .bad
  | some (some (.dct ks _)) => match m ks ρ μ with
    | .ok d μ' => .ok d μ'
    | _ => .bad
  | _ => .bad
def Lkd (W : Wd) (c : Cf) (a : Addr) (kvs : List (Key × V)) : Prop := ∃ o, ∀ c', Le c c' → c'.L = c.L → Ok W c' → c'.H a = some (.frz o (.dK kvs))
def zsp (t : TE) : TE := fun σ H Q => tLockE t σ H Q ∨ t σ H Q
theorem zabp {t : TE} (h : PE X e t) : PE X e (zsp t) := ⟨fun pins s σ H Q I q => by
  rcases q with q | q
  · exact (pe_lock h).run pins s σ H Q I q
  · exact h.run pins s σ H Q I q⟩
theorem zadf {i : Nat} {m : List Key → ME} {t : TE} (ht : ∀ σ ρ cl a ks xs Q, Ok W cl → EnvR W cl σ ρ → σ[i]? = some (some (.ref a)) → Lkd W cl a (Cs.kvL ks xs) → ks.length = xs.length → Wp W (Dp W) (m ks ρ cl.μ) cl Q E → t σ cl.H Q) (h : PE X e (zsp t)) : PE X e (tE W E (mLock i m)) := zav h fun σ H Q ⟨ρ, c, hH, ok, env, w⟩ => by
  subst hH
  unfold mLock at w
  split at w
  · rename_i n hn
    split at w
    · rename_i ks ds hx
      obtain ⟨gn, o, ho, xs, rfl, hl, hnd, ha⟩ := ok.at' n _ hx
      have l : live c.μ n := ⟨_, hx⟩
      have Ln : c.L (c.ι n) = none := by
        cases q : c.L (c.ι n) with
        | none => rfl
        | some u =>
          obtain ⟨h1, od, u', h2⟩ := ok.lk _ _ q
          rw [ho] at h1
          rw [h2] at h1
          cases h1
      refine .inl ⟨c.ι n, _, ho, True.intro, fun od => ?_⟩
      -- locked
      let cl : Cf := ⟨c.ι, c.μ.set n (some (.lck ks ds)), c.G, upd c.H (c.ι n) (.frz od (.dK (Cs.kvL ks xs))), fun b => if b = c.ι n then some (.frz od (.dK (Cs.kvL ks xs))) else c.L b, c.T⟩
      have lel : Le c cl := ⟨Same.refl _, by simp [cl], fun _ _ => rfl⟩
      have lvl : ∀ m, live cl.μ m → live c.μ m := fun m k => zjr l k
      have okl : Ok W cl := by
        refine ⟨fun b u e => ?_, fun b u e => ?_, fun m x e => ?_, fun p q lp lq e => ok.inj p q (lvl p lp) (lvl q lq) e, fun m x e hy => ?_, ok.tb.mono rfl (zfn fun q z => by rw [ho] at z; exact zul (Option.some.inj z)) (fun _ _ e => e) (zhr fun _ z => by cases z) fun q _ ps e => by
          show upd c.H (c.ι n) _ q.1 = some (.tbl ps)
          rw [upd_ne (fun z => by rw [z, ho] at e; cases e)]; exact e⟩
        · show upd c.H (c.ι n) _ b = some u
          rw [upd_ne (ne_of_none e gn)]; exact ok.s b u e
        · have e' : (if b = c.ι n then some (HO.frz od (.dK (Cs.kvL ks xs))) else c.L b) = some u := e
          show upd c.H (c.ι n) _ b = some u ∧ _
          by_cases hb : b = c.ι n
          · rw [if_pos hb] at e'
            subst hb
            cases e'
            exact ⟨upd_same, od, _, rfl⟩
          · rw [if_neg hb] at e'
            rw [upd_ne hb]
            exact ok.lk b u e'
        · by_cases hm : n = m
          · subst hm
            have e2 : (c.μ.set n (some (.lck ks ds)))[n]? = some (some x) := e
            rw [List.getElem?_set_self (zat l)] at e2
            cases e2
            exact ⟨gn, _, upd_same, xs, od, rfl, hl, hnd, zaq lel ha⟩
          · have e2 : (c.μ.set n (some (.lck ks ds)))[m]? = some (some x) := e
            rw [List.getElem?_set_ne hm] at e2
            obtain ⟨h1, u, h2, h3⟩ := ok.at' m x e2
            refine ⟨h1, u, ?_, h3.mono lel trivial⟩
            show upd c.H (c.ι n) _ (c.ι m) = some u
            rw [upd_ne (fun z => hm (ok.inj m n ⟨x, e2⟩ l z).symm)]; exact h2
        · show (if c.ι m = c.ι n then _ else c.L (c.ι m)) ≠ none
          by_cases hm : n = m
          · rw [hm, if_pos rfl]; exact fun z => by cases z
          · have e2 : (c.μ.set n (some (.lck ks ds)))[m]? = some (some x) := e
            rw [List.getElem?_set_ne hm] at e2
            rw [if_neg (fun z => hm (ok.inj m n ⟨x, e2⟩ l z).symm)]
            exact ok.lc m x e2 hy
      have hσ : σ[i]? = some (some (.ref (c.ι n))) := by
        obtain ⟨v0, h1, h2⟩ := env.2 i _ hn
        cases h2
        exact h1
      have pin : Lkd W cl (c.ι n) (Cs.kvL ks xs) := ⟨od, fun c2 _ hL ok2 => (ok2.lk (c.ι n) _ (by
        rw [hL]
        show (if c.ι n = c.ι n then _ else _) = _
        rw [if_pos rfl])).1⟩
      refine ht σ ρ cl (c.ι n) ks xs _ okl (env.mono lel) hσ pin hl ?_
      show Wp W (Dp W) (m ks ρ (c.μ.set n (some (.lck ks ds)))) cl _ E
      cases em : m ks ρ (c.μ.set n (some (.lck ks ds))) with
      | bad => rw [em] at w; exact w.elim
      | exc x μ' => rw [em] at w; exact w.elim
      | ok d μ' =>
        rw [em] at w
        intro v c' e' s' ok' r'
        dsimp only at w
        split at w
        · rename_i y1 y2 hy
          rw [← e'] at hy w
          have hlt : n < cl.μ.length := by simp [cl, zat l]
          have an : c'.ι n = c.ι n := s'.ag n hlt
          have hfr : c'.H (c.ι n) = some (.frz od (.dK (Cs.kvL ks xs))) := by
            refine (ok'.lk (c.ι n) _ ?_).1
            rw [s'.lk]
            show (if c.ι n = c.ι n then _ else _) = _
            rw [if_pos rfl]
          refine ⟨hfr, ?_⟩
          have l' : live c'.μ n := ⟨_, hy⟩
          have gn' : c'.G (c.ι n) = none := by
            have := (ok'.at' n _ hy).1
            rw [an] at this; exact this
          let cu : Cf := ⟨c'.ι, c'.μ.set n (some (.dct ks ds)), c'.G, upd c'.H (c.ι n) (.dK (Cs.kvL ks xs)), c.L, c'.T⟩
          have leu : Le c' cu := ⟨Same.refl _, by simp [cu], fun _ _ => rfl⟩
          have lvu : ∀ m, live cu.μ m → live c'.μ m := fun m k => zjr l' k
          have oku : Ok W cu := by
            refine ⟨fun b u e => ?_, fun b u e => ?_, fun m x e => ?_, fun p q lp lq e => ok'.inj p q (lvu p lp) (lvu q lq) e, fun m x e hy => ?_, ok'.tb.mono rfl (zfn fun q z => by rw [hfr] at z; exact zr9 (Option.some.inj z)) (fun _ _ e => e) (zhr fun _ z => by cases z) fun q _ ps e => by
              show upd c'.H (c.ι n) _ q.1 = some (.tbl ps)
              rw [upd_ne (fun z => by rw [z, hfr] at e; cases e)]; exact e⟩
            · show upd c'.H (c.ι n) _ b = some u
              rw [upd_ne (ne_of_none e gn')]; exact ok'.s b u e
            · show upd c'.H (c.ι n) _ b = some u ∧ _
              have hb : b ≠ c.ι n := fun z => by
                have e2 : c.L b = some u := e
                rw [z, Ln] at e2; cases e2
              rw [upd_ne hb]
              refine ⟨(ok'.lk b u ?_).1, (ok.lk b u e).2⟩
              rw [s'.lk]
              show (if b = c.ι n then _ else c.L b) = _
              rw [if_neg hb]; exact e
            · by_cases hm : n = m
              · subst hm
                have e2 : (c'.μ.set n (some (.dct ks ds)))[n]? = some (some x) := e
                rw [List.getElem?_set_self (zat l')] at e2
                cases e2
                show c'.G (c'.ι n) = none ∧ ∃ o, upd c'.H (c.ι n) _ (c'.ι n) = some o ∧ _
                rw [an]
                exact ⟨gn', _, upd_same, xs, rfl, hl, hnd, zaq ((lel.trans s'.le).trans leu) ha⟩
              · have e2 : (c'.μ.set n (some (.dct ks ds)))[m]? = some (some x) := e
                rw [List.getElem?_set_ne hm] at e2
                obtain ⟨h1, u, h2, h3⟩ := ok'.at' m x e2
                refine ⟨h1, u, ?_, h3.mono leu trivial⟩
                show upd c'.H (c.ι n) _ (c'.ι m) = some u
                rw [upd_ne (fun z => hm (ok'.inj m n ⟨x, e2⟩ l' (z.trans an.symm)).symm)]; exact h2
            · show c.L (c'.ι m) ≠ none
              have e2 : (c'.μ.set n (some (.dct ks ds)))[m]? = some (some x) := e
              by_cases hm : n = m
              · rw [← hm, List.getElem?_set_self (zat l')] at e2
                cases e2; cases hy
              · rw [List.getElem?_set_ne hm] at e2
                have q := ok'.lc m x e2 hy
                rw [s'.lk] at q
                have q' : (if c'.ι m = c.ι n then some (HO.frz od (.dK (Cs.kvL ks xs))) else c.L (c'.ι m)) ≠ none := q
                rw [if_neg (fun z => hm (ok'.inj m n ⟨x, e2⟩ l' (z.trans an.symm)).symm)] at q'
                exact q'
          have su : Step c cu := by
            refine ⟨⟨fun b u nb e => ?_, s'.g.g, oku.s, fun b hb => ?_, fun b hb => ?_, s'.g.t, fun b ps e => by
              have e' : upd c'.H (c.ι n) _ b = some (.tbl ps) := e
              by_cases hb : b = c.ι n
              · rw [hb, upd_same] at e'; cases e'
              · rw [upd_ne hb] at e'
                obtain ⟨ps', z⟩ := s'.g.u b ps e'
                have z' : upd c.H (c.ι n) _ b = some (.tbl ps') := z
                rw [upd_ne hb] at z'; exact ⟨_, z'⟩⟩, Nat.le_trans lel.len (Nat.le_trans s'.len leu.len), fun m hm => ?_, fun m hm k => ?_, fun m hm k => ?_, rfl, s'.tk⟩
            · have hb : b ≠ c.ι n := fun z => nb (.inl ⟨n, l, z⟩)
              show upd c'.H (c.ι n) _ b = some u
              rw [upd_ne hb]
              refine s'.g.h b u (fun z => nb (z.imp (fun ⟨m, lm, em⟩ => ⟨m, lvl m lm, em⟩) fun ⟨ps, t⟩ => ⟨ps, by
                have t' : upd c.H (c.ι n) _ b = some (.tbl ps) := t
                rw [upd_ne hb] at t'; exact t'⟩)) ?_
              show upd c.H (c.ι n) _ b = some u
              rw [upd_ne hb]; exact e
            · have hb' : cl.H b ≠ none := by
                show upd c.H (c.ι n) _ b ≠ none
                by_cases z : b = c.ι n
                · rw [z, upd_same]; exact fun z => by cases z
                · rw [upd_ne z]; exact hb
              exact s'.g.n b hb'
            · show upd c'.H (c.ι n) _ b ≠ none
              by_cases z : b = c.ι n
              · rw [z, upd_same]; exact fun z => by cases z
              · rw [upd_ne z]
                refine s'.g.m b ?_
                show upd c.H (c.ι n) _ b ≠ none
                rw [upd_ne z]; exact hb
            · exact s'.ag m (by simp [cl]; exact hm)
            · exact lvl m (s'.dead m (by simp [cl]; exact hm) (lvu m k))
            · have q := s'.fresh m (by simp [cl]; exact hm) (lvu m k)
              have q' : upd c.H (c.ι n) _ (c'.ι m) = none := q
              by_cases z : c'.ι m = c.ι n
              · rw [z, upd_same] at q'; cases q'
              · rw [upd_ne z] at q'; exact q'
          exact w v cu rfl su oku (zay leu r')
        · exact w.elim
    · exact w.elim
  · rename_i ks ds hn
    obtain ⟨v0, hv0, hr0⟩ := env.2 i _ hn
    cases em : m ks ρ c.μ with
    | bad => rw [em] at w; exact w.elim
    | exc x μ' => rw [em] at w; exact w.elim
    | ok d μ' =>
      rw [em] at w
      have w' : Wp W (Dp W) (.ok d μ') c Q E := w
      cases hr0 with
      | @dct a _ xs _ hr hl hnd ha =>
        rcases hr with ga | ⟨o, ga⟩
        · refine .inl ⟨a, _, ok.s _ _ ga, True.intro, fun od => ?_⟩
          let cl : Cf := ⟨c.ι, c.μ, upd c.G a (.frz od (.dK (Cs.kvL ks xs))), upd c.H a (.frz od (.dK (Cs.kvL ks xs))), c.L, c.T⟩
          have lk : Lk a (Cs.kvL ks xs) c.G cl.G := ⟨fun b hb => (upd_ne hb).symm, .inl ga, .inr ⟨od, upd_same⟩⟩
          have na : ∀ n, live c.μ n → c.ι n ≠ a := fun n ⟨x, hx⟩ z => by
            have := (ok.at' n x hx).1
            rw [z, ga] at this; cases this
          have okl : Ok W cl := by
            refine ⟨fun b u e => ?_, fun b u e => ?_, fun m x e => ?_, ok.inj, ok.lc, ok.tb.mono rfl (zfn fun q z => by rw [ok.s _ _ ga] at z; exact zul (Option.some.inj z)) (fun b ps e => by
              have e' : upd c.G a _ b = some (.tbl ps) := e
              by_cases hb : b = a
              · rw [hb, upd_same] at e'; cases e'
              · rw [upd_ne hb] at e'; exact e') (zhr fun _ z => by cases z) fun q _ ps e => by
              show upd c.H a _ q.1 = some (.tbl ps)
              rw [upd_ne (fun z => by rw [z, ok.s _ _ ga] at e; cases e)]; exact e⟩
            · show upd c.H a _ b = some u
              have e' : upd c.G a _ b = some u := e
              by_cases hb : b = a
              · rw [hb, upd_same] at e' ⊢; exact e'
              · rw [upd_ne hb] at e' ⊢; exact ok.s b u e'
            · show upd c.H a _ b = some u ∧ _
              obtain ⟨h1, od', u', h2⟩ := ok.lk b u e
              have hb : b ≠ a := fun z => by
                rw [z, ok.s _ _ ga] at h1
                rw [h2] at h1; cases h1
              rw [upd_ne hb]
              exact ⟨h1, od', u', h2⟩
            · obtain ⟨h1, u, h2, h3⟩ := ok.at' m x e
              refine ⟨?_, u, ?_, zw5 (c1 := c) (c2 := cl) rfl rfl rfl lk h3⟩
              · show upd c.G a _ (c.ι m) = none
                rw [upd_ne (na m ⟨x, e⟩)]; exact h1
              · show upd c.H a _ (c.ι m) = some u
                rw [upd_ne (na m ⟨x, e⟩)]; exact h2
          have envl : EnvR W cl σ ρ := ⟨env.1, fun j e q => by
            obtain ⟨v, h1, h2⟩ := env.2 j e q
            exact ⟨v, h1, dp_lk (c1 := c) (c2 := cl) rfl rfl lk h2⟩⟩
          refine ht σ ρ cl a ks xs _ okl envl hv0 ⟨od, fun c2 le2 _ ok2 => ok2.s _ _ (le2.g _ _ upd_same)⟩ hl ?_
          show Wp W (Dp W) (m ks ρ c.μ) cl _ E
          rw [em]
          intro v c' e' s' ok' r'
          have g' : c'.G a = some (.frz od (.dK (Cs.kvL ks xs))) := s'.g.g _ _ upd_same
          refine ⟨ok'.s _ _ g', ?_⟩
          let cu : Cf := ⟨c'.ι, c'.μ, upd c'.G a (.dK (Cs.kvL ks xs)), upd c'.H a (.dK (Cs.kvL ks xs)), c'.L, c'.T⟩
          have lk2 : Lk a (Cs.kvL ks xs) c'.G cu.G := ⟨fun b hb => (upd_ne hb).symm, .inr ⟨od, g'⟩, .inl upd_same⟩
          have na' : ∀ n, live c'.μ n → c'.ι n ≠ a := fun n ⟨x, hx⟩ z => by
            have := (ok'.at' n x hx).1
            rw [z, g'] at this; cases this
          have La : c'.L a = none := by
            rw [s'.lk]
            cases q : c.L a with
            | none => rfl
            | some u =>
              obtain ⟨h1, od', u', h2⟩ := ok.lk a u q
              rw [ok.s _ _ ga, h2] at h1; cases h1
          have oku : Ok W cu := by
            refine ⟨fun b u e => ?_, fun b u e => ?_, fun m x e => ?_, ok'.inj, ok'.lc, ok'.tb.mono rfl (zfn fun q z => by rw [ok'.s _ _ g'] at z; exact zr9 (Option.some.inj z)) (fun b ps e => by
              have e' : upd c'.G a _ b = some (.tbl ps) := e
              by_cases hb : b = a
              · rw [hb, upd_same] at e'; cases e'
              · rw [upd_ne hb] at e'; exact e') (zhr fun _ z => by cases z) fun q _ ps e => by
              show upd c'.H a _ q.1 = some (.tbl ps)
              rw [upd_ne (fun z => by rw [z, ok'.s _ _ g'] at e; cases e)]; exact e⟩
            · show upd c'.H a _ b = some u
              have e' : upd c'.G a _ b = some u := e
              by_cases hb : b = a
              · rw [hb, upd_same] at e' ⊢; exact e'
              · rw [upd_ne hb] at e' ⊢; exact ok'.s b u e'
            · show upd c'.H a _ b = some u ∧ _
              have hb : b ≠ a := fun z => by
                have e2 : c'.L b = some u := e
                rw [z, La] at e2; cases e2
              rw [upd_ne hb]
              exact ok'.lk b u e
            · obtain ⟨h1, u, h2, h3⟩ := ok'.at' m x e
              refine ⟨?_, u, ?_, zw5 (c1 := c') (c2 := cu) rfl rfl rfl lk2 h3⟩
              · show upd c'.G a _ (c'.ι m) = none
                rw [upd_ne (na' m ⟨x, e⟩)]; exact h1
              · show upd c'.H a _ (c'.ι m) = some u
                rw [upd_ne (na' m ⟨x, e⟩)]; exact h2
          have su : Step c cu := by
            refine ⟨⟨fun b u nb e => ?_, fun b u e => ?_, oku.s, fun b hb => ?_, fun b hb => ?_, fun b ps e => by
              have e' : upd c'.G a _ b = some (.tbl ps) := e
              by_cases hb : b = a
              · rw [hb, upd_same] at e'; cases e'
              · rw [upd_ne hb] at e'
                have z := s'.g.t b ps e'
                have z' : upd c.G a _ b = some (.tbl ps) := z
                rw [upd_ne hb] at z'; exact z', fun b ps e => by
              have e' : upd c'.H a _ b = some (.tbl ps) := e
              by_cases hb : b = a
              · rw [hb, upd_same] at e'; cases e'
              · rw [upd_ne hb] at e'
                obtain ⟨ps', z⟩ := s'.g.u b ps e'
                have z' : upd c.H a _ b = some (.tbl ps') := z
                rw [upd_ne hb] at z'; exact ⟨_, z'⟩⟩, s'.len, s'.ag, s'.dead, fun m hm k => ?_, s'.lk, s'.tk⟩
            · show upd c'.H a _ b = some u
              by_cases hb : b = a
              · rw [hb, upd_same]
                rw [hb, ok.s _ _ ga] at e; exact e
              · rw [upd_ne hb]
                refine s'.g.h b u (fun z => nb (z.imp id fun ⟨ps, t⟩ => ⟨ps, by
                  have t' : upd c.H a _ b = some (.tbl ps) := t
                  rw [upd_ne hb] at t'; exact t'⟩)) ?_
                show upd c.H a _ b = some u
                rw [upd_ne hb]; exact e
            · show upd c'.G a _ b = some u
              by_cases hb : b = a
              · rw [hb, upd_same]
                rw [hb, ga] at e; exact e
              · rw [upd_ne hb]
                refine s'.g.g b u ?_
                show upd c.G a _ b = some u
                rw [upd_ne hb]; exact e
            · show upd c'.G a _ b = c.G b
              by_cases hb' : b = a
              · rw [hb', upd_same, ga]
              · rw [upd_ne hb']
                have q := s'.g.n b (show upd c.H a _ b ≠ none by rw [upd_ne hb']; exact hb)
                rw [q]
                show upd c.G a _ b = _
                rw [upd_ne hb']
            · show upd c'.H a _ b ≠ none
              by_cases hb' : b = a
              · rw [hb', upd_same]; exact fun z => by cases z
              · rw [upd_ne hb']
                refine s'.g.m b ?_
                show upd c.H a _ b ≠ none
                rw [upd_ne hb']; exact hb
            · have q := s'.fresh m hm k
              have q' : upd c.H a _ (c'.ι m) = none := q
              rw [upd_ne (na' m k)] at q'
              exact q'
          exact w' v cu e' su oku (dp_lk (c1 := c') (c2 := cu) rfl rfl lk2 r')
        · refine .inr (ht σ ρ c a ks xs Q ok env hv0 ⟨o, fun c2 le2 _ ok2 => ok2.s _ _ (le2.g _ _ ga)⟩ hl ?_)
          rw [em]; exact w'
  · exact w.elim
theorem zaee {o : Obj} {a : Addr} {ks : List Key} {xs : List V} (hd : ks.length = xs.length) (st : ∀ c', Le c c' → c'.L = c.L → Ok W c' → c'.H a = some (.frz o (.dK (Cs.kvL ks xs)))) : zhq W (Itk a o (Cs.kvL ks xs)) c ⟨ks.map keyDD, []⟩ := by
  have hl : (Cs.kvL ks xs).length = (ks.map keyDD).length := by rw [zdh hd, List.length_map]
  refine ⟨fun H => H a = some (.frz o (.dK (Cs.kvL ks xs))), fun i H x H' => H' = H ∧ ∃ k v, (Cs.kvL ks xs)[i]? = some (k, v) ∧ x = kV k, by rw [← hl]; exact walk_keys, fun c' le hL ok' _ => st c' le hL ok', ?_⟩
  rintro i x c2 H' hi le hL ok2 _ ⟨rfl, k, v, h1, rfl⟩
  refine ⟨keyDD k, c2.G, ?_, .refl ok2.s, zaag⟩
  have h2 : ((Cs.kvL ks xs).map (·.1))[i]? = some k := by rw [List.getElem?_map, h1]; rfl
  rw [zjs hd] at h2
  show (ks.map keyDD)[i]? = _
  rw [List.getElem?_map, h2]; rfl
def mLcK (b : Bool) (i : Nat) (g : D → Env → Option Env) (t : MT) (el : ME) (vs : List Nat) : ME := mLock i fun ks ρ μ => (lcA [] μ g t el (wipeD ρ vs) (ks.map keyDD) [] μ).bind fun xs μ => newL b xs μ
theorem zae7 {b : Bool} {i : Nat} {g : TG} {gm : D → Env → Option Env} {t : MT} {el : ME} {vs : List Nat} (hg : LcT W g vs gm) (h : PE X e (zsp (tLc (iKeys (tVar i)) g (tT W E0' t) (tE W E0' el) vs))) : PE X e (tE W E (mLcK b i gm t el vs)) := by
  refine zadf (fun σ ρ cl a ks xs Q ok env hσ ⟨o, pin⟩ hl w => ?_) h
  have ha := pin cl (.refl cl) rfl ok
  exact ⟨.ref a, hσ, a, o, rfl, .inl ⟨_, ha, zto hg ok env (zaee hl pin) w⟩⟩
end
end Mi
namespace Mi
open PySem PySem.Spec L2
open Classical
section
variable {W : Wd} {E : XK} {X : Cx} {c : Cf} {v : V} {d : D} {ds : List D} {e tg iter : Expr} {st : Stmt} {Q : VK}
theorem Aside.known {c1 c : Cf} {p : Addr} {o : HO} (h : Aside W c1 c p) (h1 : c1.H p = none) (hp : c.H p = some o) (no : ∀ ps, o ≠ .tbl ps := by intro _ z; cases z) : Le c (⟨c.ι, c.μ, upd c.G p o, c.H, c.L, c.T⟩ : Cf) ∧ Step c1 (⟨c.ι, c.μ, upd c.G p o, c.H, c.L, c.T⟩ : Cf) ∧ Ok W (⟨c.ι, c.μ, upd c.G p o, c.H, c.L, c.T⟩ : Cf) := by
  have le : Le c (⟨c.ι, c.μ, upd c.G p o, c.H, c.L, c.T⟩ : Cf) := ⟨Cs.same_new h.g, Nat.le_refl _, fun _ _ => rfl⟩
  refine ⟨le, ⟨h.st.g.freeze h1 h.g hp no, h.st.len, h.st.ag, h.st.dead, h.st.fresh, h.st.lk, h.st.tk⟩, ⟨fun q u e => ?_, h.ok.lk, fun n x e => ?_, h.ok.inj, h.ok.lc, h.ok.tb.mono rfl (fun _ _ e => e) (fun b ps e => by
    by_cases eb : b = p
    · have e' : upd c.G p o b = some (.tbl ps) := e
      rw [eb, upd_same] at e'
      exact absurd (Option.some.inj e') (no ps)
    · have e' : upd c.G p o b = some (.tbl ps) := e
      rw [upd_ne eb] at e'; exact e') (fun _ _ e => ⟨_, e⟩) fun _ _ _ e => e⟩⟩
  · by_cases eb : q = p
    · have e' : upd c.G p o q = some u := e
      rw [eb, upd_same] at e'
      rw [eb, ← e']; exact hp
    · have e' : upd c.G p o q = some u := e
      rw [upd_ne eb] at e'
      exact h.ok.s q u e'
  · obtain ⟨k1, u, k2, k3⟩ := h.ok.at' n x e
    refine ⟨?_, u, k2, k3.mono le trivial⟩
    show upd c.G p o (c.ι n) = none
    rw [upd_ne (h.m n ⟨x, e⟩)]; exact k1
def Cf.lift (c : Cf) (p : Addr) (x : Cell) : Cf := ⟨fun n => if n = c.μ.length then p else c.ι n, c.μ ++ [some x], c.G, c.H, c.L, c.T⟩
theorem Aside.cell {c1 c : Cf} {p : Addr} {o : HO} {x : Cell} (h : Aside W c1 c p) (h1 : c1.H p = none) (hp : c.H p = some o) (hx : CellAt W c o x) (nx : x.isL = false) : Le c (c.lift p x) ∧ Step c1 (c.lift p x) ∧ Ok W (c.lift p x) ∧ Dp W (c.lift p x) (.ref p) (.own c.μ.length) := by
  have old : ∀ n, n < c.μ.length → (c.lift p x).ι n = c.ι n := fun n hn => by simp [Cf.lift, Nat.ne_of_lt hn]
  have new : (c.lift p x).ι c.μ.length = p := by simp [Cf.lift]
  have le : Le c (c.lift p x) := ⟨Same.refl _, by simp [Cf.lift], old⟩
  have fr : ∀ n, live (c.lift p x).μ n → live c.μ n ∨ n = c.μ.length := fun n l => by
    rcases ze7 l with z | ⟨z, _⟩
    · exact .inl z
    · exact .inr z
  have top : Dp W (c.lift p x) (.ref p) (.own c.μ.length) := by
    have := Dp.own (W := W) (c := c.lift p x) (n := c.μ.length) (by simp [Cf.lift])
    rw [new] at this; exact this
  refine ⟨le, ⟨h.st.g, Nat.le_trans h.st.len le.len, fun n hn => (old n (Nat.lt_of_lt_of_le hn h.st.len)).trans (h.st.ag n hn), fun n hn l => ?_, fun n hn l => ?_, h.st.lk, h.st.tk⟩, ⟨h.ok.s, h.ok.lk, fun n y e => ?_, fun n m ln lm e => ?_, fun n y e hy => ?_, h.ok.tb.mono rfl (fun _ _ e => e) (fun _ _ e => e) (fun _ _ e => ⟨_, e⟩) fun _ _ _ e => e⟩, top⟩
  · rcases fr n l with l | rfl
    · exact h.st.dead n hn l
    · exact absurd hn (Nat.not_lt_of_le h.st.len)
  · rcases fr n l with l | rfl
    · rw [old n (zat l)]; exact h.st.fresh n hn l
    · rw [new]; exact h1
  · rcases fr n ⟨y, e⟩ with l | rfl
    · have e' : c.μ[n]? = some (some y) := by rw [← e]; exact (List.getElem?_append_left (zat l)).symm
      obtain ⟨k1, u, k2, k3⟩ := h.ok.at' n y e'
      rw [old n (zat l)]
      exact ⟨k1, u, k2, k3.mono le trivial⟩
    · have e2 : (c.μ ++ [some x])[c.μ.length]? = some (some y) := e
      simp at e2
      subst e2
      rw [new]
      exact ⟨h.g, o, hp, hx.mono le trivial⟩
  · rcases fr n ln with l | rfl
    · rcases fr m lm with k | rfl
      · rw [old n (zat l), old m (zat k)] at e
        exact h.ok.inj n m l k e
      · rw [old n (zat l), new] at e
        exact absurd e (h.m n l)
    · rcases fr m lm with k | rfl
      · rw [old m (zat k), new] at e
        exact absurd e.symm (h.m m k)
      · rfl
  · rcases fr n ⟨y, e⟩ with l | rfl
    · have e' : c.μ[n]? = some (some y) := by rw [← e]; exact (List.getElem?_append_left (zat l)).symm
      rw [old n (zat l)]
      exact h.ok.lc n y e' hy
    · have e2 : (c.μ ++ [some x])[c.μ.length]? = some (some y) := e
      simp at e2
      rw [← e2, nx] at hy; cases hy
theorem Aside.doneK {c1 c : Cf} {p : Addr} {ks : List Key} {xs : List V} {ds : List D} {b : Bool} (h : Aside W c1 c p) (h1 : c1.H p = none) (hp : c.H p = some (.dK (Cs.kvL ks xs))) (hl : ks.length = xs.length) (hn : ks.Nodup) (ha : DpA W c xs ds) (w : Wp W (Dp W) (newK b ks ds c.μ) c1 Q E) : Q (.ref p) c.H := by
  cases b with
  | false =>
    obtain ⟨le, s, ok⟩ := h.known h1 hp
    exact w (.ref p) (⟨c.ι, c.μ, upd c.G p (.dK (Cs.kvL ks xs)), c.H, c.L, c.T⟩ : Cf) rfl s ok (.dct (.inl upd_same) hl hn (zaq le ha))
  | true =>
    obtain ⟨le, s, ok, t⟩ := h.cell (x := .dct ks ds) h1 hp ⟨xs, rfl, hl, hn, ha⟩ rfl
    exact w (.ref p) (c.lift p (.dct ks ds)) rfl s ok t
theorem Aside.begin {c1 : Cf} {p : Addr} {o : HO} (ok1 : Ok W c1) (hp : c1.H p = none) (no : ∀ q, o ≠ LamX.CodeO p q := by intro _ z; unfold LamX.CodeO at z; cases z) (nt : ∀ ps, o ≠ .tbl ps := by intro _ z; cases z) : Aside W c1 (c1.to c1.G (upd c1.H p o)) p := by
  have z : Aside W c1 c1 p := ⟨ok1, .refl ok1, Cs.same_none ok1.s hp, fun n l e => ok1.hcell l (by rw [e]; exact hp), zvw ok1 hp, zmk hp⟩
  exact z.put hp ok1 no nt
def dcA (w : List Nat) (μ0 : Store) (g : D → Env → Option Env) (t : MT) (ek ev : ME) (ρ : Env) : List D → List Key → List D → Store → Res (List Key × List D)
  | [], ks, vs, μ => if watch w μ0 μ then .ok (ks, vs) μ else .bad
  | d :: ds, ks, vs, μ => if watch w μ0 μ then match g d ρ with
      | some ρ2 => match t ρ2 μ with
        | .ok true μ => match ek ρ2 μ with
          | .ok y μ => match ev ρ2 μ with
            | .ok z μ => match keyOf y with
              | some k => if ks.length < sizeLine then dcA w μ0 g t ek ev ρ ds (putKK ks k) (putKV k z ks vs) μ else .bad
              | none => .bad
            | _ => .bad
          | _ => .bad
        | .ok false μ => dcA w μ0 g t ek ev ρ ds ks vs μ
        | _ => .bad
      | none => .bad
    else .bad
def mDc (b : Bool) (i : MI) (g : D → Env → Option Env) (t : MT) (ek ev : ME) (vs : List Nat) : ME := fun ρ μ => (i ρ μ).bind fun s μ => (dcA s.w μ g t ek ev (wipeD ρ vs) s.items [] [] μ).bind fun p μ => newK b p.1 p.2 μ
theorem zr8 {w : List Nat} {μ0 : Store} {g : D → Env → Option Env} {t : MT} {ek ev : ME} {ρ : Env} {ds vs : List D} {ks : List Key} {μ : Store} (h : dcA w μ0 g t ek ev ρ ds ks vs μ ≠ .bad) : watch w μ0 μ := by
  cases ds with
  | nil =>
    unfold dcA at h
    split at h
    · assumption
    · exact absurd rfl h
  | cons d ds =>
    unfold dcA at h
    split at h
    · assumption
    · exact absurd rfl h
theorem znt {w : List Nat} {μ0 : Store} {g : D → Env → Option Env} {t : MT} {ek ev : ME} {ρ : Env} {x : Exc} {μ' : Store} : ∀ {ds : List D} {ks : List Key} {vs : List D} {μ : Store}, dcA w μ0 g t ek ev ρ ds ks vs μ ≠ .exc x μ'
  | [], ks, vs, μ => by
    unfold dcA
    split
    · exact fun z => by cases z
    · exact fun z => by cases z
  | d :: ds, ks, vs, μ => by
    unfold dcA
    split
    · split
      · split
        · split
          · split
            · split
              · split
                · exact znt
                · exact fun z => by cases z
              · exact fun z => by cases z
            · exact fun z => by cases z
          · exact fun z => by cases z
        · exact znt
        · exact fun z => by cases z
      · exact fun z => by cases z
    · exact fun z => by cases z
theorem dc_it {J : It} {n : Nat} {G : Hp → Prop} {Y : Nat → Hp → V → Hp → Prop} (w : Walk J n G Y) {g : TG} {tt : TT} {tk tv : TE} {vs : List Nat} {σ : L2.St} {H1 : Hp} {p : Addr} {Qd : Hp → Prop} (Pv : Nat → Hp → Prop) (h0 : Pv 0 (upd H1 p (.dK []))) (hG : ∀ i H, i ≤ n → Pv i H → G H)
    (hs : ∀ i x H H', i < n → Pv i H → Y i H x H' → g x (L2.wipe σ vs) H' fun σ2 H2 => L2.wipe σ2 vs = L2.wipe σ vs ∧ tt σ2 H2 fun b H3 =>
      if b = true then tk σ2 H3 fun y H4 => tv σ2 H4 fun z H5 => ∃ kvs k, y = kV k ∧ H5 p = some (.dK kvs) ∧ kvs.length < sizeLine ∧ Pv (i + 1) (upd H5 p (.dK (putK kvs k z))) else Pv (i + 1) H3) (hd : ∀ H, Pv n H → Qd H) :
    ∃ W : Nat → Nat → Hp → Prop, (∃ m, W 0 m (upd H1 p (.dK []))) ∧ ∀ i m H, W i m H →
      (J.stop i H ∧ Qd H) ∨ (J.go i H ∧ ∃ Nx : Hp → Prop, (∀ H', Nx H' → ∃ m', m' < m ∧ W (i + 1) m' H') ∧ ∀ x H', J.yld i H x H' → g x (L2.wipe σ vs) H' fun σ2 H2 => L2.wipe σ2 vs = L2.wipe σ vs ∧ tt σ2 H2 fun b H3 =>
        if b = true then tk σ2 H3 fun y H4 => tv σ2 H4 fun z H5 => ∃ kvs k, y = kV k ∧ H5 p = some (.dK kvs) ∧ kvs.length < sizeLine ∧ Nx (upd H5 p (.dK (putK kvs k z))) else Nx H3) := by
  refine ⟨fun i m H => m + i = n ∧ Pv i H, ⟨n, rfl, h0⟩, ?_⟩
  rintro i m H ⟨hm, hp⟩
  rcases Nat.eq_zero_or_pos m with z | z
  · have e : i = n := by omega
    subst e
    exact .inl ⟨w.stops H (hG _ H (Nat.le_refl _) hp), hd H hp⟩
  · have lt : i < n := by omega
    have gd := hG i H (Nat.le_of_lt lt) hp
    exact .inr ⟨w.goes i H lt gd, Pv (i + 1), fun H' q => ⟨m - 1, by omega, by omega, q⟩, fun x H' y => hs i x H H' lt hp (w.yields i H x H' lt gd y)⟩
theorem me_dc {b : Bool} {i : MI} {g : TG} {gm : D → Env → Option Env} {t : MT} {ek ev : ME} {vs : List Nat} (hg : LcT W g vs gm) (h : PE X e (tDc (tI W E i) g (tT W E0' t) (tE W E0' ek) (tE W E0' ev) vs)) : PE X e (tE W E (mDc b i gm t ek ev vs)) := zav h fun σ H Q ⟨ρ, c, hH, ok, env, w⟩ => by
  refine ⟨ρ, c, hH, ok, env, wp_bind w fun J src c1 s1 ok1 hw w1 => fun p hp => ?_⟩
  obtain ⟨Gd, Y, wk, hG, hY⟩ := hw.ex
  have env1 := (env.mono s1.le).wipe vs
  cases el0 : dcA src.w c1.μ gm t ek ev (wipeD ρ vs) src.items [] [] c1.μ with
  | bad => rw [el0] at w1; exact w1.elim
  | exc x μ' => exact absurd el0 znt
  | ok kd μ' =>
    rw [el0] at w1
    have w1' : Wp W (Dp W) (newK b kd.1 kd.2 μ') c1 Q E := w1
    refine dc_it wk (fun i H' => ∃ c' ks acc ac, c'.H = H' ∧ Aside W c1 c' p ∧ c'.H p = some (.dK (Cs.kvL ks ac)) ∧ ks.length = ac.length ∧ ks.Nodup ∧ DpA W c' ac acc ∧ dcA src.w c1.μ gm t ek ev (wipeD ρ vs) (src.items.drop i) ks acc c'.μ = .ok kd μ')
      ⟨c1.to c1.G (upd c1.H p (.dK [])), [], [], [], rfl, Aside.begin ok1 hp, upd_same, rfl, .nil, .nil, el0⟩ (fun i H' _ ⟨c', ks, acc, ac, e, as, _, _, _, _, q⟩ => by
        rw [← e]; exact hG c' as.st.le as.st.lk as.ok (zr8 (by rw [q]; exact fun z => by cases z))) ?_ ?_
    · rintro i x H2 H3 hi ⟨c', ks, acc, ac, rfl, as, hp', hl, hnd, ha, q⟩ hy
      have hw' : watch src.w c1.μ c'.μ := zr8 (by rw [q]; exact fun z => by cases z)
      obtain ⟨d, G3, hd, g3, hx⟩ := hY i x c' H3 hi as.st.le as.st.lk as.ok hw' hy
      have hdrop : src.items.drop i = d :: src.items.drop (i + 1) := by
        rw [List.drop_eq_getElem_cons hi]
        congr 1
        rw [List.getElem?_eq_getElem hi] at hd
        exact Option.some.inj hd
      obtain ⟨ok3, st3⟩ := zj3 as.ok g3
      obtain ⟨as3, hp3⟩ := as.step hp' ok3 st3
      rw [hdrop] at q
      unfold dcA at q
      rw [if_pos hw'] at q
      cases eg : gm d (wipeD ρ vs) with
      | none => rw [eg] at q; cases q
      | some ρ2 =>
        rw [eg] at q
        dsimp only at q
        refine hg (c'.to G3 H3) x d (L2.wipe σ vs) (wipeD ρ vs) ρ2 _ ok3 (env1.mono (as.st.le.trans st3.le)) hx eg fun σ2 env2 hwp => ⟨hwp.trans zrh, ?_⟩
        refine ⟨ρ2, c'.to G3 H3, rfl, ok3, env2, ?_⟩
        show Wp W _ (t ρ2 c'.μ) _ _ _
        cases et : t ρ2 c'.μ with
        | bad => rw [et] at q; cases q
        | exc y μ2 => rw [et] at q; cases q
        | ok k μ2 =>
          rw [et] at q
          intro k' c4 e4 s4 ok4 hk
          subst hk
          obtain ⟨as4, hp4⟩ := as3.step hp3 ok4 s4
          cases k' with
          | false =>
            rw [if_neg Bool.false_ne_true]
            exact ⟨c4, ks, acc, ac, rfl, as4, hp4, hl, hnd, zaq (st3.le.trans s4.le) ha, by rw [e4]; exact q⟩
          | true =>
            rw [if_pos rfl]
            dsimp only at q
            refine ⟨ρ2, c4, rfl, ok4, env2.mono s4.le, ?_⟩
            rw [e4]
            cases ee : ek ρ2 μ2 with
            | bad => rw [ee] at q; cases q
            | exc y μ5 => rw [ee] at q; cases q
            | ok y μ5 =>
              rw [ee] at q
              dsimp only at q
              intro u c5 e5 s5 ok5 r5
              obtain ⟨as5, hp5⟩ := as4.step hp4 ok5 s5
              refine ⟨ρ2, c5, rfl, ok5, env2.mono (s4.le.trans s5.le), ?_⟩
              rw [e5]
              cases e6 : ev ρ2 μ5 with
              | bad => rw [e6] at q; cases q
              | exc z μ6 => rw [e6] at q; cases q
              | ok z μ6 =>
                rw [e6] at q
                dsimp only at q
                intro u6 c6 e6' s6 ok6 r6
                obtain ⟨as6, hp6⟩ := as5.step hp5 ok6 s6
                have ha6 := zaq (((st3.le.trans s4.le).trans s5.le).trans s6.le) ha
                cases ek' : keyOf y with
                | none => rw [ek'] at q; cases q
                | some kk =>
                  rw [ek'] at q
                  dsimp only at q
                  split at q
                  · rename_i hlt
                    obtain ⟨p1, p2, p3⟩ := zsy (k := kk) (z := u6) hl hnd
                    refine ⟨_, kk, zjt r5 ek', hp6, by rw [zdh hl]; exact hlt, ?_⟩
                    rw [p1]
                    refine ⟨c6.to c6.G (upd c6.H p (.dK (Cs.kvL (putKK ks kk) (putKV kk u6 ks ac)))), putKK ks kk, putKV kk z ks acc, putKV kk u6 ks ac, rfl, as6.put hp ok1, upd_same, p2, p3, zaq (le_to (Same.refl _)) (zmi r6 ha6), ?_⟩
                    show dcA _ _ _ _ _ _ _ _ _ _ c6.μ = _
                    rw [e6']; exact q
                  · cases q
    · rintro H' ⟨c', ks, acc, ac, rfl, as, hp', hl, hnd, ha, q⟩
      rw [List.drop_length] at q
      unfold dcA at q
      split at q
      · cases q
        exact as.doneK hp hp' hl hnd ha w1'
      · cases q
theorem zl5 {ks0 : List Key} : ∀ {qs : List (Key × D)} {kvs : List (Key × V)} {ks : List Key} {xs : List V} {ds : List D}, qs.length = kvs.length → (∀ (i : Nat) (k : Key) (d : D), qs[i]? = some (k, d) → ∃ v, kvs[i]? = some (k, v) ∧ Dp W c v d) → ks.length = xs.length → ks.Nodup → DpA W c xs ds →
    ∃ ys, mergeK (Cs.kvL ks xs) kvs = Cs.kvL (zbd ks ds qs).1 ys ∧ (zbd ks ds qs).1.length = ys.length ∧ (zbd ks ds qs).1.Nodup ∧ DpA W c ys (zbd ks ds qs).2
  | [], [], ks, xs, ds, _, _, hl, hn, ha => ⟨xs, rfl, hl, hn, ha⟩
  | [], _ :: _, _, _, _, h, _, _, _, _ => by simp at h
  | _ :: _, [], _, _, _, h, _, _, _, _ => by simp at h
  | (k, d) :: qs, kv :: kvs, ks, xs, ds, h, hq, hl, hn, ha => by
    obtain ⟨v, h1, h2⟩ := hq 0 k d rfl
    cases Option.some.inj h1
    obtain ⟨p1, p2, p3⟩ := zsy (k := k) (z := v) hl hn
    have ih := zl5 (ks0 := ks0) (qs := qs) (kvs := kvs) (by simpa using h) (fun i k d e => hq (i + 1) k d e) p2 p3 (zmi h2 ha)
    unfold zbd
    show ∃ ys, mergeK (putK (Cs.kvL ks xs) k v) kvs = _ ∧ _
    rw [p1]
    exact ih
def PairR (W : Wd) (c : Cf) (ps : List (V × V)) (ds : List (D × D)) : Prop := DpA W c (ps.map (·.1)) (ds.map (·.1)) ∧ DpA W c (ps.map (·.2)) (ds.map (·.2))
theorem zrl {σ : L2.St} {ρ : Env} : ∀ {trs : List (ME × ME)} {c : Cf} {Q : List (V × V) → Hp → Prop}, Ok W c → EnvR W c σ ρ → Wp W (PairR W) (zg5 trs ρ c.μ) c Q E → tPairs (trs.map fun t => (tE W E t.1, tE W E t.2)) σ c.H Q
  | [], c, Q, ok, env, w => zaj w ok ⟨.nil, .nil⟩
  | (a, b) :: r, c, Q, ok, env, w => ⟨ρ, c, rfl, ok, env, wp_bind w fun v x c1 s1 ok1 r1 w1 => ⟨ρ, c1, rfl, ok1, env.mono s1.le, wp_bind w1 fun u y c2 s2 ok2 r2 w2 =>
      zrl ok2 (env.mono (s1.le.trans s2.le)) (wp_bind w2 fun ps ds c3 s3 ok3 r3 w3 => zaj w3 ok3 ⟨.cons (zay (s2.le.trans s3.le) r1) r3.1, .cons (zay s3.le r2) r3.2⟩)⟩⟩
theorem zry : ∀ {ds : List (D × D)} {ps : List (V × V)} {qs : List (Key × D)}, PairR W c ps ds → zg3 ds = some qs → ∃ kvs : List (Key × V), ps = kvs.map (fun kv => (kV kv.1, kv.2)) ∧ qs.length = kvs.length ∧ ∀ (i : Nat) (k : Key) (d : D), qs[i]? = some (k, d) → ∃ v, kvs[i]? = some (k, v) ∧ Dp W c v d
  | [], [], qs, r, e => by
    cases Option.some.inj e
    exact ⟨[], rfl, rfl, fun i k d z => by simp at z⟩
  | [], _ :: _, _, r, e => by cases r.1
  | _ :: _, [], _, r, e => by cases r.1
  | (x, y) :: ds, (v, u) :: ps, qs, r, e => by
    obtain ⟨r1, r2⟩ := r
    cases r1 with
    | cons h1 t1 =>
      cases r2 with
      | cons h2 t2 =>
        unfold zg3 at e
        split at e
        · rename_i k qs' e1 e2
          cases Option.some.inj e
          obtain ⟨kvs, p1, p2, p3⟩ := zry (ds := ds) (ps := ps) ⟨t1, t2⟩ e2
          have hv := zjt h1 e1
          refine ⟨(k, u) :: kvs, by rw [p1, List.map_cons, ← hv], by simp [p2], fun i k' d z => ?_⟩
          cases i with
          | zero => cases Option.some.inj z; exact ⟨u, rfl, h2⟩
          | succ i => exact p3 i k' d z
        · cases e
theorem zv5 {b : Bool} {trs : List (ME × ME)} (h : PE X e (tDisp (trs.map fun t => (tE W E t.1, tE W E t.2)))) : PE X e (tE W E (mDisp b trs)) := zav h fun σ H Q ⟨ρ, c, hH, ok, env, w⟩ p hp => by
  subst hH
  have as := Aside.begin (o := .dK []) ok hp
  refine zrl (c := c.to c.G (upd c.H p (.dK []))) as.ok (env.mono as.st.le) ?_
  unfold mDisp at w
  show Wp W _ (zg5 trs ρ c.μ) _ _ E
  cases em : zg5 trs ρ c.μ with
  | bad => rw [em] at w; exact w.elim
  | exc x μ' => rw [em] at w; exact fun u o c2 e2 s2 ok2 r2 => w u o c2 e2 (as.st.trans s2) ok2 r2
  | ok ps μ' =>
    rw [em] at w
    intro vs c2 e2 s2 ok2 r2
    obtain ⟨as2, hp2⟩ := as.step upd_same ok2 s2
    unfold Res.bind at w
    dsimp only at w
    cases ek : zg3 ps with
    | none => rw [ek] at w; exact w.elim
    | some qs =>
      rw [ek] at w
      dsimp only at w
      split at w
      · rename_i hl
        obtain ⟨kvs, p1, p2, p3⟩ := zry r2 ek
        obtain ⟨ys, q1, q2, q3, q4⟩ := zl5 (ks0 := []) (c := c2) (ks := []) (xs := []) (ds := []) p2 p3 rfl .nil .nil
        refine ⟨hp2, kvs, p1, by rw [← p2]; exact hl, ?_⟩
        have q1' : mergeK [] kvs = _ := q1
        rw [q1']
        have as3 := as2.put (o := .dK (Cs.kvL (zbd [] [] qs).1 ys)) hp ok
        refine as3.doneK (b := b) (E := E) hp upd_same q2 q3 (zaq (le_to (Same.refl _)) q4) ?_
        show Wp W (Dp W) (newK b _ _ c2.μ) c Q E
        rw [e2]; exact w
      · exact w.elim
end
end Mi
namespace Mi
open PySem PySem.Spec L2 PyProof.Rows PySem.W
open Classical
section
variable {P : Program} {w : World} {K : PySem.W.Frag} {mg : Str → Option Value} {base : Heap} {k : Nat} {f : Addr} {fd : FuncData} {N ps : List Str} {sp : Sp} {x qual : Str} {st : Stmt}
theorem zbs (F : Fun K x qual st f fd) (S : FnScope N ps (defScope st)) (many : ∀ vs H Q E, sp vs H Q E → vs.length = ps.length)
    (inner : ∀ (cdv : Value) (A : Around) (out : List PySem.Env) (s : Shared) (H : Hp) (vs : List V) (Q : VK) (E : XK), Room k (A.deeper (envOfC qual (defScope st) s.heap.objs.size f cdv)) → sp vs H Q E →
      ∃ t, PSs (cxOf (L2.CX P w) P w K mg base N qual (defScope st) f cdv A out s H E) (defBody st) t ∧ t { nx := fun _ H' => Q .non H', rt := Q } (L2.start N vs) H) : FnOk P w K mg base (L2.CX P w) (k + 1) f fd ps sp := by
  obtain ⟨oc, od, kV, doc, pm, an, cdv, ct, osl, e, lk, hcd⟩ := F.ex
  subst e
  exact fn_of lk hcd S many fun A out s H vs Q E hr hsp => inner cdv A out s H vs Q E hr hsp
end
def spN (W : Wd) (m : List D → Store → Res D) : Sp := fun vs H Q _ => spM W m vs H Q E0'
section
variable {W : Wd} {E E' : XK} {X : Cx} {c : Cf} {v : V} {d : D} {ds : List D} {e tg iter : Expr} {st : Stmt} {Q : VK}
def zp1 (m : List D → Store → Res D) (a : MA) : ME := fun ρ μ => (a ρ μ).bind fun ds μ => match m ds μ with
  | .ok d μ => .ok d μ
  | _ => .bad
theorem zab3 {m : List D → Store → Res D} {a : MA} (h : PE X e (tCall (spN W m) [] E' (tA W E a))) : PE X e (tE W E (zp1 m a)) := zav h fun σ H Q ⟨ρ, c, hH, ok, env, w⟩ =>
  ⟨ρ, c, hH, ok, env, wp_bind w fun vs ds c1 s1 ok1 r1 w1 => ⟨c1, ds, rfl, ok1, by rw [List.append_nil]; exact r1, by
    cases em : m ds c1.μ with
    | ok d μ => rw [em] at w1; exact w1
    | exc x μ => rw [em] at w1; exact w1.elim
    | bad => rw [em] at w1; exact w1.elim⟩⟩
theorem zax {X : Cx} : Passes (L2.CX X.prog X.w) X E0' := fun pins σ H s e s' I ⟨a, B, H', cls, d, h1, h2, h3, h4, h5, h6, h7, h8⟩ => h8.elim
theorem zar {X : Cx} {E : XK} (tk : Takes X (fun cls d _ H => E cls d H)) : Passes (L2.CX X.prog X.w) X E := passes_call tk fun _ _ _ _ h => h
theorem zpm {A : Str} {C : Addr} {pl : Sem Bool} {e : Expr} {es : List Expr} {ta : TA} {p1 p2 pos : Pos} (hg : Gl X A) (hm : X.mg A = some (.ref C)) (cr : ClX.CRead X.K C (.type "type")) (hv : PySem.W.findCls X.K (.ref C) (.type "type") "__init__" = some (.val (.builtin "ValueError.__init__"))) (ha : PA X (e :: es) ta)
    (hdb : (A == ("__debug__" : Str)) = false := by decide)
    (hc : eval (.Call (.Attribute (.Name A p1) "__init__" p2) (e :: es) [] pos) X.env = (do
      let ov ← eval (.Name A p1) X.env
      standAt p2.atName
      let (f, first) ← holding [ov] (getMethod ov "__init__" pl)
      callWith pos f first (backTo pos (starEach (e :: es) X.env)) (backToKw pos (keywordEach [] X.env))) := by rfl)
    (he : starEach (e :: es) X.env = (false, eval e X.env) :: starEach es X.env := by rfl) (hpl : (backTo pos (starEach es X.env)).any (·.1) = false := by rfl) :
    PE X (.Call (.Attribute (.Name A p1) "__init__" p2) (e :: es) [] pos) (tVeI X.K ta) := ⟨fun pins s σ H Q I h => by
  refine PySem.W.methodCall_KW (ld_glob I hg hm ?_ hdb) hc
  obtain ⟨m, fr⟩ := I.fr
  have kin : X.K.In s.heap := I.ok.mod.kin.keeps fr.keep
  refine PySem.W.method_cls kin cr.ga (PySem.W.cls_value kin cr.rd hv (by decide +kernel) ?_)
  show wpAny _ _ (callWith pos (Value.builtin "ValueError.__init__") [] (backTo pos (starEach (e :: es) X.env)) []) _ _ _
  refine PyProof.Rows.callWith_method1 (thn (ha.run pos pins _ σ H _ (I.tok _) h) fun us s1 hh => ?_) he hpl
  obtain ⟨vs, H1, I1, r1, a, C', ws, ev, hl, T, ea, q⟩ := hh
  subst ev
  cases r1 with
  | @cons _ u0 _ ur ra rw' =>
    obtain rfl : u0 = Value.ref a := ra
    have big : ur.length ≤ sizeLine := by
      have := Paired.length rw'
      have := sizeLine_eq
      omega
    exact oinit_ok T I1 ea big fun s' J => ⟨.non, H1, J, rfl, q⟩⟩
def spXI (K : PySem.W.Frag) (f : Str) : Sp := fun vs H Q _ => ∃ a C v, vs = [.ref a, v] ∧ OexC K C ∧ PySem.W.findIn K (.ref C) f = some none ∧ H a = some (exo a C none) ∧ ∀ dx, H dx = none → dx ≠ a → Q .non (upd (upd H dx (exd dx [(f, v)])) a (exo a C (some dx)))
theorem zsr {K : PySem.W.Frag} {f : Str} {vs : List V} {H : Hp} {Q : VK} {E : XK} (h : spXI K f vs H Q E) : vs.length = 2 := by
  obtain ⟨a, C, v, rfl, _⟩ := h
  rfl
theorem zyr {K : PySem.W.Frag} {f a0 a1 m : Str} {vs : List V} {H : Hp} {E : XK} (h : spXI K f vs H Q E) : tSeq (tDrop (tVeI K (tCons (tVar 0) (tCons (tC (.str m)) tNil)))) (tOst K f (tVar 0) (tVar 1)) { nx := fun _ H' => Q .non H', rt := Q } (L2.start [a0, a1] vs) H := by
  obtain ⟨a, C, v, rfl, o, n, ha, q⟩ := h
  refine ⟨.ref a, rfl, a, C, [.str m], rfl, by simp, o, ha, ?_⟩
  exact ⟨v, rfl, .ref a, rfl, a, C, rfl, o, n, .inl ⟨ha, fun dx h1 h2 => q dx h1 h2⟩⟩
def zey (C : String) (f : Str) (a : MA) : MS := fun _ ρ μ => (a ρ μ).st fun ds μ => match ds with
  | [d] => .exc ⟨C, [f], [d]⟩ μ
  | _ => .bad
theorem zne {C : String} {f : Str} {g : Addr} {a : MA} (hC : W.cm C = some g) (o : OexC W.K g) (hn : PySem.W.findIn W.K (.ref g) f = some none) (h : PS X st (fun _ σ H => tMkO g (spXI W.K f) [] (tA W E a) σ H fun cls d H' => E cls d H')) : PS X st (tS W E (zey C f a)) := zd2 h fun D σ H ⟨c0, cs, ρ, c, hH, ok, s, le, env, w⟩ =>
  ⟨ρ, c, hH, ok, env, zdl w s fun vs ds c1 s1 s2 ok1 r1 w1 => by
    split at w1
    · rename_i d
      cases r1 with
      | @cons v _ _ _ r1 r2 =>
        cases r2
        refine ⟨by simp, fun a ha => ?_⟩
        rw [List.append_nil]
        refine ⟨a, g, v, rfl, o, hn, upd_same, fun dx h1 h2 => ⟨rfl, dx, [(f, v)], upd_same, by rw [upd_ne h2, upd_same], ?_, ?_⟩⟩
        · rw [upd_ne h2] at h1; exact h1
        · have h1' : c1.H dx = none := by rw [upd_ne h2] at h1; exact h1
          have eH : upd (del (upd (upd (upd c1.H a (exo a g none)) dx (exd dx [(f, v)])) a (exo a g (some dx))) a) dx (.xd [(f, v)]) = upd c1.H dx (.xd [(f, v)]) := by
            funext b
            by_cases hb : b = dx
            · rw [hb, upd_same, upd_same]
            · rw [upd_ne hb, upd_ne hb]
              by_cases hc : b = a
              · rw [hc, del_same]; exact ha.symm
              · rw [del_ne hc, upd_ne hc, upd_ne hb, upd_ne hc]
          rw [eH]
          obtain ⟨ok3, s3⟩ := zd4 (o := .xd [(f, v)]) ok1 h1'
          exact w1 (.ref g) (some dx) (c1.to (upd c1.G dx (.xd [(f, v)])) (upd c1.H dx (.xd [(f, v)]))) rfl (s1.trans s3) ok3 ⟨g, hC, rfl, .inr ⟨dx, [v], rfl, upd_same, rfl, .cons (zay s3.le r1) .nil⟩⟩
    · exact w1.elim⟩
def tryR (T : String) (i k : Nat) (r : Res D) (nx : D → Store → ResS) (ρ : Env) : ResS := match r with
  | .ok d μ => nx d μ
  | .exc x μ => if isaC x.C T = true then .nx ((ρ.set k (some (.exc x.C x.ks x.ds))).set i none) μ else .exc x μ
  | .bad => .bad
theorem set3 {σ : L2.St} {i k : Nat} {a b : V} (h : i ≠ k) : ((σ.set i (some a)).set k (some b)).set i none = (σ.set k (some b)).set i none := by
  rw [List.set_comm _ _ h, List.set_set]
theorem keep_ok {T : String} {t : Addr} {i k : Nat} {D : Ends} {c0 cs c1 : Cf} {σ : L2.St} {ρ : Env} {x : Exc} {u : Value} {o : Option Addr} (hik : i ≠ k) (xm : ∀ C g, W.cm C = some g → PySem.W.exmOne W.K (.ref g) (.ref t) = some (isaC C T)) (s : Step c0 c1) (le : Le cs c1) (ok : Ok W c1) (env : EnvR W c1 σ ρ) (hx : ExcAt W c1 u o x)
    (hi : i < ρ.length) (w : WpS W (if isaC x.C T = true then .nx ((ρ.set k (some (.exc x.C x.ks x.ds))).set i none) c1.μ else .exc x c1.μ) c0 cs D E) :
    Cs.wKeep W.K (.ref t) i (fun _ _ _ => tAsg (tVar i) (gName k)) (fun cls d _ H => E cls d H) D u o σ c1.H := by
  obtain ⟨g, hC, rfl, hd⟩ := hx
  refine ⟨_, xm x.C g hC, fun hb a ha => ?_, fun hb => ?_⟩
  · rw [if_pos hb] at w
    have hl : i < σ.length := by rw [env.1]; exact hi
    refine ⟨.ref a, List.getElem?_set_self hl, fun hn => ?_⟩
    rw [set3 hik]
    obtain ⟨ok3, s3⟩ := zd4 (o := Cs.XO (.ref g) o a) ok ha
    have r : Dp W (c1.to (upd c1.G a (Cs.XO (.ref g) o a)) (upd c1.H a (Cs.XO (.ref g) o a))) (.ref a) (.exc x.C x.ks x.ds) := by
      rcases hd with ⟨rfl, e1, e2⟩ | ⟨dx, xs, rfl, h1, h2, h3⟩
      · rw [e1, e2]
        exact .exc hC upd_same (fun _ z => by cases z) (fun _ => rfl) (xs := []) rfl .nil
      · refine .exc hC upd_same (fun dx' z => ?_) (fun z => by cases z) h2 (zaq s3.le h3)
        cases z
        exact s3.le.g _ _ h1
    exact w _ (c1.to (upd c1.G a (Cs.XO (.ref g) o a)) (upd c1.H a (Cs.XO (.ref g) o a))) rfl (s.trans s3) (le.trans s3.le) ok3 (((env.mono s3.le).set k r).unset i)
  · rw [if_neg (by rw [hb]; exact Bool.false_ne_true)] at w
    exact w (.ref g) o c1 rfl s ok ⟨g, hC, rfl, hd⟩
def mArgs (a : MA) (m : List D → Store → Res D) : ME := fun ρ μ => match a ρ μ with
  | .ok ds μ => m ds μ
  | _ => .bad
def mTryA (T : String) (i k j : Nat) (m : ME) : MS := fun _ ρ μ => if i < ρ.length then tryR T i k (m ρ μ) (fun d μ => .nx (ρ.set j (some d)) μ) ρ else .bad
def mTryD (T : String) (i k : Nat) (m : ME) : MS := fun _ ρ μ => if i < ρ.length then tryR T i k (m ρ μ) (fun _ μ => .nx ρ μ) ρ else .bad
def tFldX (K : PySem.W.Frag) (te : TE) (f : Str) : TE := fun σ H Q => te σ H fun x H1 => ∃ (a g dx : Addr) (fs : List (Str × V)) (v : V), x = .ref a ∧ H1 a = some (Cs.XO (.ref g) (some dx) a) ∧ H1 dx = some (.xd fs) ∧ ExcC K g ∧ PySem.W.findIn K (.ref g) f = some none ∧ fs.lookup f = some v ∧ Q v H1
theorem zac2 {o : Expr} {f : Str} {pos : Pos} {te : TE} (ho : PE X o te) (hb : attributeBase o f X.env (eval o X.env) = eval o X.env := by rfl) : PE X (.Attribute o f pos) (tFldX X.K te f) := ⟨fun pins s σ H Q I h => by
  refine attr_of hb (thn (ho.run pins s σ H _ I h) fun u s1 hh => ?_)
  obtain ⟨x, H1, I1, rx, a, g, dx, fs, v, ex, ea, ed, C, hn, hl, q⟩ := hh
  subst ex
  obtain rfl : u = Value.ref a := rx
  obtain ⟨oe, vs, hget, hz, hv⟩ := Cs.xo_at I1.hok ea
  obtain ⟨mA, hns, hr⟩ := (show ObjOk X.prog X.w H1 s1.heap dx (.xd fs) from I1.hok dx _ ed)
  obtain ⟨od, hod, hlk⟩ := lookIn_ns hns
  obtain ⟨z, hz2, rz⟩ := RelO.some_of (v := v) (o := mA f) (by rw [← hl]; exact hr f)
  have J : PySem.W.InstAt s1.heap a oe g (some od) := ⟨hget, hz.1, by unfold PySem.W.notCls; rw [hv] <;> rfl, by rw [hz.2]; exact hod⟩
  exact HandSPX.exc_get I1.kIn J C.hg C.hk C.hs (findObj_own C.hd hn rfl (by rw [hlk, hz2])) (handed_of rz) ⟨v, H1, I1.tok _, rz, q⟩⟩
structure FldX (W : Wd) (C : String) (f : Str) : Prop where
  ex : ∀ g, W.cm C = some g → ExcC W.K g
  no : ∀ g, W.cm C = some g → PySem.W.findIn W.K (.ref g) f = some none
def mFldX (Cs' : List String) (f : Str) (a : ME) : ME := fun ρ μ => (a ρ μ).bind fun x μ => match x with
  | .exc C ks ds => if Cs'.contains C = true then match lookF f ks ds with
      | some d => .ok d μ
      | none => .bad
    else .bad
  | _ => .bad
theorem zadg {Cs' : List String} {f : Str} {a : ME} (F : ∀ C ∈ Cs', FldX W C f) (h : PE X e (tFldX W.K (tE W E a) f)) : PE X e (tE W E (mFldX Cs' f a)) := zav h fun σ H Q ⟨ρ, c, hH, ok, env, w⟩ =>
  ⟨ρ, c, hH, ok, env, wp_bind w fun v x c1 s1 ok1 r1 w1 => by
    split at w1
    · rename_i C ks ds
      split at w1
      · rename_i hC
        split at w1
        · rename_i d ed
          cases r1 with
          | @exc a _ g o _ xs _ hg h1 h2 h3 h4 h5 =>
            have FC := F C (List.contains_iff_mem.mp hC)
            cases o with
            | none =>
              rw [h3 rfl] at ed
              cases ed
            | some dx =>
              obtain ⟨z, h6, h7⟩ := zoz h5 ed
              exact ⟨a, g, dx, _, z, rfl, ok1.s _ _ h1, ok1.s _ _ (h2 dx rfl), FC.ex g hg, FC.no g hg, h6, zaj w1 ok1 h7⟩
        · exact w1.elim
      · exact w1.elim
    · exact w1.elim⟩
end
end Mi
namespace Mi
open PySem PySem.Spec L2 PyProof.Rows PySem.W PySem.Calls
section
variable {prog : Program} {w : World} {A : Around} {E : Value → Shared → Prop} {s : Shared} {l : Addr} {items : Array Value} {Q : List Value → Shared → Prop}
theorem zyc (hl : s.heap.IsList l items) (hh : A.handled = none) (h1 : 1 ≤ items.size) (hz : items.size ≤ sizeLine)
    (q : ∀ (h2 : Heap) tk, (∀ b o, s.heap.get? b = some o → h2.get? b = some o) → Q ([items.toList.headD .none] ++ [.ref h2.objs.size] ++ []) { s with heap := h2.push { cls := .type "list", data := .seq (items.toList.drop 1).toArray }, toks := tk }) :
    wpAny (model prog w) A (unpackItems (.ref l) 2 (some 1)) Q E s := by
  obtain ⟨ob, hob, _⟩ := id hl
  have lt := Heap.lt_size hob
  have ne := Nat.ne_of_lt lt
  have head : items.toList.take 1 = [items.toList.headD .none] := by
    cases e : items.toList with
    | nil => rw [← Array.length_toList, e] at h1; simp at h1
    | cons a r => rfl
  unfold unpackItems
  refine wpAny_bind ?_
  unfold notIterableAtAll
  refine wpAny_bind (wpAny_specialOf hl.typeIs PySem.F.slot_list_iter.lookup (wpAny_pure ?_))
  simp only [Bool.false_eq_true, if_false]
  refine wpAny_bind (wpAny_holding (wpAny_pyIter_list hl (wpAny_bind (wpAny_holding (kun_draw ne 1 0 _ _ ⟨_, Heap.get?_push_size _ rfl, rfl, rfl⟩ (hl.push _) (by omega) fun g st sb => ?_)))))
  have hl' := (hl.push { cls := .type "list_iterator", data := .fields #[.ref l, .int 0 0] }).extBut sb.extBut ne
  obtain ⟨oi, e1, _⟩ := id st
  obtain ⟨ol, e2, _⟩ := id hl'
  rw [List.drop_zero, head]
  simp only [List.length_singleton, Nat.lt_irrefl, if_false]
  refine wpAny_bind (wpAny_holding (kun_collect (s := { s with heap := g }) (T := "list_iterator") (by simp) (Walks.list (A := A.in1) hh s.heap.objs.size l ne items) (fun j u z => z.1.typeIs) (k := 1) h1 ⟨st, hl'⟩ (Heap.lt_size e1) (Heap.lt_size e2) (fun g2 tk keep => ?_) hz))
  simp only [Nat.sub_self, Nat.not_lt_zero, if_false, Nat.sub_zero, List.take_length, List.drop_length]
  refine wpAny_bind (wpAny_newList (s := { s with heap := g2, toks := tk }) (wpAny_pure (q g2 tk fun b o e => keep b o (Nat.ne_of_lt (Heap.lt_size e)) (sb.extBut b o (Nat.ne_of_lt (Heap.lt_size e)) (Heap.get?_push_of_some _ e)))) ?_)
  rw [List.length_drop, Array.length_toList]
  omega
theorem zxj (hl : IsTup s.heap l items) (hh : A.handled = none) (h1 : 1 ≤ items.size) (hz : items.size ≤ sizeLine)
    (q : ∀ (h2 : Heap) tk, (∀ b o, s.heap.get? b = some o → h2.get? b = some o) → Q ([items.toList.headD .none] ++ [.ref h2.objs.size] ++ []) { s with heap := h2.push { cls := .type "list", data := .seq (items.toList.drop 1).toArray }, toks := tk }) :
    wpAny (model prog w) A (unpackItems (.ref l) 2 (some 1)) Q E s := by
  obtain ⟨ob, hob, _⟩ := id hl
  have lt := Heap.lt_size hob
  have ne := Nat.ne_of_lt lt
  have head : items.toList.take 1 = [items.toList.headD .none] := by
    cases e : items.toList with
    | nil => rw [← Array.length_toList, e] at h1; simp at h1
    | cons a r => rfl
  unfold unpackItems
  refine wpAny_bind ?_
  unfold notIterableAtAll
  refine wpAny_bind (wpAny_specialOf hl.typeIs PySem.F.slot_tuple_iter.lookup (wpAny_pure ?_))
  simp only [Bool.false_eq_true, if_false]
  refine wpAny_bind (wpAny_holding (iter_tuple hl (wpAny_bind (wpAny_holding (draw_tuple ne 1 0 _ _ ⟨_, Heap.get?_push_size _ rfl, rfl, rfl⟩ (hl.push _) (by omega) fun g st sb => ?_)))))
  have hl' := (hl.push { cls := .type "tuple_iterator", data := .fields #[.ref l, .int 0 0] }).extBut sb.extBut ne
  obtain ⟨oi, e1, _⟩ := id st
  obtain ⟨ol, e2, _⟩ := id hl'
  rw [List.drop_zero, head]
  simp only [List.length_singleton, Nat.lt_irrefl, if_false]
  refine wpAny_bind (wpAny_holding (kun_collect (s := { s with heap := g }) (T := "tuple_iterator") (by simp) (Walks.tuple (A := A.in1) hh s.heap.objs.size l ne items) (fun j u z => z.1.typeIs) (k := 1) h1 ⟨st, hl'⟩ (Heap.lt_size e1) (Heap.lt_size e2) (fun g2 tk keep => ?_) hz))
  simp only [Nat.sub_self, Nat.not_lt_zero, if_false, Nat.sub_zero, List.take_length, List.drop_length]
  refine wpAny_bind (wpAny_newList (s := { s with heap := g2, toks := tk }) (wpAny_pure (q g2 tk fun b o e => keep b o (Nat.ne_of_lt (Heap.lt_size e)) (sb.extBut b o (Nat.ne_of_lt (Heap.lt_size e)) (Heap.get?_push_of_some _ e)))) ?_)
  rw [List.length_drop, Array.length_toList]
  omega
end
section
variable {W : Wd} {E : XK} {X : Cx} {c : Cf} {v : V} {d : D} {ds : List D} {e tg iter : Expr} {es : List Expr} {st : Stmt} {Q : VK}
def gStar (K : PySem.W.Frag) (t : TGs) : TG := fun v σ H Q => ∃ a x xs, v = .ref a ∧ (SqL K H a (x :: xs) ∨ SqT K H a (x :: xs)) ∧ ∀ p, H p = none → t [x, .ref p] σ (upd H p (.lst xs)) Q
theorem zac0 {k : Nat} {pos : Pos} {t : TGs} (hc : X.calm = true) (h : PGs X es t) (hn : (assignEach es X.env).length = 2 := by rfl) (hst : (assignEach es X.env).findIdx? (·.1) = some 1 := by rfl) : PG X (.Tuple es k pos) (gStar X.K t) := ⟨fun pins s σ H v u Q I r hw => by
  obtain ⟨a, x, xs, e1, hq, q⟩ := hw
  subst e1
  cases r
  rw [assign_Tuple]
  refine wpAny_bind (wpAny_standAt ?_)
  unfold unpack
  rw [hn, hst]
  have run : ∀ (its : List Value), Vals (x :: xs) its → (x :: xs).length ≤ sizeLine → ∀ (h2 : Heap) tk, (∀ b o, s.heap.get? b = some o → h2.get? b = some o) →
      wpAny (model X.prog X.w) X.A (assignInOrder ((assignEach es X.env).map (·.2)) ([its.toArray.toList.headD .none] ++ [.ref h2.objs.size] ++ [])) (fun _ s' => ∃ σ' H', Inv X pins σ' H' s' ∧ Q σ' H') X.xe { s with heap := h2.push { cls := .type "list", data := .seq (its.toArray.toList.drop 1).toArray }, toks := tk } := by
    intro its rv hz h2 tk keep
    cases rv with
    | @cons _ u _ us r0 rr =>
      have I1 : Inv X pins σ H { s with heap := h2, toks := tk } := I.kept keep
      have I2 := I1.lnew (t' := tk) rr (by simp only [List.length_cons] at hz; omega)
      have q2 := q h2.objs.size I1.fresh
      have := h.run pins _ σ _ [x, .ref h2.objs.size] [u, .ref h2.objs.size] Q I2 (.cons r0 (.cons rfl .nil)) q2
      simpa using this
  rcases hq with hq | hq
  · obtain ⟨its, rv, pl, hz⟩ := I.list hq
    have len := rv.length
    simp only [List.length_cons] at len hz
    exact wpAny_bind (wpAny_holding (zyc pl.isList (I.ok.hd hc) (by simp only [List.size_toArray]; omega) (by simp only [List.size_toArray]; omega) fun h2 tk keep => run its rv (by simpa using hz) h2 tk keep))
  · obtain ⟨its, rv, pl, hz⟩ := I.tuple hq
    have len := rv.length
    simp only [List.length_cons] at len hz
    exact wpAny_bind (wpAny_holding (zxj pl (I.ok.hd hc) (by simp only [List.size_toArray]; omega) (by simp only [List.size_toArray]; omega) fun h2 tk keep => run its rv (by simpa using hz) h2 tk keep))⟩
theorem zyt {e0 e1 : Expr} {ets : List Expr} {t : TG} {u : TGs} (p : PG X e1 t) (ps : PGs X ets u)
    (ea : (assignEach (e0 :: ets) X.env).map (·.2) = assign e1 X.env :: (assignEach ets X.env).map (·.2) := by rfl) : PGs X (e0 :: ets) (gCons t u) := by
  refine ⟨fun pins s σ H ws us Q I r ⟨v, vs, ew, q⟩ => ?_⟩
  subst ew
  cases r with
  | cons r1 r2 =>
    rw [ea]
    exact assignInOrder_cons (thn (p.run pins s σ H v _ _ I r1 q) fun _ s1 ⟨σ1, H1, J, q1⟩ => ps.run pins s1 σ1 H1 vs _ Q J r2 q1)
def zng (g : MGs) : MG := fun d ρ μ => match (match seqL μ d with
    | some ds => some ds
    | none => seqT d) with
  | some (x :: xs) => g [x, .lst xs] ρ μ
  | _ => .bad
theorem zadd {g : MGs} (h : PG X e (gStar W.K (tGs W E g))) : PG X e (tG W E (zng g)) := zk0 h fun v σ H Q ⟨ρ, c, d, hH, ok, env, r, w⟩ => by
  subst hH
  unfold zng at w
  split at w
  · rename_i x xs e
    obtain ⟨a, vs, rfl, h1, h2⟩ := zjv (x := .non) ok r e
    cases h2 with
    | cons h2 h3 =>
      refine ⟨a, _, _, rfl, h1, fun p hp => ?_⟩
      obtain ⟨ok3, s3⟩ := zd4 (o := .lst _) ok hp
      exact ⟨ρ, _, [x, .lst xs], rfl, ok3, env.mono s3.le, .cons (zay s3.le h2) (.cons (.lst (.inl (.inl upd_same)) (zaq s3.le h3)) .nil), w.from s3⟩
  · exact w.elim
def pairOf : D → Option (D × D)
  | .tup [x, y] => some (x, y)
  | _ => none
def pairsOf : List D → Option (List (Key × D))
  | [] => some []
  | d :: ds => match pairOf d, pairsOf ds with
    | some (x, y), some qs => (keyOf x).map fun k => (k, y) :: qs
    | _, _ => none
theorem zpo : ∀ {ds : List D} {vs : List V} {qs : List (Key × D)}, Ok W c → DpA W c vs ds → pairsOf ds = some qs →
    ∃ (ps : List Addr) (kvs : List (Key × V)), vs = ps.map V.ref ∧ Paired (fun p kv => SqT W.K c.H p [kV kv.1, kv.2]) ps kvs ∧ qs.length = kvs.length ∧ ∀ (i : Nat) (k : Key) (d : D), qs[i]? = some (k, d) → ∃ v, kvs[i]? = some (k, v) ∧ Dp W c v d
  | [], _, qs, ok, h, e => by
    cases h
    cases Option.some.inj e
    exact ⟨[], [], rfl, .nil, rfl, fun i k d z => by simp at z⟩
  | d :: ds, _, qs, ok, .cons h1 h2, e => by
    unfold pairsOf at e
    split at e
    · rename_i x y qs' e1 e2
      cases ek : keyOf x with
      | none => rw [ek] at e; cases e
      | some k =>
        rw [ek] at e
        cases Option.some.inj e
        obtain ⟨ps, kvs, p1, p2, p3, p4⟩ := zpo ok h2 e2
        unfold pairOf at e1
        split at e1
        · cases Option.some.inj e1
          cases h1 with
          | @tup a xs _ hs ha =>
            cases ha with
            | @cons v1 _ _ _ g1 g2 =>
              cases g2 with
              | @cons v2 _ _ _ g2 g3 =>
                cases g3
                have hv := zjt g1 ek
                refine ⟨a :: ps, (k, v2) :: kvs, by rw [p1]; rfl, .cons (by rw [← hv]; exact Cs.zby ok.s hs) p2, by simp [p3], fun i k' d' z => ?_⟩
                cases i with
                | zero => cases Option.some.inj z; exact ⟨v2, rfl, g2⟩
                | succ i => exact p4 i k' d' z
        · cases e1
    · cases e
def zll (b : Bool) : List D → Store → Res D := fun xs μ => match xs with
  | [x] => match (seqL μ x).bind pairsOf with
    | some qs => newK b (zbd [] [] qs).1 (zbd [] [] qs).2 μ
    | none => .bad
  | _ => .bad
theorem zaaq {b : Bool} : CbM W E (Cs.zyp W.K) (zll b) := fun c xs vs Q ok hx w => by
  unfold zll at w
  split at w
  · rename_i x
    cases hx with
    | cons h1 h2 =>
      cases h2
      split at w
      · rename_i qs e
        cases es : seqL c.μ x with
        | none => rw [es] at e; cases e
        | some ds =>
          rw [es] at e
          obtain ⟨a, vs, rfl, h3, h4⟩ := zcu ok h1 es
          obtain ⟨ps, kvs, rfl, p2, p3, p4⟩ := zpo ok h4 e
          obtain ⟨ys, q1, q2, q3, q4⟩ := zl5 (ks0 := []) (c := c) (ks := []) (xs := []) (ds := []) p3 p4 rfl .nil .nil
          refine ⟨a, ps, kvs, rfl, h3, p2, fun p hp => ?_⟩
          have q1' : mergeK [] kvs = _ := q1
          rw [q1']
          exact zu7 w ok q4 q2 q3 hp
      · exact w.elim
  · exact w.elim
def zg6 (C : String) (m : List D → Store → Res D) (a : MA) : ME := fun ρ μ => (a ρ μ).bind fun ds μ => m (.cls C :: ds) μ
theorem zjp {C : String} {g : Addr} {m : List D → Store → Res D} {a : MA} (hC : W.cm C = some g) (h : PE X e (ClX.tCMeth g (spM W m) E (tC (.ref g)) (tA W E a))) : PE X e (tE W E (zg6 C m a)) := zav h fun σ H Q ⟨ρ, c, hH, ok, env, w⟩ =>
  ⟨rfl, ρ, c, hH, ok, env, wp_bind w fun vs ds c1 s1 ok1 r1 w1 => ⟨c1, _, rfl, ok1, .cons (.cls hC) r1, w1⟩⟩
def zfy (m : List D → Store → Res D) : List D → Store → Res D := fun ds μ => match ds with
  | x :: rest => if rest.length ≤ sizeLine then m [x, .tup rest, .dct [] []] μ else .bad
  | [] => .bad
def zzl (m : List D → Store → Res D) : List D → Store → Res D := fun ds μ => match ds with
  | x :: rest => if rest.length ≤ sizeLine then m [x, .tup rest] μ else .bad
  | [] => .bad
theorem zaem {m : List D → Store → Res D} {vs : List V} {H : Hp} (h : spM W (zfy m) vs H Q E) : ∃ ws rest, vs = ws ++ rest ∧ ws.length = (["self"] : List Str).length ∧ rest.length ≤ sizeLine ∧ ∀ p d, H p = none → H d = none → d ≠ p → spM W m (ws ++ [V.ref p, V.ref d]) (upd (upd H p (.tup rest)) d (.dK [])) Q E := by
  obtain ⟨c, ds, hH, ok, r, w⟩ := h
  subst hH
  unfold zfy at w
  split at w
  · rename_i x rest
    split at w
    · rename_i hl
      cases r with
      | @cons v vs _ _ r1 r2 =>
        refine ⟨[v], vs, rfl, rfl, by rw [zan r2]; exact hl, fun p d hp hd hne => ?_⟩
        obtain ⟨ok1, s1⟩ := zd4 (o := .tup vs) ok hp
        obtain ⟨ok2, s2⟩ := zd4 (c := c.to (upd c.G p (.tup vs)) (upd c.H p (.tup vs))) (p := d) (o := .dK []) ok1 (show upd c.H p _ d = none by rw [upd_ne hne]; exact hd)
        refine ⟨_, [x, .tup rest, .dct [] []], rfl, ok2, .cons (zay (s1.le.trans s2.le) r1) (.cons (zay s2.le (.tup (.inl (.inl upd_same)) (zaq s1.le r2))) (.cons (.dct (xs := []) (.inl upd_same) rfl .nil .nil) .nil)), w.from (s1.trans s2)⟩
    · exact w.elim
  · exact w.elim
def zld (frz : Bool) (i : Nat) (C : String) (m : List D → Store → Res D) (a : ME) : ME := fun ρ μ => match ρ[i]? with
  | some (some (.cls C')) => if C' = C then (a ρ μ).bind fun x μ => match (match seqL μ x with
      | some ds => some ds
      | none => seqT x) with
    | some ds => mkObj frz C m ds μ
    | none => .bad
    else .bad
  | _ => .bad
theorem zab2 {frz : Bool} {i : Nat} {C : String} {g : Addr} {m : List D → Store → Res D} {a : ME} (hC : W.cm C = some g) (h : PE X e (Cs.zx9 W.K i g (spM W m) E (tE W E a))) : PE X e (tE W E (zld frz i C m a)) := zav h fun σ H Q ⟨ρ, c, hH, ok, env, w⟩ => by
  unfold zld at w
  split at w
  · rename_i C' hi
    split at w
    · rename_i hc
      subst hc
      obtain ⟨v, h1, h2⟩ := env.2 i _ hi
      cases h2 with
      | cls hg =>
        rw [hC] at hg
        cases hg
        refine ⟨h1, ρ, c, hH, ok, env, wp_bind w fun y x c1 s1 ok1 r1 w1 => ?_⟩
        split at w1
        · rename_i ds es
          obtain ⟨a', xs, rfl, h3, h4⟩ := zjv (x := .non) ok1 r1 es
          exact ⟨a', xs, rfl, h3.symm, zu8 hC ok1 h4 w1⟩
        · exact w1.elim
    · exact w.elim
  · exact w.elim
def lookS : List (Str × Int) → Str → Option Int
  | [], _ => none
  | (k, i) :: r, x => if k = x then some i else lookS r x
structure WrD (K : PySem.W.Frag) (w : World) (a : Addr) (tab : List (Str × Int)) : Prop where
  at_ : ∀ k i, lookS tab k = some i → KDct K w a k (.int i)
def fIxW (tab : List (Str × Int)) : D → Store → Res D := fun y μ => match y with
  | .str x => match lookS tab x with
    | some i => .ok (.int i) μ
    | none => .bad
  | _ => .bad
theorem zze {a : Addr} {w0 : World} {tab : List (Str × Int)} {b : ME} (F : WrD W.K w0 a tab) (h : PE X e (tOp (rIxD W.K w0) (tC (.ref a)) (tE W E b))) : PE X e (tE W E (mUn (fIxW tab) b)) := zav h fun σ H Q ⟨ρ, c, hH, ok, env, w⟩ =>
  ⟨ρ, c, hH, ok, env, wp_bind w fun v x c1 s1 ok1 r1 w1 => by
    unfold fIxW at w1
    split at w1
    · rename_i x
      split at w1
      · rename_i i e
        cases r1
        exact ⟨a, x, .int i, rfl, rfl, F.at_ x i e, zaj w1 ok1 (.int i)⟩
      · exact w1.elim
    · exact w1.elim⟩
def mRevL (b : Bool) (a : ME) : ME := fun ρ μ => (a ρ μ).bind fun x μ => match seqL μ x with
  | some ds => newL b ds.reverse μ
  | none => .bad
def rDUpd : V → List V → Hp → VK → Prop := fun x xs H Q => ∃ (a o : Addr) (kvs more : List (Key × V)), x = .ref a ∧ xs = [.ref o] ∧ H a = some (.dK kvs) ∧ Rd H o (.dK more) ∧ a ≠ o ∧ kvs.length + more.length ≤ sizeLine ∧ Q .non (upd H a (.dK (mergeK kvs more)))
theorem zpy : ∀ {more kvs : List (Key × V)}, (mergeK kvs more).length ≤ kvs.length + more.length
  | [], kvs => Nat.le_refl _
  | kv :: more, kvs => by
    have h1 : (mergeK kvs (kv :: more)).length = (mergeK (putK kvs kv.1 kv.2) more).length := rfl
    have h2 := zpy (more := more) (kvs := putK kvs kv.1 kv.2)
    have h3 : (putK kvs kv.1 kv.2).length ≤ kvs.length + 1 := by
      unfold putK
      split
      · rw [List.length_map]; omega
      · rw [List.length_append]; simp
    rw [h1, List.length_cons]
    omega
theorem zv0 : MtR X "dict.update" rDUpd := fun pins s σ H x xs v us Q I rx rv h => by
  obtain ⟨a, o, kvs, more, e1, e2, hA, hO, hne, hz, q⟩ := h
  subst e1 e2
  cases rx
  obtain ⟨u, rfl, ru⟩ := rv.one
  cases ru
  obtain ⟨z1, lo1, vs1, rel1, dd1⟩ := dk_of I.hok hA
  obtain ⟨z2, lo2, vs2, rel2, dd2⟩ := dk_rd I.hok hO
  refine call_meetsIn PySem.F.slot_dict_update dd1.typeIs PySem.F.entry_dict_update (PySem.F.args_dict_update_2 _ _) (meets_dict_update (mixKind X.prog X.w) a o hne lo2) ⟨vs1, vs2, dd1, dd2, by rw [← rel1.length, ← rel2.length]; exact hz, fun h' d1 d2 hs => ?_⟩
  have there : ∃ ob, h'.get? a = some ob := let ⟨ob, _, _, e, _⟩ := d1; ⟨ob, e⟩
  exact ⟨.non, _, d_write (t' := s.toks) I (by rw [hA]; exact True.intro) hs there (dk_new (Nat.le_trans zpy hz) lo1 (KV.merge rel2 rel1) d1), rfl, q⟩
def fUpd : D → List D → Store → Res D := fun x xs μ => match ownK μ x, xs with
  | some (n, ks, ds), [y] => match y with
    | .dct ks2 ds2 => if ks.length + ks2.length ≤ sizeLine then .ok .non (μ.set n (some (.dct (zbd ks ds (ks2.zip ds2)).1 (zbd ks ds (ks2.zip ds2)).2))) else .bad
    | .own m => if m = n then .bad else match μ[m]? with
      | some (some (.dct ks2 ds2)) => if ks.length + ks2.length ≤ sizeLine then .ok .non (μ.set n (some (.dct (zbd ks ds (ks2.zip ds2)).1 (zbd ks ds (ks2.zip ds2)).2))) else .bad
      | _ => .bad
    | _ => .bad
  | _, _ => .bad
theorem zip_get : ∀ {ks : List Key} {xs : List V} {ds : List D}, ks.length = xs.length → DpA W c xs ds → ∀ (i : Nat) (k : Key) (d : D), (ks.zip ds)[i]? = some (k, d) → ∃ v, (Cs.kvL ks xs)[i]? = some (k, v) ∧ Dp W c v d
  | [], _, _, _, _, i, k, d, e => by simp at e
  | _ :: _, [], _, h, _, _, _, _, _ => by simp at h
  | k' :: ks, x :: xs, d' :: ds, h, .cons h1 h2, 0, k, d, e => by
    cases Option.some.inj e
    exact ⟨x, rfl, h1⟩
  | k' :: ks, x :: xs, d' :: ds, h, .cons h1 h2, i + 1, k, d, e => zip_get (ks := ks) (xs := xs) (by simpa using h) h2 i k d e
theorem zsm {n : Nat} {ks ks2 : List Key} {ds2 : List D} {xs ys : List V} (w : Wp W (Dp W) (.ok .non (c.μ.set n (some (.dct (zbd ks ds (ks2.zip ds2)).1 (zbd ks ds (ks2.zip ds2)).2)))) c Q E) (ok : Ok W c) (hm : c.μ[n]? = some (some (.dct ks ds))) (hl : ks.length = xs.length) (hn : ks.Nodup) (ha : DpA W c xs ds)
    (hl2 : ks2.length = ys.length) (ha2 : DpA W c ys ds2) : Q .non (upd c.H (c.ι n) (.dK (mergeK (Cs.kvL ks xs) (Cs.kvL ks2 ys)))) := by
  have l2 := zan ha2
  obtain ⟨zs, q1, q2, q3, q4⟩ := zl5 (ks0 := []) (c := c) (qs := ks2.zip ds2) (kvs := Cs.kvL ks2 ys) (by rw [List.length_zip, zdh hl2]; omega) (zip_get hl2 ha2) hl hn ha
  rw [q1]
  exact zu6 w ok hm q2 q3 q4 .non
theorem zvy : MtC W E rDUpd fUpd := fun c x v xs vs Q ok hx hxs w => by
  unfold fUpd at w
  split at w
  · rename_i n ks ds y e
    obtain ⟨rfl, hm, rfl, xs, h1, h2, h3, h4⟩ := zq1 ok hx e
    cases hxs with
    | cons r1 r2 =>
      cases r2
      split at w
      · rename_i ks2 ds2
        split at w
        · rename_i hl
          cases r1 with
          | @dct a _ ys _ hr hl2 hn2 ha2 =>
            refine ⟨_, a, _, _, rfl, rfl, h1, Cs.zi6 ok.s hr, fun z => ?_, by rw [zdh h2, zdh hl2]; exact hl, zsm w ok hm h2 h3 h4 hl2 ha2⟩
            have gn := (ok.at' n _ hm).1
            rcases hr with q | ⟨o, q⟩
            · rw [← z, gn] at q; cases q
            · rw [← z, gn] at q; cases q
        · exact w.elim
      · rename_i m
        split at w
        · exact w.elim
        · rename_i hne
          split at w
          · rename_i ks2 ds2 hm2
            split at w
            · rename_i hl
              cases r1
              obtain ⟨_, o, ho, ys, rfl, hl2, hn2, ha2⟩ := ok.at' m _ hm2
              exact ⟨_, _, _, _, rfl, rfl, h1, .inl ho, fun z => hne (ok.inj m n ⟨_, hm2⟩ ⟨_, hm⟩ z.symm), by rw [zdh h2, zdh hl2]; exact hl, zsm w ok hm h2 h3 h4 hl2 ha2⟩
            · exact w.elim
          · exact w.elim
      · exact w.elim
  · exact w.elim
end
end Mi
namespace Mi
open PySem PySem.Spec L2 PyProof.Rows PySem.W
section
variable {W : Wd} {E : XK} {X : Cx} {c : Cf} {v : V} {d : D} {ds : List D} {e : Expr} {ts ms : List String}
def fIsS (cl : D) : D → Store → Res D := fun x μ => if zfk μ x = true then match (tnD μ x).bind fun tn => isaT tn cl with
    | some b => .ok (.bl b) μ
    | none => .bad
  else .bad
def ClOk (W : Wd) (ts ms : List String) : D → V → Prop
  | .cls T, v => T ∈ ts ∧ ∃ g, W.cm T = some g ∧ v = .ref g
  | .ty n, v => n ∈ ms ∧ v = .ty n
  | _, _ => False
theorem zaan {cl : D} {u : V} (h : ClOk W ts ms cl u) : ∃ z, ClsV u z ∧ ClsV (match (generalizing := false) cl with | .ty n => .ty n | .cls C => .ref ((W.cm C).getD 0) | _ => .non) z ∧ (∀ n, cl = .ty n → n ∈ ms) ∧ (∀ T, cl = .cls T → T ∈ ts ∧ W.cm T ≠ none) := by
  cases cl with
  | cls T =>
    obtain ⟨h1, g, h2, rfl⟩ := h
    refine ⟨.ref g, .own g, (by dsimp only; rw [h2]; exact .own g), fun n z => (by cases z), fun T' z => (by cases z; exact ⟨h1, by rw [h2]; exact fun z => by cases z⟩)⟩
  | ty n =>
    obtain ⟨h1, rfl⟩ := h
    exact ⟨.type n, .ty n, .ty n, fun n z => (by cases z; exact h1), fun T z => (by cases z)⟩
  | _ => exact h.elim
theorem me_is {cl : D} {u : V} {a : ME} (F : IsF W ts ms) (hc : ClOk W ts ms cl u) (h : PE X e (tCB (rIsM W.K) (tCons (tE W E a) (tCons (tC u) tNil)))) : PE X e (tE W E (mUn (fIsS cl) a)) := zav h fun σ H Q ⟨ρ, c, hH, ok, env, w⟩ =>
  ⟨ρ, c, hH, ok, env, wp_bind w fun v x c1 s1 ok1 r1 w1 => by
    unfold fIsS at w1
    split at w1
    · rename_i hk
      cases et : tnD c1.μ x with
      | none => rw [et] at w1; exact w1.elim
      | some tn =>
        rw [et] at w1
        obtain ⟨t, h4, h5⟩ := zx8 F ok1 r1 hk et
        cases eb : isaT tn cl with
        | none =>
          have w2 : Wp W (Dp W) (match isaT tn cl with | some b => .ok (.bl b) c1.μ | none => .bad) c1 Q E := w1
          rw [eb] at w2
          exact w2.elim
        | some b =>
          have w2 : Wp W (Dp W) (match isaT tn cl with | some b => .ok (.bl b) c1.μ | none => .bad) c1 Q E := w1
          rw [eb] at w2
          obtain ⟨z, z1, z2, z3, z4⟩ := zaan hc
          exact ⟨v, u, t, z, b, rfl, z1, h4, h5 cl z b z2 eb (fun n q => .inl (z3 n q)) z4, zaj w2 ok1 (.bl b)⟩
    · exact w1.elim⟩
def isaL (tn : TN) : List D → Option Bool
  | [] => some false
  | cl :: r => match isaT tn cl, isaL tn r with
    | some a, some b => some (a || b)
    | _, _ => none
def fIsL (cls : List D) : D → Store → Res D := fun x μ => if zfk μ x = true then match (tnD μ x).bind fun tn => isaL tn cls with
    | some b => .ok (.bl b) μ
    | none => .bad
  else .bad
def ClsOk (W : Wd) (ts ms : List String) : List D → List V → Prop
  | [], [] => True
  | cl :: cs, u :: us => ClOk W ts ms cl u ∧ ClsOk W ts ms cs us
  | _, _ => False
def tCs : List V → TA
  | [] => tNil
  | v :: vs => tCons (tC v) (tCs vs)
theorem zvb {σ : L2.St} : ∀ {us : List V} {H : Hp} {Q : List V → Hp → Prop}, Q us H → tCs us σ H Q
  | [], _, _, q => q
  | u :: us, _, _, q => zvb (us := us) (Q := fun xs H2 => _) q
theorem zwf {t : Value} {tn : TN} (hk : ∀ cl u b, ClsV (match cl with | .ty n => .ty n | .cls C => .ref ((W.cm C).getD 0) | _ => .non) u → isaT tn cl = some b → (∀ n, cl = .ty n → n ∈ ms ∨ ∃ m, tn = .b m) → (∀ T, cl = .cls T → T ∈ ts ∧ W.cm T ≠ none) → kitOne W.K t u = some b) :
    ∀ {cs : List D} {us : List V} {b : Bool}, ClsOk W ts ms cs us → isaL tn cs = some b → ∃ zs, Paired ClsV us zs ∧ kitAny W.K t zs = some b
  | [], [], b, _, e => by cases Option.some.inj e; exact ⟨[], .nil, kitAny_nil⟩
  | [], _ :: _, _, h, _ => h.elim
  | _ :: _, [], _, h, _ => h.elim
  | cl :: cs, u :: us, b, h, e => by
    unfold isaL at e
    split at e
    · rename_i a b' ea eb
      cases Option.some.inj e
      obtain ⟨zs, p, q⟩ := zwf hk h.2 eb
      obtain ⟨z, z1, z2, z3, z4⟩ := zaan h.1
      exact ⟨z :: zs, .cons z1 p, zacm (hk cl z a z2 ea (fun n q => .inl (z3 n q)) z4) q⟩
    · cases e
theorem zpz {cls : List D} {us : List V} {a : ME} (F : IsF W ts ms) (hc : ClsOk W ts ms cls us) (hl : us.length ≤ sizeLine) (h : PE X e (tCB (rIsMT W.K) (tCons (tE W E a) (tCons (tTup (tCs us)) tNil)))) : PE X e (tE W E (mUn (fIsL cls) a)) := zav h fun σ H Q ⟨ρ, c, hH, ok, env, w⟩ =>
  ⟨ρ, c, hH, ok, env, wp_bind w fun v x c1 s1 ok1 r1 w1 => by
    refine zvb ⟨hl, fun p hp => ?_⟩
    unfold fIsL at w1
    split at w1
    · rename_i hk
      obtain ⟨ok3, s3⟩ := zd4 (o := .tup us) ok1 hp
      cases et : tnD c1.μ x with
      | none => rw [et] at w1; exact w1.elim
      | some tn =>
        rw [et] at w1
        have et3 : tnD (c1.to (upd c1.G p (.tup us)) (upd c1.H p (.tup us))).μ x = some tn := et
        obtain ⟨t, h4, h5⟩ := zx8 F ok3 (zay s3.le r1) hk et3
        have w2 : Wp W (Dp W) (match isaL tn cls with | some b => .ok (.bl b) c1.μ | none => .bad) c1 Q E := w1
        cases eb : isaL tn cls with
        | none => rw [eb] at w2; exact w2.elim
        | some b =>
          rw [eb] at w2
          obtain ⟨zs, p1, p2⟩ := zwf h5 hc eb
          exact ⟨v, p, us, t, zs, b, rfl, upd_same, p1, h4, p2, w2 (.bl b) (c1.to (upd c1.G p (.tup us)) (upd c1.H p (.tup us))) rfl s3 ok3 (.bl b)⟩
    · exact w1.elim⟩
def mYes : MT := fun _ μ => .ok true μ
theorem zabz {b : Bool} {j : Nat} {st : Stmt} {i : MI} {g : TG} {gm : D → Env → Option Env} {t : MT} {el : ME} {vs : List Nat} (hg : LcT W g vs gm) (h : PS X st (tAsg (tLc (tI W E i) g (tT W E0' t) (tE W E0' el) vs) (gName j))) : PS X st (tS W E (mSet j (mLc b i gm t el vs))) := zd2 h fun D σ H ⟨c0, cs, ρ, c, hH, ok, s, le, env, w⟩ => by
  have key : ∀ Q : VK, Wp W (Dp W) (mLc b i gm t el vs ρ c.μ) c Q E → tLc (tI W E i) g (tT W E0' t) (tE W E0' el) vs σ H Q := fun Q w => ⟨ρ, c, hH, ok, env, wp_bind w fun J src c1 s1 ok1 hw w1 => zto hg ok1 (env.mono s1.le) hw w1⟩
  exact key _ (zdl w s fun v d c1 s1 s2 ok1 r1 w1 => w1 _ c1 rfl s1 (le.trans s2.le) ok1 ((env.mono s2.le).set j r1))
theorem passes_own {K1 : Value → Shared → Prop} {E1 : Value → Shared → Prop} (hx : X.xe = fun e s' => wpAny (model X.prog X.w) X.A (leaving X.env e) (fun _ s'' => K1 e s'') E1 s') : PassesOwn (model X.prog X.w) X.A X.env X.xe := passes_of hx
end
section
variable {K : PySem.W.Frag}
def cmOf (l : List (String × Addr)) : String → Option Addr := fun s => l.lookup s
theorem zhj {l : List (String × Addr)} {C : String} {g : Addr} (h : cmOf l C = some g) : (C, g) ∈ l := by
  induction l with
  | nil => cases h
  | cons p r ih =>
    obtain ⟨k, a⟩ := p
    unfold cmOf at h ih
    rw [List.lookup_cons] at h
    by_cases hk : (C == k) = true
    · rw [hk] at h
      cases h
      have := beq_iff_eq.mp hk
      subst this
      exact List.mem_cons_self
    · rw [Bool.eq_false_iff.mpr hk] at h
      exact List.mem_cons_of_mem _ (ih h)
def clsB (K : PySem.W.Frag) (g : Addr) : Bool := plainGet K g Str.empty && (hasDictIn K g && (plainOver K g && decide (findIn K (.ref g) "__setattr__" = some (some (.builtin "object.__setattr__")))))
theorem zw4 {g : Addr} (h : clsB K g = true) : Cls K g := by
  unfold clsB at h
  simp only [Bool.and_eq_true, decide_eq_true_eq] at h
  exact ⟨h.1, h.2.1, h.2.2.1, h.2.2.2⟩
def zqn (K : PySem.W.Frag) (g : Addr) : Bool := decide (findIn K (.ref g) "__class__" = some (some (.builtin "object.__class__"))) && (decide (specialIn K (.builtin "object.__class__") "__get__" = some (some (.builtin "getset_descriptor.__get__"))) && (decide (takesIn K (.builtin "object.__class__") = some true) && decide (mroIn K g (.type "object") = some true)))
def insB (K : PySem.W.Frag) (g : Addr) : Bool := clsB K g && zqn K g
theorem zwh {g : Addr} (h : insB K g = true) : Cs.IsC K g := by
  unfold insB zqn at h
  simp only [Bool.and_eq_true, decide_eq_true_eq] at h
  exact ⟨zw4 h.1, h.2.1, h.2.2.1, h.2.2.2.1, h.2.2.2.2⟩
def excB (K : PySem.W.Frag) (g : Addr) : Bool := decide (findIn K (.ref g) "__getattribute__" = some (some (.builtin "BaseException.__getattribute__"))) && (decide (findIn K (.ref g) "__getattr__" = some none) && (decide (subIn K (.ref g) (.type "BaseException") = some true) && (hasDictIn K g && zqn K g)))
theorem zadx {g : Addr} (h : excB K g = true) : ExcC K g := by
  unfold excB zqn at h
  simp only [Bool.and_eq_true, decide_eq_true_eq] at h
  exact ⟨h.1, h.2.1, h.2.2.1, h.2.2.2.1, h.2.2.2.2.1, h.2.2.2.2.2.1, h.2.2.2.2.2.2.1, h.2.2.2.2.2.2.2⟩
def isfB (K : PySem.W.Frag) (l : List (String × Addr)) (ts ms : List String) : Bool :=
  (l.all fun p => l.all fun q => !ts.contains q.1 || decide (kitOne K (.ref p.2) (.ref q.2) = some (isaC p.1 q.1))) &&
  ((btys.all fun n => l.all fun q => !ts.contains q.1 || decide (kitOne K (.type n) (.ref q.2) = some false)) &&
  ((ms.all fun m => l.all fun p => decide (kitOne K (.ref p.2) (.type m) = some (isaN p.1 m))) &&
  (l.all fun p => if errs.contains p.1 then excB K p.2 else insB K p.2)))
theorem zadl {l : List (String × Addr)} {ts ms : List String} {tabs : List (Addr × Str)} (h : isfB K l ts ms = true) : IsF ⟨K, cmOf l, tabs⟩ ts ms := by
  unfold isfB at h
  simp only [Bool.and_eq_true, List.all_eq_true, Bool.or_eq_true, Bool.not_eq_true', decide_eq_true_eq] at h
  obtain ⟨h1, h2, h3, h4⟩ := h
  have has : ∀ {T : String}, T ∈ ts → ¬ (ts.contains T = false) := fun {T} m z => by
    rw [List.contains_iff_mem.mpr m] at z; cases z
  refine ⟨fun C g T t hT hC ht => ?_, fun n T t hn hT ht => ?_, fun C g m hm hC => h3 m hm _ (zhj hC), fun C g he hC => ?_, fun C g he hC => ?_⟩
  · rcases h1 _ (zhj hC) _ (zhj ht) with z | z
    · exact absurd z (has hT)
    · exact z
  · rcases h2 n hn _ (zhj ht) with z | z
    · exact absurd z (has hT)
    · exact z
  · have := h4 _ (zhj hC)
    dsimp only at this
    rw [he] at this
    exact zwh (by simpa using this)
  · have := h4 _ (zhj hC)
    dsimp only at this
    rw [he] at this
    exact zadx (by simpa using this)
def xmB (K : PySem.W.Frag) (l : List (String × Addr)) (T : String) (t : Addr) : Bool := decide (subIn K (.ref t) (.type "BaseException") = some true) && (hasDictIn K t && (decide (typeIn K (.ref t) = some (.type "type")) && l.all fun p => decide (subIn K (.ref p.2) (.ref t) = some (isaC p.1 T))))
theorem zad9 {l : List (String × Addr)} {T : String} {t : Addr} (h : xmB K l T t = true) : ∀ C g, cmOf l C = some g → exmOne K (.ref g) (.ref t) = some (isaC C T) := fun C g hC => by
  unfold xmB at h
  simp only [Bool.and_eq_true, List.all_eq_true, decide_eq_true_eq] at h
  exact exm_ref h.1 h.2.1 h.2.2.1 (h.2.2.2 _ (zhj hC))
def noB (K : PySem.W.Frag) (l : List (Addr × Str)) : Bool := l.all fun p => decide (findIn K (.ref p.1) p.2 = some none)
theorem zpu {l : List (Addr × Str)} (h : noB K l = true) {g : Addr} {f : Str} (m : (g, f) ∈ l) : findIn K (.ref g) f = some none := by
  unfold noB at h
  simp only [List.all_eq_true, decide_eq_true_eq] at h
  exact h _ m
def mkB (K : PySem.W.Frag) (g f : Addr) : Bool := makesIn K g && (decide (findIn K (.ref g) "__init__" = some (some (.ref f))) && (isFn K (.ref f) && keepIn K (.ref g)))
theorem zae4 {g f : Addr} (h : mkB K g f = true) : Mk K g f := by
  unfold mkB at h
  simp only [Bool.and_eq_true, decide_eq_true_eq] at h
  exact ⟨h.1, h.2.1, h.2.2.1, h.2.2.2⟩
def crB (K : PySem.W.Frag) (g : Addr) : Bool := readsIn K g (.type "type") && decide (specialIn K (.ref g) "__getattribute__" = some (some (.builtin "type.__getattribute__")))
theorem zaam {g : Addr} (h : crB K g = true) : ClX.CRead K g (.type "type") := by
  unfold crB at h
  simp only [Bool.and_eq_true, decide_eq_true_eq] at h
  exact ⟨h.1, h.2⟩
def all1 {P : String → Prop} {a : String} (h : P a) : ∀ C ∈ [a], P C := fun C m => by
  rw [List.mem_singleton.mp m]; exact h
end
theorem zwg {W : Wd} {c : Cf} : ∀ ns : List Int, DpA W c (ns.map V.int) (ns.map D.int)
  | [] => .nil
  | n :: ns => .cons (.int n) (zwg ns)
theorem ztq {W : Wd} {m : List D → Store → Res D} {a : Addr} {ns : List Int} {H G : Hp} {Q : VK} {E : XK} {μ : Store} (e : m [.lst (ns.map D.int)] [] = .ok (.bl true) μ) (hG : Same G H) (nG : ∀ b ps, G b ≠ some (.tbl ps)) (hs : SqL W.K G a (ns.map V.int)) (q : ∀ H', Q (.bl true) H') (ht : ∀ p ∈ W.tabs, H p.1 = some (.tbl #[])) (ho : ∀ a ps, H a = some (.tbl ps) → ∃ q, (a, q) ∈ W.tabs) : spN W m [.ref a] H Q E := by
  let c : Cf := ⟨fun _ => 0, [], G, H, fun _ => none, W.tabs⟩
  have ok : Ok W c := ⟨hG, fun b o e => (by cases e), fun n x e => (by simp [c] at e), fun n m l => (by obtain ⟨x, hx⟩ := l; simp [c] at hx), fun n x e => (by simp [c] at e), rfl, nG, ho, fun p hp => ⟨_, ht p hp, True.intro, fun pos cv e => (by simp [PySem.codeAmong] at e)⟩⟩
  refine ⟨c, [.lst (ns.map D.int)], rfl, ok, .cons (.lst hs (zwg ns)) .nil, ?_⟩
  show Wp W (Dp W) (m [.lst (ns.map D.int)] []) c Q E0'
  rw [e]
  intro v c' e' s' ok' r'
  cases r'
  exact q c'.H
theorem zzy {W : Wd} {m : List D → Store → Res D} (hm : ∀ ns : List Int, ns.length ≤ 63 → ∃ μ, m [.lst (ns.map D.int)] [] = .ok (.bl true) μ) {vs : List V} {H : Hp} {Q : VK} {E : XK} (h : Cs.spLaw W.K vs H Q E) (ht : ∀ p ∈ W.tabs, H p.1 = some (.tbl #[])) (ho : ∀ a ps, H a = some (.tbl ps) → ∃ q, (a, q) ∈ W.tabs) : spN W m vs H Q E := by
  obtain ⟨a, ns, rfl, hs, hl, q⟩ := h
  obtain ⟨μ, e⟩ := hm ns hl
  rcases hs with hr | hk
  · have at_ : ∀ b o, (if b = a then H a else none) = some o → b = a ∧ H a = some o := fun b o e => by
      by_cases hb : b = a
      · rw [if_pos hb] at e; exact ⟨hb, e⟩
      · rw [if_neg hb] at e; cases e
    refine ztq (G := fun b => if b = a then H a else none) e (fun b o e => ?_) (fun b ps e => ?_) (.inl ?_) q ht ho
    · obtain ⟨rfl, h⟩ := at_ b o e; exact h
    · obtain ⟨_, h⟩ := at_ b _ e
      rcases hr with z | ⟨o, z⟩
      · rw [z] at h; cases h
      · rw [z] at h; cases h
    · rcases hr with z | ⟨o, z⟩
      · exact .inl ((if_pos rfl).trans z)
      · exact .inr ⟨o, (if_pos rfl).trans z⟩
  · exact ztq (G := fun _ => none) e (fun b o e => by cases e) (fun b ps e => by cases e) (.inr hk) q ht ho
def WrE (K : PySem.W.Frag) (a : Addr) : List (Str × Int) → Prop
  | [] => True
  | (k, i) :: r => (∃ t, PySem.W.nsIn K a k = some (some (.int i t))) ∧ WrE K a r
theorem zx0 {K : PySem.W.Frag} {a : Addr} : ∀ {tab : List (Str × Int)}, WrE K a tab → ∀ k i, lookS tab k = some i → ∃ t, PySem.W.nsIn K a k = some (some (.int i t))
  | [], _, _, _, e => by cases e
  | (k0, i0) :: r, h, k, i, e => by
    unfold lookS at e
    by_cases z : k0 = k
    · rw [if_pos z] at e
      cases e
      rw [← z]
      exact h.1
    · rw [if_neg z] at e
      exact zx0 h.2 k i e
theorem zx1 {K : PySem.W.Frag} {w : World} {a : Addr} {es : Array DictEntry} {n : Nat} {tab : List (Str × Int)} (h2 : K.lookup a = some ⟨.type "dict", none, .dict es n, #[]⟩) (h3 : PySem.W.KeysLit w.params es.toList) (h4 : WrE K a tab) : WrD K w a tab :=
  ⟨fun k i e => by
    obtain ⟨t, q⟩ := zx0 h4 k i e
    exact ⟨es, n, _, h2, h3, q, ⟨t, rfl⟩⟩⟩
def zur (K : PySem.W.Frag) (C : Addr) : Prop := ∃ nm q N bs bm sn sub ab col dd k0 k1 k2 k3 k5, K.lookup C = some (excClassObj nm q C N bs bm true sn sub ab col dd k0 k1 k2 k3 k5 "ValueError.__new__") ∧ PySem.HandSPX.refsVE bm = true
end Mi
namespace Mi
open PySem PySem.Spec L2 LamX PyProof.Rows
section
variable {X : Cx} {pins : List (Addr × Obj)} {σ : L2.St} {H : Hp} {s : Shared}
abbrev gotCx (X : Cx) (s : Shared) (H : Hp) (Ng : List Str) (qg : Str) (sg : Scope) (g : Addr) (cdg : Value) : Cx := cxOf C8.CX0 X.prog X.w X.K X.mg X.base Ng qg sg g cdg X.A X.stack s H C8.E0
abbrev lamO (X : Cx) (params : Arguments) (body : Expr) (scope : Scope) (pm : Value) (c' : Addr) (ctv : Value) : Obj := PySem.W.kla_obj "<lambda>" (X.env.qual ++ "<lambda>") params body scope (cloFrom X.env.cells scope.names []) pm c' ctv
def ExtL (P : Addr) (H H1 : Hp) : Prop := (∃ ps, H P = some (.tbl ps)) ∧ (∃ ps, H1 P = some (.tbl ps)) ∧ ∃ c' q, H1 c' = some (CodeO c' q) ∧ (H c' = none ∨ H c' = some (CodeO c' q)) ∧ ∀ b, b ≠ P → b ≠ c' → H1 b = H b
theorem zab8 {T : List (Addr × Str)} {c P : Addr} {params : Arguments} {body : Expr} {scope : Scope} {pos : Pos} {E Q : Value → Shared → Prop} (I : Inv X pins σ H s) (TB : TabB X.base X.mg c P) (code : X.env.code = .ref c)
    (mem : (P, X.env.qual ++ "<lambda>") ∈ T) (uniq : ∀ p ∈ T, p.1 = P → p.2 = X.env.qual ++ "<lambda>") (hT : Tabs T H) (nodef : defaultsOf params X.env = ([], [])) (free : ∀ y ∈ scope.names, y.2 = .free → ∃ c, X.env.cells.lookup y.1 = some c)
    (k : ∀ (f c' : Addr) (pm ctv : Value) (H1 : Hp) (s' : Shared), Inv X pins σ H1 s' → ExtL P H H1 → Tabs T H1 → s'.heap.get? f = some (lamO X params body scope pm c' ctv) → H1 f = none → f ∉ frs X.stack → H1 c' = some (CodeO c' (X.env.qual ++ "<lambda>")) → Q (.ref f) s') :
    wpAny (model X.prog X.w) X.A (eval (.Lambda params body scope pos) X.env) Q E s := by
  obtain ⟨ps, tP, triples, known⟩ := hT _ mem
  have heapP : s.heap.get? P = some { cls := .none, data := .fields ps } := I.hok P _ tP
  have builtP : s.heap.BuiltinsAt X.mg P := TB.bm.keeps I.bk
  have offStack : ∀ f, s.heap.objs.size ≤ f → f ∉ frs X.stack := by
    intro f big m
    rcases List.mem_cons.mp (I.stkSub _ m) with rfl | m
    · exact absurd I.lt (Nat.not_lt_of_le big)
    · exact I.nofs big m
  refine PySem.W.kla_eval nodef ?_
  rcases found : codeAmong pos ps.toList with _ | cv
  · refine PySem.W.kla_makeFunction (mg := X.mg) (c := c) (P := P) (ps := ps) (closure_ok free) I.ok.glob (I.mod.glob.keeps I.bk) code (TB.code.keeps I.bk) heapP triples found TB.gP builtP ?_
    rintro c' ctv h' tk keeps ge lt ⟨c2, oc, vs, t, same2, there, isF, named⟩ tab'
    cases same2
    have big : s.heap.objs.size ≤ h'.objs.size := Nat.le_trans ge (Nat.le_of_lt lt)
    have newC : H c' = none := I.hok.fresh ge
    have neP : c' ≠ P := fun z => by rw [z, tP] at newC; cases newC
    have J := inv_table (t' := tk) (more := #[rawInt pos.line, rawInt pos.col, .ref c']) (q := X.env.qual ++ "<lambda>") (h' := h'.push (lamO X params body scope ((X.mg "__name__").getD .none) c' ctv)) I tP (fun b o nb e => Heap.get?_push_of_some _ (keeps b o nb e)) (Heap.get?_push_of_some _ tab') ge ⟨oc, vs, t, Heap.get?_push_of_some _ there, isF, named⟩
    have listed : (ps ++ #[rawInt pos.line, rawInt pos.col, .ref c']).toList = ps.toList ++ [rawInt pos.line, rawInt pos.col, .ref c'] := by simp
    have other : ∀ b, b ≠ P → b ≠ c' → upd (upd H P (.tbl (ps ++ #[rawInt pos.line, rawInt pos.col, .ref c']))) c' (CodeO c' (X.env.qual ++ "<lambda>")) b = H b := fun b n1 n2 => by rw [upd_ne n2, upd_ne n1]
    have atP : upd (upd H P (.tbl (ps ++ #[rawInt pos.line, rawInt pos.col, .ref c']))) c' (CodeO c' (X.env.qual ++ "<lambda>")) P = some (.tbl (ps ++ #[rawInt pos.line, rawInt pos.col, .ref c'])) := by rw [upd_ne neP.symm, upd_same]
    have old : ∀ b q, H b = some (CodeO b q) → upd (upd H P (.tbl (ps ++ #[rawInt pos.line, rawInt pos.col, .ref c']))) c' (CodeO c' (X.env.qual ++ "<lambda>")) b = some (CodeO b q) := fun b q e => by
      rw [other b (fun z => by rw [z, tP] at e; exact codeO_ne _ (Option.some.inj e).symm) (fun z => by rw [z, newC] at e; cases e)]; exact e
    refine k h'.objs.size c' _ ctv _ _ J ⟨⟨_, tP⟩, ⟨_, atP⟩, c', _, upd_same, .inl newC, other⟩ (fun p hp => ?_) (Heap.get?_push_size _ rfl) ?_ (offStack _ big) upd_same
    · by_cases hb : p.1 = P
      · rw [uniq p hp hb, hb]
        refine ⟨_, atP, by rw [listed]; exact PySem.TriplesOk_snoc _ _ _ _ triples, ?_⟩
        intro p' cv e
        rw [listed] at e
        rcases among_app _ triples e with e | rfl
        · obtain ⟨c0, e1, e2⟩ := known p' cv e
          exact ⟨c0, e1, old _ _ e2⟩
        · exact ⟨c', rfl, upd_same⟩
      · obtain ⟨qs, a1, a2, a3⟩ := hT p hp
        refine ⟨qs, by rw [other _ hb (fun z => by rw [z, newC] at a1; cases a1)]; exact a1, a2, ?_⟩
        intro p' cv e
        obtain ⟨c0, e1, e2⟩ := a3 p' cv e
        exact ⟨c0, e1, old _ _ e2⟩
    · rw [other _ (Nat.ne_of_gt (Nat.lt_of_lt_of_le (Heap.lt_size heapP) big)) (Nat.ne_of_gt lt)]
      exact I.hok.fresh big
  · obtain ⟨c', rfl, isC⟩ := known pos cv found
    refine PySem.W.kla_makeFunctionHit (mg := X.mg) (c := c) (P := P) (ps := ps) (closure_ok free) I.ok.glob (I.mod.glob.keeps I.bk) code (TB.code.keeps I.bk) heapP triples found builtP ?_
    intro ctv h' tk keeps big
    have J : Inv X pins σ H { s with heap := h'.push (lamO X params body scope ((X.mg "__name__").getD .none) c' ctv), toks := tk } := I.kept fun b o e => Heap.get?_push_of_some _ (keeps b o e)
    exact k h'.objs.size c' _ ctv H _ J ⟨⟨_, tP⟩, ⟨_, tP⟩, c', _, isC, .inr isC, fun _ _ _ => rfl⟩ hT (Heap.get?_push_size _ rfl) (I.hok.fresh big) (offStack _ big) isC
theorem zac3 {Ng : List Str} {qg a : Str} {sg scope : Scope} {g f c' : Addr} {cdg pm ctv : Value} {params : Arguments} {body : Expr} {k i : Nat} {pn : List (Addr × Obj)} {xe : Value → Shared → Prop} {W : WX} {t : XK → TE} {p1 p2 : Pos}
    (I : Inv X pins σ H s) (L : LamS X.env.scope scope) (there : s.heap.get? f = some (lamO X params body scope pm c' ctv)) (off : H f = none) (nofr : f ∉ frs X.stack)
    (nopar : bindArgs (PySem.W.kla_fn "<lambda>" (X.env.qual ++ "<lambda>") params body scope (cloFrom X.env.cells scope.names []) pm (.ref c') ctv) ⟨[], []⟩ = pure [])
    (tk : Takes ((gotCx X s H Ng qg sg g cdg).tr pn xe) W) (room : Room (k + 1) (X.A.deeper (envOfC qg sg s.heap.objs.size g cdg)))
    (inner : ∀ (A : Around) (out : List PySem.Env) (s : Shared) (H : Hp) (E : XK), Room k (A.deeper (lamEnv X scope s.heap.objs.size f c')) → PE (lamCx X A out s H E scope f c') body (t E))
    (atN : Ng[i]? = some a) (vis : Vis sg a) (d1 : (a == ("__debug__" : Str)) = false) (d2 : (a == ("__classdict__" : Str)) = false) :
    PE ((gotCx X s H Ng qg sg g cdg).tr pn xe) (.Call (.Name a p1) [] [] p2) (fun σ2 H2 Q => σ2[i]? = some (some (.ref f)) ∧ H2 c' = some (CodeO c' (X.env.qual ++ "<lambda>")) ∧ t (WE W σ2) σ H2 Q) := by
  constructor
  rintro pins2 s2 σ2 H2 Q I2 ⟨h1, h2, h3⟩
  have name := (pe_var (pos := p1) (i := i) atN vis d1 d2).run pins2 s2 σ2 H2 (fun v H3 => v = .ref f ∧ H3 = H2) I2 ⟨.ref f, h1, rfl, rfl⟩
  refine wpAny_Call_Name_kw (thn name ?_)
  rintro u s3 ⟨v, H3, I3, ru, rfl, rfl⟩
  obtain rfl : u = Value.ref f := ru
  have still := I3.base.keep f _ there off nofr (fun z => nomatch (show f ∈ ([] : List Addr) from z))
  refine PySem.W.callWith_F0 ⟨_, _, _, _, still⟩ (wpAny_call ?_)
  have grew : Un (frs X.stack) [] H H3 s.heap s3.heap := I3.base
  obtain ⟨⟨oc, vs, tok, y1, y2, y3⟩, _, _⟩ := I3.hok c' _ h2
  have goes : codeAny (model X.prog X.w) (X.A.deeper (envOfC qg sg s.heap.objs.size g cdg)) (.call (.ref f) ⟨[], []⟩) (CR (L2.CX X.prog X.w) (envOfC qg sg s.heap.objs.size g cdg :: X.stack) X.prog X.w H3 s3 Q (WE W σ2)) s3 := by
    refine PySem.W.kla_callFunE room.depth still rfl L.co L.gen rfl ⟨c', oc, vs, tok, rfl, y1, y2, y3⟩ ?_
    rw [nopar]
    refine wpAny_pure (wpAny_newFunctionEnv (fun y hy => (L.own y hy).2) (fun y hy => nomatch hy) ?_ L.kind)
    intro h₁ ns sb
    refine ⟨I3.nolimit.fresh _ sb, ?_⟩
    have kept : ∀ b o, s3.heap.get? b = some o → h₁.get? b = some o := fun b o e => sb.extBut b o (Nat.ne_of_lt (Heap.lt_size e)) (Heap.get?_push_of_some _ e)
    have start := lam_start2 (A := X.A.deeper (envOfC qg sg s.heap.objs.size g cdg)) (outer := envOfC qg sg s.heap.objs.size g cdg :: X.stack) (E := WE W σ2) (f := f) (c' := c') (tk := s3.toks + ([] : List (Str × Value)).length) I L I3.env0 room.hd grew ns kept
    refine PySem.W.kla_codeExpr (wpAny_mono ((inner _ _ s3 H3 (WE W σ2) (room.deeper _)).run [] _ _ H3 Q start h3) ?_ fun _ _ z => z)
    rintro v s4 ⟨w4, H4, I4, r4, q4⟩
    exact ⟨w4, H4, I4.os, I4.bare, I4.base, I4.hok, r4, q4⟩
  refine codeAny_mono goes ?_
  intro r s4 hq
  cases r with
  | error e => exact passAt tk σ2 pins2 H3 s3 e s4 I3 hq
  | ok fl => cases fl with
    | ret u => exact I3.after hq
    | next => exact hq.elim
    | brk => exact hq.elim
    | cont => exact hq.elim
def tLamX (T : List (Addr × Str)) (P : Addr) (TT : (XK → Hp → VK → Prop) → Hp → VK → Prop) (t : XK → TE) : TE := fun σ H Q => Tabs T H ∧ ∀ H1, ExtL P H H1 → Tabs T H1 → TT (fun E H' Q' => t E σ H' Q') H1 Q
def zaaw (X : Cx) (Ng : List Str) (x : Str) (sg : Scope) (g : Addr) (cdg : Value) (bg : List Stmt) (a q : Str) (TT : (XK → Hp → VK → Prop) → Hp → VK → Prop) : Prop :=
  ∀ (f c' : Addr) (s : Shared) (H : Hp) (Q : VK) (tl : XK → Hp → VK → Prop),
    (∀ (W : WX) (pn : List (Addr × Obj)) (xe : Value → Shared → Prop) (p1 p2 : Pos), Takes ((gotCx X s H Ng x sg g cdg).tr pn xe) W →
      PE ((gotCx X s H Ng x sg g cdg).tr pn xe) (.Call (.Name a p1) [] [] p2) (fun σ2 H2 Q => σ2[0]? = some (some (.ref f)) ∧ H2 c' = some (CodeO c' q) ∧ tl (WE W σ2) H2 Q)) →
    H c' = some (CodeO c' q) → TT tl H Q →
    ∃ t, PSs (gotCx X s H Ng x sg g cdg).nox bg t ∧ t { nx := fun _ H' => Q .non H', rt := Q } (L2.start Ng [.ref f]) H
theorem zac1 {T : List (Addr × Str)} {TT : (XK → Hp → VK → Prop) → Hp → VK → Prop} {x a : Str} {g c P : Addr} {k : Nat} {pg : Arguments} {bg : List Stmt} {sg scope : Scope} {dV kV doc pm cdv ct oc : Value} {an od : Option Addr} {osl : Array (Option Value)} {Ng : List Str}
    {params : Arguments} {body : Expr} {t : XK → TE} {p lpos pos : Pos} (gl : Gl X x) (at_ : X.mg x = some (.ref g)) (kp : PySem.W.keepIn X.K (.ref g) = true)
    (lk : X.K.lookup g = some ⟨oc, od, .func (PySem.W.fnOf x x pg bg sg dV kV doc pm an cdv ct), osl⟩) (cd : PySem.W.codeIn X.K cdv x = true) (bd : L2.Binds X.K (PySem.W.fnOf x x pg bg sg dV kV doc pm an cdv ct) [a] []) (Sg : FnScope Ng [a] sg) (n0 : Ng[0]? = some a) (va : Vis sg a)
    (gives : zaaw X Ng x sg g cdv bg a (X.env.qual ++ "<lambda>") TT)
    (TB : TabB X.base X.mg c P) (code : X.env.code = .ref c) (mem : (P, X.env.qual ++ "<lambda>") ∈ T) (uniq : ∀ p ∈ T, p.1 = P → p.2 = X.env.qual ++ "<lambda>") (room : Room (k + 2) X.A) (L : LamS X.env.scope scope) (nodef : defaultsOf params X.env = ([], []))
    (nopar : ∀ (q : Str) (cl : List (Str × Addr)) (pm cv ctv : Value), bindArgs (PySem.W.kla_fn "<lambda>" q params body scope cl pm cv ctv) ⟨[], []⟩ = pure [])
    (inner : ∀ (A : Around) (out : List PySem.Env) (s : Shared) (H : Hp) (E : XK) (f c' : Addr), Room k (A.deeper (lamEnv X scope s.heap.objs.size f c')) → PE (lamCx X A out s H E scope f c') body (t E))
    (dx : (x == ("__debug__" : Str)) = false) (d1 : (a == ("__debug__" : Str)) = false) (d2 : (a == ("__classdict__" : Str)) = false) :
    PE X (.Call (.Name x p) [.Lambda params body scope lpos] [] pos) (tLamX T P TT t) := by
  constructor
  rintro pins s σ H Q I ⟨hT, h⟩
  refine wpAny_Call_Name_kw (ld_glob I gl at_ ?_ dx)
  refine PySem.W.callWith_K (h₀ := X.base) I.ok.mod.kin kp ?_ (by rfl) (by rfl)
  show wpAny _ _ (spliced ((false, eval (.Lambda params body scope lpos) X.env) :: backTo pos (starEach [] X.env))) _ _ s
  refine Calls.spliced_cons (zab8 I TB code mem uniq hT nodef (L.has I.ok) ?_)
  intro f c' pm' ctv H1 s' I1 eN T1 hf hfn hfr hco
  refine Calls.spliced_nil ⟨I1.kIn, wpAny_call ?_⟩
  have goes : codeAny (model X.prog X.w) X.A (.call (.ref g) ⟨[.ref f], []⟩) (CR C8.CX0 X.stack X.prog X.w H1 s' Q C8.E0) s' := by
    refine run_ofS (N := Ng) (ps := [a]) (us := [.ref f]) (vs := [.ref f]) lk cd Sg room I1.env0 (bd s' [.ref f] I1.kIn rfl) (.cons rfl .nil) rfl ?_
    intro room'
    have act := fun (W : WX) (pn : List (Addr × Obj)) (xe : Value → Shared → Prop) (p1 p2 : Pos) (tk : Takes ((gotCx X s' H1 Ng x sg g cdv).tr pn xe) W) =>
      zac3 (i := 0) (p1 := p1) (p2 := p2) I1 L hf hfn hfr (nopar _ _ _ _ _) tk room' (fun A out s H E r2 => inner A out s H E f c' r2) n0 va d1 d2
    obtain ⟨t', z1, z2⟩ := gives f c' s' H1 Q (fun E H' Q' => t E σ H' Q') act hco (h H1 eN T1)
    exact ⟨t', z1.nox, z2⟩
  refine codeAny_mono goes ?_
  intro r s2 hq
  cases r with
  | error e => exact (show False from hq).elim
  | ok fl => cases fl with
    | ret u => exact I1.after hq
    | next => exact hq.elim
    | brk => exact hq.elim
    | cont => exact hq.elim
end
section
variable {W : Wd} {E : XK} {X : Cx} {c : Cf} {e : Expr} {st : Stmt}
def mLamC (w : Store → Res D) : ME := fun _ μ => w μ
def mFnL (N : Nat) (body : MS) : Store → Res D := fun μ => match body μ.length (List.replicate N none) μ with
  | .nx _ μ => .ok .non μ
  | .rt d μ => .ok d μ
  | _ => .bad
def mLam (m : (Store → Res D) → Store → Res D) (el : ME) : ME := fun ρ μ => m (fun μ' => el ρ μ') μ
def LamR (W : Wd) (c : Cf) (w : Store → Res D) (tl : XK → Hp → VK → Prop) : Prop := ∀ c' E Q, Step c c' → Ok W c' → Wp W (Dp W) (w c'.μ) c' Q E → tl E c'.H Q
def TTm (W : Wd) (m : (Store → Res D) → Store → Res D) : (XK → Hp → VK → Prop) → Hp → VK → Prop := fun tl H Q => ∃ (c : Cf) (w : Store → Res D), c.H = H ∧ Ok W c ∧ LamR W c w tl ∧ Wp W (Dp W) (m w c.μ) c Q E0'
theorem zacs (ok : Ok W c) : Tabs W.tabs c.H := fun p hp => by
  obtain ⟨ps, h1, h2, h3⟩ := ok.tb.t p (by rw [ok.tb.w]; exact hp)
  exact ⟨ps, h1, h2, h3⟩
theorem zae1 {P : Addr} {H1 : Hp} (ok : Ok W c) (x : ExtL P c.H H1) (T : Tabs W.tabs H1) : Ok W (c.to c.G H1) ∧ Step c (c.to c.G H1) := by
  obtain ⟨⟨ps, tP⟩, ⟨ps1, tP1⟩, c', q, h1, h2, h3⟩ := x
  have keep : ∀ b o, c.H b = some o → (∀ ps, o ≠ .tbl ps) → H1 b = some o := fun b o e n => by
    have nP : b ≠ P := fun z => by rw [z, tP] at e; exact n _ (Option.some.inj e).symm
    by_cases z : b = c'
    · rcases h2 with h2 | h2
      · rw [z, h2] at e; cases e
      · rw [z] at e ⊢
        rw [h2] at e; cases e
        exact h1
    · rw [h3 b nP z]; exact e
  have tb : ∀ b ps, H1 b = some (.tbl ps) → ∃ ps', c.H b = some (.tbl ps') := fun b ps e => by
    by_cases nP : b = P
    · rw [nP]; exact ⟨_, tP⟩
    · by_cases z : b = c'
      · rw [z, h1] at e
        exact absurd (Option.some.inj e) (codeO_ne _)
      · rw [h3 b nP z] at e; exact ⟨_, e⟩
  have sm : Same c.G H1 := fun b o e => keep b o (ok.s b o e) fun ps z => ok.tb.n b ps (by rw [e, z])
  refine ⟨⟨sm, fun a o e => ?_, fun n y e => ?_, ok.inj, ok.lc, ok.tb.w, ok.tb.n, fun a ps e => ?_, fun p hp => ?_⟩, ⟨⟨fun b o nm e => keep b o e fun ps z => nm (.inr ⟨ps, by rw [e, z]⟩), Same.refl _, sm, fun _ _ => rfl, fun b hb z => ?_, fun _ _ h => h, tb⟩, Nat.le_refl _, fun _ _ => rfl, fun _ _ k => k, fun n hn k => absurd (zat k) (Nat.not_lt_of_le hn), rfl, rfl⟩⟩
  · obtain ⟨h1, od, u, rfl⟩ := ok.lk a o e
    exact ⟨keep a _ h1 (fun ps z => by cases z), od, u, rfl⟩
  · obtain ⟨h1, o, h2, h3⟩ := ok.at' n y e
    exact ⟨h1, o, keep _ _ h2 h3.noT, h3.mono (le_to (Same.refl _)) trivial⟩
  · obtain ⟨ps', e'⟩ := tb a ps e
    exact ok.tb.o a ps' e'
  · exact T p (by rw [← ok.tb.w]; exact hp)
  · have z' : H1 b = none := z
    cases e : c.H b with
    | none => exact hb e
    | some o =>
      by_cases t : ∃ ps, o = .tbl ps
      · obtain ⟨ps, rfl⟩ := t
        obtain ⟨q, m⟩ := ok.tb.o b ps e
        obtain ⟨ps', h, _⟩ := T _ (by rw [← ok.tb.w]; exact m)
        have h : H1 b = _ := h
        rw [z'] at h; cases h
      · have := keep b o e fun ps z => t ⟨ps, z⟩
        rw [z'] at this; cases this
theorem zae8 {P : Addr} {m : (Store → Res D) → Store → Res D} {el : ME} (h : PE X e (tLamX W.tabs P (TTm W m) fun E => tE W E el)) (hE : ∀ w μ x μ', m w μ ≠ .exc x μ') : PE X e (tE W E (mLam m el)) := zav h fun σ H Q ⟨ρ, c, hH, ok, env, w⟩ => by
  subst hH
  refine ⟨zacs ok, fun H1 x T => ?_⟩
  obtain ⟨ok1, s1⟩ := zae1 ok x T
  refine ⟨c.to c.G H1, fun μ' => el ρ μ', rfl, ok1, fun c' E' Q' st' ok' w' => ⟨ρ, c', rfl, ok', env.mono (s1.le.trans st'.le), w'⟩, ?_⟩
  have w2 : Wp W (Dp W) (m (fun μ' => el ρ μ') c.μ) c Q E := w
  show Wp W (Dp W) (m (fun μ' => el ρ μ') c.μ) (c.to c.G H1) Q E0'
  cases em : m (fun μ' => el ρ μ') c.μ with
  | bad => rw [em] at w2; exact w2
  | exc x μ' => exact absurd em (hE _ _ _ _)
  | ok d μ' => rw [em] at w2; exact w2.from s1
theorem zadh {N : Nat} {body : MS} : ∀ μ x μ', mFnL N body μ ≠ .exc x μ' := fun μ x μ' => by
  unfold mFnL
  cases body μ.length (List.replicate N none) μ <;> exact fun z => by cases z
end
end Mi
namespace Mi
open PySem PySem.Spec L2 LamX PyProof.Rows
section
variable {W : Wd} {X : Cx}
def tGot (f c' : Addr) (q : Str) (tl : XK → Hp → VK → Prop) (Ef : L2.St → XK) : TE := fun σ H Q => σ[0]? = some (some (.ref f)) ∧ H c' = some (CodeO c' q) ∧ tl (Ef σ) H Q
def mTold (T : String) (N i1 i2 ie j k : Nat) (w : Store → Res D) (mr : MS) : Store → Res D := mFnL N (mSeq (mAsg (mTup (mCons (mC .non) (mCons (mC .non) mNil))) (mgTup 2 (zbp (zam i1) (zbp (zam i2) mgNil)))) (mSeq (mTryA T ie k j (mLamC w)) mr))
theorem zxx {Ng : List Str} {x a q : Str} {sg : Scope} {g t : Addr} {cdg : Value} {S1 S2 : Stmt} {rest : List Stmt} {T : String} {i1 i2 ie j k : Nat} {mr : MS} (hK : X.K = W.K) (n1 : i1 ≠ 0) (n2 : i2 ≠ 0) (hN : 0 < Ng.length) (hik : ie ≠ k) (hi : ie < Ng.length)
    (xm : ∀ C g, W.cm C = some g → PySem.W.exmOne W.K (.ref g) (.ref t) = some (isaC C T))
    (h1 : ∀ (s : Shared) (H : Hp), PS (gotCx X s H Ng x sg g cdg).nox S1 (tAsg (tTup (tCons (tC .non) (tCons (tC .non) tNil))) (gTup X.K 2 (gCons (gName i1) (gCons (gName i2) gNil)))))
    (h2 : ∀ (f c' : Addr) (s : Shared) (H : Hp) (tl : XK → Hp → VK → Prop), (∀ (Wx : WX) (pn : List (Addr × Obj)) (xe : Value → Shared → Prop) (p1 p2 : Pos), Takes ((gotCx X s H Ng x sg g cdg).tr pn xe) Wx → PE ((gotCx X s H Ng x sg g cdg).tr pn xe) (.Call (.Name a p1) [] [] p2) (tGot f c' q tl (WE Wx))) →
      PS (gotCx X s H Ng x sg g cdg).nox S2 (fun D σ H => tAsg (tGot f c' q tl (WE (Cs.wKeep X.K (.ref t) ie (fun _ _ _ => tAsg (tVar ie) (gName k)) (fun _ _ _ _ => False) D))) (gName j) D σ H))
    (h3 : ∀ (s : Shared) (H : Hp), PSs (gotCx X s H Ng x sg g cdg).nox rest (tS W E0' mr)) :
    zaaw X Ng x sg g cdg (S1 :: S2 :: rest) a q (TTm W fun w => mTold T Ng.length i1 i2 ie j k w mr) := by
  rintro f c' s H Q tl act hc ⟨c, w, rfl, ok, lam, wp⟩
  refine ⟨_, pss_cons (h1 s c.H) (pss_cons (h2 f c' s c.H tl act) (h3 s c.H)), ?_⟩
  have z2 : 2 ≤ sizeLine := by decide
  refine ⟨z2, fun p hp => ⟨p, [.non, .non], rfl, .inl (.inl upd_same), rfl, .non, [.non], rfl, .non, [], rfl, rfl, ?_⟩⟩
  obtain ⟨ok1, s1⟩ := zd4 (o := .tup [.non, .non]) ok hp
  have env0 : EnvR W c (L2.start Ng [.ref f]) (List.replicate Ng.length none) := by
    refine ⟨by simp [L2.start]; omega, fun i d e => ?_⟩
    rw [List.getElem?_replicate] at e
    split at e <;> cases e
  have env1 := ((env0.mono s1.le).set i1 (.non (W := W))).set i2 (.non (W := W))
  have body : ∀ (μ : Store), (mSeq (mAsg (mTup (mCons (mC .non) (mCons (mC .non) mNil))) (mgTup 2 (zbp (zam i1) (zbp (zam i2) mgNil)))) (mSeq (mTryA T ie k j (mLamC w)) mr)) c.μ.length (List.replicate Ng.length none) μ
      = (mSeq (mTryA T ie k j (mLamC w)) mr) c.μ.length (((List.replicate Ng.length none).set i1 (some .non)).set i2 (some .non)) μ := fun μ => by
    simp [mSeq, mAsg, mTup, mCons, mC, mNil, Res.bind, Res.st, mgTup, zbp, zam, mgNil, z2]
  have fin : WpS W ((mSeq (mTryA T ie k j (mLamC w)) mr) c.μ.length (((List.replicate Ng.length none).set i1 (some .non)).set i2 (some .non)) c.μ) c c { nx := fun _ H' => Q .non H', rt := Q, bk := fun _ _ => False, ct := fun _ _ => False } E0' := by
    have w1 : Wp W (Dp W) (mTold T Ng.length i1 i2 ie j k w mr c.μ) c Q E0' := wp
    unfold mTold mFnL at w1
    rw [body] at w1
    cases eb : (mSeq (mTryA T ie k j (mLamC w)) mr) c.μ.length (((List.replicate Ng.length none).set i1 (some .non)).set i2 (some .non)) c.μ with
    | nx ρ μ => rw [eb] at w1; exact fun σ c' e s _ ok' _ => w1 .non c' e s ok' .non
    | rt d μ => rw [eb] at w1; exact w1
    | bk ρ μ => rw [eb] at w1; exact w1.elim
    | ct ρ μ => rw [eb] at w1; exact w1.elim
    | exc x μ => rw [eb] at w1; exact w1.elim
    | bad => rw [eb] at w1; exact w1.elim
  have hl : ie < (((List.replicate Ng.length none).set i1 (some .non)).set i2 (some .non) : Mi.Env).length := by simpa using hi
  have s0 : ((L2.start Ng [V.ref f]).set i1 (some .non)).set i2 (some .non) = ((L2.start Ng [V.ref f]).set i1 (some .non)).set i2 (some .non) := rfl
  refine ⟨?_, ?_, ?_⟩
  · rw [List.getElem?_set_ne n2, List.getElem?_set_ne n1]
    simp [L2.start]
  · rw [upd_ne (fun z => by rw [z, hp] at hc; cases hc)]; exact hc
  have next : ∀ ρ μ, WpS W (mr c.μ.length ρ μ) c c { nx := fun _ H' => Q .non H', rt := Q, bk := fun _ _ => False, ct := fun _ _ => False } E0' → ∀ σ c2, c2.μ = μ → Step c c2 → Ok W c2 → EnvR W c2 σ ρ → tS W E0' mr { nx := fun _ H' => Q .non H', rt := Q } σ c2.H := fun ρ μ h σ c2 e s2 ok2 env => ⟨c, c, ρ, c2, rfl, ok2, s2, s2.le, env, by rw [e]; exact h⟩
  have run : Wp W (Dp W) (w c.μ) (c.to (upd c.G p (.tup [.non, .non])) (upd c.H p (.tup [.non, .non]))) (fun v H2 => tS W E0' mr { nx := fun _ H' => Q .non H', rt := Q } ((((L2.start Ng [V.ref f]).set i1 (some .non)).set i2 (some .non)).set j (some v)) H2)
      (WE (Cs.wKeep X.K (.ref t) ie (fun _ _ _ => tAsg (tVar ie) (gName k)) (fun _ _ _ _ => False) { nx := tS W E0' mr { nx := fun _ H' => Q .non H', rt := Q }, rt := Q }) (((L2.start Ng [V.ref f]).set i1 (some .non)).set i2 (some .non))) := by
    unfold mSeq mTryA at fin
    rw [if_pos hl] at fin
    have eL : mLamC w (((List.replicate Ng.length none).set i1 (some .non)).set i2 (some .non)) c.μ = w c.μ := rfl
    rw [eL] at fin
    cases ew : w c.μ with
    | bad => rw [ew] at fin; exact fin.elim
    | ok d μ2 =>
      rw [ew] at fin
      intro v c2 e2 st2 ok2 r2
      exact next _ μ2 fin _ c2 e2 (s1.trans st2) ok2 ((env1.mono st2.le).set j r2)
    | exc y μ2 =>
      rw [ew] at fin
      intro u o c2 e2 st2 ok2 r2
      rw [hK]
      show Cs.wKeep W.K (.ref t) ie (fun _ _ _ => tAsg (tVar ie) (gName k)) (fun _ _ _ _ => False) _ u o _ c2.H
      refine keep_ok (E := E0') (c0 := c) (cs := c) (T := T) hik xm (s1.trans st2) (s1.le.trans st2.le) ok2 (env1.mono st2.le) r2 hl ?_
      have fin2 : WpS W (match (tryR T ie k (.exc y μ2) (fun d μ => ResS.nx ((((List.replicate Ng.length none).set i1 (some .non)).set i2 (some .non)).set j (some d)) μ) (((List.replicate Ng.length none).set i1 (some .non)).set i2 (some .non))) with
        | .nx ρ μ => mr c.μ.length ρ μ
        | r => r) c c { nx := fun _ H' => Q .non H', rt := Q, bk := fun _ _ => False, ct := fun _ _ => False } E0' := fin
      unfold tryR at fin2
      rw [e2]
      dsimp only at fin2
      by_cases hx : isaC y.C T = true
      · rw [if_pos hx] at fin2 ⊢
        intro σ c3 e3 s3 le3 ok3 env3
        exact next _ μ2 fin2 σ c3 e3 s3 ok3 env3
      · rw [if_neg hx] at fin2 ⊢
        exact fin2
  exact lam _ _ _ s1 ok1 run
end
end Mi
namespace Mi
open PySem PySem.Spec L2 LamX PyProof.Rows Cs
section
variable {P : Program} {w : World} {K : PySem.W.Frag} {mg mb : Str → Option Value} {base : Heap} {k : Nat} {f fa a c : Addr} {fd : FuncData} {N ps : List Str} {sp : Sp} {x qual : Str} {st : Stmt} {cs : List (Addr × Addr)} {s₁ : Shared} {vs : List Value} {ns : List Int}
structure FunC (K : PySem.W.Frag) (x qual : Str) (st : Stmt) (f : Addr) (fd : FuncData) (c : Addr) : Prop where
  ex : ∃ (oc : Value) (od : Option Addr) (kV doc pm : Value) (an : Option Addr) (ct : Value) (osl : Array (Option Value)),
    fd = PySem.W.fnOf x qual (defArgs st) (defBody st) (defScope st) .none kV doc pm an (.ref c) ct ∧ K.lookup f = some ⟨oc, od, .func fd, osl⟩ ∧ PySem.W.codeIn K (.ref c) qual = true
theorem zwq {oc : Value} {od an : Option Addr} {osl : Array (Option Value)} {kV doc pm ct : Value} (l : K.lookup f = some ⟨oc, od, .func (PySem.W.fnOf x qual (defArgs st) (defBody st) (defScope st) .none kV doc pm an (.ref c) ct), osl⟩) (h : PySem.W.codeIn K (.ref c) qual = true) : FunC K x qual st f (PySem.W.fnOf x qual (defArgs st) (defBody st) (defScope st) .none kV doc pm an (.ref c) ct) c := ⟨oc, od, kV, doc, pm, an, ct, osl, rfl, l, h⟩
theorem FunC.fn (F : FunC K x qual st f fd c) (k : PySem.W.keepIn K (.ref f) = true) : L2.Fun K x qual st f fd := by
  obtain ⟨oc, od, kV, doc, pm, an, ct, osl, e, l, h⟩ := F.ex
  exact ⟨⟨oc, od, kV, doc, pm, an, _, ct, osl, e, l, h⟩, k⟩
theorem okGC (F : FunC K x qual st f fd c) (S : FnScope N ps (defScope st)) (many : ∀ vs H Q E, sp vs H Q E → vs.length = ps.length)
    (inner : ∀ (A : Around) (out : List PySem.Env) (s : Shared) (H : Hp) (vs : List V) (Q : VK) (E : XK), A.guards = some [] → Room k (A.deeper (envOfC qual (defScope st) s.heap.objs.size f (.ref c))) → sp vs H Q E →
      ∃ t, PSs (cxOf CX0 P w K mg base N qual (defScope st) f (.ref c) A out s H E).nox (defBody st) t ∧ t { nx := fun _ H' => Q .non H', rt := Q } (L2.start N vs) H) : FnG P w K mg base CX0 (k + 1) f fd ps sp := by
  obtain ⟨oc, od, kV, doc, pm, an, ct, osl, e, lk, hcd⟩ := F.ex
  subst e
  refine ⟨many, fun A out s H ar us vs Q E hg room e0 hb r hsp => ?_⟩
  have was : ∀ b o, base.get? b = some o → s.heap.get? b = some o := fun b o z => (e0.bs b o z).1
  have inK : K.In s.heap := e0.mod.kin.keeps was
  have kinds : ∀ y ∈ ps.zip us, (defScope st).names.lookup y.1 = some .local ∨ ((defScope st).names.lookup y.1 = some .cell ∧ ((cellsFrom (s.heap.objs.size + 1) (defScope st).names []).lookup y.1).isSome = true) := by
    rintro ⟨n, v⟩ hy
    exact (S.par n (List.of_mem_zip hy).1).imp id fun q => ⟨q, PySem.W.cellsFrom_some _ _ _ (.inl q)⟩
  refine codeAny_call_function room.depth (inK _ _ lk) rfl S.co S.gen rfl (PySem.W.codeRec_of inK hcd) (hb _ _ _ _ (wpAny_newFunctionEnv_cells S.kind kinds fun env he s1 x => ?_))
  subst he
  refine ⟨(e0.mod.nolimit.keeps was).keeps x.toInCall.keep, codeAny_func ?_⟩
  obtain ⟨t, ht, hq⟩ := inner A out s H vs Q E hg (room.deeper _) hsp
  have I0 := inv_start (CX := CX0) S room.hd e0 (many _ _ _ _ hsp) r x (E := E)
  refine wpAny_mono (ht.nox.run [] s1 (L2.start N vs) H _ I0 hq) (fun fl s' hs => ?_) fun e s' hs => hs
  cases fl with
  | ret u =>
    obtain ⟨v, σ', H', J, rv, q⟩ := hs
    exact ⟨v, H', J.os, J.bare, J.base, J.hok, rv, q⟩
  | next =>
    obtain ⟨σ', H', J, q⟩ := hs
    exact ⟨V.non, H', J.os, J.bare, J.base, J.hok, rfl, q⟩
  | brk => exact hs.choose_spec.choose_spec.2.elim
  | cont => exact hs.choose_spec.choose_spec.2.elim
structure Entry (cs : List (Addr × Addr)) (a : Addr) (H : Hp) : Prop where
  tab : ∀ p ∈ cs, H p.2 = some (.tbl #[])
  only : ∀ b o, H b = some o → (∃ p ∈ cs, p.2 = b) ∨ (b = a ∧ ∃ ob xs, o = .frz ob (.lst xs))
theorem lawT0 {H : Hp} (KX : K.In s₁.heap) (hns : s₁.heap.Ns mainGlobals mg) (hb : s₁.heap.Ns builtinsNs mb) (hbb : ∀ x : Str, x ≠ "__name__" → mb x = bootBuiltins x) (hlim : s₁.heap.NoLimit) (hg : s₁.gens = #[])
    (hT : ∀ p ∈ cs, s₁.heap.get? p.2 = some { cls := .none, data := .fields #[] }) (nT : ∀ p ∈ cs, K.lookup p.2 = none) (C : ∀ p ∈ cs, PySem.W.CodeHd s₁.heap p.1 p.2)
    (hbm : ∃ (bm : Addr) (ob : Obj), mg "__builtins__" = some (.ref bm) ∧ bm ≠ builtinsNs ∧ s₁.heap.get? bm = some ob ∧ ob.cls = .type "module" ∧ ob.dict = some builtinsNs ∧ ob.data = .plain)
    (ha : s₁.heap.get? a = some { cls := .type "list", data := .seq vs.toArray }) (hr : Room k callerA) (F : ∀ base : Heap, K.In base → base.Ns mainGlobals mg → (∀ p ∈ cs, TabB base mg p.1 p.2) → FnG P w K mg base CX0 k fa fd [x] sp) (hbind : ∀ (s : Shared) (u : Value), BindsTo s fd ⟨[u], []⟩ [(x, u)])
    (hO : Entry cs a H) (hsp : sp [.ref a] H (fun v _ => v = .bl true) fun _ _ _ => False) (hok : HOk P w H s₁.heap) (hK : H a ≠ none → K.lookup a = none) :
    codeAny (model P w) callerA (.call (.ref fa) ⟨[.ref a], []⟩) (zz0 s₁) s₁ := by
  -- what lies elsewhere is not tracked
  have free : ∀ {b : Addr} {o : Obj}, s₁.heap.get? b = some o → (∀ vs n, o.data ≠ .seq vs n) → o.data ≠ .fields #[] → H b = none := by
    intro b o e n1 n2
    cases q : H b with
    | none => rfl
    | some u =>
      rcases hO.only b u q with ⟨p, hp, rfl⟩ | ⟨rfl, _⟩
      · rw [hT p hp] at e; cases e; exact absurd rfl n2
      · rw [ha] at e; cases e; exact absurd rfl (n1 _ _)
  have freeD : ∀ {b : Addr} {o : Obj} {es : Array DictEntry} {ep : Nat}, s₁.heap.get? b = some o → o.data = .dict es ep → H b = none := fun e d => free e (fun _ _ z => by rw [d] at z; cases z) fun z => by rw [d] at z; cases z
  have stays : ∀ {b : Addr} {o : Obj}, s₁.heap.get? b = some o → H b = none → (hidT s₁.heap H).get? b = some o := fun e n => hidT_get e n
  have nsIn : ∀ {b : Addr} {m : Str → Option Value}, s₁.heap.Ns b m → (hidT s₁.heap H).Ns b m := by
    rintro b m ⟨o, es, ep, e, d, r⟩
    exact ⟨o, es, ep, stays e (freeD e d), d, r⟩
  have kin : K.In (hidT s₁.heap H) := fun b o e => by
    refine stays (KX b o e) ?_
    cases q : H b with
    | none => rfl
    | some u =>
      rcases hO.only b u q with ⟨p, hp, rfl⟩ | ⟨rfl, _⟩
      · rw [nT p hp] at e; cases e
      · rw [hK (by rw [q]; exact fun z => by cases z)] at e; cases e
  have tabs : ∀ p ∈ cs, TabB (hidT s₁.heap H) mg p.1 p.2 := by
    intro p hp
    refine ⟨?_, ?_, fun z => ?_⟩
    · obtain ⟨o, us, file, tf, flags, tg, inF, text, tt, e1, r1, r2, r3, rest⟩ := C p hp
      refine ⟨o, us, file, tf, flags, tg, inF, text, tt, stays e1 (free e1 (fun _ _ z => by rw [r2] at z; cases z) fun z => ?_), r1, r2, r3, rest⟩
      rw [r2] at z
      cases z
      simp at r3
    · obtain ⟨bm, ob, b1, b2, b3, b4, b5, b6⟩ := hbm
      refine ⟨bm, ob, b1, b2, fun q => ?_, fun q => ?_, stays b3 (free b3 (fun _ _ z => by rw [b6] at z; cases z) fun z => by rw [b6] at z; cases z), b4, b5, b6⟩
      · obtain ⟨o, es, ep, e, d, _⟩ := hns
        rw [q, e] at b3; cases b3
        rw [d] at b6; cases b6
      · rw [q, hT p hp] at b3; cases b3; cases b6
    · obtain ⟨o, es, ep, e, d, _⟩ := hns
      rw [z, hT p hp] at e; cases e; cases d
  obtain ⟨mc, l1, l2⟩ := hlim
  have e0 : Env0 P w K mg (hidT s₁.heap H) callerA [] s₁ H := ⟨rfl, ⟨kin, nsIn hns, ⟨mb, nsIn hb, hbb⟩, ⟨mc, nsIn l1, l2⟩⟩, fun b o e => of_hidT e, Nat.le_of_eq (hidT_size _ _), trivial, (fun b hb => nomatch hb), hok, .of_eq hg⟩
  refine codeAny_mono ((F _ kin (nsIn hns) tabs).goes callerA [] s₁ H ⟨[.ref a], []⟩ [.ref a] [.ref a] _ _ rfl hr e0 (hbind s₁ (.ref a)) (.cons rfl .nil) hsp) fun r s' h => ?_
  cases r with
  | error e => exact h.elim
  | ok fl => cases fl with
    | next => exact h.elim
    | brk => exact h.elim
    | cont => exact h.elim
    | ret u =>
      obtain ⟨v, H', os, bare, un, hok', r', q⟩ := h
      have ev : v = .bl true := q
      subst ev
      have eu : u = Value.bool true := r'
      subst eu
      have tabNow : ∀ p ∈ cs, ∃ more : Array Value, s'.heap.get? p.2 = some { cls := .none, data := .fields more } := fun p hp => by
        obtain ⟨more, z⟩ := un.tbls p.2 #[] (hO.tab p hp)
        exact ⟨_, hok' p.2 _ z⟩
      have else_ : ∀ b o, (¬ ∃ p ∈ cs, p.2 = b) → s₁.heap.get? b = some o → s'.heap.get? b = some o := fun b o nb e => by
        cases q : H b with
        | none => exact un.keep b o e q (fun y => nomatch y) (fun y => nomatch y)
        | some u =>
          rcases hO.only b u q with z | ⟨_, ob, xs, rfl⟩
          · exact absurd z nb
          · have z2 := un.frzs b ob _ q
            have y1 := (hok b _ q).1
            rw [e] at y1
            cases y1
            exact (hok' b _ z2).1
      refine ⟨rfl, ⟨fun b o e => ?_, fun b o e => ?_⟩, os, bare⟩
      · by_cases hb : ∃ p ∈ cs, p.2 = b
        · obtain ⟨p, hp, rfl⟩ := hb
          obtain ⟨more, hm⟩ := tabNow p hp
          rw [hT p hp] at e
          cases e
          exact .inr (.inl ⟨((C p hp).tab (hT p hp)).isCodeTable, rfl, #[], more, rfl, by rw [Array.empty_append]; exact hm⟩)
        · exact .inl (else_ b o hb e)
      · by_cases hb : ∃ p ∈ cs, p.2 = b
        · obtain ⟨p, hp, rfl⟩ := hb
          obtain ⟨more, hm⟩ := tabNow p hp
          exact ⟨_, hm⟩
        · exact ⟨o, else_ b o hb e⟩
theorem lawT (KX : K.In s₁.heap) (hns : s₁.heap.Ns mainGlobals mg) (hb : s₁.heap.Ns builtinsNs mb) (hbb : ∀ x : Str, x ≠ "__name__" → mb x = bootBuiltins x) (hlim : s₁.heap.NoLimit) (hg : s₁.gens = #[])
    (hT : ∀ p ∈ cs, s₁.heap.get? p.2 = some { cls := .none, data := .fields #[] }) (nT : ∀ p ∈ cs, K.lookup p.2 = none) (C : ∀ p ∈ cs, PySem.W.CodeHd s₁.heap p.1 p.2)
    (hbm : ∃ (bm : Addr) (ob : Obj), mg "__builtins__" = some (.ref bm) ∧ bm ≠ builtinsNs ∧ s₁.heap.get? bm = some ob ∧ ob.cls = .type "module" ∧ ob.dict = some builtinsNs ∧ ob.data = .plain)
    (ha : s₁.heap.get? a = some { cls := .type "list", data := .seq vs.toArray }) (hi : IntsAre vs ns) (hl : ns.length ≤ sizeLine) (hr : Room k callerA) (F : ∀ base : Heap, K.In base → base.Ns mainGlobals mg → (∀ p ∈ cs, TabB base mg p.1 p.2) → FnG P w K mg base CX0 k fa fd [x] sp) (hbind : ∀ (s : Shared) (u : Value), BindsTo s fd ⟨[u], []⟩ [(x, u)])
    (hsp : ∀ H : Hp, Entry cs a H → SqL K H a (ns.map V.int) → sp [.ref a] H (fun v _ => v = .bl true) fun _ _ _ => False) :
    codeAny (model P w) callerA (.call (.ref fa) ⟨[.ref a], []⟩) (zz0 s₁) s₁ := by
  have rv := vals_ints hi
  have apart : ∀ p ∈ cs, p.2 ≠ a := fun p hp z => by
    have q := hT p hp
    rw [z, ha] at q
    have q2 : Data.seq vs.toArray _ = Data.fields #[] := congrArg Obj.data (Option.some.inj q)
    cases q2
  have mem : ∀ b, b ∈ cs.map (·.2) ↔ ∃ p ∈ cs, p.2 = b := fun b => List.mem_map
  by_cases hk : K.lookup a = none
  · generalize hH : (fun b => if b = a then some (HO.frz { cls := .type "list", data := .seq vs.toArray } (.lst (ns.map V.int))) else if b ∈ cs.map (·.2) then some (.tbl #[]) else none : Hp) = H
    have ata : H a = some (.frz { cls := .type "list", data := .seq vs.toArray } (.lst (ns.map V.int))) := by rw [← hH]; exact if_pos rfl
    have att : ∀ p ∈ cs, H p.2 = some (.tbl #[]) := fun p hp => by rw [← hH]; exact (if_neg (apart p hp)).trans (if_pos ((mem _).mpr ⟨p, hp, rfl⟩))
    have off : ∀ b, b ≠ a → (¬ ∃ p ∈ cs, p.2 = b) → H b = none := fun b n1 n2 => by rw [← hH]; exact (if_neg n1).trans (if_neg fun z => n2 ((mem b).mp z))
    have only : Entry cs a H := ⟨att, fun b o e => by
      by_cases n2 : ∃ p ∈ cs, p.2 = b
      · exact .inl n2
      · by_cases n1 : b = a
        · rw [n1, ata] at e
          cases e
          exact .inr ⟨n1, _, _, rfl⟩
        · rw [off b n1 n2] at e; cases e⟩
    refine lawT0 KX hns hb hbb hlim hg hT nT C hbm ha hr F hbind only (hsp H only (.inl (.inr ⟨_, ata⟩))) (fun b u z => ?_) fun _ => hk
    by_cases n1 : b = a
    · subst n1
      have y := ata.symm.trans z
      cases y
      exact ⟨ha, by rw [List.length_map]; exact hl, vs, _, rv, ha⟩
    · by_cases n2 : ∃ p ∈ cs, p.2 = b
      · obtain ⟨p, hp, rfl⟩ := n2
        have y := (att p hp).symm.trans z
        cases y
        exact hT p hp
      · rw [off b n1 n2] at z; cases z
  · obtain ⟨o, ho⟩ := Option.ne_none_iff_exists'.mp hk
    have e := (KX a o ho).symm.trans ha
    cases e
    generalize hH : (fun b => if b ∈ cs.map (·.2) then some (HO.tbl #[]) else none : Hp) = H
    have att : ∀ p ∈ cs, H p.2 = some (.tbl #[]) := fun p hp => by rw [← hH]; exact if_pos ((mem _).mpr ⟨p, hp, rfl⟩)
    have off : ∀ b, (¬ ∃ p ∈ cs, p.2 = b) → H b = none := fun b n2 => by rw [← hH]; exact if_neg fun z => n2 ((mem b).mp z)
    have only : Entry cs a H := ⟨att, fun b o e => by
      by_cases n2 : ∃ p ∈ cs, p.2 = b
      · exact .inl n2
      · rw [off b n2] at e; cases e⟩
    refine lawT0 KX hns hb hbb hlim hg hT nT C hbm ha hr F hbind only (hsp H only (.inr ⟨_, vs.toArray, _, ho, rfl, rfl, rfl, by rw [List.size_toArray, hi.length]; exact hl, by simpa using rv⟩)) (fun b u z => ?_) fun z => absurd (off a fun ⟨p, hp, q⟩ => apart p hp q) z
    by_cases n2 : ∃ p ∈ cs, p.2 = b
    · obtain ⟨p, hp, rfl⟩ := n2
      have y := (att p hp).symm.trans z
      cases y
      exact hT p hp
    · rw [off b n2] at z; cases z
end
def zpc (K : PySem.W.Frag) (ts : List (Addr × Str)) : Sp := fun vs H Q E => Cs.spLaw K vs H Q E ∧ (∀ p ∈ ts, H p.1 = some (.tbl #[])) ∧ ∀ a ps, H a = some (.tbl ps) → ∃ q, (a, q) ∈ ts
end Mi
namespace Mi
open PySem PySem.Spec L2 PyProof.Rows
section
variable {W : Wd} {E : XK} {X : Cx} {c : Cf} {v : V} {d : D} {ds : List D} {e tg iter : Expr} {st : Stmt} {Q : VK} {kws : List Keyword}
def fInt : List D → Store → Res D := fun xs μ => match xs with
  | [.int i] => .ok (.int i) μ
  | [.bl k] => .ok (.int (if k = true then 1 else 0)) μ
  | _ => .bad
theorem zaad {a b : Int} : DpA W c (rgV a b) (zce a (b - a).toNat) := by
  unfold rgV zce
  generalize List.range (b - a).toNat = l
  induction l with
  | nil => exact .nil
  | cons i l ih => exact .cons (.int _) ih
open Classical in
def fRg (tup b : Bool) (i j : Int) : Store → Res D := fun μ => if RgOk i j then (if tup = true then .ok (.tup (zce i (j - i).toNat)) μ else newL b (zce i (j - i).toNat) μ) else .bad
def mRg1 (tup b : Bool) (a : ME) : ME := fun ρ μ => (a ρ μ).bind fun x μ => match x with
  | .int j => fRg tup b 0 j μ
  | _ => .bad
def mRg2 (tup b : Bool) (a a' : ME) : ME := fun ρ μ => (a ρ μ).bind fun x μ => (a' ρ μ).bind fun y μ => match x, y with
  | .int i, .int j => fRg tup b i j μ
  | _, _ => .bad
theorem zyl {b : Bool} {i j : Int} (ok : Ok W c) (w : Wp W (Dp W) (fRg false b i j c.μ) c Q E) : RgOk i j ∧ ∀ q, c.H q = none → Q (.ref q) (upd c.H q (.lst (rgV i j))) := by
  unfold fRg at w
  split at w
  · rename_i h
    rw [if_neg (by simp)] at w
    exact ⟨h, fun p hp => zfe w ok zaad hp⟩
  · exact w.elim
theorem zyk {b : Bool} {i j : Int} (ok : Ok W c) (w : Wp W (Dp W) (fRg true b i j c.μ) c Q E) : RgOk i j ∧ ∀ q, c.H q = none → Q (.ref q) (upd c.H q (.tup (rgV i j))) := by
  unfold fRg at w
  split at w
  · rename_i h
    rw [if_pos rfl] at w
    exact ⟨h, fun p hp => zi5 w ok zaad hp⟩
  · exact w.elim
theorem zade {b : Bool} {a : ME} (h : PE X e (tLstRg (tRg1 (tE W E a)))) : PE X e (tE W E (mRg1 false b a)) := zav h fun σ H Q ⟨ρ, c, hH, ok, env, w⟩ =>
  ⟨ρ, c, hH, ok, env, wp_bind w fun v x c1 s1 ok1 r1 w1 => by
    split at w1
    · cases r1; exact ⟨_, rfl, zyl ok1 w1⟩
    · exact w1.elim⟩
theorem zvl {t t' : TA} (h : PK X kws t) (f : ∀ σ H Q, t' σ H Q → t σ H Q) : PK X kws t' := ⟨fun p pins s σ H Q I q => h.run p pins s σ H Q I (f _ _ _ q)⟩
theorem zae3 (h : PK X kws tNil) : PK X kws (tA W E mNil) := zvl h fun σ H Q ⟨ρ, c, hH, ok, env, w⟩ => by
  subst hH
  exact zaj w ok .nil
theorem zadc {a : ME} {b : MA} (h : PK X kws (tCons (tE W E a) (tA W E b))) : PK X kws (tA W E (mCons a b)) := zvl h fun σ H Q ⟨ρ, c, hH, ok, env, w⟩ =>
  ⟨ρ, c, hH, ok, env, wp_bind w fun v x c1 s1 ok1 r1 w1 => ⟨ρ, c1, rfl, ok1, env.mono s1.le, wp_bind w1 fun vs xs c2 s2 ok2 r2 w2 => zaj w2 ok2 (.cons (zay s2.le r1) r2)⟩⟩
def zzj (frz : Bool) (C : String) (m : List D → Store → Res D) (n k : Nat) (a b : MA) : ME := fun ρ μ => (a ρ μ).bind fun xs μ => (b ρ μ).bind fun ys μ => if xs.length = n ∧ ys.length = k then mkObj frz C m (xs ++ ys) μ else .bad
def ixS (z : Str) : List Str → Option Nat
  | [] => none
  | a :: l => if a = z then some 0 else (ixS z l).map (· + 1)
end
end Mi
namespace Mi
open PySem PySem.Spec L2 PyProof.Rows
section
variable {W : Wd} {E : XK} {X : Cx} {c : Cf} {v : V} {d : D} {ds : List D} {e tg iter : Expr} {st : Stmt} {Q : VK}
def zzo (C : String) (m : List D → Store → Res D) (o : ME) (a : MA) : ME := fun ρ μ => (o ρ μ).bind fun x μ => match x with
  | .obj C' _ _ => if C' = C then (a ρ μ).bind fun ds μ => m (x :: ds) μ else .bad
  | _ => .bad
def intsD : List D → Option (List Int)
  | [] => some []
  | .int x :: ds => (intsD ds).map (x :: ·)
  | _ => none
def noX (r : Res D) : Res D := match r with
  | .ok d μ => .ok d μ
  | _ => .bad
theorem zae2 {r : Res D} (w : Wp W (Dp W) (noX r) c Q E) : Wp W (Dp W) r c Q E0' := by
  cases r with
  | ok d μ => exact w
  | exc x μ => exact w.elim
  | bad => exact w.elim
def zp0 (C : String) (m : List D → Store → Res D) (o : ME) : ME := mProp C (fun ds μ => noX (m ds μ)) o
theorem zab1 {C : String} {g : Addr} {m : List D → Store → Res D} {o : ME} (hC : W.cm C = some g) (h : PE X e (tProp g (spM W m) [] E0' (tE W E o))) : PE X e (tE W E (zp0 C m o)) :=
  zav h fun σ H Q ⟨ρ, c, hH, ok, env, w⟩ => ⟨ρ, c, hH, ok, env, wp_bind (show Wp W (Dp W) ((o ρ c.μ).bind _) c Q E from w) fun v x c1 s1 ok1 r1 w1 => by
    split at w1
    · rename_i C' ks ds' eo
      split at w1
      · rename_i hc
        obtain ⟨a', g', dx, xs, rfl, h1, h2, h3, h4⟩ := zy1 ok1 r1 eo
        rw [hc, hC] at h1
        cases h1
        exact ⟨a', dx, _, rfl, h2, c1, [x], rfl, ok1, .cons r1 .nil, zae2 w1⟩
      · exact w1.elim
    · exact w1.elim⟩
def mPar3 (i j k : Nat) (a : MA) : MS := fun _ ρ μ => (a ρ μ).st fun ds μ => match ds with
  | [x, y, z] => .nx (((ρ.set i (some x)).set j (some y)).set k (some z)) μ
  | _ => .bad
end
end Mi
namespace Mi
open PySem PySem.Spec L2 PyProof.Rows
section
variable {W : Wd} {E : XK} {X : Cx} {c : Cf} {v : V} {d : D} {ds : List D} {e : Expr} {es : List Expr} {st : Stmt} {Q : VK}
end
end Mi
namespace Mi
open PySem PySem.Spec L2 PyProof.Rows PySem.SeqAt
section
variable {prog : Program} {w : World} {K : Type} [DecidableEq K] {knd : KeyKind prog w K} {A : Around} {E : Value → Shared → Prop} {s : Shared}
theorem zse : isSubtype (.type "NoneType") (.type "dict") = pure false := by rw [isSubtype_type]; kernel_rfl
theorem zsf : isSubtype (.type "dict") (.type "NoneType") = pure false := by rw [isSubtype_type]; kernel_rfl
theorem zuk {a : Addr} {ka : List (K × Value)} {Q : Value → Shared → Prop} (da : s.heap.DictOf knd a ka) (q : Q .notImplemented s) : wpAny (model prog w) A (call (.builtin "dict.__eq__") [.ref a, .none]) Q E s := by
  have run : wpAny (model prog w) A.in1 (Builtin.Dict.dictSlotArgs "__eq__" ⟨[.ref a, .none], []⟩) (fun p t => p = (Value.ref a, Value.none) ∧ t = s) E s := by
    unfold Builtin.Dict.dictSlotArgs; exact wpAny_bind (wpAny_notOrdered_dict da.typeIs (wpAny_pure ⟨rfl, rfl⟩))
  refine wpAny_call_entry PySem.F.slot_dict_eq da.typeIs PySem.F.entry_dict_eq ?_ (PySem.F.args_dict_eq_2 _ _)
  show wpAny _ _ (Builtin.Dict.dictSlotArgs _ _ >>= _) _ _ s
  refine wpAny_bind (wpAny_mono run (fun p t h => ?_) (fun _ _ h => h))
  obtain ⟨rfl, rfl⟩ := h
  refine wpAny_bind (wpAny_isInstance (T := "NoneType") rfl zse ?_)
  simp only [Bool.not_false, if_true]
  refine wpAny_bind (wpAny_rule ?_)
  exact wpAny_pure ⟨_, rfl, q⟩
theorem zm6 {a : Addr} {ka : List (K × Value)} {Q : Value → Shared → Prop} (da : s.heap.DictOf knd a ka) (hu : A.units < cLine) (q : Q (.bool false) s) : wpAny (model prog w) A (richCompare .Eq .none (.ref a)) Q E s :=
  rc_eq_decline_or (k := false) rfl da.typeIs (by decide) zsf F.slot_NoneType_eq F.slot_dict_eq
    (fun _ h => call_gives F.slot_NoneType_eq rfl F.entry_NoneType_eq (F.args_NoneType_eq_2 _ _) (NoneType___eq___none_ref_0 a) h)
    (fun _ h => zuk da h) (fun _ h => wpAny_of_eq (rfl : isSame .none (.ref a) = pure false) h) (.inr hu) q
theorem zsi {a : Addr} {ka : List (K × Value)} (da : s.heap.DictOf knd a ka) (hu : A.units < cLine) : SeqAt.EqP prog w A s .none (.ref a) false := fun E Q q => by
  unfold eqBool
  exact wpAny_holding (wpAny_ite_split (fun z => absurd (eq_of_beq z) nofun) fun _ => wpAny_bind (zm6 da hu (wpAny_truthy_bool q)))
end
inductive HitsB (F : V → V → Bool → Prop) (ls : List (Key × V)) : List (Key × V) → Bool → Prop
  | nil : HitsB F ls [] true
  | miss {p : Key × V} {r : List (Key × V)} : valV ls p.1 = none → HitsB F ls (p :: r) false
  | hit {p : Key × V} {y : V} {r : List (Key × V)} {e b : Bool} : valV ls p.1 = some y → F p.2 y e → HitsB F ls r b → HitsB F ls (p :: r) (e && b)
def DEq (H : Hp) (F : V → V → Bool → Prop) (x y : V) (b : Bool) : Prop := ∃ (a a' : Addr) (ks ls : List (Key × V)) (r : Bool), x = .ref a ∧ y = .ref a' ∧ Rd H a (.dK ks) ∧ Rd H a' (.dK ls) ∧ (ks.map (·.1)).Nodup ∧ (ks.length = ls.length → HitsB F ls ks r) ∧ b = (ks.length == ls.length && r)
def ShpE (K : PySem.W.Frag) (H : Hp) (x y : V) (b : Bool) : Prop := ∃ p q, L2.Dp K H x p ∧ L2.Dp K H y q ∧ SeqAt.shaped p = true ∧ SeqAt.shaped q = true ∧ b = PyData.eqv p q
def NonD (H : Hp) (x y : V) (b : Bool) : Prop := x = .non ∧ (∃ a ks, y = .ref a ∧ Rd H a (.dK ks)) ∧ b = false
def EqB (K : PySem.W.Frag) (H : Hp) : Nat → V → V → Bool → Prop
  | 0 => fun _ _ _ => False
  | n + 1 => fun x y b => ShpE K H x y b ∨ DEq H (EqB K H n) x y b ∨ NonD H x y b
section
variable {X : Cx} {pins : List (Addr × Obj)} {σ : L2.St} {H : Hp} {s : Shared}
theorem zaer {a : Addr} {ks ls : List (Key × V)} (h : Rd H a (.dK ks)) (k : Rd H a (.dK ls)) : ks = ls := by
  rcases h with h | ⟨o, h⟩ <;> rcases k with k | ⟨o', k⟩ <;> rw [h] at k <;> cases k <;> rfl
theorem zn0 : ∀ {ks : List (Key × V)} {p : Key × V}, (ks.map (·.1)).Nodup → p ∈ ks → valV ks p.1 = some p.2
  | [], _, _, h => by cases h
  | q :: r, p, nd, h => by
    rw [List.map_cons, List.nodup_cons] at nd
    rcases List.mem_cons.mp h with rfl | h
    · exact valV_pos rfl
    · rw [valV_neg fun e => nd.1 (e ▸ List.mem_map_of_mem h)]
      exact zn0 nd.2 h
theorem zuc (I : Inv X pins σ H s) : ∀ (n : Nat) {x : V} {v : Value} {b : Bool}, EqB X.K H n x x b → RelV x v → b = true
  | 0, _, _, _, h, _ => h.elim
  | n + 1, x, v, b, h, rx => by
    rcases h with ⟨p, q, hp, hq, sp, sq, rfl⟩ | ⟨a, a', ks, ls, r, e1, e2, h1, h2, nd, hit, rfl⟩ | ⟨rfl, ⟨a, ks, e, _⟩, _⟩
    · obtain ⟨as, r1⟩ := L2.Dp.reads I p x v hp rx
      obtain ⟨bs, r2⟩ := L2.Dp.reads I q x v hq rx
      have := Reads.unique p q v as bs (SeqAt.canLay_of_shaped sp) r1 r2
      subst this
      exact eqv_refl p (SeqAt.canLay_of_shaped sp)
    · subst e1
      cases e2
      have := zaer h1 h2
      subst this
      have all : ∀ {l : List (Key × V)} {r : Bool}, HitsB (EqB X.K H n) ks l r → (∀ p ∈ l, p ∈ ks) → r = true := by
        intro l r hh
        induction hh with
        | nil => intro _; rfl
        | @miss p _ hn => intro hm; rw [zn0 nd (hm p List.mem_cons_self)] at hn; cases hn
        | @hit p y _ e b hy hF _ ih =>
          intro hm
          rw [zn0 nd (hm p List.mem_cons_self)] at hy
          cases hy
          obtain ⟨_, ya, va, ra, da⟩ := (h1.ok I.hok : ObjOk X.prog X.w H s.heap a (.dK ks))
          obtain ⟨u, _, ru⟩ := RelO.some_of (v := p.2) (o := valueAt va p.1) (by rw [← zn0 nd (hm p List.mem_cons_self)]; exact ra.val p.1)
          rw [zuc I n hF ru, ih fun q hq => hm q (List.mem_cons_of_mem _ hq)]; rfl
      rw [all (hit rfl) fun _ h => h]
      simp
    · cases e
theorem zr4 {A : Around} {F : V → V → Bool → Prop} (ih : ∀ x y b v u, F x y b → RelV x v → RelV y u → SeqAt.EqP X.prog X.w A s v u b) {ls : List (Key × V)} {vb : List (Key × Value)} (rb : KV ls vb) {ks : List (Key × V)} {r : Bool} (h : HitsB F ls ks r) :
    ∀ {va : List (Key × Value)}, KV ks va → PySem.W.KeqHitsP X.prog X.w A s vb va r := by
  induction h with
  | nil => intro va ra; cases ra; exact .nil
  | @miss p l hn =>
    intro va ra
    cases ra with
    | @cons _ q _ qs h1 t =>
      obtain ⟨key, z⟩ := q
      obtain ⟨e1, _⟩ := h1
      dsimp only at e1
      rw [e1] at hn
      have rr := rb.val key
      rw [hn] at rr
      refine .miss ?_
      cases e : valueAt vb key with
      | none => rfl
      | some y => rw [e] at rr; exact rr.elim
  | @hit p y l e b hy hF _ k =>
    intro va ra
    cases ra with
    | @cons _ q _ qs h1 t =>
      obtain ⟨key, z⟩ := q
      obtain ⟨e1, e2⟩ := h1
      dsimp only at e1 e2
      rw [e1] at hy
      obtain ⟨u, hu, ru⟩ := RelO.some_of (v := y) (o := valueAt vb key) (by rw [← hy]; exact rb.val key)
      exact .hit hu (ih _ _ _ _ _ hF e2 ru) (k t)
theorem zlo (I : Inv X pins σ H s) {a : Addr} {ks : List (Key × V)} (h : Rd H a (.dK ks)) : (a == sysModules) = false ∧ ∃ va, KV ks va ∧ s.heap.DictOf (mixKind X.prog X.w) a va := by
  obtain ⟨_, ya, va, ra, da⟩ := (h.ok I.hok : ObjOk X.prog X.w H s.heap a (.dK ks))
  exact ⟨ya, va, ra, da⟩
theorem zwy (I : Inv X pins σ H s) : ∀ (n : Nat) {A : Around}, A.units + n + 64 < cLine → ∀ (x y : V) (b : Bool) (v u : Value), EqB X.K H n x y b → RelV x v → RelV y u → SeqAt.EqP X.prog X.w A s v u b
  | 0, _, _, _, _, _, _, _, h, _, _ => h.elim
  | n + 1, A, hu, x, y, b, v, u, h, rx, ry => by
    rcases id h with ⟨p, q, hp, hq, sp, sq, rfl⟩ | ⟨a, a', ks, ls, r, rfl, rfl, h1, h2, nd, hit, rfl⟩ | ⟨rfl, ⟨a, ks, rfl, h1⟩, rfl⟩
    · obtain ⟨as, r1⟩ := L2.Dp.reads I p x v hp rx
      obtain ⟨bs, r2⟩ := L2.Dp.reads I q y u hq ry
      exact (eqAt_reads p q A s v u as bs r1 r2 (SeqAt.canLay_of_shaped sp) (SeqAt.canLay_of_shaped sq) (SeqAt.room_of_shaped sp (by omega))).eqP
    · cases (show v = Value.ref a from rx)
      cases (show u = Value.ref a' from ry)
      by_cases e : a = a'
      · subst e
        rw [zuc I (n + 1) h rx]
        exact (SeqAt.EqAt.same _).eqP
      · obtain ⟨ya, va, ra, da⟩ := zlo I h1
        obtain ⟨yb, vb, rb, db⟩ := zlo I h2
        have la : va.length = ks.length := ra.length.symm
        have lb : vb.length = ls.length := rb.length.symm
        refine SeqAt.eqP_refs e fun E Q q => ?_
        refine PySem.W.rcP_dicts (knd := mixKind X.prog X.w) (r := r) ya yb da db (by omega) (fun hl => zr4 (fun x y b v u => zwy I n (by show A.units + 1 + n + 64 < cLine; omega) x y b v u) rb (hit (by omega)) ra) E Q ?_
        rw [la, lb]; exact q
    · cases (show v = Value.none from rx)
      cases (show u = Value.ref a from ry)
      obtain ⟨ya, va, ra, da⟩ := zlo I h1
      exact zsi da (by omega)
def rEqB (K : PySem.W.Frag) : R2 := fun x y H Q => ∃ b, EqB K H 6 x y b ∧ Q (.bl b) H
theorem zaey (hu : X.A.units + 80 < cLine) : OpR X (compareOp .Eq) (rEqB X.K) := by
  intro pins s σ H x y v u Q I rx ry h
  obtain ⟨b, h, q⟩ := h
  rcases h with ⟨p, z, hp, hq, sp, sq, rfl⟩ | ⟨a, a', ks, ls, r, rfl, rfl, h1, h2, nd, hit, rfl⟩ | ⟨rfl, ⟨a, ks, rfl, h1⟩, rfl⟩
  · obtain ⟨as, r1⟩ := L2.Dp.reads I p x v hp rx
    obtain ⟨bs, r2⟩ := L2.Dp.reads I z y u hq ry
    exact SeqAt.compareEq_shaped r1 r2 sp sq (by omega) ⟨.bl _, H, I, rfl, q⟩
  · cases (show v = Value.ref a from rx)
    cases (show u = Value.ref a' from ry)
    obtain ⟨ya, va, ra, da⟩ := zlo I h1
    obtain ⟨yb, vb, rb, db⟩ := zlo I h2
    have la : va.length = ks.length := ra.length.symm
    have lb : vb.length = ls.length := rb.length.symm
    refine PySem.W.rcP_dicts (knd := mixKind X.prog X.w) (r := r) ya yb da db (by omega) (fun hl => zr4 (fun x y b v u => zwy I 5 (by show X.A.units + 1 + 5 + 64 < cLine; omega) x y b v u) rb (hit (by omega)) ra) _ _ ?_
    rw [la, lb]; exact ⟨.bl _, H, I, rfl, q⟩
  · cases (show v = Value.none from rx)
    cases (show u = Value.ref a from ry)
    obtain ⟨ya, va, ra, da⟩ := zlo I h1
    exact zm6 da (by omega) ⟨.bl _, H, I, rfl, q⟩
end
def shapE (μ : Store) (d e : D) : Option Bool := match d.view μ, e.view μ with
  | some p, some q => if SeqAt.shaped p = true ∧ SeqAt.shaped q = true then some (PyData.eqv p q) else none
  | _, _ => none
def hitsD (F : D → D → Option Bool) (ls : List Key) (es : List D) : List Key → List D → Option Bool
  | [], [] => some true
  | k :: ks, d :: ds => match lookK k ls es with
    | none => some false
    | some e => match F d e, hitsD F ls es ks ds with
      | some b, some c => some (b && c)
      | _, _ => none
  | _, _ => none
def deqF (μ : Store) : Nat → D → D → Option Bool
  | 0, _, _ => none
  | n + 1, d, e => match d, e with
    | .dct ks ds, .dct ls es => if ks.length = ls.length then hitsD (deqF μ n) ls es ks ds else some false
    | .non, .dct _ _ => some false
    | d, e => shapE μ d e
def fEqX : D → D → Store → Res D := fun x y μ => match deqF μ 6 x y with
  | some b => .ok (.bl b) μ
  | none => .bad
section
variable {W : Wd} {E : XK} {c : Cf}
theorem zaba {d e : D} {v u : V} {b : Bool} (ok : Ok W c) (hx : Dp W c v d) (hy : Dp W c u e) (h : shapE c.μ d e = some b) : ShpE W.K c.H v u b := by
  unfold shapE at h
  split at h
  · rename_i p q e1 e2
    split at h
    · rename_i hs
      cases Option.some.inj h
      have w : Wp W (Dp W) (zfb false d e c.μ) c (fun z _ => z = .bl (PyData.eqv p q)) (fun _ _ _ => False) := by
        unfold zfb
        rw [e1, e2]
        dsimp only
        rw [if_pos hs]
        intro v' c' _ _ _ r
        cases r; rfl
      obtain ⟨p', q', h1, h2, s1, s2, k⟩ := zub ok hx hy w
      refine ⟨p', q', h1.old _ _ (Cs.zd7 s1), h2.old _ _ (Cs.zd7 s2), s1, s2, ?_⟩
      have k' : V.bl (PyData.eqv p' q') = V.bl (PyData.eqv p q) := k
      injection k' with k'
      exact k'.symm
    · cases h
  · cases h
theorem zt0 {F : D → D → Option Bool} {G : V → V → Bool → Prop} (ih : ∀ d e b v u, F d e = some b → Dp W c v d → Dp W c u e → G v u b) {ls : List Key} {ys : List V} {es : List D} (hl : ls.length = ys.length) (he : DpA W c ys es) :
    ∀ {ks : List Key} {xs : List V} {ds : List D} {r : Bool}, ks.length = xs.length → DpA W c xs ds → hitsD F ls es ks ds = some r → HitsB G (Cs.kvL ls ys) (Cs.kvL ks xs) r
  | [], [], _, r, _, .nil, h => by
    cases Option.some.inj h
    exact .nil
  | [], _ :: _, _, _, h, _, _ => by simp at h
  | _ :: _, [], _, _, h, _, _ => by simp at h
  | k :: ks, x :: xs, _ :: _, r, hk, .cons (d := d) (ds := ds) h1 h2, h => by
    have lk := zoy (k := k) hl he
    unfold hitsD at h
    show HitsB G (Cs.kvL ls ys) ((k, x) :: Cs.kvL ks xs) r
    cases e1 : lookK k ls es with
    | none =>
      rw [e1] at h
      cases Option.some.inj h
      exact .miss (lk.2 e1)
    | some e =>
      rw [e1] at h
      obtain ⟨y, hy, dy⟩ := lk.1 e e1
      dsimp only at h
      cases e2 : F d e with
      | none => rw [e2] at h; cases h
      | some b =>
        rw [e2] at h
        cases e3 : hitsD F ls es ks ds with
        | none => rw [e3] at h; cases h
        | some z =>
          rw [e3] at h
          cases Option.some.inj h
          exact .hit hy (ih _ _ _ _ _ e2 h1 dy) (zt0 ih hl he (by simpa using hk) h2 e3)
theorem hu80 {k : Nat} {A : Around} (r : Room k A) : A.units + 80 < cLine := by have := r.un; omega
theorem zm5 (ok : Ok W c) {a : Addr} {o : HO} (h : Rd c.G a o) : Rd c.H a o := by
  rcases h with h | ⟨z, h⟩
  · exact .inl (ok.s _ _ h)
  · exact .inr ⟨z, ok.s _ _ h⟩
theorem zaah (ok : Ok W c) : ∀ (n : Nat) (d e : D) (b : Bool) (v u : V), deqF c.μ n d e = some b → Dp W c v d → Dp W c u e → EqB W.K c.H n v u b
  | 0, _, _, _, _, _, h, _, _ => by cases h
  | n + 1, d, e, b, v, u, h, hx, hy => by
    unfold deqF at h
    split at h
    · rename_i ks ds ls es
      cases hx with
      | @dct a _ xs _ h1 h2 h3 h4 =>
        cases hy with
        | @dct a' _ ys _ k1 k2 k3 k4 =>
          split at h
          · rename_i hl
            refine .inr (.inl ⟨a, a', _, _, b, rfl, rfl, zm5 ok h1, zm5 ok k1, by rw [zjs h2]; exact h3, fun _ => zt0 (zaah ok n) k2 k4 h2 h4 h, ?_⟩)
            rw [zdh h2, zdh k2, hl]; simp
          · rename_i hl
            cases Option.some.inj h
            refine .inr (.inl ⟨a, a', _, _, false, rfl, rfl, zm5 ok h1, zm5 ok k1, by rw [zjs h2]; exact h3, fun z => absurd (by rw [zdh h2, zdh k2] at z; exact z) hl, ?_⟩)
            simp
    · cases Option.some.inj h
      cases hx
      cases hy with
      | @dct a' _ ys _ k1 k2 k3 k4 => exact .inr (.inr ⟨rfl, ⟨a', _, rfl, zm5 ok k1⟩, rfl⟩)
    · exact .inl (zaba ok hx hy h)
theorem zac6 : OpM W E (rEqB W.K) fEqX := fun c x y v u Q ok hx hy w => by
  unfold fEqX at w
  cases h : deqF c.μ 6 x y with
  | none => rw [h] at w; exact w.elim
  | some b =>
    rw [h] at w
    exact ⟨b, zaah ok 6 x y b v u h hx hy, zaj w ok (.bl _)⟩
end
end Mi
namespace SetT
open PySem PySem.Spec PyProof.Rows
def ddS (l : List Str) : List Str := l.foldl (fun a x => if a.any (· == x) = true then a else a ++ [x]) []
section
variable {prog : Program} {w : World} {A : Around} {R : Result → Shared → Prop} {J : Addr} {fp wr : List Addr} {G : Array GenState → Array GenState → Prop} {n : Nat} {T : Nat → Value → Prop} {St : Nat → Shared → Prop}
end
section
variable {prog : Program} {w : World} {A : Around} {E : Value → Shared → Prop} {s : Shared}
set_option maxHeartbeats 4000000 in
end
end SetT
namespace Mi
open PySem PySem.Spec L2 PyProof.Rows
section
variable {W : Wd} {E : XK} {X : Cx} {c : Cf} {v : V} {d : D} {ds : List D} {e : Expr} {st : Stmt} {Q : VK}
theorem zn2 : ∀ {ys : List Str} {us : List Value}, Vals (ys.map V.str) us → StrsAre us ys
  | [], _, .nil => .nil
  | _ :: _, _, .cons ⟨k, e⟩ t => e ▸ .cons _ k (zn2 t)
def zww : D → List D → Store → Res D := fun x xs μ => match (seqL μ x).bind intsD, xs with
  | some ns, [.int k] => .ok (.int (ns.count k : Nat)) μ
  | _, _ => .bad
def zzm (o i z : ME) : ME := fun ρ μ => (o ρ μ).bind fun x μ => (match dctOf μ x with
  | some _ => (i ρ μ).bind fun y μ => (z ρ μ).bind fun u μ => match dctOf μ x, keyOf y with
    | some (ks, ds), some k => .ok ((lookK k ks ds).getD u) μ
    | _, _ => .bad
  | none => .bad)
def pkI {α : Type} (n k : Nat) (ix : List Nat) (us ws : List α) : List α := if us.length = n ∧ ws.length = k then ix.filterMap ((us ++ ws)[·]?) else []
theorem zrj {vs : List V} {us : List Value} (r : Vals vs us) : ∀ ix : List Nat, Vals (ix.filterMap (vs[·]?)) (ix.filterMap (us[·]?))
  | [] => .nil
  | i :: ix => by
    have ih := zrj r ix
    cases e : vs[i]? with
    | none =>
      have e2 : us[i]? = none := by
        rw [List.getElem?_eq_none_iff] at e ⊢
        rw [← r.length]; exact e
      simpa [e, e2] using ih
    | some x =>
      obtain ⟨u, hu, ru⟩ := r.get e
      simpa [e, hu] using (show Vals (x :: _) (u :: _) from .cons ru ih)
theorem zuh {vs : List V} (r : DpA W c vs ds) : ∀ ix : List Nat, DpA W c (ix.filterMap (vs[·]?)) (ix.filterMap (ds[·]?))
  | [] => .nil
  | i :: ix => by
    have ih := zuh r ix
    cases e : ds[i]? with
    | none =>
      have e2 : vs[i]? = none := by
        rw [List.getElem?_eq_none_iff] at e ⊢
        rw [zan r]; exact e
      simpa [e, e2] using ih
    | some x =>
      obtain ⟨u, hu, ru⟩ := zhz r e
      simpa [e, hu] using DpA.cons ru ih
theorem zaa2 {n k : Nat} {ix : List Nat} {vs zs : List V} {us ws : List Value} (r : Vals vs us) (q : Vals zs ws) : Vals (pkI n k ix vs zs) (pkI n k ix us ws) := by
  unfold pkI
  rw [r.length, q.length]
  split
  · exact zrj (r.append q) ix
  · exact .nil
theorem kb_of {K : PySem.W.Frag} {x qual : Str} {f : Addr} {fd : FuncData} (F : Fun K x qual st f fd) {ps ks : List Str} {n : Nat} {ix : List Nat} (hp : ps ≠ [])
    (h : ∀ (kV doc pm : Value) (an : Option Addr) (cdv ct : Value) (us ws : List Value), us.length = n → ws.length = ks.length → bindArgs (PySem.W.fnOf x qual (defArgs st) (defBody st) (defScope st) .none kV doc pm an cdv ct) ⟨us, ks.zip ws⟩ = pure (ps.zip (pkI n ks.length ix us ws))) :
    KBinds K fd ps ks (pkI n ks.length ix) (pkI n ks.length ix) := by
  obtain ⟨oc, od, kV, doc, pm, an, cdv, ct, osl, e, lk, hcd⟩ := F.ex
  subst e
  refine ⟨fun s us ws kin hl => ?_, zaa2⟩
  by_cases z : us.length = n ∧ ws.length = ks.length
  · exact BindsTo.of_eq (h kV doc pm an cdv ct us ws z.1 z.2)
  · unfold pkI at hl
    rw [if_neg z] at hl
    exact absurd (List.eq_nil_of_length_eq_zero hl.symm) hp
theorem zyv {CX : CXT} {k : Nat} {f : Addr} {fd : FuncData} {ps ks : List Str} {sp : Sp} {x : Str} {p pos : Pos} {kws : List Keyword} {tk : TA} {g : List Value → List Value → List Value} {gV : List V → List V → List V}
    (F : FnOk X.prog X.w X.K X.mg X.base CX k f fd ps sp) (hr : Room k X.A) (hg : Gl X x) (hm : X.mg x = some (.ref f)) (hk : PySem.W.keepIn X.K (.ref f) = true) (hb : KBinds X.K fd ps ks g gV) (hx : Passes CX X E) (hkw : PK X kws tk)
    (hall : (backToKw pos (keywordEach kws X.env)).all (·.1.isSome) = true := by rfl) (hks : (backToKw pos (keywordEach kws X.env)).filterMap (·.1) = ks := by rfl) (hdb : (x == ("__debug__" : Str)) = false := by decide)
    (hpl : ((backTo pos (starEach [] X.env)).any (·.1) || (backToKw pos (keywordEach kws X.env)).any (·.1.isNone)) = false := by rfl) : PE X (.Call (.Name x p) [] kws pos) (tCallK sp gV E tNil tk) :=
  ⟨fun pins s σ H Q I h => wpAny_Call_Name_kw (ld_glob I hg hm (PySem.W.callWith_KW0 (h₀ := X.base) I.ok.mod.kin hk hall (thn (hkw.run pos pins s σ H _ I h) fun ws s2 ⟨zs, H2, I2, rz, q2⟩ => ⟨I2.kIn, by
    rw [hks]
    exact run_fnk (us := []) (vs := []) F hr hb hx I2 .nil rz q2⟩) hpl) hdb)⟩
def zp2 (n k : Nat) (ix : List Nat) (m : List D → Store → Res D) (a b : MA) : ME := fun ρ μ => (a ρ μ).bind fun xs μ => (b ρ μ).bind fun ys μ => if xs.length = n ∧ ys.length = k then m (ix.filterMap ((xs ++ ys)[·]?)) μ else .bad
theorem zzf {k : Nat} {ix : List Nat} {m : List D → Store → Res D} {b : MA} (h : PE X e (tCallK (spM W m) (pkI 0 k ix) E tNil (tA W E b))) : PE X e (tE W E (zp2 0 k ix m mNil b)) := zav h fun σ H Q ⟨ρ, c, hH, ok, env, w⟩ =>
  ⟨ρ, c, hH, ok, env, wp_bind (f := fun ys μ => if ([] : List D).length = 0 ∧ ys.length = k then m (ix.filterMap (([] ++ ys)[·]?)) μ else .bad) w fun zs ys c2 s2 ok2 r2 w2 => by
    split at w2
    · rename_i hl
      refine ⟨c2, _, rfl, ok2, ?_, w2⟩
      unfold pkI
      rw [zan r2, if_pos ⟨rfl, hl.2⟩]
      exact zuh r2 ix
    · exact w2.elim⟩
end
end Mi
namespace Mi
open PySem PySem.Spec L2 PyProof.Rows PySem.SeqAt
section
variable {prog : Program} {w : World} {K : Type} [DecidableEq K] {knd : KeyKind prog w K} {A : Around} {E : Value → Shared → Prop} {s : Shared}
end
section
variable {X : Cx} {pins : List (Addr × Obj)} {σ : L2.St} {H : Hp} {s : Shared}
end
section
variable {W : Wd} {E : XK} {c : Cf}
end
end Mi
namespace Mi
open PySem PySem.Spec L2 PyProof.Rows
section
variable {W : Wd} {E : XK} {X : Cx} {c : Cf} {v : V} {d : D} {ds es : List D} {e tg iter : Expr} {st : Stmt} {Q : VK} {a b : Addr}
def zipS (μ : Store) (d f : D) : Option Src := match seqL μ d, seqL μ f with
  | some ds, some es => some ⟨zipD ds es, d.cell ++ f.cell⟩
  | _, _ => match seqT d, seqT f with
    | some ds, some es => some ⟨zipD ds es, []⟩
    | _, _ => none
def miZip (a b : ME) : MI := fun ρ μ => (a ρ μ).bind fun x μ => (b ρ μ).bind fun y μ => match zipS μ x y with
  | some s => .ok s μ
  | none => .bad
def zil : D → List D → Store → Res D := fun x xs μ => match ownL μ x, xs with
  | some (n, ds), [] => .ok .non (μ.set n (some (.lst [])))
  | _, _ => .bad
theorem zy8 : MtC W E rClear zil := fun c x v xs vs Q ok hx hxs w => by
  unfold zil at w
  split at w
  · rename_i n ds e
    obtain ⟨rfl, hm, rfl, ws, h1, h2⟩ := zgw ok hx e
    cases hxs
    exact ⟨_, ws, rfl, rfl, h1, zi4 w ok hm .nil .non⟩
  · exact w.elim
end
end Mi
namespace OwnX
open PySem PySem.Spec L2 PyProof.Rows PySem.W
section
variable {prog : Program} {w : World} {A : Around} {E : Value → Shared → Prop} {s : Shared} {K : PySem.W.Frag} {x C f : Addr} {ox : Obj} {od : Option Obj} {y : Value}
end
section
variable {X : Cx} {CX : CXT} {C g : Addr} {n : Nat} {sp : Sp} {E : XK}
end
end OwnX
namespace Mi
open PySem PySem.Spec L2 PyProof.Rows
section
variable {W : Wd} {E : XK} {X : Cx} {c : Cf} {v : V} {d : D} {ds : List D} {e : Expr} {Q : VK} {C : String} {g f : Addr} {m : List D → Store → Res D} {ts ms : List String}
def isObj (C : String) : D → Bool
  | .obj C' _ _ => C' == C
  | _ => false
theorem zo1 (hC : W.cm C = some g) (ok : Ok W c) (h : Dp W c v d) (e : isObj C d = true) : ∃ a dx fs, v = .ref a ∧ c.H a = some (.ins g dx fs) := by
  cases h with
  | obj hc hg hl ha =>
    have := beq_iff_eq.mp e
    rw [this, hC] at hc
    cases hc
    exact ⟨_, _, _, rfl, ok.s _ _ hg⟩
  | _ => cases e
structure EqIn (W : Wd) (C : Addr) : Prop where
  b : ∀ n, n ∈ btys → PySem.W.notFirst W.K C (.type n) = true
  o : ∀ D g, errs.contains D = false → W.cm D = some g → PySem.W.notFirst W.K C (.ref g) = true
  i : ∀ D g, errs.contains D = false → W.cm D = some g → Cs.IsC W.K g
def eqB (K : PySem.W.Frag) (l : List (String × Addr)) (C : Addr) : Bool := (btys.all fun n => PySem.W.notFirst K C (.type n)) && l.all fun p => errs.contains p.1 || (PySem.W.notFirst K C (.ref p.2) && insB K p.2)
theorem zafo {K : PySem.W.Frag} {l : List (String × Addr)} {C : Addr} {tabs : List (Addr × Str)} (h : eqB K l C = true) : EqIn ⟨K, cmOf l, tabs⟩ C := by
  unfold eqB at h
  simp only [Bool.and_eq_true, List.all_eq_true, Bool.or_eq_true] at h
  refine ⟨fun n hn => h.1 n hn, fun D g he hD => ?_, fun D g he hD => ?_⟩
  · rcases h.2 _ (zhj hD) with z | z
    · dsimp only at z; rw [he] at z; cases z
    · exact z.1
  · rcases h.2 _ (zhj hD) with z | z
    · dsimp only at z; rw [he] at z; cases z
    · exact zwh z.2
def zs1 : D → Bool
  | .obj C _ _ => !errs.contains C
  | _ => false
def fEqO (C : String) (m : List D → Store → Res D) : D → D → Store → Res D := fun x y μ => if isObj C x = true then (match tnD μ y with
    | some (.b _) => m [x, y] μ
    | _ => if zs1 y = true then m [x, y] μ else .bad)
  else .bad
theorem zac7 (hC : W.cm C = some g) (F : EqIn W g) : OpM W E (Cs.rEqO W.K g (spM W m) E) (fEqO C m) := fun c x y v u Q ok hx hy w => by
  unfold fEqO at w
  split at w
  · rename_i hi
    obtain ⟨a, dx, fs, rfl, ha⟩ := zo1 hC ok hx hi
    have fin : ∀ t, TyX W.K c.H u t → PySem.W.notFirst W.K g t = true → Wp W (Dp W) (m [x, y] c.μ) c Q E → Cs.rEqO W.K g (spM W m) E (.ref a) u c.H Q := fun t ht hn w => ⟨a, dx, fs, t, rfl, ha, ht, hn, c, [x, y], rfl, ok, .cons hx (.cons hy .nil), w⟩
    split at w
    · rename_i n et
      obtain ⟨h1, h2⟩ := tn_b ok hy et
      exact fin _ h1 (F.b n h2) w
    · split at w
      · rename_i hp
        cases hy with
        | @obj _ C2 _ _ _ _ _ hc hg hl hb =>
          have he : errs.contains C2 = false := by
            have hp' : (!errs.contains C2) = true := hp
            cases q : errs.contains C2 with
            | false => rfl
            | true => rw [q] at hp'; cases hp'
          exact fin _ ((F.i _ _ he hc).ty (ok.s _ _ hg)) (F.o _ _ he hc) w
        | _ => cases hp
      · exact w.elim
  · exact w.elim
def fNeO (C : String) (m : List D → Store → Res D) : D → D → Store → Res D := fun x y μ => if isObj C x = true ∧ isObj C y = true then (m [x, y] μ).bind fun z μ => match z with
    | .bl k => .ok (.bl (!k)) μ
    | _ => .bad
  else .bad
theorem zk3 (hC : W.cm C = some g) : OpM W E (Cs.rNeO g (spM W m) E) (fNeO C m) := fun c x y v u Q ok hx hy w => by
  unfold fNeO at w
  split at w
  · rename_i hi
    obtain ⟨a, dx, fs, rfl, ha⟩ := zo1 hC ok hx hi.1
    obtain ⟨b, dy, gs, rfl, hb⟩ := zo1 hC ok hy hi.2
    refine ⟨a, dx, fs, b, dy, gs, rfl, rfl, ha, hb, c, [x, y], rfl, ok, .cons hx (.cons hy .nil), wp_bind w fun v d c1 s1 ok1 r1 w1 => ?_⟩
    cases r1 with
    | bl k => exact ⟨k, rfl, zaj w1 ok1 (.bl _)⟩
    | _ => exact w1.elim
  · exact w.elim
end
end Mi
namespace SetT
open PySem PySem.Spec PyProof.Rows L2
def keyS (e : Int × Value) : Str := match e.2 with | .str k _ => k | _ => Str.empty
def GoodS (P : Program) (w : World) (e : Int × Value) : Prop := ∃ k tk, e.2 = Value.str k tk ∧ e.1 = (PySem.strKind P w).hash k
def SetX (P : Program) (w : World) (h : Heap) (a : Addr) (S : Str → Bool) (n : Nat) : Prop :=
  ∃ o es ep t, h.get? a = some o ∧ o.ExactSet ∧ o.data = .set es ep t ∧ (∀ e ∈ es.toList, GoodS P w e) ∧ (es.toList.map keyS).Nodup ∧ (∀ k, S k = true ↔ k ∈ es.toList.map keyS) ∧
    es.size < scanBound ∧ t.fits es.size = true ∧ es.size = n ∧ Ris t.place.toList ∧ (w.params.followText "set-order" = true ∨ t.led = true)
section
variable {P : Program} {w : World} {h h' : Heap} {a : Addr} {S : Str → Bool} {n : Nat}
theorem SetX.at (R : SetX P w h a S n) (k : ∀ o, h.get? a = some o → h'.get? a = some o) : SetX P w h' a S n := by
  obtain ⟨o, es, ep, t, ho, r⟩ := R
  exact ⟨o, es, ep, t, k o ho, r⟩
end
section
variable {P : Program} {w : World} {A : Around} {E : Value → Shared → Prop} {s : Shared} {a : Addr} {S : Str → Bool} {n : Nat}
end
section
variable {prog : Program} {w : World} {A : Around} {R : Result → Shared → Prop} {J : Addr} {fp wr : List Addr} {G : Array GenState → Array GenState → Prop} {n : Nat} {T : Nat → Value → Prop} {St : Nat → Shared → Prop}
end
end SetT
namespace SetT
open PySem PySem.Spec PyProof.Rows L2
section
variable {prog : Program} {w : World} {A : Around} {E : Value → Shared → Prop} {s : Shared}
end
end SetT
namespace SetT
open PySem PySem.Spec PyProof.Rows L2
end SetT
namespace Mi
open PySem PySem.Spec L2 PyProof.Rows
section
variable {W : Wd} {E : XK} {X : Cx} {c : Cf} {v : V} {d : D} {ds : List D} {e : Expr} {st : Stmt} {Q : VK}
def seqA (μ : Store) (x : D) : Option (List D) := match seqL μ x with
  | some ds => some ds
  | none => seqT x
def zti (b : Bool) (a : ME) : ME := fun ρ μ => (a ρ μ).bind fun x μ => match (seqA μ x).bind strsD with
  | some ss => if ss.length < 64 ∨ ((SetT.ddS ss).length < 64 ∧ ss.length ≤ 1000) then newL b ((sortS (SetT.ddS ss)).map .str) μ else .bad
  | none => .bad
end
end Mi
namespace Mi
open PySem PySem.Spec L2 PyProof.Rows
section
variable {W : Wd} {E : XK} {X : Cx} {c : Cf} {v : V} {d : D} {ds : List D} {e : Expr} {es : List Expr} {st : Stmt} {Q : VK}
end
end Mi
namespace Mi
open PySem PySem.Spec L2 PyProof.Rows
section
variable {W : Wd} {E : XK} {X : Cx} {c : Cf} {v : V} {d : D} {ds : List D} {e : Expr} {Q : VK}
end
end Mi
namespace Mi
open PySem PySem.Spec L2 PyProof.Rows
section
variable {prog : Program} {w : World} {A : Around} {E : Value → Shared → Prop} {s : Shared}
end
section
variable {X : Cx}
end
section
variable {W : Wd} {E : XK} {X : Cx} {e : Expr}
def mRevA (b : Bool) (a : ME) : ME := fun ρ μ => (a ρ μ).bind fun x μ => match x with
  | .tup ds => .ok (.tup ds.reverse) μ
  | x => match seqL μ x with
    | some ds => newL b ds.reverse μ
    | none => .bad
end
end Mi
namespace Mi
open PySem PySem.Spec L2 PyProof.Rows
set_option maxRecDepth 8000 in
section
variable {X : Cx}
end
section
variable {W : Wd} {E : XK} {X : Cx} {st : Stmt}
end
end Mi
namespace OwnX
open PySem PySem.Spec L2 PyProof.Rows PySem.W
section
variable {prog : Program} {w : World} {A : Around} {E : Value → Shared → Prop} {s : Shared} {K : PySem.W.Frag} {x C f : Addr} {ox : Obj} {od : Option Obj} {y : Value}
end
section
variable {X : Cx} {CX : CXT} {C g : Addr} {n : Nat} {sp : Sp} {E : XK}
end
end OwnX
namespace Mi
open PySem PySem.Spec L2 PyProof.Rows
section
variable {W : Wd} {E : XK} {X : Cx} {c : Cf} {v : V} {d : D} {ds : List D} {e : Expr} {Q : VK} {C : String} {g f : Addr} {m : List D → Store → Res D}
end
end Mi
namespace LEq
open PySem PySem.SeqAt
open AutoSeq1 (wpAny_loadPart')
open MeetsSeq MeetsSeq2 MeetsSeq3 SeqRoads2
section
variable {prog : Program} {w : World} {A : Around} {R : Result → Shared → Prop}
end
section
variable {prog : Program} {w : World} {A : Around} {E : Value → Shared → Prop} {s : Shared}
end
end LEq
namespace OwnX
open PySem PySem.Spec L2 PyProof.Rows PySem.W
section
variable {X : Cx} {CX : CXT} {C g : Addr} {n : Nat} {sp : Sp} {E : XK}
end
section
variable {X : Cx} {CX : CXT} {C g : Addr} {n : Nat} {sp : Sp} {E : XK}
end
end OwnX
namespace Mi
open PySem PySem.Spec L2 PyProof.Rows
section
variable {W : Wd} {E : XK} {X : Cx} {c : Cf} {v : V} {d : D} {ds : List D} {e : Expr} {Q : VK} {C : String} {g f : Addr} {m : List D → Store → Res D}
open Classical in
open Classical in
end
end Mi
namespace Mi
open PySem PySem.Spec L2
open Classical
section
variable {W : Wd} {E : XK} {X : Cx} {v : V} {d : D} {ds : List D} {e tg iter : Expr} {st : Stmt} {Q : VK}
end
end Mi
namespace OwnX
open PySem PySem.Spec L2 PyProof.Rows PySem.W
section
variable {prog : Program} {w : World} {A : Around} {E : Value → Shared → Prop} {s : Shared} {K : PySem.W.Frag} {x y C f : Addr} {ox oy : Obj} {od ody : Option Obj}
end
section
variable {X : Cx} {CX : CXT} {C g : Addr} {n : Nat} {sp : Sp} {E : XK}
end
end OwnX
namespace Mi
open PySem PySem.Spec L2 PyProof.Rows
section
variable {W : Wd} {E : XK} {X : Cx} {c : Cf} {v : V} {d : D} {C : String} {g f : Addr} {m : List D → Store → Res D}
end
end Mi
namespace Cs
open PySem PySem.Spec L2
section
variable {X : Cx}
end
end Cs
namespace Mi
open PySem PySem.Spec L2 PyProof.Rows
section
variable {W : Wd} {E : XK} {X : Cx} {c : Cf} {v : V} {d : D} {ds : List D}
end
end Mi
namespace Cs
open PySem PySem.Spec L2
section
variable {X : Cx}
end
end Cs
namespace Mi
open PySem PySem.Spec L2 PyProof.Rows
section
variable {W : Wd} {E : XK} {X : Cx} {c : Cf} {v : V} {d : D} {ds : List D}
end
end Mi
namespace Mi
open PySem PySem.Spec L2 PyProof.Rows
section
variable {W : Wd} {E : XK}
end
end Mi
namespace KeyX
open PySem PySem.Spec L2 PyProof.Rows LamX
end KeyX
namespace KeyX
open PySem PySem.Spec L2 PyProof.Rows LamX
section
variable {X : Cx} {pins : List (Addr × Obj)} {σ : L2.St} {H : Hp} {s : Shared}
def zafb (ts : List Str) : PyData := .tuple [.int ts.length, .tuple (ts.map .str)]
end
end KeyX
namespace KeyX
open PySem PySem.Spec L2 PyProof.Rows LamX
end KeyX
namespace Mi
open PySem PySem.Spec L2 PyProof.Rows LamX KeyX
section
variable {W : Wd} {E : XK} {X : Cx} {c : Cf} {v : V} {d : D} {ds : List D} {e : Expr}
def leLen : List Str → List Str → Bool := PySem.W.dataLe false zafb
def tupsW : List D → Option (List (List Str))
  | [] => some []
  | .tup ds :: r => match strsD ds, tupsW r with
    | some t, some ts => some (t :: ts)
    | _, _ => none
  | _ :: _ => none
def ztj (b : Bool) (a : ME) : ME := fun ρ μ => (a ρ μ).bind fun x μ => match (seqL μ x).bind tupsW with
  | some tss => newL b ((tss.mergeSort leLen).map fun t => .tup (t.map .str)) μ
  | none => .bad
end
end Mi
namespace Mi
open PySem PySem.Spec L2 PyProof.Rows
section
variable {W : Wd} {E : XK}
end
end Mi
namespace Pl
open PySem PySem.Spec L2 Mi
set_option checkBinderAnnotations false in
def Rp {α : Type} (r : Res α) [Q : α → Store → Prop] [X : Exc → Store → Prop] : Prop := match r with
  | .ok a μ => Q a μ
  | .exc x μ => X x μ
  | .bad => False
structure Post where
  N : Mi.Env → Store → Prop
  R : D → Store → Prop
  B : Mi.Env → Store → Prop
  C : Mi.Env → Store → Prop
  X : Exc → Store → Prop
set_option checkBinderAnnotations false in
def RpS (r : ResS) [P : Post] : Prop := match r with
  | .nx ρ μ => P.N ρ μ
  | .rt d μ => P.R d μ
  | .bk ρ μ => P.B ρ μ
  | .ct ρ μ => P.C ρ μ
  | .exc x μ => P.X x μ
  | .bad => False
section
variable {α β : Type} {Q : α → Store → Prop} {X : Exc → Store → Prop} {P : Post} {ρ : Mi.Env} {μ : Store} {n : Nat} {Q' : D → Store → Prop}
@[simp] theorem rp_ok {a : α} : @Rp _ (.ok a μ) Q X = Q a μ := rfl
@[simp] theorem rp_exc {x : Exc} : @Rp _ (.exc x μ : Res α) Q X = X x μ := rfl
@[simp] theorem rp_bad : @Rp _ (.bad : Res α) Q X = False := rfl
@[simp] theorem rp_bind {r : Res β} {f : β → Store → Res α} : @Rp _ (r.bind f) Q X = @Rp _ r (fun a μ => @Rp _ (f a μ) Q X) X := by cases r <;> rfl
@[simp] theorem rs_st {r : Res β} {f : β → Store → ResS} : @RpS (r.st f) P = @Rp _ r (fun a μ => @RpS (f a μ) P) P.X := by cases r <;> rfl
@[simp] theorem rs_nx : @RpS (.nx ρ μ) P = P.N ρ μ := rfl
@[simp] theorem rs_rt {d : D} : @RpS (.rt d μ) P = P.R d μ := rfl
@[simp] theorem rs_bk : @RpS (.bk ρ μ) P = P.B ρ μ := rfl
@[simp] theorem rs_ct : @RpS (.ct ρ μ) P = P.C ρ μ := rfl
@[simp] theorem rs_exc {x : Exc} : @RpS (.exc x μ) P = P.X x μ := rfl
@[simp] theorem rs_bad : @RpS .bad P = False := rfl
@[simp] theorem rs_seq {a b : MS} : @RpS (mSeq a b n ρ μ) P = @RpS (a n ρ μ) ⟨fun ρ μ => @RpS (b n ρ μ) P, P.R, P.B, P.C, P.X⟩ := by
  unfold mSeq; cases a n ρ μ <;> rfl
@[simp] theorem rs_next : @RpS (mNext n ρ μ) P = P.N ρ μ := rfl
@[simp] theorem rs_ret {a : ME} : @RpS (mRet a n ρ μ) P = @Rp _ (a ρ μ) P.R P.X := by unfold mRet; cases a ρ μ <;> rfl
@[simp] theorem rs_retN : @RpS (mRetN n ρ μ) P = P.R .non μ := rfl
@[simp] theorem rs_drop {a : ME} : @RpS (mDrop a n ρ μ) P = @Rp _ (a ρ μ) (fun _ μ => P.N ρ μ) P.X := by unfold mDrop; cases a ρ μ <;> rfl
@[simp] theorem rs_brk : @RpS (mBrk n ρ μ) P = P.B ρ μ := rfl
@[simp] theorem rs_cnt : @RpS (mCnt n ρ μ) P = P.C ρ μ := rfl
@[simp] theorem rs_if {t : MT} {a b : MS} : @RpS (mIfS t a b n ρ μ) P = @Rp _ (t ρ μ) (fun k μ => if k = true then @RpS (a n ρ μ) P else @RpS (b n ρ μ) P) P.X := by
  unfold mIfS; cases t ρ μ with
  | ok k μ => cases k <;> rfl
  | exc x μ => rfl
  | bad => rfl
@[simp] theorem rs_set {i : Nat} {a : ME} : @RpS (mSet i a n ρ μ) P = @Rp _ (a ρ μ) (fun d μ => P.N (ρ.set i (some d)) μ) P.X := by unfold mSet; cases a ρ μ <;> rfl
@[simp] theorem rs_par {i j : Nat} {a : MA} : @RpS (mPar i j a n ρ μ) P = @Rp _ (a ρ μ) (fun ds μ => match ds with
  | [x, y] => P.N ((ρ.set i (some x)).set j (some y)) μ
  | _ => False) P.X := by
  unfold mPar; cases a ρ μ with
  | ok ds μ => show @RpS (match ds with | [x, y] => _ | _ => _) P = _; rcases ds with _ | ⟨x, _ | ⟨y, _ | ⟨z, r⟩⟩⟩ <;> rfl
  | exc x μ => rfl
  | bad => rfl
@[simp] theorem rs_asg {a : ME} {g : MG} : @RpS (mAsg a g n ρ μ) P = @Rp _ (a ρ μ) (fun d μ => @Rp _ (g d ρ μ) P.N P.X) P.X := by
  unfold mAsg; cases a ρ μ with
  | ok d μ => show @RpS ((g d ρ μ).st _) P = @Rp _ (g d ρ μ) P.N P.X; cases g d ρ μ <;> rfl
  | exc x μ => rfl
  | bad => rfl
@[simp] theorem rs_frz {i : Nat} {m : MS} : @RpS (mFrz i m n ρ μ) P = (match ρ[i]? with
  | some (some (.own k)) => n ≤ k ∧ (match μ[k]? with
    | some (some x) => (match frzC x with
      | some d => @RpS (m n (ρ.set i (some d)) (μ.set k none)) P
      | none => False)
    | _ => False)
  | _ => False) := by
  unfold mFrz
  cases ρ[i]? with
  | none => rfl
  | some o =>
    cases o with
    | none => rfl
    | some d =>
      cases d with
      | own k =>
        dsimp only
        by_cases h : n ≤ k
        · rw [if_pos h]
          cases μ[k]? with
          | none => simp
          | some y =>
            cases y with
            | none => simp
            | some x => dsimp only; cases frzC x <;> simp [h]
        · rw [if_neg h]; simp [h]
      | _ => rfl
@[simp] theorem rp_var {i : Nat} : @Rp _ (mVar i ρ μ) Q' X = (match ρ[i]? with
  | some (some d) => Q' d μ
  | _ => False) := by unfold mVar; cases ρ[i]? with
  | none => rfl
  | some o => cases o <;> rfl
@[simp] theorem rp_c {d : D} : @Rp _ (mC d ρ μ) Q' X = Q' d μ := rfl
@[simp] theorem rp_op {f : D → D → Store → Res D} {a b : ME} : @Rp _ (mOp f a b ρ μ) Q' X = @Rp _ (a ρ μ) (fun x μ => @Rp _ (b ρ μ) (fun y μ => @Rp _ (f x y μ) Q' X) X) X := by simp [mOp]
@[simp] theorem rp_un {f : D → Store → Res D} {a : ME} : @Rp _ (mUn f a ρ μ) Q' X = @Rp _ (a ρ μ) (fun x μ => @Rp _ (f x μ) Q' X) X := by simp [mUn]
@[simp] theorem rp_cb {f : List D → Store → Res D} {a : MA} : @Rp _ (mCb f a ρ μ) Q' X = @Rp _ (a ρ μ) (fun x μ => @Rp _ (f x μ) Q' X) X := by simp [mCb]
@[simp] theorem rp_call {m : List D → Store → Res D} {a : MA} : @Rp _ (mCall m a ρ μ) Q' X = @Rp _ (a ρ μ) (fun x μ => @Rp _ (m x μ) Q' X) X := by simp [mCall]
@[simp] theorem rp_callN {m : List D → Store → Res D} {a : MA} : @Rp _ (zp1 m a ρ μ) Q' X = @Rp _ (a ρ μ) (fun x μ => @Rp _ (m x μ) Q' fun _ _ => False) X := by
  unfold zp1; rw [rp_bind]; congr 1; funext x μ; cases m x μ <;> rfl
@[simp] theorem rp_chain {f g : D → D → Store → Res D} {a b d : ME} : @Rp _ (zeg f g a b d ρ μ) Q' X = @Rp _ (a ρ μ) (fun x μ => @Rp _ (b ρ μ) (fun y μ => @Rp _ (f x y μ) (fun z μ => match z with
  | .bl true => @Rp _ (d ρ μ) (fun w μ => @Rp _ (g y w μ) Q' X) X
  | .bl false => Q' (.bl false) μ
  | _ => False) X) X) X := by
  unfold zeg
  simp only [rp_bind]
  congr 1; funext x μ; congr 1; funext y μ; congr 1; funext z μ
  cases z <;> first | rfl | (rename_i b; cases b <;> simp)
@[simp] theorem rp_andV {a b : ME} : @Rp _ (mAndV a b ρ μ) Q' X = @Rp _ (a ρ μ) (fun x μ => match x with
  | .bl true => @Rp _ (b ρ μ) Q' X
  | .bl false => Q' (.bl false) μ
  | _ => False) X := by
  unfold mAndV; rw [rp_bind]; congr 1; funext x μ; cases x <;> first | rfl | (rename_i b; cases b <;> rfl)
@[simp] theorem rp_orV {a b : ME} : @Rp _ (mOrV a b ρ μ) Q' X = @Rp _ (a ρ μ) (fun x μ => match x with
  | .bl false => @Rp _ (b ρ μ) Q' X
  | .bl true => Q' (.bl true) μ
  | _ => False) X := by
  unfold mOrV; rw [rp_bind]; congr 1; funext x μ; cases x <;> first | rfl | (rename_i b; cases b <;> rfl)
@[simp] theorem rp_notV {a : ME} : @Rp _ (mNotV a ρ μ) Q' X = @Rp _ (a ρ μ) (fun x μ => match x with
  | .bl k => Q' (.bl (!k)) μ
  | _ => False) X := by
  unfold mNotV; rw [rp_bind]; congr 1; funext x μ; cases x <;> rfl
@[simp] theorem rp_orT {a b : ME} : @Rp _ (mOrT a b ρ μ) Q' X = @Rp _ (a ρ μ) (fun x μ => match truD μ x with
  | some false => @Rp _ (b ρ μ) Q' X
  | some true => Q' x μ
  | none => False) X := by
  unfold mOrT; rw [rp_bind]; congr 1; funext x μ; cases truD μ x with
  | none => rfl
  | some b => cases b <;> rfl
variable {T : Bool → Store → Prop}
@[simp] theorem rp_B {a : ME} : @Rp _ (mB a ρ μ) T X = @Rp _ (a ρ μ) (fun x μ => match x with
  | .bl k => T k μ
  | _ => False) X := by
  unfold mB; rw [rp_bind]; congr 1; funext x μ; cases x <;> rfl
@[simp] theorem rp_tru {a : ME} : @Rp _ (mTru a ρ μ) T X = @Rp _ (a ρ μ) (fun x μ => match truD μ x with
  | some k => T k μ
  | none => False) X := by
  unfold mTru; rw [rp_bind]; congr 1; funext x μ; cases truD μ x <;> rfl
@[simp] theorem rp_and {a b : MT} : @Rp _ (mAnd a b ρ μ) T X = @Rp _ (a ρ μ) (fun x μ => if x = true then @Rp _ (b ρ μ) T X else T false μ) X := by
  unfold mAnd; rw [rp_bind]; congr 1; funext x μ; cases x <;> simp
@[simp] theorem rp_or {a b : MT} : @Rp _ (mOr a b ρ μ) T X = @Rp _ (a ρ μ) (fun x μ => if x = true then T true μ else @Rp _ (b ρ μ) T X) X := by
  unfold mOr; rw [rp_bind]; congr 1; funext x μ; cases x <;> simp
@[simp] theorem rp_not {a : MT} : @Rp _ (mNot a ρ μ) T X = @Rp _ (a ρ μ) (fun x μ => T (!x) μ) X := by
  unfold mNot; rw [rp_bind]; congr 1
@[simp] theorem rp_yes : @Rp _ (mYes ρ μ) T X = T true μ := rfl
@[simp] theorem rp_if {t : MT} {a b : ME} : @Rp _ (mIf t a b ρ μ) Q' X = @Rp _ (t ρ μ) (fun k μ => if k = true then @Rp _ (a ρ μ) Q' X else @Rp _ (b ρ μ) Q' X) X := by
  unfold mIf; rw [rp_bind]; congr 1; funext x μ; cases x <;> simp
variable {L : List D → Store → Prop}
@[simp] theorem rp_nil : @Rp _ (mNil ρ μ) L X = L [] μ := rfl
@[simp] theorem rp_cons {a : ME} {b : MA} : @Rp _ (mCons a b ρ μ) L X = @Rp _ (a ρ μ) (fun x μ => @Rp _ (b ρ μ) (fun xs μ => L (x :: xs) μ) X) X := by simp [mCons]
@[simp] theorem rp_ite {c : Prop} [Decidable c] {a b : Res α} : @Rp _ (if c then a else b) Q X = if c then @Rp _ a Q X else @Rp _ b Q X := by split <;> rfl
@[simp] theorem rp_tup {a : MA} : @Rp _ (mTup a ρ μ) Q' X = @Rp _ (a ρ μ) (fun xs μ => xs.length ≤ sizeLine ∧ Q' (.tup xs) μ) X := by
  unfold mTup; rw [rp_bind]; congr 1; funext x μ; by_cases h : x.length ≤ sizeLine <;> simp [h]
@[simp] theorem rp_newL {b : Bool} {ds : List D} : @Rp _ (newL b ds μ) Q' X = if b = true then Q' (.own μ.length) (μ ++ [some (.lst ds)]) else Q' (.lst ds) μ := by
  unfold newL; split <;> rfl
@[simp] theorem rp_newK {b : Bool} {ks : List Key} {ds : List D} : @Rp _ (newK b ks ds μ) Q' X = if b = true then Q' (.own μ.length) (μ ++ [some (.dct ks ds)]) else Q' (.dct ks ds) μ := by
  unfold newK; split <;> rfl
@[simp] theorem rp_lst {b : Bool} {a : MA} : @Rp _ (mLst b a ρ μ) Q' X = @Rp _ (a ρ μ) (fun xs μ => xs.length ≤ sizeLine ∧ @Rp _ (newL b xs μ) Q' X) X := by
  unfold mLst; rw [rp_bind]; congr 1; funext x μ; by_cases h : x.length ≤ sizeLine <;> simp [h]
@[simp] theorem rp_dnew {b : Bool} : @Rp _ (mDNew b ρ μ) Q' X = @Rp _ (newK b [] [] μ) Q' X := rfl
variable {O : Option Int → Store → Prop}
@[simp] theorem rp_moN : @Rp _ (znf ρ μ) O X = O none μ := rfl
@[simp] theorem rp_moS {a : ME} : @Rp _ (zgb a ρ μ) O X = @Rp _ (a ρ μ) (fun d μ => match d with
  | .int i => O (some i) μ
  | _ => False) X := by
  unfold zgb; rw [rp_bind]; congr 1; funext x μ; cases x <;> rfl
@[simp] theorem rp_sl {b : Bool} {a : ME} {l h : MO} : @Rp _ (mSl b a l h ρ μ) Q' X = @Rp _ (a ρ μ) (fun x μ => @Rp _ (l ρ μ) (fun lo μ => @Rp _ (h ρ μ) (fun hi μ => @Rp _ (fSl b x lo hi μ) Q' X) X) X) X := by simp [mSl]
@[simp] theorem rp_revL {b : Bool} {a : ME} : @Rp _ (mRevL b a ρ μ) Q' X = @Rp _ (a ρ μ) (fun x μ => match seqL μ x with
  | some ds => @Rp _ (newL b ds.reverse μ) Q' X
  | none => False) X := by
  unfold mRevL; rw [rp_bind]; congr 1; funext x μ; cases seqL μ x with
  | none => rfl
  | some ds => rfl
@[simp] theorem rp_bm {T : String} {f : D → List D → Store → Res D} {o : ME} {a : MA} : @Rp _ (mBm T f o a ρ μ) Q' X = @Rp _ (o ρ μ) (fun x μ => tyM μ x = some T ∧ @Rp _ (a ρ μ) (fun xs μ => @Rp _ (f x xs μ) Q' X) X) X := by
  unfold mBm; rw [rp_bind]; congr 1; funext x μ; by_cases h : tyM μ x = some T <;> simp [h]
@[simp] theorem rp_dget {o i : ME} : @Rp _ (mDGet o i ρ μ) Q' X = @Rp _ (o ρ μ) (fun x μ => @Rp _ (i ρ μ) (fun y μ => match dctOf μ x, keyOf y with
  | some (ks, ds), some k => (match lookK k ks ds with
    | some d => Q' d μ
    | none => False)
  | _, _ => False) X) X := by
  unfold mDGet; simp only [rp_bind]; congr 1; funext x μ; congr 1; funext y μ
  cases dctOf μ x with
  | none => rfl
  | some p =>
    obtain ⟨ks, ds⟩ := p
    cases keyOf y with
    | none => rfl
    | some k => dsimp only; cases lookK k ks ds <;> rfl
variable {G : Mi.Env → Store → Prop}
@[simp] theorem rg_name {i : Nat} {d : D} : @Rp _ (zam i d ρ μ) G X = G (ρ.set i (some d)) μ := rfl
@[simp] theorem rg_nil {ds : List D} : @Rp _ (mgNil ds ρ μ) G X = (match ds with | [] => G ρ μ | _ => False) := by unfold mgNil; cases ds <;> rfl
@[simp] theorem rg_cons {a : MG} {b : MGs} {ds : List D} : @Rp _ (zbp a b ds ρ μ) G X = (match ds with
  | d :: ds => @Rp _ (a d ρ μ) (fun ρ μ => @Rp _ (b ds ρ μ) G X) X
  | [] => False) := by unfold zbp; cases ds <;> simp
@[simp] theorem zyk {n : Nat} {g : MGs} {d : D} : @Rp _ (mgTup n g d ρ μ) G X = (match d with
  | .tup ds => ds.length = n ∧ @Rp _ (g ds ρ μ) G X
  | _ => False) := by
  unfold mgTup; cases d with
  | tup ds => dsimp only; by_cases h : ds.length = n <;> simp [h]
  | _ => rfl
@[simp] theorem rg_subL {o i : ME} {z : D} : @Rp _ (zjo o i z ρ μ) G X = @Rp _ (o ρ μ) (fun x μ => @Rp _ (i ρ μ) (fun y μ => match ownL μ x, y with
  | some (n, ds), .int k => (match ixN ds.length k with
    | some j => G ρ (μ.set n (some (.lst (ds.set j z))))
    | none => False)
  | _, _ => False) X) X := by
  unfold zjo; simp only [rp_bind]; congr 1; funext x μ; congr 1; funext y μ
  cases ownL μ x with
  | none => rfl
  | some p =>
    obtain ⟨m, ds⟩ := p
    cases y with
    | int k => dsimp only; cases ixN ds.length k <;> rfl
    | _ => rfl
@[simp] theorem rp_fn {N P' : Nat} {body : MS} {ds : List D} : @Rp _ (mFn N P' body ds μ) Q' X = (ds.length = P' ∧ @RpS (body μ.length (zao N ds) μ) ⟨fun _ μ => Q' .non μ, Q', fun _ _ => False, fun _ _ => False, X⟩) := by
  unfold mFn
  by_cases h : ds.length = P'
  · rw [if_pos h]
    cases body μ.length (zao N ds) μ <;> simp [h]
  · rw [if_neg h]; simp [h]
theorem zqw {r : ResS} {P P2 : Post} (h : @RpS r P) (n : ∀ ρ μ, P.N ρ μ → P2.N ρ μ) (rt : ∀ d μ, P.R d μ → P2.R d μ) (b : ∀ ρ μ, P.B ρ μ → P2.B ρ μ) (c : ∀ ρ μ, P.C ρ μ → P2.C ρ μ) (x : ∀ e μ, P.X e μ → P2.X e μ) : @RpS r P2 := by
  cases r with
  | nx ρ μ => exact n _ _ h
  | rt ρ μ => exact rt _ _ h
  | bk ρ μ => exact b _ _ h
  | ct ρ μ => exact c _ _ h
  | exc ρ μ => exact x _ _ h
  | bad => exact h
theorem zpj {r : Res α} (h : @Rp _ r Q fun _ _ => False) : ∃ a μ, r = .ok a μ ∧ Q a μ := by
  cases r with
  | ok a μ => exact ⟨a, μ, rfl, h⟩
  | exc x μ => exact h.elim
  | bad => exact h.elim
end
end Pl
namespace Mi
open PySem PySem.Spec L2 PyProof.Rows
section
variable {W : Wd} {E : XK} {X : Cx} {e : Expr}
def mgLst (n : Nat) (g : MGs) : MG := fun d ρ μ => match seqL μ d with
  | some ds => if ds.length = n then g ds ρ μ else .bad
  | none => .bad
end
end Mi
namespace Pl
open PySem PySem.Spec L2 Mi
section
variable {X : Exc → Store → Prop} {ρ : Mi.Env} {μ : Store} {G : Mi.Env → Store → Prop}
@[simp] theorem zyl {n : Nat} {g : MGs} {d : D} : @Rp _ (mgLst n g d ρ μ) G X = (match seqL μ d with
  | some ds => ds.length = n ∧ @Rp _ (g ds ρ μ) G X
  | none => False) := by
  unfold mgLst
  cases seqL μ d with
  | some ds => dsimp only; by_cases h : ds.length = n <;> simp [h]
  | none => rfl
end
end Pl
namespace Mi
open PySem PySem.Spec L2 PyProof.Rows
section
variable {W : Wd} {E : XK} {X : Cx}
end
end Mi
namespace Mi
open PySem PySem.Spec L2 PyProof.Rows
section
variable {W : Wd} {E : XK} {X : Cx} {c : Cf} {v : V} {d : D} {ds : List D}
end
end Mi
namespace Mi
open PySem PySem.Spec L2 PyProof.Rows
section
variable {W : Wd} {E : XK} {X : Cx}
end
end Mi
namespace Mi
open PySem PySem.Spec L2 LamX PyProof.Rows Cs
section
variable {K : PySem.W.Frag} {w : World}
def dfV : Value → Value
  | .ref _ => .ref 0
  | v => v
theorem zad5 {v : Value} (h : dfV v = .none) : v = .none := by
  cases v with
  | ref a => cases h
  | _ => exact h
def fnAt (K : PySem.W.Frag) (a : Addr) : He.FnV := match K.lookup a with
  | some ⟨_, _, .func fd, _⟩ => some (fd.name, fd.qualname, fd.params, fd.body, fd.scope, fd.globals, fd.closure, dfV fd.defaults, fd.builtins)
  | _ => none
def cdB (K : PySem.W.Frag) (a : Addr) (q : Str) : Bool := match K.lookup a with
  | some ⟨_, _, .func fd, _⟩ => PySem.W.codeIn K fd.code q
  | _ => false
def fnV (nm q : Str) (st : Stmt) : He.FnV := some (nm, q, defArgs st, .stmts (defBody st), defScope st, mainGlobals, [], .none, builtinsNs)
theorem za2 {a : Addr} {nm q : Str} {st : Stmt} (e : fnAt K a = fnV nm q st) (c2 : cdB K a q = true) :
    ∃ oc od osl kV doc pm an cdv ct, K.lookup a = some ⟨oc, od, .func (PySem.W.fnOf nm q (defArgs st) (defBody st) (defScope st) .none kV doc pm an cdv ct), osl⟩ ∧ PySem.W.codeIn K cdv q = true := by
  unfold fnAt at e
  unfold cdB at c2
  cases h : K.lookup a with
  | none => rw [h] at c2; cases c2
  | some o =>
    obtain ⟨oc, od, dt, osl⟩ := o
    rw [h] at c2 e
    cases dt with
    | func fd =>
      obtain ⟨n1, n2, n3, n4, n5, n6, n7, n8, n9, n10, n11, n12, n13, n14, n15⟩ := fd
      have e2 : (some (n1, n2, n3, n4, n5, n6, n7, dfV n8, n15) : He.FnV) = some (nm, q, defArgs st, .stmts (defBody st), defScope st, mainGlobals, [], .none, builtinsNs) := e
      simp only [Option.some.injEq, Prod.mk.injEq] at e2
      obtain ⟨h1, h2, h3, h4, h5, h6, h7, h8, h9⟩ := e2
      replace h8 := zad5 h8
      subst h1 h2 h3 h4 h5 h6 h7 h8 h9
      exact ⟨oc, od, osl, n9, n10, n11, n12, n13, n14, rfl, c2⟩
    | _ => cases c2
def gF (o : Option PySem.W.CFound) : Addr := match o with
  | some (.get _ (.ref a) _ _) => a
  | _ => 0
def hdG (o : Option PySem.W.CFound) (C : Addr) : Bool := match o with
  | some (.get g (.ref a) u t) => decide (g = .builtin "classmethod.__get__") && (decide (u = .none) && decide (t = .ref C))
  | _ => false
theorem zafg {o : Option PySem.W.CFound} {C : Addr} (h : hdG o C = true) : o = some (.get (.builtin "classmethod.__get__") (.ref (gF o)) .none (.ref C)) := by
  unfold hdG at h
  unfold gF
  split at h
  · obtain ⟨h1, h2⟩ := He.ba h
    obtain ⟨h3, h4⟩ := He.ba h2
    rw [of_decide_eq_true h1, of_decide_eq_true h3, of_decide_eq_true h4]
  · cases h
def hdI (o : Option (Option Value)) (i : Int) : Bool := match o with
  | some (some (.int j _)) => decide (j = i)
  | _ => false
theorem zgf {o : Option (Option Value)} {i : Int} (h : hdI o i = true) : ∃ t, o = some (some (.int i t)) := by
  unfold hdI at h
  split at h
  · rename_i j t
    exact ⟨t, by rw [of_decide_eq_true h]⟩
  · cases h
def hdV (o : Option PySem.W.CFound) (v : Value) : Bool := match o with
  | some (.val u) => decide (u = v)
  | _ => false
theorem zaff {o : Option PySem.W.CFound} {v : Value} (h : hdV o v = true) : o = some (.val v) := by
  unfold hdV at h
  split at h
  · rw [of_decide_eq_true h]
  · cases h
def rF (K : PySem.W.Frag) (a : Addr) (T : String) : Addr := match PySem.W.recIn K a T with
  | some (.ref f :: _) => f
  | _ => 0
def rR (K : PySem.W.Frag) (a : Addr) (T : String) : List Value := match PySem.W.recIn K a T with
  | some (_ :: r) => r
  | _ => []
def rB (K : PySem.W.Frag) (a : Addr) (T : String) : Bool := match PySem.W.recIn K a T with
  | some (.ref _ :: _) => true
  | _ => false
theorem rB_ok {a : Addr} {T : String} (h : rB K a T = true) : PySem.W.recIn K a T = some (.ref (rF K a T) :: rR K a T) := by
  unfold rB at h
  unfold rF rR
  split at h
  · rename_i f r e
    rw [e]
  · cases h
def oexB (K : PySem.W.Frag) (C : Addr) : Bool := match K.lookup C with
  | some ⟨.type t, _, .cls cd, sl⟩ => decide (t = "type") && (match cd.mro, sl.toList with
    | .ref C' :: bm, [_, _, _, _, some (.builtin n), _] => decide (C' = C) && (decide (n = "ValueError.__new__") && (!cd.hasDel && (cd.hasDict && PySem.HandSPX.refsVE bm)))
    | _, _ => false)
  | _ => false
theorem zvv {C : Addr} (h : oexB K C = true) : zur K C := by
  unfold oexB at h
  split at h
  · rename_i t dd cd sl ho
    obtain ⟨h1, h2⟩ := He.ba h
    have et := of_decide_eq_true h1
    subst et
    split at h2
    · rename_i C' bm k0 k1 k2 k3 n k5 hm hs
      obtain ⟨g1, g2⟩ := He.ba h2
      obtain ⟨g3, g4⟩ := He.ba g2
      obtain ⟨g5, g6⟩ := He.ba g4
      obtain ⟨g7, g8⟩ := He.ba g6
      have e1 := of_decide_eq_true g1
      have e2 := of_decide_eq_true g3
      subst e1 e2
      obtain ⟨nm, bs, mro, ns, qn, hd, sn, sub, ab, col, del⟩ := cd
      dsimp only at hm g5 g7
      have e3 : del = false := by simpa using g5
      subst hm e3 g7
      have hsl : sl = #[k0, k1, k2, k3, some (.builtin "ValueError.__new__"), k5] := by
        obtain ⟨l⟩ := sl
        simp only at hs
        rw [hs]
      subst hsl
      exact ⟨nm, qn, ns, bs, bm, sn, sub, ab, col, dd, k0, k1, k2, k3, k5, ho, g8⟩
    · cases h2
  · cases h
abbrev AlH : Type := Bool × List He.FnV × List (Option (List (Option (Str × Int))))
abbrev FsH : Type := List ((PySem.W.Frag → Addr) × He.FnV)
abbrev DsH : Type := List ((PySem.W.Frag → Addr) × List Str)
def obsH (ex : PySem.W.Frag → List Bool) (fs : FsH) (ds : DsH) (K : PySem.W.Frag) : AlH := ((ex K).all id, fs.map fun p => fnAt K (p.1 K), ds.map fun p => He.dicW K (p.1 K))
def valH (fs : FsH) (ds : DsH) (w : World) : AlH := (true, fs.map fun p => p.2, ds.map fun p => some (He.keysIn w.params p.2))
theorem exH {ex : PySem.W.Frag → List Bool} {fs : FsH} {ds : DsH} (c : obsH ex fs ds K = valH fs ds w) (i : Nat) {b : Bool} (h : (ex K)[i]? = some b := by rfl) : b = true := by
  have c1 : (ex K).all id = true := congrArg (fun z : AlH => z.1) c
  exact List.all_eq_true.mp c1 b (List.mem_of_getElem? h)
theorem fsH {ex : PySem.W.Frag → List Bool} {fs : FsH} {ds : DsH} (c : obsH ex fs ds K = valH fs ds w) (i : Nat) {p : (PySem.W.Frag → Addr) × He.FnV} (h : fs[i]? = some p := by rfl) : fnAt K (p.1 K) = p.2 := by
  have e : fs.map (fun p => fnAt K (p.1 K)) = fs.map fun p => p.2 := congrArg (fun z : AlH => z.2.1) c
  have e2 : (fs.map fun p => fnAt K (p.1 K))[i]? = (fs.map fun p => p.2)[i]? := by rw [e]
  rw [List.getElem?_map, List.getElem?_map, h] at e2
  exact Option.some.inj e2
theorem dsH {ex : PySem.W.Frag → List Bool} {fs : FsH} {ds : DsH} (c : obsH ex fs ds K = valH fs ds w) (i : Nat) {p : (PySem.W.Frag → Addr) × List Str} (h : ds[i]? = some p := by rfl) : ∃ es n, KDict K w (p.1 K) es n := by
  have e : ds.map (fun p => He.dicW K (p.1 K)) = ds.map fun p => some (He.keysIn w.params p.2) := congrArg (fun z : AlH => z.2.2) c
  have e2 : (ds.map fun p => He.dicW K (p.1 K))[i]? = (ds.map fun p => some (He.keysIn w.params p.2))[i]? := by rw [e]
  rw [List.getElem?_map, List.getElem?_map, h] at e2
  exact He.dicW_ok (Option.some.inj e2)
end
theorem zaa0 {l : PySem.W.OpenLaw} {k : Nat} {q : Program} {loose : List Str} {XP : (Str → Option Value) → Heap → Prop} {YP : World → Heap → Prop} {d : DefRec} {x : Str}
    (hn : l.most = some 63) (hdf : d.params.defaults = []) (hr : Room k callerA)
    (F : ∀ (w : World) (mg : Str → Option Value) (fa : Addr) (h : Heap), YP w h → h.Ns mainGlobals mg → mg d.name = some (.ref fa) →
      ∃ (K : PySem.W.Frag) (fd : FuncData) (cs : List (Addr × Addr)) (ts : List (Addr × Str)), K.In h ∧ ts.map (·.1) = cs.map (·.2) ∧ (∀ p ∈ cs, K.lookup p.2 = none ∧ ∃ (y : Str) (e : DefRec), (recsOf q).find? (fun e => e.name == y) = some e ∧ PySem.W.tabIn K y = some p) ∧
        (∀ (s : Shared) (u : Value), BindsTo s fd ⟨[u], []⟩ [(x, u)]) ∧ ∀ base : Heap, K.In base → base.Ns mainGlobals mg → (∀ p ∈ cs, TabB base mg p.1 p.2) → FnG l.prog w K mg base CX0 k fa fd [x] (zpc K ts)) :
    PySem.W.WalkO q loose XP YP l.row.toRowW d [] (fun f vs => PySem.call f vs) := by
  refine Att.attach_callB hn hdf fun w s0 s1 mg mb fa o pm cd doc a vs ns G Y _ _ _ named script areI many _ bare => ?_
  obtain ⟨K, fd, cs, ts, inK, ets, facts, hb, hF⟩ := F w mg fa _ Y G.T.g named
  have tabs : ∀ p ∈ cs, PySem.W.CodeHd s1.heap p.1 p.2 ∧ s1.heap.get? p.2 = some (PySem.W.tabObj #[]) := fun p hp => by
    obtain ⟨_, y, e, h1, h2⟩ := facts p hp
    exact PySem.W.tab_of G.T inK h1 h2
  refine lawT inK G.T.g G.T.b G.T.builtins G.T.nolimit bare (fun p hp => (tabs p hp).2) (fun p hp => (facts p hp).1) (fun p hp => (tabs p hp).1) G.T.bmain script areI (Nat.le_trans many (by decide)) hr hF hb fun H only seq => ⟨⟨a, ns, rfl, seq, many, fun _ => rfl⟩, fun p hp => ?_, fun b ps e => ?_⟩
  · have : p.1 ∈ cs.map (·.2) := by rw [← ets]; exact List.mem_map_of_mem hp
    obtain ⟨r, hr, e⟩ := List.mem_map.mp this
    rw [← e]; exact only.tab r hr
  · rcases only.only b _ e with ⟨p, hp, rfl⟩ | ⟨_, ob, xs, z⟩
    · have : p.2 ∈ ts.map (·.1) := by rw [ets]; exact List.mem_map_of_mem hp
      obtain ⟨r, hr, e⟩ := List.mem_map.mp this
      exact ⟨r.2, by rw [← e]; exact hr⟩
    · cases z
end Mi
namespace Mi
open PySem PySem.Spec L2 LamX PyProof.Rows Cs
section
variable {K : PySem.W.Frag} {w : World}
def ccA (K : PySem.W.Frag) (x : Str) : Addr := match PySem.W.tabIn K x with
  | some p => p.1
  | none => 0
def ptA (K : PySem.W.Frag) (x : Str) : Addr := match PySem.W.tabIn K x with
  | some p => p.2
  | none => 0
theorem zso {x : Str} (h : (PySem.W.tabIn K x).isSome = true) : PySem.W.tabIn K x = some (ccA K x, ptA K x) := by
  unfold ccA ptA
  cases e : PySem.W.tabIn K x with
  | none => rw [e] at h; cases h
  | some p => rfl
theorem zz2 {α : Type} {o : Option α} (h : o.isNone = true) : o = none := by
  cases o with
  | none => rfl
  | some _ => cases h
theorem zaa7 {x : Str} {c P f : Addr} {oc : Value} {od : Option Addr} {fd : FuncData} {sl : Array (Option Value)} (ht : PySem.W.tabIn K x = some (c, P)) (ha : PySem.W.nsIn K mainGlobals x = some (some (.ref f))) (l : K.lookup f = some ⟨oc, od, .func fd, sl⟩) : fd.code = .ref c := by
  unfold PySem.W.tabIn at ht
  rw [ha] at ht
  dsimp only at ht
  rw [l] at ht
  dsimp only at ht
  split at ht
  · rename_i c2 e2
    split at ht
    · split at ht
      · cases ht
        exact e2
      · cases ht
    · cases ht
  · cases ht
def hookT (as : List Addr) (ex : PySem.W.Frag → List Bool) (fs : FsH) (ds : DsH) : PySem.W.Hook where
  α := AlH
  obs := fun s => obsH ex fs ds (He.frT s.heap.get? as)
  val := fun w => valH fs ds w
  says := fun w h => ∃ K : PySem.W.Frag, K.In h ∧ obsH ex fs ds K = valH fs ds w
  of := fun _ _ e => ⟨_, He.frT_in, e⟩
  keeps := fun _ _ _ ⟨K, hK, c⟩ k => ⟨K, PySem.W.Frag.In.keeps hK k, c⟩
theorem zada {as : List Addr} {ex : PySem.W.Frag → List Bool} {fs : FsH} {ds : DsH} {g : Addr → Option Obj} {s : Shared} (h : ∀ a, g a = s.heap.get? a) : obsH ex fs ds (He.frT g as) = (hookT as ex fs ds).obs s := by
  have e : g = s.heap.get? := funext h
  rw [e] <;> rfl
end
theorem zrs {r : PySem.W.OpenRow} {q : Program} {as : List Addr} {ex1 ex2 : PySem.W.Frag → List Bool} {fs1 fs2 : FsH} {ds1 ds2 : DsH} {M : Nat} {loose : List Str} {w : World}
    (h1 : HandSHeadRun.RunEq r q (hookT as ex1 fs1 ds1) (fun s => obsH ex1 fs1 ds1 (He.frT (HandSHeadRun.getT s) as)) M loose w)
    (h2 : HandSHeadRun.RunEq r q (hookT as ex2 fs2 ds2) (fun s => obsH ex2 fs2 ds2 (He.frT (HandSHeadRun.getT s) as)) M loose w) :
    HandSHeadRun.RunEq r q (hookT as (fun K => ex1 K ++ ex2 K) (fs1 ++ fs2) (ds1 ++ ds2)) (fun s => obsH (fun K => ex1 K ++ ex2 K) (fs1 ++ fs2) (ds1 ++ ds2) (He.frT (HandSHeadRun.getT s) as)) M loose w := by
  intro os
  have a := h1 os
  have b := h2 os
  revert a b
  generalize HandSHeadRun.endF _ _ _ _ _ = z
  intro a b
  cases z with
  | none => cases a
  | some s =>
    rw [Option.map_some] at a b ⊢
    injection a with a
    injection b with b
    injection a with a1 a2
    injection a2 with a2 a3
    injection b with b1 b2
    injection b2 with b2 b3
    injection (show (_, _, _) = (_, _, _) from a3) with a31 a32
    injection a32 with a32 a33
    injection (show (_, _, _) = (_, _, _) from b3) with b31 b32
    injection b32 with b32 b33
    show some (_, _, obsH _ _ _ _) = some (_, _, valH _ _ _)
    rw [a1, a2]
    unfold obsH valH
    rw [List.all_append, a31, b31, List.map_append, List.map_append, a32, b32, a33, b33, List.map_append, List.map_append]
    rfl
end Mi
namespace K04
open PySem PySem.Spec L2
def locB (s : Scope) (x : Str) : Bool := match s.names.lookup x with
  | some .local => true
  | some .cell => true
  | _ => false
theorem loB {s : Scope} {x : Str} (h : locB s x = true := by rfl) : L2.Loc s x := by
  unfold locB at h
  unfold L2.Loc
  split at h
  · rename_i e
    exact .inl e
  · rename_i e
    exact .inr e
  · cases h
def top (i : Nat) : Stmt := PySem.Challenge.pw_callstairs_k04_pieces_gathered.main.body.getD i (.Pass ⟨0, 0, 0, 0⟩)
abbrev zc4 : Stmt := (inClass (top 17) 5)
abbrev zdu : Stmt := (top 10)
abbrev zb9 : Stmt := (top 14)
abbrev zci : Stmt := (top 16)
abbrev zdz : Stmt := (top 9)
abbrev zc1 : Stmt := (top 15)
abbrev zcr : Stmt := (inClass (top 17) 0)
abbrev zed : Stmt := (inClass (top 17) 1)
abbrev ze6 : Stmt := (top 25)
abbrev zff : Stmt := (top 35)
abbrev zfw : Stmt := (top 26)
abbrev zfv : Stmt := (top 27)
abbrev zc3 : Stmt := (top 28)
abbrev zcq : Stmt := (top 31)
abbrev zfu : Stmt := (top 29)
abbrev zck : Stmt := (inClass (top 17) 4)
abbrev zft : Stmt := (top 33)
abbrev zfs : Stmt := (top 32)
abbrev ze5 : Stmt := (top 30)
abbrev zbf : Stmt := (inClass (top 5) 0)
abbrev zdt : Stmt := (top 20)
abbrev zcb : Stmt := (top 21)
abbrev zb2 : Stmt := (top 22)
abbrev zbg : Stmt := (inClass (top 4) 0)
abbrev zds : Stmt := (top 18)
abbrev zc0 : Stmt := (top 19)
abbrev zc2 : Stmt := (top 23)
abbrev zcv : Stmt := (top 34)
abbrev s_law : Stmt := (top 36)
end K04
namespace Mi
open PySem PySem.Spec L2
section
variable {K : PySem.W.Frag}
end
end Mi
namespace L2
open PySem PySem.Spec PyProof.Rows
namespace DZ
end DZ
end L2
namespace Mi
open PySem PySem.Spec L2 PyProof.Rows
section
variable {W : Wd} {E : XK} {X : Cx} {c : Cf} {v : V} {d : D} {ds : List D} {e : Expr} {st : Stmt} {Q : VK}
def keysOf : List D → Option (List Key)
  | [] => some []
  | d :: ds => match keyOf d, keysOf ds with
    | some k, some ks => some (k :: ks)
    | _, _ => none
def zaaa (b : Bool) : List D → Store → Res D := fun ds μ => match ds with
  | [x, y] => match (seqL μ x).bind keysOf, seqL μ y with
    | some ks, some ys => newK b (zbd [] [] (ks.zip ys)).1 (zbd [] [] (ks.zip ys)).2 μ
    | _, _ => .bad
  | _ => .bad
def ztl (b : Bool) (a : MA) : ME := fun ρ μ => (a ρ μ).bind (zaaa b)
end
end Mi
namespace StX
open PySem PySem.Spec L2
section
variable {prog : Program} {w : World} {A : Around} {E : Value → Shared → Prop} {s : Shared} {K : PySem.W.Frag}
open PySem.W in
end
section
variable {X : Cx} {pins : List (Addr × Obj)} {σ : L2.St} {H : Hp} {s : Shared} {a C dx : Addr} {fs : List (Str × V)} {f : Str} {v : V} {A : Around} {E : Value → Shared → Prop}
end
section
variable {X : Cx} {CX : CXT} {k : Nat} {C g : Addr} {sp : Sp} {E : XK} {o e : Expr} {es : List Expr} {m : Str} {ta : TE} {t : TA} {pos apos : Pos}
end
end StX
namespace Mi
open PySem PySem.Spec L2 PyProof.Rows
section
variable {W : Wd} {E : XK} {X : Cx} {c : Cf} {v : V} {d : D} {ds : List D} {e : Expr} {st : Stmt} {Q : VK} {σ : L2.St} {H : Hp}
end
end Mi
namespace L2
open PySem PySem.Spec PyProof.Rows
section
variable {X : Cx}
def hit (w : Str) (r : Str × Nat) : Bool := r.1 == w && r.2 == 0
open Classical in
end
end L2
namespace Mi
open PySem PySem.Spec L2 PyProof.Rows
section
variable {W : Wd} {E : XK} {X : Cx} {μ : Store}
end
end Mi
namespace Cs
open PySem PySem.Spec L2 PyProof.Rows
structure Hd where
  x : Str
  n : Str
  c : Value
  i : Nat
  b₀ : Stmt
  suite : List Stmt
  np : Pos
  pos : Pos
  ts : Addr → Value → Option Addr → TS
def Hd.h (q : Hd) : ExceptHandler := .ExceptHandler (some (.Name q.x q.np)) (some q.n) (q.b₀ :: q.suite) q.pos
section
variable {X : Cx} {body : List Stmt} {pos : Pos} {tb : WX → TS} {Wout : WX} {q0 : Hd} {qs : List Hd}
end
end Cs
namespace Cs
open PySem PySem.Spec L2 PyProof.Rows
section
variable {X : Cx} {o : Expr} {f : Str} {pos : Pos} {te : TE} {a : Addr} {oe : Obj} {pn : List (Addr × Obj)} {cls : Value} {d : Option Addr}
end
end Cs
namespace StX
open PySem PySem.Spec L2 PyProof.Rows
section
variable {X : Cx} {CX : CXT} {k : Nat} {C f : Addr} {fd : FuncData} {ps : List Str} {sp : Sp} {Ef : L2.St → XK} {o e : Expr} {es : List Expr} {m : Str} {ta : TE} {t : TA} {pos apos : Pos}
end
end StX
namespace Mi
open PySem PySem.Spec L2 PyProof.Rows
section
variable {W : Wd} {E : XK} {X : Cx} {st : Stmt}
inductive SI where
  | ci (z : Int)
  | cs (z : Str)
  | f (nm : Str)
inductive SX where
  | keep
  | fld (nm : Str)
  | tup (xs : List SI)
def SI.at (x : Exc) : SI → Option D
  | .ci z => some (.int z)
  | .cs z => some (.str z)
  | .f nm => lookF nm x.ks x.ds
def SI.all (x : Exc) : List SI → Option (List D)
  | [] => some []
  | s :: ss => match s.at x, SI.all x ss with
    | some d, some ds => some (d :: ds)
    | _, _ => none
def SX.at (x : Exc) : SX → Option D
  | .keep => some (.exc x.C x.ks x.ds)
  | .fld nm => lookF nm x.ks x.ds
  | .tup xs => match SI.all x xs with
    | some ds => if ds.length ≤ sizeLine then some (.tup ds) else none
    | none => none
end
end Mi
namespace Mi
open PySem PySem.Spec L2 PyProof.Rows Cs
section
variable {W : Wd} {E : XK} {X : Cx} {st : Stmt}
end
end Mi
namespace Cs
open PySem PySem.Spec L2 PyProof.Rows
end Cs
namespace MiTup
open PySem PySem.SeqAt
open AutoSeq1 (wpAny_loadPart')
open MeetsSeq MeetsSeq2 MeetsSeq3 SeqRoads2
section
variable {prog : Program} {w : World}
end
section
variable {prog : Program} {w : World} {A : Around} {s : Shared}
end
end MiTup
namespace Mi
open PySem PySem.Spec L2 PyProof.Rows PySem.SeqAt
section
variable {X : Cx}
end
section
variable {W : Wd} {E : XK} {c : Cf}
end
end Mi
namespace Cs
open PySem PySem.Spec L2 PyProof.Rows
structure HdT where
  x : Str
  n : Str
  c : Value
  i : Nat
  b₀ : Stmt
  suite : List Stmt
  np : Pos
  pos : Pos
  ts : TS
def HdT.h (q : HdT) : ExceptHandler := .ExceptHandler (some (.Name q.x q.np)) (some q.n) (q.b₀ :: q.suite) q.pos
section
variable {X : Cx} {pins : List (Addr × Obj)} {σ : L2.St} {H : Hp} {s : Shared} {a : Addr}
end
section
variable {X : Cx} {body : List Stmt} {pos : Pos} {tb : WX → TS} {Wout : WX} {q0 : HdT} {qs : List HdT}
end
end Cs
namespace Mi
open PySem PySem.Spec L2 PyProof.Rows Cs LamX
section
variable {W : Wd} {E : XK} {X : Cx} {st : Stmt}
end
end Mi
namespace Cs
open PySem PySem.Spec L2 PyProof.Rows
section
variable {X : Cx}
end
end Cs
namespace Mi
open PySem PySem.Spec L2 PyProof.Rows
section
variable {W : Wd} {E : XK} {X : Cx} {c : Cf} {Q : VK}
end
end Mi
namespace Mi
open PySem PySem.Spec L2 PyProof.Rows
section
variable {W : Wd} {E : XK} {X : Cx} {e : Expr}
end
end Mi
namespace PySem
namespace HandSPX
open Builtin Builtin.ObjectAttr
section
variable {M : Model} {A : Around} {E : Value → Shared → Prop} {h : Heap} {g : Array GenState} {d : Drawn} {t : Nat} {os : OsState}
variable {nm q : Str} {C N : Addr} {bs bm bmB : List Value} {hdct : Bool} {sn : List Str} {sub : List Value} {ab : Bool} {col : Option Bool} {dd : Option Addr} {k0 k1 k2 k3 k5 : Option Value} {B newId initId : String}
end
section
variable {prog : Program} {w : World} {A : Around} {E : Value → Shared → Prop} {R : Result → Shared → Prop} {h : Heap} {g : Array GenState} {d : Drawn} {t : Nat} {os : OsState}
variable {nm q : Str} {C N : Addr} {bs bm bmB : List Value} {hdct : Bool} {sn : List Str} {sub : List Value} {ab : Bool} {col : Option Bool} {dd : Option Addr} {k0 k1 k2 k3 k5 : Option Value} {B newId initId : String}
end
end HandSPX
end PySem
namespace L2
open PySem PySem.Spec PyProof.Rows
section
variable {X : Cx} {p pos : Pos}
end
end L2
namespace Mi
open PySem PySem.Spec L2 PyProof.Rows
section
variable {W : Wd} {E : XK} {X : Cx} {e : Expr} {st : Stmt}
end
end Mi
namespace KeyX
open PySem PySem.Spec L2 PyProof.Rows LamX
section
variable {X : Cx} {pins : List (Addr × Obj)} {σ : L2.St} {H : Hp} {s : Shared}
end
end KeyX
namespace Mi
open PySem PySem.Spec L2 PyProof.Rows LamX KeyX
section
variable {W : Wd} {E : XK} {X : Cx} {c : Cf} {v : V} {d : D} {ds : List D} {e : Expr}
end
end Mi
namespace Mi
open PySem PySem.Spec L2 PyProof.Rows
section
variable {W : Wd} {E : XK} {X : Cx} {e : Expr}
open Classical in
def lcB (w : List Nat) (μ0 : Store) (g : D → Env → Option Env) (t : MT) (i1 : MI) (g1 : D → Env → Option Env) (t1 : MT) (el : ME) (vs1 : List Nat) (ρ : Env) : List D → List D → Store → Res (List D)
  | [], acc, μ => if watch w μ0 μ then .ok acc μ else .bad
  | d :: ds, acc, μ => if watch w μ0 μ then match g d ρ with
      | some ρ2 => match t ρ2 μ with
        | .ok true μ => match i1 ρ2 μ with
          | .ok s1 μ => match lcA s1.w μ g1 t1 el (wipeD ρ2 vs1) s1.items acc μ with
            | .ok acc2 μ => lcB w μ0 g t i1 g1 t1 el vs1 ρ ds acc2 μ
            | _ => .bad
          | _ => .bad
        | .ok false μ => lcB w μ0 g t i1 g1 t1 el vs1 ρ ds acc μ
        | _ => .bad
      | none => .bad
    else .bad
def mLc2 (b : Bool) (i : MI) (g : D → Env → Option Env) (t : MT) (i1 : MI) (g1 : D → Env → Option Env) (t1 : MT) (el : ME) (vs vs1 : List Nat) : ME := fun ρ μ => (i ρ μ).bind fun s μ => (lcB s.w μ g t i1 g1 t1 el vs1 (wipeD ρ vs) s.items [] μ).bind fun xs μ => newL b xs μ
end
end Mi
namespace Mi
open PySem PySem.Spec L2 PyProof.Rows
section
variable {X : Cx} {o : Expr} {f : Str} {pos : Pos} {ta : TE}
end
section
variable {W : Wd} {E : XK} {X : Cx} {e : Expr}
def zzc (Cs' : List String) (f : Str) (o : ME) : MG := fun z ρ μ => (o ρ μ).bind fun x μ => match ownO μ x with
  | some (n, C, ks, ds) => if Cs'.contains C = true ∧ ks.length < 1000 then .ok ρ (μ.set n (some (.obj C (putFK f ks) (putFV f z ks ds)))) else .bad
  | none => .bad
def fIsB (neg : Bool) : D → D → Store → Res D := fun x y μ => match x, y with
  | .bl i, .bl j => .ok (.bl (if neg = true then !decide (i = j) else decide (i = j))) μ
  | _, _ => .bad
end
end Mi
namespace L2
open PySem PySem.Spec PyProof.Rows
section
variable {P : Program} {w : World} {A : Around} {E : Value → Shared → Prop} {s : Shared}
set_option maxRecDepth 100000 in
set_option maxHeartbeats 3200000 in
end
end L2
namespace Mi
open PySem PySem.Spec L2 PyProof.Rows
section
variable {W : Wd} {E : XK} {X : Cx} {c : Cf} {v : V} {d : D} {ds : List D} {e : Expr} {st : Stmt} {Q : VK}
end
end Mi
namespace L2
open PySem PySem.Spec PyProof.Rows
namespace LI2
section
variable {X : Cx} {pins : List (Addr × Obj)} {σ : L2.St} {H H' : Hp} {s : Shared} {h' : Heap} {tk : Nat}
variable {e : Expr} {te : TE} {p apos cpos pos : Pos}
end
end LI2
end L2
namespace Mi
open PySem PySem.Spec L2 PyProof.Rows
section
variable {W : Wd} {E : XK} {X : Cx} {c : Cf} {v : V} {d : D} {ds : List D} {e tg iter : Expr} {st : Stmt} {Q : VK}
def zzk (a : ME) : ME := fun ρ μ => (a ρ μ).bind fun x μ => match dctOf μ x with
  | some (ks, ds) => .ok (.lst ((ks.zip ds).map fun p => .tup [keyDD p.1, p.2])) μ
  | none => .bad
def zvd (n : Nat) : List D := (List.range n).map fun i => .int ((n : Int) - 1 - (i : Nat))
def zzb (a : ME) : MI := fun ρ μ => (a ρ μ).bind fun d μ => match d with
  | .int j => if 0 ≤ j ∧ j < 2 ^ 62 then .ok ⟨zvd j.toNat, []⟩ μ else .bad
  | _ => .bad
end
end Mi
namespace L2
open PySem PySem.Spec PyProof.Rows
namespace LKx
section
variable {X : Cx} {tg e : Expr} {st : Stmt} {t : TS} {td : TE}
end
end LKx
end L2
namespace Mi
open PySem PySem.Spec L2 PyProof.Rows
open Classical
section
variable {W : Wd} {E : XK} {X : Cx} {v : V} {d : D} {ds : List D} {e tg iter : Expr} {st : Stmt} {Q : VK}
end
end Mi
namespace PySem
open PySem.Calls
section
variable {prog : Program} {w : World} {K : Type} [DecidableEq K] {knd : KeyKind prog w K} {A : Around} {E : Value → Shared → Prop} {s : Shared}
end
end PySem
namespace L2
open PySem PySem.Spec PyProof.Rows PySem.Calls
namespace MG2
section
variable {X : Cx} {e1 e2 : Expr} {t1 t2 : TE} {pos : Pos}
end
end MG2
end L2
namespace Mi
open PySem PySem.Spec L2 PyProof.Rows
section
variable {W : Wd} {E : XK} {X : Cx} {c : Cf} {v : V} {d : D} {ds : List D} {e : Expr} {st : Stmt} {Q : VK}
end
end Mi
namespace PySem
open PySem.Calls
section
variable {prog : Program} {w : World} {A : Around} {E : Value → Shared → Prop} {s : Shared}
end
end PySem
namespace L2
open PySem PySem.Spec PyProof.Rows StX
namespace SKW
abbrev SpK := List V → List V → Hp → VK → XK → Prop
def FnRK (P : Program) (w : World) (K : PySem.W.Frag) (mg : Str → Option Value) (base : Heap) (CX : CXT) (k : Nat) (f : Addr) (ks : List Str) (sp : SpK) : Prop :=
  ∀ (A : Around) (outer : List Env) (s : Shared) (H : Hp) (us ws : List Value) (vs zs : List V) (Q : VK) (E : XK), Room k A → Env0 P w K mg base A outer s H → Vals vs us → Vals zs ws → sp vs zs H Q E →
    codeAny (model P w) A (.call (.ref f) ⟨us, ks.zip ws⟩) (CR CX outer P w H s Q E) s
section
variable {P : Program} {w : World} {K : PySem.W.Frag} {mg : Str → Option Value} {base : Heap} {A : Around} {outer : List Env} {s : Shared} {H : Hp}
end
section
variable {CX : CXT} {P : Program} {w : World} {K : PySem.W.Frag} {mg : Str → Option Value} {base : Heap} {k : Nat} {f : Addr} {name qual : Str} {params : Arguments} {body : List Stmt} {scope : Scope} {dV kV doc pm cdv ct oc : Value} {an od : Option Addr}
  {osl : Array (Option Value)} {N ps ks : List Str} {sp : Sp}
theorem FnRK.imp {sp sp' : SpK} (F : FnRK P w K mg base CX k f ks sp) (h : ∀ vs zs H Q E, sp' vs zs H Q E → sp vs zs H Q E) : FnRK P w K mg base CX k f ks sp' := fun A outer s H us ws vs zs Q E hr e0 r rk hs => F A outer s H us ws vs zs Q E hr e0 r rk (h _ _ _ _ _ hs)
end
section
variable {X : Cx} {CX : CXT} {k : Nat} {C f : Addr} {ks : List Str} {sp : SpK} {sp1 : Sp} {E : XK} {m : Str} {pos apos : Pos} {e o : Expr} {es : List Expr} {kws : List Keyword} {ta : TE} {t tk : TA} {pins : List (Addr × Obj)} {σ : L2.St} {H : Hp} {s : Shared}
end
end SKW
end L2
namespace Mi
open PySem PySem.Spec L2 PyProof.Rows
section
variable {W : Wd} {E : XK} {X : Cx} {c : Cf} {v : V} {d : D} {ds : List D} {e : Expr} {st : Stmt} {Q : VK}
def zzi (ks : List Str) (m : List D → Store → Res D) : List D → List D → Store → Res D := fun ds zs μ => match ds with
  | x :: rest => if rest.length ≤ sizeLine ∧ zs.length = ks.length then m [x, .tup rest, .dct (zbd [] [] ((ks.map Sum.inr).zip zs)).1 (zbd [] [] ((ks.map Sum.inr).zip zs)).2] μ else .bad
  | [] => .bad
def zv7 (C : String) (f : Str) (ks : List Str) (m : List D → Store → Res D) (o : ME) (a b : MA) : ME := fun ρ μ => (o ρ μ).bind fun x μ => match objOf μ x with
  | some (C', fs, _) => if C' = C ∧ f ∉ fs then (a ρ μ).bind fun ds μ => (b ρ μ).bind fun zs μ => zzi ks m (x :: ds) zs μ else .bad
  | none => .bad
end
end Mi
namespace Mi
open PySem PySem.Spec L2 PyProof.Rows
section
variable {W : Wd} {X : Cx} {c : Cf} {e : Expr} {es : List Expr}
end
end Mi
namespace L2
open PySem PySem.Spec PyProof.Rows
namespace LKi
section
variable {X : Cx} {e : Expr} {td : TE} {apos cpos : Pos}
end
end LKi
end L2
namespace Mi
open PySem PySem.Spec L2 PyProof.Rows
open Classical
section
variable {W : Wd} {E : XK} {X : Cx} {c : Cf} {v : V} {d : D} {ds : List D} {e tg iter : Expr} {st : Stmt} {Q : VK}
def ztk (C : String) (f1 f2 : Str) (a : MA) : MS := fun _ ρ μ => (a ρ μ).st fun ds μ => match ds with
  | [d1, d2] => .exc ⟨C, [f2, f1], [d2, d1]⟩ μ
  | _ => .bad
def zzp (m : List D → Store → Res D) (a : ME) : ME := fun ρ μ => (a ρ μ).bind fun x μ => match (match seqL μ x with
    | some ds => some ds
    | none => seqT x) with
  | some ds => m ds μ
  | none => .bad
def zza (a : ME) : MI := fun ρ μ => (a ρ μ).bind fun x μ => match x with
  | .tup ds => .ok ⟨ds.reverse, []⟩ μ
  | _ => .bad
end
end Mi
namespace Cs
open PySem PySem.Spec L2 PyProof.Rows PySem.SeqAt
section
variable {K : PySem.W.Frag} {prog : Program} {w : World} {A : Around} {E : Value → Shared → Prop} {s : Shared} {C f y : Addr} {oy : Obj} {od : Option Obj} {a ta : Value}
end
section
variable {X : Cx} {CX : CXT} {C g : Addr} {n : Nat} {sp : Sp} {E : XK}
end
end Cs
namespace Mi
open PySem PySem.Spec L2 PyProof.Rows
section
variable {W : Wd} {E : XK} {X : Cx} {c : Cf} {v : V} {d : D} {C : String} {g : Addr} {m : List D → Store → Res D} {Ds : List String}
end
end Mi
namespace GQ2
open PySem PySem.Spec L2 PyProof.Rows PySem.SeqAt GQ
open AutoSeq1 (wpAny_loadPart')
section
variable {prog : Program} {w : World} {A : Around} {R : Result → Shared → Prop}
end
section
variable {prog : Program} {w : World} {A : Around} {E : Value → Shared → Prop} {s : Shared}
end
end GQ2
namespace OwnX
open PySem PySem.Spec L2 PyProof.Rows PySem.W
section
variable {X : Cx} {CX : CXT} {C g : Addr} {n : Nat} {sp : Sp} {E : XK}
end
end OwnX
namespace Mi
open PySem PySem.Spec L2 PyProof.Rows
section
variable {W : Wd} {E : XK} {X : Cx} {c : Cf} {v : V} {d : D} {ds : List D} {Q : VK} {C : String} {g f : Addr} {m : List D → Store → Res D}
open Classical in
end
end Mi
namespace L2
open PySem PySem.Spec PyProof.Rows
namespace LKx
end LKx
end L2
namespace Cs
open PySem PySem.Spec L2 PyProof.Rows
end Cs
namespace Mi
open PySem PySem.Spec L2 PyProof.Rows
open Classical Cs
section
variable {W : Wd} {E : XK} {X : Cx} {v : V} {d : D} {ds : List D} {e tg iter : Expr} {st : Stmt} {Q : VK}
def zafn (neg : Bool) (tab : List (Str × Int)) : D → Store → Res D := fun y μ => match y with
  | .str x => .ok (.bl (if neg = true then !(lookS tab x).isSome else (lookS tab x).isSome)) μ
  | _ => .bad
def zzn (o i : ME) : ME := fun ρ μ => (o ρ μ).bind fun x μ => (match dctOf μ x with
  | some _ => (i ρ μ).bind fun y μ => match dctOf μ x, keyOf y with
    | some (ks, ds), some k => .ok ((lookK k ks ds).getD .non) μ
    | _, _ => .bad
  | none => .bad)
def mIfB (t : MT) (a b : MS) : MS := fun n ρ μ => match t ρ μ with
  | .ok k μ => if k = true then a n ρ μ else b n ρ μ
  | _ => .bad
def mLst1 (m : ME) : ME := fun ρ μ => (m ρ μ).bind fun d μ => newL false [d] μ
end
end Mi
namespace L2
open PySem PySem.Spec PyProof.Rows
section
variable {X : Cx}
end
end L2
namespace Mi
open PySem PySem.Spec L2 PyProof.Rows
section
variable {W : Wd} {E : XK} {X : Cx} {μ : Store}
end
end Mi
namespace SSK
open PySem PySem.Spec L2 PyProof.Rows PySem.Calls PySem.W
section
variable {prog : Program} {w : World} {K : Type} [DecidableEq K] {knd : KeyKind prog w K} {A : Around} {E : Value → Shared → Prop} {s : Shared}
end
section
variable {M : Model} {A : Around} {E : Value → Shared → Prop} {s : Shared}
end
end SSK
namespace PySem.CpX
open PySem PySem.Spec
section
variable {M : Model} {A : Around} {E : Value → Shared → Prop} {env : Env} {s : Shared}
end
end PySem.CpX
namespace L2
open PySem PySem.Spec PyProof.Rows
section
variable {X : Cx} {pins : List (Addr × Obj)} {σ : St} {H : Hp} {s s' : Shared} {E : XK}
end
section
variable {X : Cx} {W : WX} {pins pinsb : List (Addr × Obj)} {σ σb : St} {H3 Hb : Hp} {s3 sb s' : Shared} {E : XK} {E' : Value → Shared → Prop} {scope : Scope} {cenv : Env} {fp : List Addr}
end
end L2
namespace L2
open PySem PySem.Spec PyProof.Rows
section
variable {X : Cx}
end
end L2
namespace GQ3
open PySem PySem.Spec L2 PyProof.Rows PySem.SeqAt GQ
open AutoSeq1 (wpAny_loadPart')
section
variable {prog : Program} {w : World} {A : Around} {R : Result → Shared → Prop}
end
section
variable {prog : Program} {w : World} {A : Around} {E : Value → Shared → Prop} {s : Shared}
end
section
variable {prog : Program} {w : World} {K : Type} [DecidableEq K] {knd : KeyKind prog w K} {A : Around} {E : Value → Shared → Prop} {s : Shared}
end
end GQ3
namespace Mi
open PySem PySem.Spec L2 PyProof.Rows PySem.SeqAt
abbrev EqC := String → Option (List D → Store → Res D)
section
variable {W : Wd} {X : Cx} {CX : CXT} {E : XK} {cs : EqC} {N : Nat} {pins : List (Addr × Obj)} {σ : L2.St}
def StG (W : Wd) (X : Cx) (pins : List (Addr × Obj)) (σ : L2.St) (c : Cf) (s' : Shared) : Prop := ∃ c', Ok W c' ∧ Step c c' ∧ c'.μ = c.μ ∧ Inv X pins σ c'.H s'
theorem StG.trans {c c' : Cf} {s : Shared} (st : Step c c') (em : c'.μ = c.μ) (h : StG W X pins σ c' s) : StG W X pins σ c s :=
  let ⟨c2, ok, s2, e2, I⟩ := h; ⟨c2, ok, st.trans s2, e2.trans em, I⟩
end
open Classical in
section
variable {W : Wd} {E : XK} {X : Cx} {e : Expr}
end
end Mi
namespace L2
open PySem PySem.Spec PyProof.Rows StX
namespace SKW
section
variable {X : Cx} {CX : CXT} {k : Nat} {C f : Addr} {sp : List Str → SpK} {E : XK} {x : Str} {pos p ps kpos : Pos} {e e2 : Expr} {te td : TE} {pins : List (Addr × Obj)} {σ : L2.St} {H : Hp} {s : Shared}
end
end SKW
end L2
namespace Mi
open PySem PySem.Spec L2 PyProof.Rows
section
variable {W : Wd} {E : XK} {X : Cx} {c : Cf} {v : V} {d : D} {ds : List D} {e : Expr} {st : Stmt} {Q : VK}
end
end Mi
namespace Mi
open PySem PySem.Spec L2 PyProof.Rows
section
variable {X : Cx}
end
end Mi
namespace L2
open PySem PySem.Spec PyProof.Rows
section
variable {X : Cx}
end
end L2
namespace Mi
open PySem PySem.Spec L2 PyProof.Rows
open Classical in
def lcX (w : List Nat) (μ0 : Store) (g : D → Env → Option Env) (t : MT) (el : ME) (ρ : Env) : List D → List D → Store → Res (List D)
  | [], acc, μ => if watch w μ0 μ then .ok acc μ else .bad
  | d :: ds, acc, μ => if watch w μ0 μ then match g d ρ with
      | some ρ2 => match t ρ2 μ with
        | .ok true μ => match el ρ2 μ with
          | .ok y μ => if acc.length < sizeLine then lcX w μ0 g t el ρ ds (acc ++ [y]) μ else .bad
          | .exc x μ => .exc x μ
          | .bad => .bad
        | .ok false μ => lcX w μ0 g t el ρ ds acc μ
        | _ => .bad
      | none => .bad
    else .bad
def mLcX (b : Bool) (i : MI) (g : D → Env → Option Env) (t : MT) (el : ME) (vs : List Nat) : ME := fun ρ μ => (i ρ μ).bind fun s μ => (lcX s.w μ g t el (wipeD ρ vs) s.items [] μ).bind fun xs μ => newL b xs μ
section
variable {W : Wd} {E : XK} {X : Cx} {e : Expr}
end
end Mi
namespace Cs
open PySem PySem.Spec L2 PyProof.Rows
section
variable {prog : Program} {w : World} {A : Around} {E : Value → Shared → Prop}
end
end Cs
namespace Cs
open PySem PySem.Spec L2 PyProof.Rows
structure RoomU (k : Nat) (A : Around) : Prop where
  dp : A.depth + 3 * k + 5 < recursionLimit
  un : A.units + 16 * k + 200 < cLine
@[reducible] def rough (X : Cx) : Cx := { X with calm := false }
section
variable {P : Program} {w : World} {K : PySem.W.Frag} {mg : Str → Option Value} {base : Heap} {CX : CXT} {j k : Nat} {f : Addr} {fd : FuncData} {N ps : List Str} {sp : Sp} {x qual : Str} {st : Stmt} {A : Around}
theorem RoomU.units (h : RoomU k A) : A.units + 64 < cLine := by have := h.un; omega
theorem RoomU.of (h : Room k A) : RoomU k A := ⟨h.dp, h.un⟩
end
section
variable {X : Cx} {CX : CXT} {k : Nat} {f : Addr} {fd : FuncData} {ps : List Str} {ds : List Value} {dvs : List V} {sp : Sp} {E : XK} {x : Str} {e : Expr} {es : List Expr} {t : TA} {p pos : Pos}
end
end Cs
namespace Mi
open PySem PySem.Spec L2
section
variable {W : Wd} {E : XK} {X : Cx} {e : Expr}
def mgSq (n : Nat) (g : MGs) : MG := fun d ρ μ => match d with
  | .tup ds => if ds.length = n then g ds ρ μ else .bad
  | .lst ds => if ds.length = n then g ds ρ μ else .bad
  | _ => .bad
end
end Mi
namespace Mi
open PySem PySem.Spec L2 PyProof.Rows
section
variable {X : Cx} {CX : CXT} {k : Nat} {f C : Addr} {sp : Sp} {E : XK} {x : Str} {p pos : Pos}
theorem zyu (M : Mk X.K C f) (F : FnR X.prog X.w X.K X.mg X.base CX k f sp) (hr : Room (k + 1) X.A) (hg : Gl X x) (hm : X.mg x = some (.ref C)) (hx : Passes CX X E) (hdb : (x == ("__debug__" : Str)) = false := by decide) : PE X (.Call (.Name x p) [] [] pos) (StX.tMakeR C sp E tNil) := by
  refine ⟨fun pins s σ H Q I h => ?_⟩
  refine wpAny_Call_Name_kw (ld_glob I hg hm ?_ hdb)
  exact PySem.W.callWith_K0 I.kIn M.kp (StX.run_makeR (us := []) M F hr hx I .nil h)
end
section
variable {W : Wd} {E : XK} {X : Cx} {e : Expr}
theorem zzd {frz : Bool} {C : String} {g : Addr} {m : List D → Store → Res D} (hC : W.cm C = some g) (h : PE X e (StX.tMakeR g (spM W m) E tNil)) : PE X e (tE W E (mMake frz C m mNil)) := zav h fun σ H Q ⟨ρ, c, hH, ok, env, w⟩ => by
  subst hH
  exact zu8 hC ok .nil w
def zhx : D → List D → Store → Res D := fun x xs μ => match ownK μ x, xs with
  | some (n, ks, ds), [] => .ok .non (μ.set n (some (.dct [] [])))
  | _, _ => .bad
theorem zxs : MtC W E rDClear zhx := fun c x v xs vs Q ok hx hxs w => by
  unfold zhx at w
  split at w
  · rename_i n ks ds e
    obtain ⟨rfl, hm, rfl, us, h1, h2, h3, h4⟩ := zq1 ok hx e
    cases hxs
    refine ⟨_, _, rfl, rfl, h1, ?_⟩
    have := zu6 (ks := []) (xs := []) (ds := []) w ok hm rfl .nil .nil .non
    exact this
  · exact w.elim
def mEi (a b : ME) : ME := fun ρ μ => match a ρ μ with
  | .bad => b ρ μ
  | r => r
theorem me_ei {a b : ME} (h1 : PE X e (tE W E a)) (h2 : PE X e (tE W E b)) : PE X e (tE W E (mEi a b)) := ⟨fun pins s σ H Q I w => by
  obtain ⟨ρ, c, hH, ok, env, w⟩ := w
  unfold mEi at w
  cases q : a ρ c.μ with
  | bad =>
    rw [q] at w
    exact h2.run pins s σ H Q I ⟨ρ, c, hH, ok, env, w⟩
  | ok d μ =>
    rw [q] at w
    exact h1.run pins s σ H Q I ⟨ρ, c, hH, ok, env, by rw [q]; exact w⟩
  | exc x μ =>
    rw [q] at w
    exact h1.run pins s σ H Q I ⟨ρ, c, hH, ok, env, by rw [q]; exact w⟩⟩
end
end Mi
namespace K04
open PySem PySem.Spec PyProof.Rows L2 Mi
def zc9 (_ : W.Frag) : Addr := 31
def zea (_ : W.Frag) : Addr := 44
def zb8 (_ : W.Frag) : Addr := 63
def zb7 (_ : W.Frag) : Addr := 82
def zb1 (_ : W.Frag) : Addr := 171
def xF2 (_ : W.Frag) : Addr := 96
def xF3 (_ : W.Frag) : Addr := 103
def xF4 (_ : W.Frag) : Addr := 113
def xF5 (_ : W.Frag) : Addr := 89
def xF6 (_ : W.Frag) : Addr := 108
def xF9 (_ : W.Frag) : Addr := 224
def xF10 (_ : W.Frag) : Addr := 288
def xF11 (_ : W.Frag) : Addr := 231
def xF12 (_ : W.Frag) : Addr := 238
def xF13 (_ : W.Frag) : Addr := 245
def xF14 (_ : W.Frag) : Addr := 264
def xF15 (_ : W.Frag) : Addr := 252
def xF17 (_ : W.Frag) : Addr := 278
def xF18 (_ : W.Frag) : Addr := 271
def xF19 (_ : W.Frag) : Addr := 259
def xF21 (_ : W.Frag) : Addr := 196
def xF22 (_ : W.Frag) : Addr := 203
def xF23 (_ : W.Frag) : Addr := 210
def xF25 (_ : W.Frag) : Addr := 182
def xF26 (_ : W.Frag) : Addr := 189
def xF27 (_ : W.Frag) : Addr := 217
def xF28 (_ : W.Frag) : Addr := 283
def xF29 (_ : W.Frag) : Addr := 295
def zdy (_ : W.Frag) : Addr := 98
def zeo (_ : W.Frag) : Addr := 97
def xF1 (_ : W.Frag) : Addr := 168
def xF7 (_ : W.Frag) : Addr := 127
def xM8 (K : W.Frag) : Addr := gF (W.findCls K (.ref (zb1 K)) (.type "type") "of")
def xP16 (_ : W.Frag) : Addr := 161
def xF20 (_ : W.Frag) : Addr := 79
def xF24 (_ : W.Frag) : Addr := 60
def xF8 (K : W.Frag) : Addr := rF K (xM8 K) "classmethod"
def xF16 (K : W.Frag) : Addr := rF K (xP16 K) "property"
def hEx_0 (K : W.Frag) : List Bool := [He.eqO (W.nsIn K mainGlobals "CallError") (some (some (.ref (zc9 K)))), He.eqO (W.nsIn K mainGlobals "BadCall") (some (some (.ref (zea K)))), He.eqO (W.nsIn K mainGlobals "BadPiece") (some (some (.ref (zb8 K)))), He.eqO (W.nsIn K mainGlobals "Repeated") (some (some (.ref (zb7 K)))), He.eqO (W.nsIn K mainGlobals "Call") (some (some (.ref (zb1 K)))), He.eqO (W.findIn K (.ref (zb1 K)) "__eq__") (some (some (.ref (xF1 K)))), W.isFn K (.ref (xF1 K)), cdB K (xF1 K) "Call.__eq__", W.keepIn K (.ref (xF1 K)), He.eqO (W.nsIn K mainGlobals "is_value") (some (some (.ref (xF2 K)))), cdB K (xF2 K) "is_value", W.keepIn K (.ref (xF2 K)), He.eqO (W.nsIn K mainGlobals "are_values") (some (some (.ref (xF3 K)))), cdB K (xF3 K) "are_values", W.keepIn K (.ref (xF3 K)), He.eqO (W.nsIn K mainGlobals "ascending") (some (some (.ref (xF4 K)))), cdB K (xF4 K) "ascending", W.keepIn K (.ref (xF4 K)), He.eqO (W.nsIn K mainGlobals "is_name") (some (some (.ref (xF5 K)))), cdB K (xF5 K) "is_name", W.keepIn K (.ref (xF5 K)), He.eqO (W.nsIn K mainGlobals "is_table") (some (some (.ref (xF6 K)))), cdB K (xF6 K) "is_table", W.keepIn K (.ref (xF6 K)), He.eqO (W.findIn K (.ref (zb1 K)) "__init__") (some (some (.ref (xF7 K)))), mkB K (zb1 K) (xF7 K), cdB K (xF7 K) "Call.__init__", W.keepIn K (.ref (xF7 K)), hdG (W.findCls K (.ref (zb1 K)) (.type "type") "of") (zb1 K), rB K (xM8 K) "classmethod", W.fnIn K (xF8 K), cdB K (xF8 K) "Call.of", W.keepIn K (.ref (xF8 K)), He.eqO (W.nsIn K mainGlobals "_law_begin") (some (some (.ref (xF9 K)))), cdB K (xF9 K) "_law_begin", W.keepIn K (.ref (xF9 K)), He.eqO (W.nsIn K mainGlobals "_law_long") (some (some (.ref (xF10 K)))), cdB K (xF10 K) "_law_long", W.keepIn K (.ref (xF10 K)), He.eqO (W.nsIn K mainGlobals "_law_draw") (some (some (.ref (xF11 K)))), cdB K (xF11 K) "_law_draw", W.keepIn K (.ref (xF11 K)), He.eqO (W.nsIn K mainGlobals "_law_pick") (some (some (.ref (xF12 K)))), cdB K (xF12 K) "_law_pick", W.keepIn K (.ref (xF12 K)), He.eqO (W.nsIn K mainGlobals "_law_shuffled") (some (some (.ref (xF13 K)))), cdB K (xF13 K) "_law_shuffled", W.keepIn K (.ref (xF13 K)), He.eqO (W.nsIn K mainGlobals "_law_pieces") (some (some (.ref (xF14 K)))), cdB K (xF14 K) "_law_pieces", W.keepIn K (.ref (xF14 K)), He.eqO (W.nsIn K mainGlobals "_law_pool") (some (some (.ref (xF15 K)))), cdB K (xF15 K) "_law_pool", W.keepIn K (.ref (xF15 K)), He.eqO (W.findIn K (.ref (zb1 K)) "shape") (some (some (.ref (xP16 K)))), He.eqO (W.specialIn K (.ref (xP16 K)) "__get__") (some (some (.builtin "property.__get__"))), decide (W.takesIn K (.ref (xP16 K)) = some true), rB K (xP16 K) "property", cdB K (xF16 K) "Call.shape", W.keepIn K (.ref (xF16 K)), He.eqO (W.nsIn K mainGlobals "_law_sums") (some (some (.ref (xF17 K)))), cdB K (xF17 K) "_law_sums", W.keepIn K (.ref (xF17 K)), He.eqO (W.nsIn K mainGlobals "_law_told") (some (some (.ref (xF18 K)))), cdB K (xF18 K) "_law_told", W.keepIn K (.ref (xF18 K)), He.eqO (W.nsIn K mainGlobals "_law_twice") (some (some (.ref (xF19 K)))), cdB K (xF19 K) "_law_twice", W.keepIn K (.ref (xF19 K)), He.eqO (W.findIn K (.ref (zb7 K)) "__init__") (some (some (.ref (xF20 K)))), decide (W.typeIn K (.ref (xF20 K)) = some (.type "function")), cdB K (xF20 K) "Repeated.__init__", W.keepIn K (.ref (xF20 K)), He.eqO (W.nsIn K mainGlobals "names_of") (some (some (.ref (xF21 K)))), cdB K (xF21 K) "names_of", W.keepIn K (.ref (xF21 K)), He.eqO (W.nsIn K mainGlobals "known_names") (some (some (.ref (xF22 K))))]
def hEx_1 (K : W.Frag) : List Bool := [cdB K (xF22 K) "known_names", W.keepIn K (.ref (xF22 K)), He.eqO (W.nsIn K mainGlobals "known_values") (some (some (.ref (xF23 K)))), cdB K (xF23 K) "known_values", W.keepIn K (.ref (xF23 K)), He.eqO (W.findIn K (.ref (zb8 K)) "__init__") (some (some (.ref (xF24 K)))), decide (W.typeIn K (.ref (xF24 K)) = some (.type "function")), cdB K (xF24 K) "BadPiece.__init__", W.keepIn K (.ref (xF24 K)), He.eqO (W.nsIn K mainGlobals "piece_of") (some (some (.ref (xF25 K)))), cdB K (xF25 K) "piece_of", W.keepIn K (.ref (xF25 K)), He.eqO (W.nsIn K mainGlobals "pieces_of") (some (some (.ref (xF26 K)))), cdB K (xF26 K) "pieces_of", W.keepIn K (.ref (xF26 K)), He.eqO (W.nsIn K mainGlobals "gathered") (some (some (.ref (xF27 K)))), cdB K (xF27 K) "gathered", W.keepIn K (.ref (xF27 K)), He.eqO (W.nsIn K mainGlobals "_law_right") (some (some (.ref (xF28 K)))), cdB K (xF28 K) "_law_right", (W.tabIn K "_law_right").isSome, He.eqO (W.nsIn K mainGlobals "_law_right") (some (some (.ref (xF28 K)))), W.keepIn K (.ref (xF28 K)), (K.lookup (ptA K "_law_right")).isNone, (W.tabIn K "_law_right").isSome, He.eqO (W.nsIn K mainGlobals "law") (some (some (.ref (xF29 K)))), cdB K (xF29 K) "law", W.keepIn K (.ref (xF29 K)), isfB K [("CallError", (zc9 K)), ("BadCall", (zea K)), ("BadPiece", (zb8 K)), ("Repeated", (zb7 K)), ("Call", (zb1 K))] ["BadPiece", "Repeated", "Call"] ["bool", "dict", "int", "list", "str", "tuple"], eqB K [("CallError", (zc9 K)), ("BadCall", (zea K)), ("BadPiece", (zb8 K)), ("Repeated", (zb7 K)), ("Call", (zb1 K))] (zb1 K), Cs.zi7 K (zb1 K) (xF1 K), xmB K [("CallError", (zc9 K)), ("BadCall", (zea K)), ("BadPiece", (zb8 K)), ("Repeated", (zb7 K)), ("Call", (zb1 K))] "CallError" (zc9 K), clsB K (zb1 K), noB K [((zb1 K), "kept_given"), ((zb1 K), "kept_named"), ((zb7 K), "name"), ((zb8 K), "index")], crB K (zc9 K), crB K (zb1 K), W.excIn K (zea K) [.type "ValueError", .type "Exception", .type "BaseException", .type "object"] "ValueError.__new__", W.keepIn K (.ref (zea K)), decide (W.subIn K (.ref (zea K)) (.type "BaseException") = some true), decide (W.typeIn K (.ref (zea K)) = some (.type "type")), oexB K (zb8 K), He.eqO (W.findIn K (.ref (zb8 K)) "__setattr__") (some (some (.builtin "object.__setattr__"))), decide (W.subIn K (.ref (zb8 K)) (.type "BaseException") = some true), decide (W.typeIn K (.ref (zb8 K)) = some (.type "type")), W.keepIn K (.ref (zb8 K)), oexB K (zb7 K), He.eqO (W.findIn K (.ref (zb7 K)) "__setattr__") (some (some (.builtin "object.__setattr__"))), decide (W.subIn K (.ref (zb7 K)) (.type "BaseException") = some true), decide (W.typeIn K (.ref (zb7 K)) = some (.type "type")), W.keepIn K (.ref (zb7 K)), hdV (W.findCls K (.ref (zc9 K)) (.type "type") "__init__") (.builtin "ValueError.__init__"), He.eqO (W.nsIn K mainGlobals "LATEST") (some (some (.ref (zdy K)))), hdI (W.nsIn K (zdy K) "value") 0, hdI (W.nsIn K (zdy K) "star") 1, hdI (W.nsIn K (zdy K) "name") 2, hdI (W.nsIn K (zdy K) "double") 2, He.eqO (W.nsIn K mainGlobals "RANKS") (some (some (.ref (zeo K)))), hdI (W.nsIn K (zeo K) "value") 0, hdI (W.nsIn K (zeo K) "star") 0, hdI (W.nsIn K (zeo K) "name") 1, hdI (W.nsIn K (zeo K) "double") 2, hdI (W.nsIn K mainGlobals "LONGEST_NAME") 6, hdI (W.nsIn K mainGlobals "MOST_VALUE") 999, He.eqO (W.nsIn K mainGlobals "all") (some none), He.eqO (W.nsIn K mainGlobals "bool") (some none), He.eqO (W.nsIn K mainGlobals "dict") (some none), He.eqO (W.nsIn K mainGlobals "enumerate") (some none), He.eqO (W.nsIn K mainGlobals "int") (some none), He.eqO (W.nsIn K mainGlobals "isinstance") (some none), He.eqO (W.nsIn K mainGlobals "len") (some none), He.eqO (W.nsIn K mainGlobals "list") (some none), He.eqO (W.nsIn K mainGlobals "max") (some none), He.eqO (W.nsIn K mainGlobals "range") (some none), He.eqO (W.nsIn K mainGlobals "repr") (some none), He.eqO (W.nsIn K mainGlobals "sorted") (some none), He.eqO (W.nsIn K mainGlobals "str") (some none), He.eqO (W.nsIn K mainGlobals "tuple") (some none)]
def hFs_0 : FsH := [(xF1, fnV "__eq__" "Call.__eq__" zc4), (xF2, fnV "is_value" "is_value" zdu), (xF3, fnV "are_values" "are_values" zb9), (xF4, fnV "ascending" "ascending" zci), (xF5, fnV "is_name" "is_name" zdz), (xF6, fnV "is_table" "is_table" zc1), (xF7, fnV "__init__" "Call.__init__" zcr), (xF8, fnV "of" "Call.of" zed), (xF9, fnV "_law_begin" "_law_begin" ze6), (xF10, fnV "_law_long" "_law_long" zff), (xF11, fnV "_law_draw" "_law_draw" zfw), (xF12, fnV "_law_pick" "_law_pick" zfv), (xF13, fnV "_law_shuffled" "_law_shuffled" zc3), (xF14, fnV "_law_pieces" "_law_pieces" zcq), (xF15, fnV "_law_pool" "_law_pool" zfu)]
def hFs_1 : FsH := [(xF16, fnV "shape" "Call.shape" zck), (xF17, fnV "_law_sums" "_law_sums" zft), (xF18, fnV "_law_told" "_law_told" zfs), (xF19, fnV "_law_twice" "_law_twice" ze5), (xF20, fnV "__init__" "Repeated.__init__" zbf), (xF21, fnV "names_of" "names_of" zdt), (xF22, fnV "known_names" "known_names" zcb), (xF23, fnV "known_values" "known_values" zb2), (xF24, fnV "__init__" "BadPiece.__init__" zbg), (xF25, fnV "piece_of" "piece_of" zds), (xF26, fnV "pieces_of" "pieces_of" zc0), (xF27, fnV "gathered" "gathered" zc2), (xF28, fnV "_law_right" "_law_right" zcv), (xF29, fnV "law" "law" s_law)]
def hDs_0 : DsH := [(zdy, ["value", "star", "name", "double"])]
def hDs_1 : DsH := [(zeo, ["value", "star", "name", "double"])]
def hEx (K : W.Frag) : List Bool := (hEx_0 K ++ hEx_1 K)
def hFs : FsH := (hFs_0 ++ hFs_1)
def hDs : DsH := (hDs_0 ++ hDs_1)
theorem eX {K : W.Frag} {w : World} (c : obsH hEx hFs hDs K = valH hFs hDs w) (i : Nat) {b : Bool} (h : (hEx K)[i]? = some b := by rfl) : b = true := exH c i h
theorem fX {K : W.Frag} {w : World} (c : obsH hEx hFs hDs K = valH hFs hDs w) (i : Nat) {p : (W.Frag → Addr) × He.FnV} (h : hFs[i]? = some p := by rfl) : fnAt K (p.1 K) = p.2 := fsH c i h
theorem dX {K : W.Frag} {w : World} (c : obsH hEx hFs hDs K = valH hFs hDs w) (i : Nat) {p : (W.Frag → Addr) × List Str} (h : hDs[i]? = some p := by rfl) : ∃ es n, KDict K w (p.1 K) es n := dsH c i h
def hNm_0 : List Str := ["_wall", "CallError", "BadCall", "BadPiece", "Repeated", "LONGEST_NAME", "MOST_VALUE", "is_name", "is_value", "RANKS", "LATEST", "are_values", "is_table", "ascending", "Call", "piece_of", "pieces_of", "names_of", "known_names", "known_values", "gathered", "_law_begin", "_law_draw", "_law_pick", "_law_shuffled"]
def hNm_1 : List Str := ["_law_pool", "_law_twice", "_law_pieces", "_law_told", "_law_sums", "_law_long"]
def hNm : List Str := hNm_0 ++ hNm_1
def hAs : List Addr := [mainGlobals, builtinsNs, cStatics, 31, 44, 63, 82, 171, 96, 103, 113, 89, 108, 224, 288, 231, 238, 245, 264, 252, 278, 271, 259, 196, 203, 210, 182, 189, 217, 283, 295, 98, 97, 168, 127, 136, 161, 79, 60, 134, 160, 30, 43, 62, 81, 170, 95, 102, 112, 88, 107, 223, 287, 230, 237, 244, 263, 251, 277, 270, 258, 195, 202, 209, 181, 188, 216, 282, 294, 167, 126, 78, 59, 133, 159]
abbrev hR : W.OpenRow := W.OpenLaw.row PySem.Challenge.rw_callstairs_k04_pieces_gathered
abbrev hHk : W.Hook := hookT hAs hEx hFs hDs
def hOb (s : W.SharedT) : AlH := obsH hEx hFs hDs (He.frT (HandSHeadRun.getT s) hAs)
theorem zafh (s : W.SharedT) : hOb s = hHk.obs s.abs := zada (HandSHeadRun.getT_eq s)
theorem zads (w : World) : HandSHeadRun.RunEq hR (W.view hR.prog [34, 36]) (hookT hAs hEx_0 hFs_0 hDs_0) (fun s => obsH hEx_0 hFs_0 hDs_0 (He.frT (HandSHeadRun.getT s) hAs)) 9000 hNm (w.withFollow "special-get-raises" false) := by
  intro os
  kernel_rfl
theorem zadr (w : World) : HandSHeadRun.RunEq hR (W.view hR.prog [34, 36]) (hookT hAs hEx_1 hFs_1 hDs_1) (fun s => obsH hEx_1 hFs_1 hDs_1 (He.frT (HandSHeadRun.getT s) hAs)) 9000 hNm (w.withFollow "special-get-raises" false) := by
  intro os
  kernel_rfl
theorem zadq (w : World) : HandSHeadRun.RunEq hR (W.view hR.prog [34, 36]) (hookT hAs hEx_0 hFs_0 hDs_0) (fun s => obsH hEx_0 hFs_0 hDs_0 (He.frT (HandSHeadRun.getT s) hAs)) 9000 hNm (w.withFollow "special-get-raises" true) := by
  intro os
  kernel_rfl
theorem zadp (w : World) : HandSHeadRun.RunEq hR (W.view hR.prog [34, 36]) (hookT hAs hEx_1 hFs_1 hDs_1) (fun s => obsH hEx_1 hFs_1 hDs_1 (He.frT (HandSHeadRun.getT s) hAs)) 9000 hNm (w.withFollow "special-get-raises" true) := by
  intro os
  kernel_rfl
theorem hRunF (w : World) : HandSHeadRun.RunEq hR (W.view hR.prog [34, 36]) hHk hOb 9000 hNm (w.withFollow "special-get-raises" false) := (zrs (zads w) (zadr w))
theorem hRunT (w : World) : HandSHeadRun.RunEq hR (W.view hR.prog [34, 36]) hHk hOb 9000 hNm (w.withFollow "special-get-raises" true) := (zrs (zadq w) (zadp w))
theorem hRun (w : World) : HandSHeadRun.RunEq hR (W.view hR.prog [34, 36]) hHk hOb 9000 hNm w :=
  W.byRow2 "special-get-raises" (P := fun w => HandSHeadRun.RunEq hR (W.view hR.prog [34, 36]) hHk hOb 9000 hNm w) hRunF hRunT w
end K04
namespace K04
open PySem PySem.Spec L2 Mi
def zfq : List (Str × Int) := [("value", 0), ("star", 1), ("name", 2), ("double", 2)]
def zgt : List (Str × Int) := [("value", 0), ("star", 0), ("name", 1), ("double", 2)]
def zd0 : MS := (mRet (mAndV (mUn (fIsS (.cls "Call")) (mVar 1)) (mAndV (mOp (fEq false) (mFld ["Call"] "kept_given" (mVar 0)) (mFld ["Call"] "kept_given" (mVar 1))) (mOp fEqX (mFld ["Call"] "kept_named" (mVar 0)) (mFld ["Call"] "kept_named" (mVar 1))))))
def zaw : List D → Store → Res D := mFn 2 2 zd0
def zb4 : MS := (mRet (mAndV (mUn (fIsS (.ty "int")) (mVar 0)) (mAndV (mNotV (mUn (fIsS (.ty "bool")) (mVar 0))) (zeg (fI2 fun i j => .bl (decide (i ≤ j))) (fI2 fun i j => .bl (decide (i ≤ j))) (mC (.int 0)) (mVar 0) (mC (.int 999))))))
def zaz : List D → Store → Res D := mFn 1 1 zb4
def zbm : MS := (mRet (mAndV (mUn (fIsL [(.ty "list"), (.ty "tuple")]) (mVar 0)) (mCb (fAll false) (mCons (mLc false (miAny (mVar 0)) (zbk 1) mYes (mCall zaz (mCons (mVar 1) mNil)) [1]) mNil))))
def zau : List D → Store → Res D := mFn 2 1 zbm
def zb0 : MS := (mRet (mDc false (miAny (mCb (ze0 false) (mCons (mVar 0) mNil))) (zbk 1) mYes (mVar 1) (mDGet (mVar 0) (mVar 1)) [1]))
def za5 : List D → Store → Res D := mFn 2 1 zb0
def zdf : MS := (mRet (mAndV (mUn (fIsS (.ty "str")) (mVar 0)) (mAndV (zeg fLt (fI2 fun i j => .bl (decide (i ≤ j))) (mC (.int 0)) (mCb fLen (mCons (mVar 0) mNil)) (mC (.int 6))) (mCb (fAll false) (mCons (mLc false (miAny (mVar 0)) (zbk 1) mYes (zeg fLeS fLeS (mC (.str "a")) (mVar 1) (mC (.str "z"))) [1]) mNil)))))
def zbv : List D → Store → Res D := mFn 2 1 zdf
def zbw : MS := (mRet (mAndV (mUn (fIsS (.ty "dict")) (mVar 0)) (mCb (fAll false) (mCons (mLcK false 0 (zbk 1) mYes (mAndV (mCall zbv (mCons (mVar 1) mNil)) (mCall zaz (mCons (mDGet (mVar 0) (mVar 1)) mNil))) [1]) mNil))))
def za1 : List D → Store → Res D := mFn 2 1 zbw
def zfc : MS := (mSeq (mIfS (mOr (mNot (mB (mCall zau (mCons (mVar 1) mNil)))) (mNot (mB (mCall za1 (mCons (mVar 2) mNil))))) (zlc "BadCall") mNext)
  (mSeq (mPutF ["Call"] "kept_given" (mVar 0) (mVar 1))
  (mPutF ["Call"] "kept_named" (mVar 0) (mCall za5 (mCons (mVar 2) mNil)))))
def zcc : List D → Store → Res D := mFn 3 3 zfc
def zen : MS := (mSeq (mIfS (mOr (mNot (mB (mCall zau (mCons (mVar 1) mNil)))) (mNot (mB (mCall za1 (mCons (mVar 2) mNil))))) (zlc "BadCall") mNext)
  (mSeq (mSet 3 (zld false 0 "Call" (zfy zcc) (mVar 1)))
  (mSeq (mPutF ["Call"] "kept_named" (mVar 3) (mCall za5 (mCons (mVar 2) mNil)))
  (mFrz 3 (mRet (mVar 3))))))
def zbq : List D → Store → Res D := mFn 4 3 zen
def zjz : MS := (mRet (mLst true (mCons (mCb fMax2 (mCons (mC (.int 0)) (mCons (mOp (fI2 fun i j => .int (i - j)) (mVar 0) (mOp (fI2c Cs.CPowW fun i j => .int (i ^ j.toNat)) (mC (.int 10)) (mC (.int 18)))) mNil))) (mCons (mOp (fAdd false) (mVar 0) (mOp (fMul false) (mC (.int 977)) (mVar 1))) (mCons (mC (.int 0)) mNil)))))
def zox : List D → Store → Res D := mFn 2 2 zjz
def zjg : MS := (mSeq (mSet 2 (mOp (fAdd false) (mLc false (zew (mCons (mVar 1) mNil)) (zbk 3) mYes (mTup (mCons (mC (.str "value")) (mCons (mVar 3) mNil))) [3]) (mOp (fMul false) (mLst true (mCons (mTup (mCons (mC (.str "star")) (mCons (mTup mNil) mNil))) mNil)) (mC (.int 3)))))
  (mRet (mOp (fAdd false) (mVar 2) (mLst false (mCons (mTup (mCons (mC (.str "name")) (mCons (mOp fIx (mVar 0) (mC (.int 0))) (mCons (mC (.int 1)) mNil)))) (mCons (mTup (mCons (mC (.str "double")) (mCons (mDisp false [((mOp fIx (mVar 0) (mC (.int 1))), (mC (.int 2)))]) mNil))) mNil))))))
def zq9 : List D → Store → Res D := mFn 4 2 zjg
def zb6 : MS := (mSeq (mIfS (mB (mOp (fI2 fun i j => .bl (decide (j < i))) (mOp fIx (mVar 0) (mC (.int 0))) (mC (.int 0)))) (mSeq (mSet 2 (mOp (fI2c (fun _ j => j ≠ 0) fun i j => .int (i.fmod j)) (mOp fIx (mVar 0) (mC (.int 0))) (mVar 1)))
  (mSeq (mAsg (mOp (fI2c CDivN fun i j => .int (i.fdiv j)) (mOp fIx (mVar 0) (mC (.int 0))) (mVar 1)) (zjo (mVar 0) (mC (.int 0))))
  (mRet (mVar 2)))) mNext)
  (mSeq (mAsg (mOp (fAdd false) (mOp fIx (mVar 0) (mC (.int 2))) (mC (.int 1))) (zjo (mVar 0) (mC (.int 2))))
  (mSeq (mSet 2 (mOp (fAdd false) (mOp (fI2c (fun _ j => j ≠ 0) fun i j => .int (i.fmod j)) (mOp fIx (mVar 0) (mC (.int 1))) (mC (.int 2147483629))) (mOp (fMul false) (mC (.int 104729)) (mOp fIx (mVar 0) (mC (.int 2))))))
  (mSeq (mSet 2 (mOp (fMul false) (mVar 2) (mOp (fAdd false) (mOp (fAdd false) (mOp (fI2c (fun _ j => j ≠ 0) fun i j => .int (i.fmod j)) (mOp fIx (mVar 0) (mC (.int 1))) (mC (.int 2147483587))) (mOp (fMul false) (mOp (fMul false) (mC (.int 7919)) (mOp fIx (mVar 0) (mC (.int 2)))) (mOp fIx (mVar 0) (mC (.int 2))))) (mC (.int 11)))))
  (mRet (mOp (fI2c (fun _ j => j ≠ 0) fun i j => .int (i.fmod j)) (mOp (fI2c CDivN fun i j => .int (i.fdiv j)) (mOp (fI2c (fun _ j => j ≠ 0) fun i j => .int (i.fmod j)) (mOp (fI2c Cs.CPowW fun i j => .int (i ^ j.toNat)) (mVar 2) (mC (.int 3))) (mC (.int 2147483647))) (mC (.int 11))) (mVar 1)))))))
def za3 : List D → Store → Res D := mFn 3 2 zb6
def zf4 : MS := (mRet (mOp fIx (mVar 1) (mCall za3 (mCons (mVar 0) (mCons (mCb fLen (mCons (mVar 1) mNil)) mNil)))))
def zex : List D → Store → Res D := mFn 2 2 zf4
def zfg : MS := (mSeq (mPar 2 3 (mCons (mCb (fList true) (mCons (mVar 1) mNil)) (mCons (mLst true mNil) mNil)))
  (mSeq (zjq (mB (mOp (fEq true) (mVar 2) (mLst false mNil))) (mDrop (mBm "list" zbc (mVar 3) (mCons (mBm "list" zlk (mVar 2) (mCons (mCall za3 (mCons (mVar 0) (mCons (mCb fLen (mCons (mVar 2) mNil)) mNil))) mNil)) mNil))))
  (mFrz 3 (mRet (mVar 3)))))
def zge : List D → Store → Res D := mFn 4 2 zfg
def zg0 : MS := (mSeq (mPar 3 4 (mCons (mLst true mNil) (mCons (mCall zge (mCons (mVar 0) (mCons (mVar 1) mNil))) mNil)))
  (mSeq (mFor (zew (mCons (mCall za3 (mCons (mVar 0) (mCons (mC (.int 4)) mNil))) mNil)) (zam 5) (mSeq (mSet 6 (mLst false (mCons (mTup (mCons (mC (.str "star")) (mCons (mLc true (zew (mCons (mCall za3 (mCons (mVar 0) (mCons (mC (.int 3)) mNil))) mNil)) (zbk 7) mYes (mCall za3 (mCons (mVar 0) (mCons (mC (.int 9)) mNil))) [7]) mNil))) (mCons (mTup (mCons (mC (.str "star")) (mCons (mTup (mCons (mC (.int 1)) (mCons (mC (.int 2)) mNil))) mNil))) mNil))))
  (mDrop (mBm "list" zbc (mVar 3) (mCons (mCall zex (mCons (mVar 0) (mCons (mOp (fAdd false) (mLst false (mCons (mTup (mCons (mC (.str "value")) (mCons (mCall za3 (mCons (mVar 0) (mCons (mC (.int 1000)) mNil))) mNil))) (mCons (mTup (mCons (mC (.str "value")) (mCons (mVar 5) mNil))) mNil))) (mVar 6)) mNil))) mNil)))))
  (mSeq (mFor (zew (mCons (mCall za3 (mCons (mVar 0) (mCons (mC (.int 3)) mNil))) mNil)) (zam 5) (mDrop (mBm "list" zbc (mVar 3) (mCons (mCall zex (mCons (mVar 0) (mCons (mLst false (mCons (mTup (mCons (mC (.str "name")) (mCons (mOp fIx (mVar 4) (mVar 5)) (mCons (mC (.int 3)) mNil)))) (mCons (mTup (mCons (mC (.str "star")) (mCons (mLst true (mCons (mVar 5) mNil)) mNil))) (mCons (mTup (mCons (mC (.str "name")) (mCons (mOp fIx (mVar 4) (mC (.int 0))) (mCons (mC (.int 999)) mNil)))) mNil)))) mNil))) mNil))))
  (mSeq (mFor (zew (mCons (mCall za3 (mCons (mVar 0) (mCons (mC (.int 3)) mNil))) mNil)) (zam 5) (mSeq (mSet 8 (mCb (zll true) (mCons (mLc false (miAny (mSl false (mVar 4) (zgb (mOp (fAdd false) (mVar 5) (mC (.int 2)))) (zgb (mOp (fAdd false) (mOp (fAdd false) (mVar 5) (mC (.int 2))) (mCall za3 (mCons (mVar 0) (mCons (mC (.int 3)) mNil))))))) (zbk 9) mYes (mTup (mCons (mVar 9) (mCons (mCall za3 (mCons (mVar 0) (mCons (mC (.int 9)) mNil))) mNil))) [9]) mNil)))
  (mDrop (mBm "list" zbc (mVar 3) (mCons (mCall zex (mCons (mVar 0) (mCons (mLst false (mCons (mTup (mCons (mC (.str "double")) (mCons (mVar 8) mNil))) (mCons (mTup (mCons (mC (.str "double")) (mCons (mDNew true) mNil))) (mCons (mTup (mCons (mC (.str "name")) (mCons (mOp fIx (mVar 4) (mOp (fAdd false) (mVar 5) (mC (.int 3)))) (mCons (mC (.int 5)) mNil)))) mNil)))) mNil))) mNil)))))
  (mSeq (mFor (zew (mCons (mIf (mB (mVar 2)) (mCall za3 (mCons (mVar 0) (mCons (mC (.int 3)) mNil))) (mC (.int 0))) mNil)) (zam 5) (mSeq (mSet 10 (mCall za3 (mCons (mVar 0) (mCons (mOp (fAdd false) (mCb fLen (mCons (mVar 3) mNil)) (mC (.int 1))) mNil))))
  (mSeq (mSet 6 (mLc false (zgc (mCons (mVar 3) mNil)) (zp3 7 11) (mB (mOp (fEq false) (mOp fIx (mVar 11) (mC (.int 0))) (mC (.str "double")))) (mVar 7) [7, 11]))
  (mIfS (mAnd (mB (mOp (fEq false) (mCall za3 (mCons (mVar 0) (mCons (mC (.int 2)) mNil))) (mC (.int 0)))) (mOr (mB (mOp (fEq false) (mVar 6) (mLst false mNil))) (mB (mOp (fI2 fun i j => .bl (decide (i ≤ j))) (mVar 10) (mOp fIx (mVar 6) (mC (.int 0))))))) (mDrop (mBm "list" zoa (mVar 3) (mCons (mVar 10) (mCons (mTup (mCons (mC (.str "star")) mNil)) mNil)))) (mDrop (mBm "list" zbc (mVar 3) (mCons (mTup (mCons (mC (.str "double")) mNil)) mNil)))))))
  (mFrz 3 (mRet (mVar 3))))))))
def znh : List D → Store → Res D := mFn 12 3 zg0
def zjf : MS := (mSeq (mSet 1 (mLst false (mCons (mC (.str "a")) (mCons (mC (.str "b")) (mCons (mC (.str "c")) (mCons (mC (.str "d")) (mCons (mC (.str "x")) (mCons (mC (.str "y")) (mCons (mC (.str "def")) (mCons (mC (.str "call")) (mCons (mC (.str "site")) (mCons (mC (.str "rest")) (mCons (mC (.str "more")) (mCons (mC (.str "self")) (mCons (mC (.str "aa")) (mCons (mC (.str "zzzzzz")) mNil))))))))))))))))
  (mRet (mSl false (mCall zge (mCons (mVar 0) (mCons (mVar 1) mNil))) znf (zgb (mC (.int 6))))))
def zq8 : List D → Store → Res D := mFn 2 1 zjf
def zdg : MS := (mRet (mTup (mCons (mCb fLen (mCons (mFld ["Call"] "kept_given" (mVar 0)) mNil)) (mCons (mCb fTuple (mCons (mFld ["Call"] "kept_named" (mVar 0)) mNil)) mNil))))
def zdb : List D → Store → Res D := mFn 1 1 zdg
def zje : MS := (mSeq (mPar 1 2 (mCons (mLst true mNil) (mCons (mDNew true) mNil)))
  (mSeq (mFor (miAny (mVar 0)) (zam 3) (mSeq (mIfS (mB (mOp (fEq false) (mOp fIx (mVar 3) (mC (.int 0))) (mC (.str "value")))) (mDrop (mBm "list" zbc (mVar 1) (mCons (mOp fIx (mVar 3) (mC (.int 1))) mNil))) mNext)
  (mSeq (mIfS (mB (mOp (fEq false) (mOp fIx (mVar 3) (mC (.int 0))) (mC (.str "star")))) (mDrop (mBm "list" zgz (mVar 1) (mCons (mOp fIx (mVar 3) (mC (.int 1))) mNil))) mNext)
  (mSeq (mIfS (mB (mOp (fEq false) (mOp fIx (mVar 3) (mC (.int 0))) (mC (.str "name")))) (mAsg (mOp fIx (mVar 3) (mC (.int 2))) (zk8 (mVar 2) (mOp fIx (mVar 3) (mC (.int 1))))) mNext)
  (mIfS (mB (mOp (fEq false) (mOp fIx (mVar 3) (mC (.int 0))) (mC (.str "double")))) (mDrop (mBm "dict" fUpd (mVar 2) (mCons (mOp fIx (mVar 3) (mC (.int 1))) mNil))) mNext)))))
  (mFrz 2 (mFrz 1 (mRet (mTup (mCons (mVar 1) (mCons (mVar 2) mNil))))))))
def zq7 : List D → Store → Res D := mFn 4 1 zje
def zh0 : MS := (mSeq (mIfS (mB (mOp (fIsN false) (mVar 2) (mC .non))) (mRet (mVar 1)) mNext)
  (mRet (mIf (mAnd (mB (mUn (fIsS (.cls "Repeated")) (mVar 2))) (mNot (mB (mUn (fIsS (.cls "BadPiece")) (mVar 2))))) (mOp (fAdd false) (mC (.str "twice ")) (mFldX ["Repeated"] "name" (mVar 2))) (mC (.str "other")))))
def zn8 : (Store → Res D) → Store → Res D := fun w => mTold "CallError" 4 1 2 3 1 2 w zh0
def zfo : MS := (mSeq (mSet 1 (mLst true mNil))
  (mSeq (mFor (miAny (mVar 0)) (zam 2) (mSeq (mSet 3 (mIf (mB (mOp (fEq false) (mOp fIx (mVar 2) (mC (.int 0))) (mC (.str "name")))) (mLst false (mCons (mOp fIx (mVar 2) (mC (.int 1))) mNil)) (mLst false mNil)))
  (mSeq (mIfS (mAnd (mB (mOp (fEq false) (mOp fIx (mVar 2) (mC (.int 0))) (mC (.str "double")))) (mB (mOp (fEq false) (mCb fLen (mCons (mVar 2) mNil)) (mC (.int 2))))) (mSet 3 (mCb (ze0 false) (mCons (mCb (fList false) (mCons (mOp fIx (mVar 2) (mC (.int 1))) mNil)) mNil))) mNext)
  (mFor (miAny (mVar 3)) (zam 4) (mSeq (mIfS (mB (mOp (fIn false) (mVar 4) (mVar 1))) (mRet (mVar 4)) mNext)
  (mDrop (mBm "list" zbc (mVar 1) (mCons (mVar 4) mNil))))))))
  (mRet (mC .non))))
def zgq : List D → Store → Res D := mFn 5 1 zfo
def zco : MS := (mSeq (mIfS (mB (mOp (fEq false) (mOp fIx (mVar 0) (mC (.int 0))) (mC (.str "name")))) (mRet (mLst false (mCons (mOp fIx (mVar 0) (mC (.int 1))) mNil))) mNext)
  (mRet (mIf (mAnd (mB (mOp (fEq false) (mOp fIx (mVar 0) (mC (.int 0))) (mC (.str "double")))) (mB (mOp (fEq false) (mCb fLen (mCons (mVar 0) mNil)) (mC (.int 2))))) (mCb (fList false) (mCons (mOp fIx (mVar 0) (mC (.int 1))) mNil)) (mLst false mNil))))
def zdv : List D → Store → Res D := mFn 1 1 zco
def zcs : MS := (mSeq (mSet 1 (mLst true mNil))
  (mSeq (mFor (miAny (mVar 0)) (zam 2) (mFor (miAny (mCall zdv (mCons (mVar 2) mNil))) (zam 3) (mSeq (mIfS (mB (mOp (fIn false) (mVar 3) (mVar 1))) (zey "Repeated" "name" (mCons (mVar 3) mNil)) mNext)
  (mDrop (mBm "list" zbc (mVar 1) (mCons (mVar 3) mNil))))))
  (mFrz 1 (mRet (mVar 1)))))
def zd8 : List D → Store → Res D := mFn 4 1 zcs
def zcg : MS := (mSeq (mSet 1 (mLst true mNil))
  (mSeq (mFor (miAny (mVar 0)) (zam 2) (mIfS (mB (mOp (fEq false) (mOp fIx (mVar 2) (mC (.int 0))) (mC (.str "value")))) (mDrop (mBm "list" zbc (mVar 1) (mCons (mOp fIx (mVar 2) (mC (.int 1))) mNil))) (mIfS (mAnd (mB (mOp (fEq false) (mOp fIx (mVar 2) (mC (.int 0))) (mC (.str "star")))) (mB (mOp (fEq false) (mCb fLen (mCons (mVar 2) mNil)) (mC (.int 2))))) (mDrop (mBm "list" zgz (mVar 1) (mCons (mOp fIx (mVar 2) (mC (.int 1))) mNil))) mNext)))
  (mFrz 1 (mRet (mVar 1)))))
def zd3 : List D → Store → Res D := mFn 3 1 zcg
def zb3 : MS := (mSeq (mIfS (mOr (mNot (mB (mUn (fIsL [(.ty "list"), (.ty "tuple")]) (mVar 0)))) (mOr (mB (mOp (fEq false) (mCb fLen (mCons (mVar 0) mNil)) (mC (.int 0)))) (mNot (mB (mUn (fIsS (.ty "str")) (mOp fIx (mVar 0) (mC (.int 0)))))))) (mRet (mC .non)) mNext)
  (mSeq (mAsg (mVar 0) (zng (zbp (zam 2) (zbp (zam 3) mgNil))))
  (mSeq (mIfS (mAnd (mB (mOp (fIn false) (mVar 2) (mTup (mCons (mC (.str "star")) (mCons (mC (.str "double")) mNil))))) (mAnd (mB (mOp (fEq false) (mVar 3) (mLst false mNil))) (mB (mVar 1)))) (mRet (mTup (mCons (mVar 2) mNil))) mNext)
  (mSeq (mIfS (mAnd (mB (mOp (fEq false) (mVar 2) (mC (.str "value")))) (mAnd (mB (mOp (fEq false) (mCb fLen (mCons (mVar 3) mNil)) (mC (.int 1)))) (mB (mCall zaz (mCons (mOp fIx (mVar 3) (mC (.int 0))) mNil))))) (mRet (mTup (mCons (mVar 2) (mCons (mOp fIx (mVar 3) (mC (.int 0))) mNil)))) mNext)
  (mSeq (mIfS (mAnd (mB (mOp (fEq false) (mVar 2) (mC (.str "star")))) (mAnd (mB (mOp (fEq false) (mCb fLen (mCons (mVar 3) mNil)) (mC (.int 1)))) (mB (mCall zau (mCons (mOp fIx (mVar 3) (mC (.int 0))) mNil))))) (mRet (mTup (mCons (mVar 2) (mCons (mCb fTuple (mCons (mOp fIx (mVar 3) (mC (.int 0))) mNil)) mNil)))) mNext)
  (mSeq (mIfS (mAnd (mB (mOp (fEq false) (mVar 2) (mC (.str "name")))) (mAnd (mB (mOp (fEq false) (mCb fLen (mCons (mVar 3) mNil)) (mC (.int 2)))) (mAnd (mB (mCall zbv (mCons (mOp fIx (mVar 3) (mC (.int 0))) mNil))) (mB (mCall zaz (mCons (mOp fIx (mVar 3) (mC (.int 1))) mNil)))))) (mRet (mTup (mCons (mVar 2) (mCons (mOp fIx (mVar 3) (mC (.int 0))) (mCons (mOp fIx (mVar 3) (mC (.int 1))) mNil))))) mNext)
  (mSeq (mIfS (mAnd (mB (mOp (fEq false) (mVar 2) (mC (.str "double")))) (mAnd (mB (mOp (fEq false) (mCb fLen (mCons (mVar 3) mNil)) (mC (.int 1)))) (mB (mCall za1 (mCons (mOp fIx (mVar 3) (mC (.int 0))) mNil))))) (mRet (mTup (mCons (mVar 2) (mCons (mCall za5 (mCons (mOp fIx (mVar 3) (mC (.int 0))) mNil)) mNil)))) mNext)
  (mRet (mC .non)))))))))
def za4 : List D → Store → Res D := mFn 4 2 zb3
def zc8 : MS := (mSeq (mIfS (mNot (mB (mUn (fIsL [(.ty "list"), (.ty "tuple")]) (mVar 0)))) (zey "BadPiece" "index" (mCons (mC (.int 0)) mNil)) mNext)
  (mSeq (mPar 2 3 (mCons (mLst true mNil) (mCons (mC (.int 0)) mNil)))
  (mSeq (mFor (zgc (mCons (mVar 0) mNil)) (mgTup 2 (zbp (zam 4) (zbp (zam 5) mgNil))) (mSeq (mSet 6 (mCall za4 (mCons (mVar 5) (mCons (mVar 1) mNil))))
  (mSeq (mIfS (mOr (mB (mOp (fIsN false) (mVar 6) (mC .non))) (mB (mOp (fI2 fun i j => .bl (decide (j < i))) (mVar 3) (mUn (fIxW zfq) (mOp fIx (mVar 6) (mC (.int 0))))))) (zey "BadPiece" "index" (mCons (mVar 4) mNil)) mNext)
  (mSeq (mSet 3 (mCb fMax2 (mCons (mVar 3) (mCons (mUn (fIxW zgt) (mOp fIx (mVar 6) (mC (.int 0)))) mNil))))
  (mDrop (mBm "list" zbc (mVar 2) (mCons (mVar 6) mNil)))))))
  (mFrz 2 (mRet (mVar 2))))))
def zc6 : List D → Store → Res D := mFn 7 2 zc8
def zcp : MS := (mSeq (mPar 1 2 (mCons (mCall zc6 (mCons (mVar 0) (mCons (mC (.bl false)) mNil))) (mCons (mDNew true) mNil)))
  (mSeq (mDrop (mCall zd8 (mCons (mVar 1) mNil)))
  (mSeq (mFor (miAny (mVar 1)) (zam 3) (mIfS (mB (mOp (fEq false) (mOp fIx (mVar 3) (mC (.int 0))) (mC (.str "name")))) (mAsg (mOp fIx (mVar 3) (mC (.int 2))) (zk8 (mVar 2) (mOp fIx (mVar 3) (mC (.int 1))))) (mIfS (mB (mOp (fEq false) (mOp fIx (mVar 3) (mC (.int 0))) (mC (.str "double")))) (mDrop (mBm "dict" fUpd (mVar 2) (mCons (mOp fIx (mVar 3) (mC (.int 1))) mNil))) mNext)))
  (mRet (zg6 "Call" zbq (mCons (mCall zd3 (mCons (mVar 1) mNil)) (mCons (mVar 2) mNil)))))))
def zbh : List D → Store → Res D := mFn 4 1 zcp
def zh1 : MS := (mSeq (mIfS (mB (mOp (fEq false) (mCall za3 (mCons (mVar 0) (mCons (mC (.int 2)) mNil))) (mC (.int 0)))) (mSet 1 (mLc false (miAny (mVar 1)) (zbk 2) mYes (mCb (fList false) (mCons (mVar 2) mNil)) [2])) mNext)
  (mSeq (mPar 3 4 (mCons (mCb fRepr (mCons (mVar 1) mNil)) (mCons (mCall zgq (mCons (mVar 1) mNil)) mNil)))
  (mSeq (mSet 5 (mLam zn8 (mCall zbh (mCons (mCall zex (mCons (mVar 0) (mCons (mLst false (mCons (mVar 1) (mCons (mCb fTuple (mCons (mVar 1) mNil)) mNil))) mNil))) mNil))))
  (mSeq (mIfS (mB (mOp (fEq true) (mCb fRepr (mCons (mVar 1) mNil)) (mVar 3))) (mRet (mC (.bl false))) mNext)
  (mSeq (mIfS (mB (mOp (fIsN true) (mVar 4) (mC .non))) (mRet (mAndV (mUn (fIsS (.ty "str")) (mVar 5)) (mOp (fEq false) (mVar 5) (mOp (fAdd false) (mC (.str "twice ")) (mVar 4))))) mNext)
  (mSeq (mAsg (mCall zq7 (mCons (mVar 1) mNil)) (mgTup 2 (zbp (zam 6) (zbp (zam 7) mgNil))))
  (mSeq (mIfS (mOr (mNot (mB (mUn (fIsS (.cls "Call")) (mVar 5)))) (mOr (mB (mOp (fNeO "Call" zaw) (mVar 5) (zg6 "Call" zbq (mCons (mVar 6) (mCons (mVar 7) mNil))))) (mB (mOp (fEq true) (mOp fIx (zp0 "Call" zdb (mVar 5)) (mC (.int 0))) (mCb fLen (mCons (mVar 6) mNil)))))) (mRet (mC (.bl false))) mNext)
  (mSeq (mIfS (mB (mOp (fNeO "Call" zaw) (mCall zbh (mCons (mLst false (mCons (mTup (mCons (mC (.str "star")) (mCons (mVar 6) mNil))) (mCons (mTup (mCons (mC (.str "double")) (mCons (mVar 7) mNil))) mNil))) mNil)) (mVar 5))) (mRet (mC (.bl false))) mNext)
  (mSeq (mFor (miAny (mLc false (miAny (mVar 1)) (zbk 2) (mB (mOp (fIn false) (mOp fIx (mVar 2) (mC (.int 0))) (mLst false (mCons (mC (.str "star")) (mCons (mC (.str "double")) mNil))))) (mVar 2) [2])) (zam 2) (mIfS (mB (mUn (fIsL [(.ty "list"), (.ty "dict")]) (mOp fIx (mVar 2) (mC (.int 1))))) (mDrop (mEi (mBm "list" zil (mOp fIx (mVar 2) (mC (.int 1))) mNil) (mBm "dict" zhx (mOp fIx (mVar 2) (mC (.int 1))) mNil))) mNext))
  (mRet (mOp (fEqO "Call" zaw) (mVar 5) (zg6 "Call" zbq (mCons (mVar 6) (mCons (mVar 7) mNil))))))))))))))
def zow : List D → Store → Res D := mFn 8 2 zh1
def b_law : MS := (mSeq (mFor (zgc (mCons (mSl false (mOrT (mVar 0) (mLst false (mCons (mC (.int 5)) mNil))) znf (zgb (mC (.int 8)))) mNil)) (mgTup 2 (zbp (zam 1) (zbp (zam 2) mgNil))) (mSeq (mSet 3 (mCall zox (mCons (mVar 2) (mCons (mVar 1) mNil))))
  (mSeq (mSet 4 (mCall zq8 (mCons (mVar 3) mNil)))
  (mSeq (mFor (zew (mCons (mC (.int 5)) mNil)) (zam 5) (mIfS (mNot (mB (zp1 zow (mCons (mVar 3) (mCons (mCall znh (mCons (mVar 3) (mCons (mVar 4) (mCons (mC (.bl false)) mNil)))) mNil))))) (mRet (mC (.bl false))) mNext))
  (mSeq (mSet 6 (mCall zex (mCons (mVar 3) (mCons (mLst false (mCons (mC (.int 13)) (mCons (mC (.int 25)) (mCons (mC (.int 90)) mNil)))) mNil))))
  (mSeq (mIfS (mB (mOp (fNeO "Call" zaw) (mCall zbh (mCons (mCall zq9 (mCons (mVar 4) (mCons (mVar 6) mNil))) mNil)) (zg6 "Call" zbq (mCons (mRg1 false false (mVar 6)) (mCons (mDisp false [((mOp fIx (mVar 4) (mC (.int 0))), (mC (.int 1))), ((mOp fIx (mVar 4) (mC (.int 1))), (mC (.int 2)))]) mNil))))) (mRet (mC (.bl false))) mNext)
  (mIfS (mOr (mB (mOp (fNeO "Call" zaw) (mCall zbh (mCons (mLst false mNil) mNil)) (zg6 "Call" zbq (mCons (mLst false mNil) (mCons (mDNew false) mNil))))) (mB (mOp (fNeO "Call" zaw) (zp2 0 1 [0] zbh mNil (mCons (mTup mNil) mNil)) (mMake true "Call" (zfy zcc) mNil)))) (mRet (mC (.bl false))) mNext)))))))
  (mRet (mC (.bl true))))
def m_law : List D → Store → Res D := mFn 7 1 b_law
end K04
namespace K04
open PySem PySem.Spec L2 Mi
theorem hu66 {k : Nat} {A : Around} (r : Room k A) : A.units + 66 < cLine := by have := r.un; omega
structure Tx (K : W.Frag) (mg : Str → Option Value) (w : World) (base : Heap) where
  zbn : Addr
  zh9 : mg "CallError" = some (.ref zbn)
  zbz : Addr
  znp : mg "BadCall" = some (.ref zbz)
  zbj : Addr
  zi0 : mg "BadPiece" = some (.ref zbj)
  zbi : Addr
  zma : mg "Repeated" = some (.ref zbi)
  zbt : Addr
  zhd : mg "Call" = some (.ref zbt)
  zes : Addr
  zhi : FuncData
  zon : Fun K "__eq__" "Call.__eq__" zc4 zes zhi
  zde : W.findIn K (.ref zbt) "__eq__" = some (some (.ref zes)) ∧ W.isFn K (.ref zes) = true
  zd0 : Binds K zhi ["self", "other"] []
  zhm : Addr
  zic : FuncData
  zqr : Fun K "is_value" "is_value" zdu zhm zic
  zhb : mg "is_value" = some (.ref zhm)
  zg8 : W.keepIn K (.ref zhm) = true
  zb4 : Binds K zic ["value"] []
  zfp : Addr
  zgl : FuncData
  zny : Fun K "are_values" "are_values" zb9 zfp zgl
  zhc : mg "are_values" = some (.ref zfp)
  zg9 : W.keepIn K (.ref zfp) = true
  zbm : Binds K zgl ["value"] []
  zgj : Addr
  zhg : FuncData
  zol : Fun K "ascending" "ascending" zci zgj zhg
  zh8 : mg "ascending" = some (.ref zgj)
  zh6 : W.keepIn K (.ref zgj) = true
  zb0 : Binds K zhg ["table"] []
  zio : Addr
  zi1 : FuncData
  zsb : Fun K "is_name" "is_name" zdz zio zi1
  znn : mg "is_name" = some (.ref zio)
  znk : W.keepIn K (.ref zio) = true
  zdf : Binds K zi1 ["value"] []
  zhn : Addr
  zid : FuncData
  zqs : Fun K "is_table" "is_table" zc1 zhn zid
  ziz : mg "is_table" = some (.ref zhn)
  ziy : W.keepIn K (.ref zhn) = true
  zbw : Binds K zid ["value"] []
  zgn : Addr
  zlj : FuncData
  zmt : Fun K "__init__" "Call.__init__" zcr zgn zlj
  zq4 : Mk K zbt zgn
  zir : Addr
  zi3 : FuncData
  zsd : Fun K "of" "Call.of" zed zir zi3
  zpn : Addr
  zf3 : ClX.CMet K zbt (.type "type") "of" zpn zir
  zen : Binds K zi3 ["cls", "values", "named"] []
  zj1 : Addr
  zke : FuncData
  zuu : Fun K "_law_begin" "_law_begin" ze6 zj1 zke
  zt5 : mg "_law_begin" = some (.ref zj1)
  ztw : W.keepIn K (.ref zj1) = true
  zjz : Binds K zke ["_law_cell", "_law_turn"] []
  zlu : Addr
  zmf : FuncData
  zxe : Fun K "_law_long" "_law_long" zff zlu zmf
  zwp : mg "_law_long" = some (.ref zlu)
  zwe : W.keepIn K (.ref zlu) = true
  zjg : Binds K zmf ["_law_pool_here", "_law_many"] []
  zlv : Addr
  zmg : FuncData
  zxf : Fun K "_law_draw" "_law_draw" zfw zlv zmg
  zcz : mg "_law_draw" = some (.ref zlv)
  zcy : W.keepIn K (.ref zlv) = true
  zb6 : Binds K zmg ["_law_state", "_law_size"] []
  zlt : Addr
  zme : FuncData
  zxd : Fun K "_law_pick" "_law_pick" zfv zlt zme
  zjb : mg "_law_pick" = some (.ref zlt)
  zja : W.keepIn K (.ref zlt) = true
  zf4 : Binds K zme ["_law_state", "_law_items"] []
  zgk : Addr
  zhh : FuncData
  zom : Fun K "_law_shuffled" "_law_shuffled" zc3 zgk zhh
  zkt : mg "_law_shuffled" = some (.ref zgk)
  zkr : W.keepIn K (.ref zgk) = true
  zfg : Binds K zhh ["_law_state", "_law_items"] []
  ziq : Addr
  zi2 : FuncData
  zsc : Fun K "_law_pieces" "_law_pieces" zcq ziq zi2
  zr5 : mg "_law_pieces" = some (.ref ziq)
  zr2 : W.keepIn K (.ref ziq) = true
  zg0 : Binds K zi2 ["_law_state", "_law_pool_here", "_law_is_open"] []
  zls : Addr
  zmd : FuncData
  zxc : Fun K "_law_pool" "_law_pool" zfu zls zmd
  zwo : mg "_law_pool" = some (.ref zls)
  zwd : W.keepIn K (.ref zls) = true
  zjf : Binds K zmd ["_law_state"] []
  zhp : Addr
  zgm : FuncData
  znz : Fun K "shape" "Call.shape" zck zhp zgm
  zmp : Addr
  zmo : PropOf K zbt "shape" zmp zhp
  zdg : Binds K zgm ["self"] []
  zlr : Addr
  zmc : FuncData
  zxb : Fun K "_law_sums" "_law_sums" zft zlr zmc
  zwn : mg "_law_sums" = some (.ref zlr)
  zwc : W.keepIn K (.ref zlr) = true
  zje : Binds K zmc ["_law_things"] []
  zoc : Addr
  zo5 : FuncData
  zxa : Fun K "_law_told" "_law_told" zfs zoc zo5
  zwm : mg "_law_told" = some (.ref zoc)
  zwb : W.keepIn K (.ref zoc) = true
  zh0 : Binds K zo5 ["_law_work"] []
  zj0 : Addr
  zkc : FuncData
  zus : Fun K "_law_twice" "_law_twice" ze5 zj0 zkc
  zt3 : mg "_law_twice" = some (.ref zj0)
  ztu : W.keepIn K (.ref zj0) = true
  zfo : Binds K zkc ["_law_things"] []
  zdq : Addr
  zek : FuncData
  ziv : Fun K "__init__" "Repeated.__init__" zbf zdq zek
  zoi : W.findIn K (.ref zbi) "__init__" = some (some (.ref zdq))
  zoe : W.typeIn K (.ref zdq) = some (.type "function")
  ziu : Binds K zek ["self", "name"] []
  zhl : Addr
  zib : FuncData
  zqq : Fun K "names_of" "names_of" zdt zhl zib
  zp9 : mg "names_of" = some (.ref zhl)
  zp6 : W.keepIn K (.ref zhl) = true
  zco : Binds K zib ["piece"] []
  zfd : Addr
  zf1 : FuncData
  zms : Fun K "known_names" "known_names" zcb zfd zf1
  zmr : mg "known_names" = some (.ref zfd)
  zmq : W.keepIn K (.ref zfd) = true
  zcs : Binds K zf1 ["pieces"] []
  ze1 : Addr
  zfh : FuncData
  zlx : Fun K "known_values" "known_values" zb2 ze1 zfh
  zlg : mg "known_values" = some (.ref ze1)
  zlf : W.keepIn K (.ref ze1) = true
  zcg : Binds K zfh ["pieces"] []
  zdr : Addr
  zel : FuncData
  ziw : Fun K "__init__" "BadPiece.__init__" zbg zdr zel
  zks : W.findIn K (.ref zbj) "__init__" = some (some (.ref zdr))
  zkk : W.typeIn K (.ref zdr) = some (.type "function")
  zf6 : Binds K zel ["self", "index"] []
  zhk : Addr
  zia : FuncData
  zqp : Fun K "piece_of" "piece_of" zds zhk zia
  zp8 : mg "piece_of" = some (.ref zhk)
  zp5 : W.keepIn K (.ref zhk) = true
  zb3 : Binds K zia ["value", "is_site"] []
  zgi : Addr
  zhf : FuncData
  zok : Fun K "pieces_of" "pieces_of" zc0 zgi zhf
  zoj : mg "pieces_of" = some (.ref zgi)
  zoh : W.keepIn K (.ref zgi) = true
  zc8 : Binds K zhf ["value", "is_site"] []
  zho : Addr
  zgg : FuncData
  zqt : Fun K "gathered" "gathered" zc2 zho zgg
  zf0 : mg "gathered" = some (.ref zho)
  zfz : W.keepIn K (.ref zho) = true
  zcp : Binds K zgg ["pieces"] []
  zg7 : KBinds K zgg ["pieces"] ["pieces"] (pkI 0 1 [0]) (pkI 0 1 [0])
  zh2 : Addr
  zkd : FuncData
  zkh : Addr
  zgv : Addr
  zut : FunC K "_law_right" "_law_right" zcv zh2 zkd zkh
  zrm : LamX.TabB base mg zkh zgv
  zt4 : mg "_law_right" = some (.ref zh2)
  ztv : W.keepIn K (.ref zh2) = true
  zh1 : Binds K zkd ["_law_state", "_law_things"] []
  a_law : Addr
  zqb : FuncData
  F_law : Fun K "law" "law" s_law a_law zqb
  g_law : mg "law" = some (.ref a_law)
  k_law : W.keepIn K (.ref a_law) = true
  b_law : Binds K zqb ["_law_script"] []
  isf : ∀ tabs, IsF ⟨K, cmOf [("CallError", zbn), ("BadCall", zbz), ("BadPiece", zbj), ("Repeated", zbi), ("Call", zbt)], tabs⟩ ["BadPiece", "Repeated", "Call"] ["bool", "dict", "int", "list", "str", "tuple"]
  znq : ∀ tabs, EqIn ⟨K, cmOf [("CallError", zbn), ("BadCall", zbz), ("BadPiece", zbj), ("Repeated", zbi), ("Call", zbt)], tabs⟩ zbt
  zev : Cs.zi7 K zbt zes = true
  zmu : ∀ C g, cmOf [("CallError", zbn), ("BadCall", zbz), ("BadPiece", zbj), ("Repeated", zbi), ("Call", zbt)] C = some g → W.exmOne K (.ref g) (.ref zbn) = some (isaC C "CallError")
  zob : Cls K zbt
  zii : W.findIn K (.ref zbt) "kept_given" = some none
  zih : W.findIn K (.ref zbt) "kept_named" = some none
  zgp : W.findIn K (.ref zbi) "name" = some none
  zf5 : W.findIn K (.ref zbj) "index" = some none
  zjy : ClX.CRead K zbn (.type "type")
  zjd : ClX.CRead K zbt (.type "type")
  ze2 : W.excIn K zbz [.type "ValueError", .type "Exception", .type "BaseException", .type "object"] "ValueError.__new__" = true
  zeh : W.keepIn K (.ref zbz) = true
  zec : W.subIn K (.ref zbz) (.type "BaseException") = some true
  zeb : W.typeIn K (.ref zbz) = some (.type "type")
  zf7 : OexC K zbj
  zkp : OexC K zbi
  bi : W.findCls K (.ref zbn) (.type "type") "__init__" = some (.val (.builtin "ValueError.__init__"))
  zo8 : Addr
  zt6 : mg "LATEST" = some (.ref zo8)
  zri : WrD K w zo8 zfq
  zre : Addr
  zwl : mg "RANKS" = some (.ref zre)
  zsl : WrD K w zre zgt
  zky : Tok
  zlh : mg "LONGEST_NAME" = some (.int 6 zky)
  zmx : Tok
  zno : mg "MOST_VALUE" = some (.int 999 zmx)
  n_all : mg "all" = none
  zy6 : mg "bool" = none
  zpw : mg "dict" = none
  zh5 : mg "enumerate" = none
  n_int : mg "int" = none
  za8 : mg "isinstance" = none
  n_len : mg "len" = none
  zf9 : mg "list" = none
  n_max : mg "max" = none
  zfx : mg "range" = none
  ztd : mg "repr" = none
  zot : mg "sorted" = none
  n_str : mg "str" = none
  zhu : mg "tuple" = none
section
variable {P : Program} {w : World} {K : W.Frag} {mg : Str → Option Value} {base : Heap}
abbrev Tx.W (T : Tx K mg w base) : Wd := ⟨K, cmOf [("CallError", T.zbn), ("BadCall", T.zbz), ("BadPiece", T.zbj), ("Repeated", T.zbi), ("Call", T.zbt)], [(T.zgv, ((("_law_right" : Str) ++ ".<locals>.") ++ "<lambda>"))]⟩
theorem zqi (T : Tx K mg w base) : T.W.cm "BadCall" = some T.zbz := by show cmOf [("CallError", T.zbn), ("BadCall", T.zbz), ("BadPiece", T.zbj), ("Repeated", T.zbi), ("Call", T.zbt)] "BadCall" = _; simp [cmOf, List.lookup]
theorem zkv (T : Tx K mg w base) : T.W.cm "BadPiece" = some T.zbj := by show cmOf [("CallError", T.zbn), ("BadCall", T.zbz), ("BadPiece", T.zbj), ("Repeated", T.zbi), ("Call", T.zbt)] "BadPiece" = _; simp [cmOf, List.lookup]
theorem zku (T : Tx K mg w base) : T.W.cm "Repeated" = some T.zbi := by show cmOf [("CallError", T.zbn), ("BadCall", T.zbz), ("BadPiece", T.zbj), ("Repeated", T.zbi), ("Call", T.zbt)] "Repeated" = _; simp [cmOf, List.lookup]
theorem zbx (T : Tx K mg w base) : T.W.cm "Call" = some T.zbt := by show cmOf [("CallError", T.zbn), ("BadCall", T.zbz), ("BadPiece", T.zbj), ("Repeated", T.zbi), ("Call", T.zbt)] "Call" = _; simp [cmOf, List.lookup]
theorem zej (T : Tx K mg w base) : FldC T.W "Call" "kept_given" := ⟨fun g h => by rw [zbx T] at h; cases h; exact T.zob, fun g h => by rw [zbx T] at h; cases h; exact T.zii⟩
theorem zdd (T : Tx K mg w base) : FldC T.W "Call" "kept_named" := ⟨fun g h => by rw [zbx T] at h; cases h; exact T.zob, fun g h => by rw [zbx T] at h; cases h; exact T.zih⟩
theorem zo4 (T : Tx K mg w base) : FldX T.W "Repeated" "name" := ⟨fun g h => (T.isf T.W.tabs).exc _ g (by decide) h, fun g h => by rw [zku T] at h; cases h; exact T.zgp⟩
theorem zst : FnScope ["self", "other"] ["self", "other"] (defScope zc4) := ⟨rfl, rfl, rfl, by decide +kernel, rfl, by decide +kernel, by decide +kernel⟩
theorem zta (T : Tx K mg w base) : FnOk P w K mg base (L2.CX P w) 1 T.zes T.zhi ["self", "other"] (spM T.W zaw) :=
  zbs T.zon zst (fun vs H Q E h => by exact zbb (P := 2) h) fun cdv A out s H vs Q E hr h => ⟨tS T.W E zd0, (pss_one (zas (ps_ret (zgd (pe_and (me_is (cl := (.cls "Call")) (u := (.ref T.zbt)) (T.isf _) ⟨by decide, T.zbt, zbx T, rfl⟩ (pe_callB zer (by rfl) T.za8 (by decide +kernel) (pa_cons (zab (pv 1)) (pa_cons (pe_glob rfl T.zhd rfl) pa_nil)))) (zgd (pe_and (me_op za6 (pe_cmpR (za7 hr.units) (zla (all1 (zej T)) (pe_fld (zab (pv 0)) rfl)) (zla (all1 (zej T)) (pe_fld (zab (pv 1)) rfl)) (nomark _))) (pe_one (me_op zac6 (pe_cmpR (zaey (hu80 hr)) (zla (all1 (zdd T)) (pe_fld (zab (pv 0)) rfl)) (zla (all1 (zdd T)) (pe_fld (zab (pv 1)) rfl)) (nomark _))))))))))), pureM (N := ["self", "other"]) h⟩
theorem zez (T : Tx K mg w base) : FnR P w K mg base (L2.CX P w) 1 T.zes (spM T.W zaw) := (FnOk.raw (ds := []) (dvs := []) (zta T) T.zd0 .nil).imp fun vs H Q E h => by rw [List.append_nil]; exact h
theorem zux : FnScope ["value"] ["value"] (defScope zdu) := ⟨rfl, rfl, rfl, by decide +kernel, rfl, by decide +kernel, by decide +kernel⟩
theorem zh4 (T : Tx K mg w base) : FnOk P w K mg base (L2.CX P w) 1 T.zhm T.zic ["value"] (spM T.W zaz) :=
  zbs T.zqr zux (fun vs H Q E h => by exact zbb (P := 1) h) fun cdv A out s H vs Q E hr h => ⟨tS T.W E zb4, (pss_one (zas (ps_ret (zgd (pe_and (me_is (cl := (.ty "int")) (u := (.ty "int")) (T.isf _) ⟨by decide, rfl⟩ (pe_callB zer (by rfl) T.za8 (by decide +kernel) (pa_cons (zab (pv 0)) (pa_cons (pe_bltn (v := .ty "int") (by rfl) T.n_int (by decide +kernel) rfl) pa_nil)))) (zgd (pe_and (zae6 (pe_not (me_is (cl := (.ty "bool")) (u := (.ty "bool")) (T.isf _) ⟨by decide, rfl⟩ (pe_callB zer (by rfl) T.za8 (by decide +kernel) (pa_cons (zab (pv 0)) (pa_cons (pe_bltn (v := .ty "bool") (by rfl) T.zy6 (by decide +kernel) rfl) pa_nil)))))) (pe_one (zov zpp zpp (pe_chain op_le op_le (zad pe_int) (zab (pv 0)) (zad (pe_glob rfl T.zno ⟨_, rfl⟩)))))))))))), pureM (N := ["value"]) h⟩
theorem zis : FnScope ["value", "one"] ["value"] (defScope zb9) := ⟨rfl, rfl, rfl, by decide +kernel, rfl, by decide +kernel, by decide +kernel⟩
theorem zit (T : Tx K mg w base) : FnOk P w K mg base (L2.CX P w) 2 T.zfp T.zgl ["value"] (spM T.W zau) :=
  zbs T.zny zis (fun vs H Q E h => by exact zbb (P := 1) h) fun cdv A out s H vs Q E hr h => ⟨tS T.W E zbm, (pss_one (zas (ps_ret (zgd (pe_and (zpz (cls := [(.ty "list"), (.ty "tuple")]) (us := [(.ty "list"), (.ty "tuple")]) (T.isf _) ⟨⟨by decide, rfl⟩, ⟨⟨by decide, rfl⟩, trivial⟩⟩ (by show 2 ≤ sizeLine; decide) (pe_callB zki (by rfl) T.za8 (by decide +kernel) (pa_cons (zab (pv 0)) (pa_cons (pe_tup (pa_cons (pe_bltn (v := .ty "list") (by rfl) T.zf9 (by decide +kernel) rfl) (pa_cons (pe_bltn (v := .ty "tuple") (by rfl) T.zhu (by decide +kernel) rfl) pa_nil))) pa_nil)))) (pe_one (me_cb zrf (pe_callB (cr_all rfl) (by rfl) T.n_all (by decide +kernel) (zaa (pa_cons (me_lc (b := false) (ze8 (by decide)) (pe_lc (own := [("one", 1)]) (g := (gName 1)) (tt := tT T.W E0' mYes) (te := tE T.W E0' (mCall zaz (mCons (mVar 1) mNil))) rfl zis.nd (zef (Cs.zee (zab (pv 0)))) (blkOk_by (own := [("one", 1)]) (N := ["value", "one"]) (sc := defScope zb9) (by decide +kernel)) (fun _ _ _ _ _ => (pg_name (i := 1) zis.nd rfl loB)) (fun _ _ _ _ _ => (zij pts_nil)) (fun _ _ _ _ _ => (zai (pe_call (zh4 T) (hr.mono (by decide)) rfl T.zhb T.zg8 T.zb4 .nil zax (by exact (zaa (pa_cons (zab (pv 1)) (zac pa_nil))))))))) (zac pa_nil))))))))))), pureM (N := ["value", "one"]) h⟩
theorem zjk : FnScope ["table", "name"] ["table"] (defScope zci) := ⟨rfl, rfl, rfl, by decide +kernel, rfl, by decide +kernel, by decide +kernel⟩
theorem zjm (T : Tx K mg w base) : FnOk P w K mg base (L2.CX P w) 1 T.zgj T.zhg ["table"] (spM T.W za5) :=
  zbs T.zol zjk (fun vs H Q E h => by exact zbb (P := 1) h) fun cdv A out s H vs Q E hr h => ⟨tS T.W E zb0, (pss_one (zas (ps_ret (me_dc (b := false) (ze8 (by decide)) (pe_dc (own := [("name", 1)]) (g := (gName 1)) (tt := tT T.W E0' mYes) (tk := tE T.W E0' (mVar 1)) (tv := tE T.W E0' (mDGet (mVar 0) (mVar 1))) rfl zjk.nd (zef (Cs.zee (me_cb (zqj (b := false)) (pe_callB (zqk rfl) (by rfl) T.zot (by decide +kernel) (zaa (pa_cons (zab (pv 0)) (zac pa_nil))))))) (blkOk_by (own := [("name", 1)]) (N := ["table", "name"]) (sc := defScope zci) (by decide +kernel)) (fun _ _ _ _ _ => (pg_name (i := 1) zjk.nd rfl loB)) (fun _ _ _ _ _ => (zij pts_nil)) (fun _ _ _ _ _ => (zab (pv 1))) (fun _ _ _ _ _ => (zv6 (pe_dget (hu_of hr) (zab (pv 0)) (zab (pv 1)) (fun _ _ => rfl))))))))), pureM (N := ["table", "name"]) h⟩
theorem zlz : FnScope ["value", "sign"] ["value"] (defScope zdz) := ⟨rfl, rfl, rfl, by decide +kernel, rfl, by decide +kernel, by decide +kernel⟩
theorem zps (T : Tx K mg w base) : FnOk P w K mg base (L2.CX P w) 1 T.zio T.zi1 ["value"] (spM T.W zbv) :=
  zbs T.zsb zlz (fun vs H Q E h => by exact zbb (P := 1) h) fun cdv A out s H vs Q E hr h => ⟨tS T.W E zdf, (pss_one (zas (ps_ret (zgd (pe_and (me_is (cl := (.ty "str")) (u := (.ty "str")) (T.isf _) ⟨by decide, rfl⟩ (pe_callB zer (by rfl) T.za8 (by decide +kernel) (pa_cons (zab (pv 0)) (pa_cons (pe_bltn (v := .ty "str") (by rfl) T.n_str (by decide +kernel) rfl) pa_nil)))) (zgd (pe_and (zov zaev zpp (pe_chain (Cs.zaew hr.units) op_le (zad pe_int) (me_cb zdk (pe_callB zb5 (by rfl) T.n_len (by decide +kernel) (zaa (pa_cons (zab (pv 0)) (zac pa_nil))))) (zad (pe_glob rfl T.zlh ⟨_, rfl⟩)))) (pe_one (me_cb zrf (pe_callB (cr_all rfl) (by rfl) T.n_all (by decide +kernel) (zaa (pa_cons (me_lc (b := false) (ze8 (by decide)) (pe_lc (own := [("sign", 1)]) (g := (gName 1)) (tt := tT T.W E0' mYes) (te := tE T.W E0' (zeg fLeS fLeS (mC (.str "a")) (mVar 1) (mC (.str "z")))) rfl zlz.nd (zef (Cs.zee (zab (pv 0)))) (blkOk_by (own := [("sign", 1)]) (N := ["value", "sign"]) (sc := defScope zdz) (by decide +kernel)) (fun _ _ _ _ _ => (pg_name (i := 1) zlz.nd rfl loB)) (fun _ _ _ _ _ => (zij pts_nil)) (fun _ _ _ _ _ => (zov zvq zvq (pe_chain zvu zvu (zak pe_str) (zab (pv 1)) (zak pe_str)))))) (zac pa_nil))))))))))))), pureM (N := ["value", "sign"]) h⟩
theorem zkn : FnScope ["value", "name"] ["value"] (defScope zc1) := ⟨rfl, rfl, rfl, by decide +kernel, rfl, by decide +kernel, by decide +kernel⟩
theorem zkq (T : Tx K mg w base) : FnOk P w K mg base (L2.CX P w) 2 T.zhn T.zid ["value"] (spM T.W za1) :=
  zbs T.zqs zkn (fun vs H Q E h => by exact zbb (P := 1) h) fun cdv A out s H vs Q E hr h => ⟨tS T.W E zbw, (pss_one (zas (ps_ret (zgd (pe_and (me_is (cl := (.ty "dict")) (u := (.ty "dict")) (T.isf _) ⟨by decide, rfl⟩ (pe_callB zer (by rfl) T.za8 (by decide +kernel) (pa_cons (zab (pv 0)) (pa_cons (pe_bltn (v := .ty "dict") (by rfl) T.zpw (by decide +kernel) rfl) pa_nil)))) (pe_one (me_cb zrf (pe_callB (cr_all rfl) (by rfl) T.n_all (by decide +kernel) (zaa (pa_cons (zae7 (b := false) (ze8 (by decide)) (zabp (pe_lc (own := [("name", 1)]) (g := (gName 1)) (tt := tT T.W E0' mYes) (te := tE T.W E0' (mAndV (mCall zbv (mCons (mVar 1) mNil)) (mCall zaz (mCons (mDGet (mVar 0) (mVar 1)) mNil)))) rfl zkn.nd (pi_keys (pv 0)) (blkOk_by (own := [("name", 1)]) (N := ["value", "name"]) (sc := defScope zc1) (by decide +kernel)) (fun _ _ _ _ _ => (pg_name (i := 1) zkn.nd rfl loB)) (fun _ _ _ _ _ => (zij pts_nil)) (fun _ _ _ _ _ => (zgd (pe_and (zai (pe_call (zps T) (hr.mono (by decide)) rfl T.znn T.znk T.zdf .nil zax (by exact (zaa (pa_cons (zab (pv 1)) (zac pa_nil)))))) (pe_one (zai (pe_call (zh4 T) (hr.mono (by decide)) rfl T.zhb T.zg8 T.zb4 .nil zax (by exact (zaa (pa_cons (zv6 (pe_dget (hu_of hr) (zab (pv 0)) (zab (pv 1)) (fun _ _ => rfl))) (zac pa_nil))))))))))))) (zac pa_nil))))))))))), pureM (N := ["value", "name"]) h⟩
theorem zqu : FnScope ["self", "values", "named"] ["self", "values", "named"] (defScope zcr) := ⟨rfl, rfl, rfl, by decide +kernel, rfl, by decide +kernel, by decide +kernel⟩
theorem zli (T : Tx K mg w base) : FnR P w K mg base (L2.CX P w) 3 T.zgn (spM T.W (zfy zcc)) := by
  obtain ⟨oc, od, kV, doc, pm, an, cdv, ct, osl, e, lk, hcd⟩ := T.zmt.ex
  rw [e] at lk
  refine FnR.imp (StX.fn_starkw (sp := spM T.W zcc) (ps := ["self"]) (pv := "values") (pd := "named") lk hcd zqu StX.cxUp (fun us rest hl => match us, hl with | [a], _ => match rest with | [] => rfl | _ :: _ => rfl) fun A outer s H vs Q E hr h => ⟨tS T.W E zfc, (zaf (pss_cons (ms_if (ps_if (PW.pt (mw_or (pw_or (zga (pt_not (zcm (pt_val (zai (pe_call (zit T) (hr.mono (by decide)) rfl T.zhc T.zg9 T.zbm .nil (zar (takes_of rfl rfl rfl rfl)) (by exact (zaa (pa_cons (zab (pv 1)) (zac pa_nil)))))))))) (pw_or1 (zga (pt_not (zcm (pt_val (zai (pe_call (zkq T) (hr.mono (by decide)) rfl T.ziz T.ziy T.zbw .nil (zar (takes_of rfl rfl rfl rfl)) (by exact (zaa (pa_cons (zab (pv 2)) (zac pa_nil)))))))))))))) (pss_one (zte (zqi T) (ps_raise rfl (takes_of rfl rfl rfl rfl) (pmk_own PySem.F.excBase_ValueError T.ze2 T.znp T.zeh (raises_own T.zec T.zeb) (by rfl))))) (za0 pss_nil)))
    (zaf (pss_cons (ztf (all1 (zej T)) (ps_fld (zab (pv 0)) (zab (pv 1)) rfl))
    (pss_one (ztf (all1 (zdd T)) (ps_fld (zab (pv 0)) (zai (pe_call (zjm T) (hr.mono (by decide)) rfl T.zh8 T.zh6 T.zb0 .nil (zar (takes_of rfl rfl rfl rfl)) (by exact (zaa (pa_cons (zab (pv 2)) (zac pa_nil)))))) rfl))))))), pureM (N := ["self", "values", "named"]) h⟩) fun vs H Q E h => zaem h
theorem zpi : FnScope ["cls", "values", "named", "found"] ["cls", "values", "named"] (defScope zed) := ⟨rfl, rfl, rfl, by decide +kernel, rfl, by decide +kernel, by decide +kernel⟩
theorem zxq (T : Tx K mg w base) : FnOk P w K mg base (L2.CX P w) 5 T.zir T.zi3 ["cls", "values", "named"] (spM T.W zbq) :=
  zbs T.zsd zpi (fun vs H Q E h => by exact zbb (P := 3) h) fun cdv A out s H vs Q E hr h => ⟨tS T.W E zen, (zaf (pss_cons (ms_if (ps_if (PW.pt (mw_or (pw_or (zga (pt_not (zcm (pt_val (zai (pe_call (zit T) (hr.mono (by decide)) rfl T.zhc T.zg9 T.zbm .nil (zar (takes_of rfl rfl rfl rfl)) (by exact (zaa (pa_cons (zab (pv 1)) (zac pa_nil)))))))))) (pw_or1 (zga (pt_not (zcm (pt_val (zai (pe_call (zkq T) (hr.mono (by decide)) rfl T.ziz T.ziy T.zbw .nil (zar (takes_of rfl rfl rfl rfl)) (by exact (zaa (pa_cons (zab (pv 2)) (zac pa_nil)))))))))))))) (pss_one (zte (zqi T) (ps_raise rfl (takes_of rfl rfl rfl rfl) (pmk_own PySem.F.excBase_ValueError T.ze2 T.znp T.zeh (raises_own T.zec T.zeb) (by rfl))))) (za0 pss_nil)))
    (zaf (pss_cons (zca (ps_set (i := 3) zpi.nd rfl loB (zab2 (frz := false) (zbx T) (Cs.zabo T.zq4 (zli T) (hr.mono (by decide)) rfl (by first | exact Or.inl rfl | exact Or.inr (Or.inl rfl)) (zar (takes_of rfl rfl rfl rfl)) (zab (pv 1))))))
    (zaf (pss_cons (ztf (all1 (zdd T)) (ps_fld (zab (pv 3)) (zai (pe_call (zjm T) (hr.mono (by decide)) rfl T.zh8 T.zh6 T.zb0 .nil (zar (takes_of rfl rfl rfl rfl)) (by exact (zaa (pa_cons (zab (pv 2)) (zac pa_nil)))))) rfl))
    (pss_one (zik (i := 3) (zas (ps_ret (zab (pv 3)))))))))))), pureM (N := ["cls", "values", "named", "found"]) h⟩
theorem zhe (T : Tx K mg w base) : FnR P w K mg base (L2.CX P w) 5 T.zir (spM T.W zbq) := (FnOk.raw (ds := []) (dvs := []) (zxq T) T.zen .nil).imp fun vs H Q E h => by rw [List.append_nil]; exact h
theorem zyg : FnScope ["_law_cell", "_law_turn"] ["_law_cell", "_law_turn"] (defScope ze6) := ⟨rfl, rfl, rfl, by decide +kernel, rfl, by decide +kernel, by decide +kernel⟩
theorem zy0 (T : Tx K mg w base) : FnOk P w K mg base (L2.CX P w) 1 T.zj1 T.zke ["_law_cell", "_law_turn"] (spM T.W zox) :=
  zbs T.zuu zyg (fun vs H Q E h => by exact zbb (P := 2) h) fun cdv A out s H vs Q E hr h => ⟨tS T.W E zjz, (pss_one (zas (ps_ret (zba (b := true) (pe_lst (zaa (pa_cons (me_cb zun (pe_callB (Cs.zqm rfl) (by rfl) T.n_max (by decide +kernel) (zaa (pa_cons (zad pe_int) (zaa (pa_cons (me_op zac5 (pe_op op_sub (zab (pv 0)) (me_op zvp (pe_op Cs.zvt (zad pe_int) (zad pe_int))))) (zac pa_nil))))))) (zaa (pa_cons (me_op (zcw (b := false)) (pe_op Cs.zcx (zab (pv 0)) (me_op (zi8 (b := false)) (pe_op Cs.zi9 (zad pe_int) (zab (pv 1)))))) (zaa (pa_cons (zad pe_int) (zac pa_nil)))))))))))), pureM (N := ["_law_cell", "_law_turn"]) h⟩
theorem zl0 : FnScope ["_law_pool_here", "_law_many", "_law_found", "_law_at"] ["_law_pool_here", "_law_many"] (defScope zff) := ⟨rfl, rfl, rfl, by decide +kernel, rfl, by decide +kernel, by decide +kernel⟩
theorem zabv (T : Tx K mg w base) : FnOk P w K mg base (L2.CX P w) 1 T.zlu T.zmf ["_law_pool_here", "_law_many"] (spM T.W zq9) :=
  zbs T.zxe zl0 (fun vs H Q E h => by exact zbb (P := 2) h) fun cdv A out s H vs Q E hr h => ⟨tS T.W E zjg, (zaf (pss_cons (zca (ps_set (i := 2) zl0.nd rfl loB (me_op (zcw (b := false)) (pe_op Cs.zcx (me_lc (b := false) (ze8 (by decide)) (pe_lc (own := [("_law_at", 3)]) (g := (gName 3)) (tt := tT T.W E0' mYes) (te := tE T.W E0' (mTup (mCons (mC (.str "value")) (mCons (mVar 3) mNil)))) rfl zl0.nd (zhv (pi_range1 rfl T.zfx (zaa (pa_cons (zab (pv 1)) (zac pa_nil))))) (blkOk_by (own := [("_law_at", 3)]) (N := ["_law_pool_here", "_law_many", "_law_found", "_law_at"]) (sc := defScope zff) (by decide +kernel)) (fun _ _ _ _ _ => (pg_name (i := 3) zl0.nd rfl loB)) (fun _ _ _ _ _ => (zij pts_nil)) (fun _ _ _ _ _ => (za9 (pe_tup (zaa (pa_cons (zak pe_str) (zaa (pa_cons (zab (pv 3)) (zac pa_nil)))))))))) (me_op (zi8 (b := false)) (pe_op Cs.zi9 (zba (b := true) (pe_lst (zaa (pa_cons (za9 (pe_tup (zaa (pa_cons (zak pe_str) (zaa (pa_cons (za9 (pe_tup (zac pa_nil))) (zac pa_nil))))))) (zac pa_nil))))) (zad pe_int)))))))
    (pss_one (zas (ps_ret (me_op (zcw (b := false)) (pe_op Cs.zcx (zab (pv 2)) (zba (b := false) (pe_lst (zaa (pa_cons (za9 (pe_tup (zaa (pa_cons (zak pe_str) (zaa (pa_cons (me_op zag (pe_ix ix_seq (zab (pv 0)) (zad pe_int) (fun _ _ => rfl))) (zaa (pa_cons (zad pe_int) (zac pa_nil))))))))) (zaa (pa_cons (za9 (pe_tup (zaa (pa_cons (zak pe_str) (zaa (pa_cons (zv5 (b := false) (trs := [((mOp fIx (mVar 0) (mC (.int 1))), (mC (.int 2)))]) (pe_disp (pps_cons (me_op zag (pe_ix ix_seq (zab (pv 0)) (zad pe_int) (fun _ _ => rfl))) (zad pe_int) pps_nil) (by rfl) (by rfl) (fun z => by cases z) (by decide))) (zac pa_nil))))))) (zac pa_nil)))))))))))))), pureM (N := ["_law_pool_here", "_law_many", "_law_found", "_law_at"]) h⟩
theorem zl1 : FnScope ["_law_state", "_law_size", "_law_found"] ["_law_state", "_law_size"] (defScope zfw) := ⟨rfl, rfl, rfl, by decide +kernel, rfl, by decide +kernel, by decide +kernel⟩
theorem zcl (T : Tx K mg w base) : FnOk P w K mg base (L2.CX P w) 1 T.zlv T.zmg ["_law_state", "_law_size"] (spM T.W za3) :=
  zbs T.zxf zl1 (fun vs H Q E h => by exact zbb (P := 2) h) fun cdv A out s H vs Q E hr h => ⟨tS T.W E zb6, (zaf (pss_cons (ms_if (ps_if (zap zyx (pt_cmpR op_gt (me_op zag (pe_ix ix_seq (zab (pv 0)) (zad pe_int) (fun _ _ => rfl))) (zad pe_int) (nomark _))) (zaf (pss_cons (zca (ps_set (i := 2) zl1.nd rfl loB (me_op zk4 (pe_op op_modN (me_op zag (pe_ix ix_seq (zab (pv 0)) (zad pe_int) (fun _ _ => rfl))) (zab (pv 1))))))
    (zaf (pss_cons (zk7 (ps_asg (me_op zvs (pe_op op_fdivN (me_op zag (pe_ix ix_seq (zab (pv 0)) (zad pe_int) (fun _ _ => rfl))) (zab (pv 1)))) (zv3 (pg_sub (zab (pv 0)) (zad pe_int) set_list))))
    (pss_one (zas (ps_ret (zab (pv 2))))))))) (za0 pss_nil)))
    (zaf (pss_cons (zk7 (ps_asg (me_op (zcw (b := false)) (pe_op Cs.zcx (me_op zag (pe_ix ix_seq (zab (pv 0)) (zad pe_int) (fun _ _ => rfl))) (zad pe_int))) (zv3 (pg_sub (zab (pv 0)) (zad pe_int) set_list))))
    (zaf (pss_cons (zca (ps_set (i := 2) zl1.nd rfl loB (me_op (zcw (b := false)) (pe_op Cs.zcx (me_op zk4 (pe_op op_modN (me_op zag (pe_ix ix_seq (zab (pv 0)) (zad pe_int) (fun _ _ => rfl))) (zad pe_int))) (me_op (zi8 (b := false)) (pe_op Cs.zi9 (zad pe_int) (me_op zag (pe_ix ix_seq (zab (pv 0)) (zad pe_int) (fun _ _ => rfl)))))))))
    (zaf (pss_cons (zca (ps_set (i := 2) zl1.nd rfl loB (me_op (zi8 (b := false)) (pe_op Cs.zi9 (zab (pv 2)) (me_op (zcw (b := false)) (pe_op Cs.zcx (me_op (zcw (b := false)) (pe_op Cs.zcx (me_op zk4 (pe_op op_modN (me_op zag (pe_ix ix_seq (zab (pv 0)) (zad pe_int) (fun _ _ => rfl))) (zad pe_int))) (me_op (zi8 (b := false)) (pe_op Cs.zi9 (me_op (zi8 (b := false)) (pe_op Cs.zi9 (zad pe_int) (me_op zag (pe_ix ix_seq (zab (pv 0)) (zad pe_int) (fun _ _ => rfl))))) (me_op zag (pe_ix ix_seq (zab (pv 0)) (zad pe_int) (fun _ _ => rfl))))))) (zad pe_int)))))))
    (pss_one (zas (ps_ret (me_op zk4 (pe_op op_modN (me_op zvs (pe_op op_fdivN (me_op zk4 (pe_op op_modN (me_op zvp (pe_op Cs.zvt (zab (pv 2)) (zad pe_int))) (zad pe_int))) (zad pe_int))) (zab (pv 1))))))))))))))), pureM (N := ["_law_state", "_law_size", "_law_found"]) h⟩
theorem zabb : FnScope ["_law_state", "_law_items"] ["_law_state", "_law_items"] (defScope zfv) := ⟨rfl, rfl, rfl, by decide +kernel, rfl, by decide +kernel, by decide +kernel⟩
theorem zjn (T : Tx K mg w base) : FnOk P w K mg base (L2.CX P w) 2 T.zlt T.zme ["_law_state", "_law_items"] (spM T.W zex) :=
  zbs T.zxd zabb (fun vs H Q E h => by exact zbb (P := 2) h) fun cdv A out s H vs Q E hr h => ⟨tS T.W E zf4, (pss_one (zas (ps_ret (me_op zag (pe_ix ix_seq (zab (pv 1)) (zai (pe_call (zcl T) (hr.mono (by decide)) rfl T.zcz T.zcy T.zb6 .nil (zar (takes_of rfl rfl rfl rfl)) (by exact (zaa (pa_cons (zab (pv 0)) (zaa (pa_cons (me_cb zdk (pe_callB zb5 (by rfl) T.n_len (by decide +kernel) (zaa (pa_cons (zab (pv 1)) (zac pa_nil))))) (zac pa_nil)))))))) (fun _ _ => rfl)))))), pureM (N := ["_law_state", "_law_items"]) h⟩
theorem zm2 : FnScope ["_law_state", "_law_items", "_law_left", "_law_found"] ["_law_state", "_law_items"] (defScope zc3) := ⟨rfl, rfl, rfl, by decide +kernel, rfl, by decide +kernel, by decide +kernel⟩
theorem znb (T : Tx K mg w base) : FnOk P w K mg base (L2.CX P w) 2 T.zgk T.zhh ["_law_state", "_law_items"] (spM T.W zge) :=
  zbs T.zom zm2 (fun vs H Q E h => by exact zbb (P := 2) h) fun cdv A out s H vs Q E hr h => ⟨tS T.W E zfg, (zaf (pss_cons (zk6 (ps_par (by rfl) zm2.nd rfl rfl (by decide) rfl rfl (zaa (pa_cons (me_cb (zml (b := true)) (pe_callTy (zie rfl) (by rfl) T.zf9 (by decide +kernel) (zaa (pa_cons (zab (pv 1)) (zac pa_nil))))) (zaa (pa_cons (zba (b := true) (pe_lst (zac pa_nil))) (zac pa_nil))))) (by rfl)))
    (zaf (pss_cons (zaby (ps_while (passes_own rfl) (zap zs6 (pt_cmpR (zs8 hr.units) (zab (pv 2)) (zba (b := false) (pe_lst (zac pa_nil))) (nomark _))) (pss_one (zcf (ps_expr (me_bm zc5 (pe_bm PySem.F.plainAttrs_list PySem.F.slot_list_append PySem.F.type_list_append mt_append (zab (pv 3)) (zaa (pa_cons (me_bm zy7 (pe_bm PySem.F.plainAttrs_list PySem.F.slot_list_pop PySem.F.type_list_pop mt_popAt (zab (pv 2)) (zaa (pa_cons (zai (pe_call (zcl T) (hr.mono (by decide)) rfl T.zcz T.zcy T.zb6 .nil (zar (takes_of rfl rfl rfl rfl)) (by exact (zaa (pa_cons (zab (pv 0)) (zaa (pa_cons (me_cb zdk (pe_callB zb5 (by rfl) T.n_len (by decide +kernel) (zaa (pa_cons (zab (pv 2)) (zac pa_nil))))) (zac pa_nil)))))))) (zac pa_nil))))) (zac pa_nil))))))))))
    (pss_one (zik (i := 3) (zas (ps_ret (zab (pv 3)))))))))), pureM (N := ["_law_state", "_law_items", "_law_left", "_law_found"]) h⟩
theorem zbe : FnScope ["_law_state", "_law_pool_here", "_law_is_open", "_law_found", "_law_names", "_law_turn", "_law_stars", "_law_k", "_law_table", "_law_name", "_law_at", "_law_piece"] ["_law_state", "_law_pool_here", "_law_is_open"] (defScope zcq) := ⟨rfl, rfl, rfl, by decide +kernel, rfl, by decide +kernel, by decide +kernel⟩
theorem zxp (T : Tx K mg w base) : FnOk P w K mg base (L2.CX P w) 3 T.ziq T.zi2 ["_law_state", "_law_pool_here", "_law_is_open"] (spM T.W znh) :=
  zbs T.zsc zbe (fun vs H Q E h => by exact zbb (P := 3) h) fun cdv A out s H vs Q E hr h => ⟨tS T.W E zg0, (zaf (pss_cons (zk6 (ps_par (by rfl) zbe.nd rfl rfl (by decide) rfl rfl (zaa (pa_cons (zba (b := true) (pe_lst (zac pa_nil))) (zaa (pa_cons (zai (pe_call (znb T) (hr.mono (by decide)) rfl T.zkt T.zkr T.zfg .nil (zar (takes_of rfl rfl rfl rfl)) (by exact (zaa (pa_cons (zab (pv 0)) (zaa (pa_cons (zab (pv 1)) (zac pa_nil)))))))) (zac pa_nil))))) (by rfl)))
    (zaf (pss_cons (zd6 (ps_for (passes_own rfl) rfl (zhv (pi_range1 rfl T.zfx (zaa (pa_cons (zai (pe_call (zcl T) (hr.mono (by decide)) rfl T.zcz T.zcy T.zb6 .nil (zar (takes_of rfl rfl rfl rfl)) (by exact (zaa (pa_cons (zab (pv 0)) (zaa (pa_cons (zad pe_int) (zac pa_nil)))))))) (zac pa_nil))))) (zbu (pg_name (i := 5) zbe.nd rfl loB)) (zaf (pss_cons (zca (ps_set (i := 6) zbe.nd rfl loB (zba (b := false) (pe_lst (zaa (pa_cons (za9 (pe_tup (zaa (pa_cons (zak pe_str) (zaa (pa_cons (me_lc (b := true) (ze8 (by decide)) (pe_lc (own := [("_law_k", 7)]) (g := (gName 7)) (tt := tT T.W E0' mYes) (te := tE T.W E0' (mCall za3 (mCons (mVar 0) (mCons (mC (.int 9)) mNil)))) rfl zbe.nd (zhv (pi_range1 rfl T.zfx (zaa (pa_cons (zai (pe_call (zcl T) (hr.mono (by decide)) rfl T.zcz T.zcy T.zb6 .nil (zar (takes_of rfl rfl rfl rfl)) (by exact (zaa (pa_cons (zab (pv 0)) (zaa (pa_cons (zad pe_int) (zac pa_nil)))))))) (zac pa_nil))))) (blkOk_by (own := [("_law_k", 7)]) (N := ["_law_state", "_law_pool_here", "_law_is_open", "_law_found", "_law_names", "_law_turn", "_law_stars", "_law_k", "_law_table", "_law_name", "_law_at", "_law_piece"]) (sc := defScope zcq) (by decide +kernel)) (fun _ _ _ _ _ => (pg_name (i := 7) zbe.nd rfl loB)) (fun _ _ _ _ _ => (zij pts_nil)) (fun _ _ _ _ _ => (zai (pe_call (zcl T) (hr.mono (by decide)) rfl T.zcz T.zcy T.zb6 .nil zax (by exact (zaa (pa_cons (zab (pv 0)) (zaa (pa_cons (zad pe_int) (zac pa_nil))))))))))) (zac pa_nil))))))) (zaa (pa_cons (za9 (pe_tup (zaa (pa_cons (zak pe_str) (zaa (pa_cons (za9 (pe_tup (zaa (pa_cons (zad pe_int) (zaa (pa_cons (zad pe_int) (zac pa_nil))))))) (zac pa_nil))))))) (zac pa_nil)))))))))
    (pss_one (zcf (ps_expr (me_bm zc5 (pe_bm PySem.F.plainAttrs_list PySem.F.slot_list_append PySem.F.type_list_append mt_append (zab (pv 3)) (zaa (pa_cons (zai (pe_call (zjn T) (hr.mono (by decide)) rfl T.zjb T.zja T.zf4 .nil (zar (takes_of rfl rfl rfl rfl)) (by exact (zaa (pa_cons (zab (pv 0)) (zaa (pa_cons (me_op (zcw (b := false)) (pe_op Cs.zcx (zba (b := false) (pe_lst (zaa (pa_cons (za9 (pe_tup (zaa (pa_cons (zak pe_str) (zaa (pa_cons (zai (pe_call (zcl T) (hr.mono (by decide)) rfl T.zcz T.zcy T.zb6 .nil (zar (takes_of rfl rfl rfl rfl)) (by exact (zaa (pa_cons (zab (pv 0)) (zaa (pa_cons (zad pe_int) (zac pa_nil)))))))) (zac pa_nil))))))) (zaa (pa_cons (za9 (pe_tup (zaa (pa_cons (zak pe_str) (zaa (pa_cons (zab (pv 5)) (zac pa_nil))))))) (zac pa_nil))))))) (zab (pv 6)))) (zac pa_nil)))))))) (zac pa_nil))))))))))))
    (zaf (pss_cons (zd6 (ps_for (passes_own rfl) rfl (zhv (pi_range1 rfl T.zfx (zaa (pa_cons (zai (pe_call (zcl T) (hr.mono (by decide)) rfl T.zcz T.zcy T.zb6 .nil (zar (takes_of rfl rfl rfl rfl)) (by exact (zaa (pa_cons (zab (pv 0)) (zaa (pa_cons (zad pe_int) (zac pa_nil)))))))) (zac pa_nil))))) (zbu (pg_name (i := 5) zbe.nd rfl loB)) (pss_one (zcf (ps_expr (me_bm zc5 (pe_bm PySem.F.plainAttrs_list PySem.F.slot_list_append PySem.F.type_list_append mt_append (zab (pv 3)) (zaa (pa_cons (zai (pe_call (zjn T) (hr.mono (by decide)) rfl T.zjb T.zja T.zf4 .nil (zar (takes_of rfl rfl rfl rfl)) (by exact (zaa (pa_cons (zab (pv 0)) (zaa (pa_cons (zba (b := false) (pe_lst (zaa (pa_cons (za9 (pe_tup (zaa (pa_cons (zak pe_str) (zaa (pa_cons (me_op zag (pe_ix ix_seq (zab (pv 4)) (zab (pv 5)) (fun _ _ => rfl))) (zaa (pa_cons (zad pe_int) (zac pa_nil))))))))) (zaa (pa_cons (za9 (pe_tup (zaa (pa_cons (zak pe_str) (zaa (pa_cons (zba (b := true) (pe_lst (zaa (pa_cons (zab (pv 5)) (zac pa_nil))))) (zac pa_nil))))))) (zaa (pa_cons (za9 (pe_tup (zaa (pa_cons (zak pe_str) (zaa (pa_cons (me_op zag (pe_ix ix_seq (zab (pv 4)) (zad pe_int) (fun _ _ => rfl))) (zaa (pa_cons (zad pe_int) (zac pa_nil))))))))) (zac pa_nil))))))))) (zac pa_nil)))))))) (zac pa_nil))))))))))
    (zaf (pss_cons (zd6 (ps_for (passes_own rfl) rfl (zhv (pi_range1 rfl T.zfx (zaa (pa_cons (zai (pe_call (zcl T) (hr.mono (by decide)) rfl T.zcz T.zcy T.zb6 .nil (zar (takes_of rfl rfl rfl rfl)) (by exact (zaa (pa_cons (zab (pv 0)) (zaa (pa_cons (zad pe_int) (zac pa_nil)))))))) (zac pa_nil))))) (zbu (pg_name (i := 5) zbe.nd rfl loB)) (zaf (pss_cons (zca (ps_set (i := 8) zbe.nd rfl loB (me_cb (zaaq (b := true)) (pe_callTy (Cs.zu5 rfl) (by rfl) T.zpw (by decide +kernel) (zaa (pa_cons (me_lc (b := false) (ze8 (by decide)) (pe_lc (own := [("_law_name", 9)]) (g := (gName 9)) (tt := tT T.W E0' mYes) (te := tE T.W E0' (mTup (mCons (mVar 9) (mCons (mCall za3 (mCons (mVar 0) (mCons (mC (.int 9)) mNil))) mNil)))) rfl zbe.nd (zef (Cs.zee (zou (b := false) (pe_slice Cs.sl_D (zab (pv 4)) (zn5 (po_some (me_op (zcw (b := false)) (pe_op Cs.zcx (zab (pv 5)) (zad pe_int))))) (zn5 (po_some (me_op (zcw (b := false)) (pe_op Cs.zcx (me_op (zcw (b := false)) (pe_op Cs.zcx (zab (pv 5)) (zad pe_int))) (zai (pe_call (zcl T) (hr.mono (by decide)) rfl T.zcz T.zcy T.zb6 .nil (zar (takes_of rfl rfl rfl rfl)) (by exact (zaa (pa_cons (zab (pv 0)) (zaa (pa_cons (zad pe_int) (zac pa_nil)))))))))))))))) (blkOk_by (own := [("_law_name", 9)]) (N := ["_law_state", "_law_pool_here", "_law_is_open", "_law_found", "_law_names", "_law_turn", "_law_stars", "_law_k", "_law_table", "_law_name", "_law_at", "_law_piece"]) (sc := defScope zcq) (by decide +kernel)) (fun _ _ _ _ _ => (pg_name (i := 9) zbe.nd rfl loB)) (fun _ _ _ _ _ => (zij pts_nil)) (fun _ _ _ _ _ => (za9 (pe_tup (zaa (pa_cons (zab (pv 9)) (zaa (pa_cons (zai (pe_call (zcl T) (hr.mono (by decide)) rfl T.zcz T.zcy T.zb6 .nil zax (by exact (zaa (pa_cons (zab (pv 0)) (zaa (pa_cons (zad pe_int) (zac pa_nil)))))))) (zac pa_nil)))))))))) (zac pa_nil)))))))
    (pss_one (zcf (ps_expr (me_bm zc5 (pe_bm PySem.F.plainAttrs_list PySem.F.slot_list_append PySem.F.type_list_append mt_append (zab (pv 3)) (zaa (pa_cons (zai (pe_call (zjn T) (hr.mono (by decide)) rfl T.zjb T.zja T.zf4 .nil (zar (takes_of rfl rfl rfl rfl)) (by exact (zaa (pa_cons (zab (pv 0)) (zaa (pa_cons (zba (b := false) (pe_lst (zaa (pa_cons (za9 (pe_tup (zaa (pa_cons (zak pe_str) (zaa (pa_cons (zab (pv 8)) (zac pa_nil))))))) (zaa (pa_cons (za9 (pe_tup (zaa (pa_cons (zak pe_str) (zaa (pa_cons (zn7 (b := true) pe_dnewK) (zac pa_nil))))))) (zaa (pa_cons (za9 (pe_tup (zaa (pa_cons (zak pe_str) (zaa (pa_cons (me_op zag (pe_ix ix_seq (zab (pv 4)) (me_op (zcw (b := false)) (pe_op Cs.zcx (zab (pv 5)) (zad pe_int))) (fun _ _ => rfl))) (zaa (pa_cons (zad pe_int) (zac pa_nil))))))))) (zac pa_nil))))))))) (zac pa_nil)))))))) (zac pa_nil))))))))))))
    (zaf (pss_cons (zd6 (ps_for (passes_own rfl) rfl (zhv (pi_range1 rfl T.zfx (zaa (pa_cons (me_if (pe_ifExp (zcm (pt_val (zab (pv 2)))) (zai (pe_call (zcl T) (hr.mono (by decide)) rfl T.zcz T.zcy T.zb6 .nil (zar (takes_of rfl rfl rfl rfl)) (by exact (zaa (pa_cons (zab (pv 0)) (zaa (pa_cons (zad pe_int) (zac pa_nil)))))))) (zad pe_int))) (zac pa_nil))))) (zbu (pg_name (i := 5) zbe.nd rfl loB)) (zaf (pss_cons (zca (ps_set (i := 10) zbe.nd rfl loB (zai (pe_call (zcl T) (hr.mono (by decide)) rfl T.zcz T.zcy T.zb6 .nil (zar (takes_of rfl rfl rfl rfl)) (by exact (zaa (pa_cons (zab (pv 0)) (zaa (pa_cons (me_op (zcw (b := false)) (pe_op Cs.zcx (me_cb zdk (pe_callB zb5 (by rfl) T.n_len (by decide +kernel) (zaa (pa_cons (zab (pv 3)) (zac pa_nil))))) (zad pe_int))) (zac pa_nil))))))))))
    (zaf (pss_cons (zabz (b := false) (zab6 (by decide) (by decide)) (ps_setLc (i := 6) (own := [("_law_k", 7), ("_law_piece", 11)]) (g := (gTup K 2 (gCons (gName 7) (gCons (gName 11) gNil)))) (tt := tT T.W E0' (mB (mOp (fEq false) (mOp fIx (mVar 11) (mC (.int 0))) (mC (.str "double"))))) (te := tE T.W E0' (mVar 7)) rfl zbe.nd rfl rfl (sw_true rfl rfl rfl (by decide +kernel)) (zq5 (Cs.zos (by rfl) T.zh5 (zaa (pa_cons (zab (pv 3)) (zac pa_nil))))) (blkOk_by (own := [("_law_k", 7), ("_law_piece", 11)]) (N := ["_law_state", "_law_pool_here", "_law_is_open", "_law_found", "_law_names", "_law_turn", "_law_stars", "_law_k", "_law_table", "_law_name", "_law_at", "_law_piece"]) (sc := defScope zcq) (by decide +kernel)) (fun _ _ _ _ _ => (pg_tup rfl (pgs_cons (pg_name (i := 7) zbe.nd rfl loB) (pgs_cons (pg_name (i := 11) zbe.nd rfl loB) pgs_nil)))) (fun _ _ _ _ _ => ((pts_one (zap za6 (pt_cmpR (za7 hr.units) (me_op zag (pe_ix ix_seq (zab (pv 11)) (zad pe_int) (fun _ _ => rfl))) (zak pe_str) (nomark _)))))) (fun _ _ _ _ _ => (zab (pv 7)))))
    (pss_one (ms_if (ps_if (PW.pt (zdo (pw_and (zap za6 (pt_cmpR (za7 hr.units) (zai (pe_call (zcl T) (hr.mono (by decide)) rfl T.zcz T.zcy T.zb6 .nil (zar (takes_of rfl rfl rfl rfl)) (by exact (zaa (pa_cons (zab (pv 0)) (zaa (pa_cons (zad pe_int) (zac pa_nil)))))))) (zad pe_int) (nomark _))) (pw_and1 (PW.pt (mw_or (pw_or (zap za6 (pt_cmpR (za7 hr.units) (zab (pv 6)) (zba (b := false) (pe_lst (zac pa_nil))) (nomark _))) (pw_or1 (zap zpp (pt_cmpR op_le (zab (pv 10)) (me_op zag (pe_ix ix_seq (zab (pv 6)) (zad pe_int) (fun _ _ => rfl))) (nomark _))))))))))) (pss_one (zcf (ps_expr (me_bm zxr (pe_bm PySem.F.plainAttrs_list PySem.F.slot_list_insert PySem.F.type_list_insert zxt (zab (pv 3)) (zaa (pa_cons (zab (pv 10)) (zaa (pa_cons (za9 (pe_tup (zaa (pa_cons (zak pe_str) (zac pa_nil))))) (zac pa_nil)))))))))) (pss_one (zcf (ps_expr (me_bm zc5 (pe_bm PySem.F.plainAttrs_list PySem.F.slot_list_append PySem.F.type_list_append mt_append (zab (pv 3)) (zaa (pa_cons (za9 (pe_tup (zaa (pa_cons (zak pe_str) (zac pa_nil))))) (zac pa_nil)))))))))))))))))
    (pss_one (zik (i := 3) (zas (ps_ret (zab (pv 3)))))))))))))))), pureM (N := ["_law_state", "_law_pool_here", "_law_is_open", "_law_found", "_law_names", "_law_turn", "_law_stars", "_law_k", "_law_table", "_law_name", "_law_at", "_law_piece"]) h⟩
theorem zss : FnScope ["_law_state", "_law_words"] ["_law_state"] (defScope zfu) := ⟨rfl, rfl, rfl, by decide +kernel, rfl, by decide +kernel, by decide +kernel⟩
theorem zabu (T : Tx K mg w base) : FnOk P w K mg base (L2.CX P w) 3 T.zls T.zmd ["_law_state"] (spM T.W zq8) :=
  zbs T.zxc zss (fun vs H Q E h => by exact zbb (P := 1) h) fun cdv A out s H vs Q E hr h => ⟨tS T.W E zjf, (zaf (pss_cons (zca (ps_set (i := 1) zss.nd rfl loB (zba (b := false) (pe_lst (zaa (pa_cons (zak pe_str) (zaa (pa_cons (zak pe_str) (zaa (pa_cons (zak pe_str) (zaa (pa_cons (zak pe_str) (zaa (pa_cons (zak pe_str) (zaa (pa_cons (zak pe_str) (zaa (pa_cons (zak pe_str) (zaa (pa_cons (zak pe_str) (zaa (pa_cons (zak pe_str) (zaa (pa_cons (zak pe_str) (zaa (pa_cons (zak pe_str) (zaa (pa_cons (zak pe_str) (zaa (pa_cons (zak pe_str) (zaa (pa_cons (zak pe_str) (zac pa_nil)))))))))))))))))))))))))))))))))
    (pss_one (zas (ps_ret (zou (b := false) (pe_slice Cs.sl_D (zai (pe_call (znb T) (hr.mono (by decide)) rfl T.zkt T.zkr T.zfg .nil (zar (takes_of rfl rfl rfl rfl)) (by exact (zaa (pa_cons (zab (pv 0)) (zaa (pa_cons (zab (pv 1)) (zac pa_nil)))))))) (zv1 po_none) (zn5 (po_some (zad pe_int)))))))))), pureM (N := ["_law_state", "_law_words"]) h⟩
theorem zsg : FnScope ["self"] ["self"] (defScope zck) := ⟨rfl, rfl, rfl, by decide +kernel, rfl, by decide +kernel, by decide +kernel⟩
theorem zsh (T : Tx K mg w base) : FnOk P w K mg base (L2.CX P w) 1 T.zhp T.zgm ["self"] (spM T.W zdb) :=
  zbs T.znz zsg (fun vs H Q E h => by exact zbb (P := 1) h) fun cdv A out s H vs Q E hr h => ⟨tS T.W E zdg, (pss_one (zas (ps_ret (za9 (pe_tup (zaa (pa_cons (me_cb zdk (pe_callB zb5 (by rfl) T.n_len (by decide +kernel) (zaa (pa_cons (zla (all1 (zej T)) (pe_fld (zab (pv 0)) rfl)) (zac pa_nil))))) (zaa (pa_cons (me_cb znv (pe_callTy (znw rfl) (by rfl) T.zhu (by decide +kernel) (zaa (pa_cons (zla (all1 (zdd T)) (pe_fld (zab (pv 0)) rfl)) (zac pa_nil))))) (zac pa_nil)))))))))), pureM (N := ["self"]) h⟩
theorem zor : FnScope ["_law_things", "_law_some", "_law_table", "_law_thing"] ["_law_things"] (defScope zft) := ⟨rfl, rfl, rfl, by decide +kernel, rfl, by decide +kernel, by decide +kernel⟩
theorem zabt (T : Tx K mg w base) : FnOk P w K mg base (L2.CX P w) 1 T.zlr T.zmc ["_law_things"] (spM T.W zq7) :=
  zbs T.zxb zor (fun vs H Q E h => by exact zbb (P := 1) h) fun cdv A out s H vs Q E hr h => ⟨tS T.W E zje, (zaf (pss_cons (zk6 (ps_par (by rfl) zor.nd rfl rfl (by decide) rfl rfl (zaa (pa_cons (zba (b := true) (pe_lst (zac pa_nil))) (zaa (pa_cons (zn7 (b := true) pe_dnewK) (zac pa_nil))))) (by rfl)))
    (zaf (pss_cons (zd6 (ps_for (passes_own rfl) rfl (zef (Cs.zee (zab (pv 0)))) (zbu (pg_name (i := 3) zor.nd rfl loB)) (zaf (pss_cons (ms_if (ps_if (zap za6 (pt_cmpR (za7 hr.units) (me_op zag (pe_ix ix_seq (zab (pv 3)) (zad pe_int) (fun _ _ => rfl))) (zak pe_str) (nomark _))) (pss_one (zcf (ps_expr (me_bm zc5 (pe_bm PySem.F.plainAttrs_list PySem.F.slot_list_append PySem.F.type_list_append mt_append (zab (pv 1)) (zaa (pa_cons (me_op zag (pe_ix ix_seq (zab (pv 3)) (zad pe_int) (fun _ _ => rfl))) (zac pa_nil)))))))) (za0 pss_nil)))
    (zaf (pss_cons (ms_if (ps_if (zap za6 (pt_cmpR (za7 hr.units) (me_op zag (pe_ix ix_seq (zab (pv 3)) (zad pe_int) (fun _ _ => rfl))) (zak pe_str) (nomark _))) (pss_one (zcf (ps_expr (me_bm zpx (pe_bm PySem.F.plainAttrs_list PySem.F.slot_list_extend PySem.F.type_list_extend zvz (zab (pv 1)) (zaa (pa_cons (me_op zag (pe_ix ix_seq (zab (pv 3)) (zad pe_int) (fun _ _ => rfl))) (zac pa_nil)))))))) (za0 pss_nil)))
    (zaf (pss_cons (ms_if (ps_if (zap za6 (pt_cmpR (za7 hr.units) (me_op zag (pe_ix ix_seq (zab (pv 3)) (zad pe_int) (fun _ _ => rfl))) (zak pe_str) (nomark _))) (pss_one (zk7 (ps_asg (me_op zag (pe_ix ix_seq (zab (pv 3)) (zad pe_int) (fun _ _ => rfl))) (zv4 (pg_sub (zab (pv 2)) (me_op zag (pe_ix ix_seq (zab (pv 3)) (zad pe_int) (fun _ _ => rfl))) (set_dict (hu_of hr))))))) (za0 pss_nil)))
    (pss_one (ms_if (ps_if (zap za6 (pt_cmpR (za7 hr.units) (me_op zag (pe_ix ix_seq (zab (pv 3)) (zad pe_int) (fun _ _ => rfl))) (zak pe_str) (nomark _))) (pss_one (zcf (ps_expr (me_bm zvy (pe_bm PySem.F.plainAttrs_dict PySem.F.slot_dict_update PySem.F.type_dict_update zv0 (zab (pv 2)) (zaa (pa_cons (me_op zag (pe_ix ix_seq (zab (pv 3)) (zad pe_int) (fun _ _ => rfl))) (zac pa_nil)))))))) (za0 pss_nil))))))))))))
    (pss_one (zik (i := 2) (zik (i := 1) (zas (ps_ret (za9 (pe_tup (zaa (pa_cons (zab (pv 1)) (zaa (pa_cons (zab (pv 2)) (zac pa_nil)))))))))))))))), pureM (N := ["_law_things", "_law_some", "_law_table", "_law_thing"]) h⟩
theorem zhs : FnScope ["_law_work", "_law_found", "_law_caught", "error"] ["_law_work"] (defScope zfs) := ⟨rfl, rfl, rfl, by decide +kernel, rfl, by decide +kernel, by decide +kernel⟩
theorem zz1 {X : Cx} (T : Tx X.K X.mg X.w X.base) {params : Arguments} {body : Expr} {scope : Scope} {p lpos pos : Pos} {k : Nat} {c Pt : Addr} {t : XK → TE} (gl : Gl X "_law_told") (TB : LamX.TabB X.base X.mg c Pt) (code : X.env.code = .ref c) (mem : (Pt, X.env.qual ++ "<lambda>") ∈ T.W.tabs) (uniq : ∀ p ∈ T.W.tabs, p.1 = Pt → p.2 = X.env.qual ++ "<lambda>")
    (room : Room (k + 2) X.A) (L : LamX.LamS X.env.scope scope) (nodef : defaultsOf params X.env = ([], [])) (nopar : ∀ (q : Str) (cl : List (Str × Addr)) (pm cv ctv : Value), bindArgs (W.kla_fn "<lambda>" q params body scope cl pm cv ctv) ⟨[], []⟩ = pure [])
    (inner : ∀ (A : Around) (out : List PySem.Env) (s : Shared) (H : Hp) (E : XK) (f c' : Addr), Room k (A.deeper (LamX.lamEnv X scope s.heap.objs.size f c')) → PE (LamX.lamCx X A out s H E scope f c') body (t E)) :
    PE X (.Call (.Name "_law_told" p) [.Lambda params body scope lpos] [] pos) (tLamX T.W.tabs Pt (TTm T.W zn8) t) := by
  obtain ⟨oc, od, kV, doc, pm, an, cdv, ct, osl, e, lk, hcd⟩ := T.zxa.ex
  have bd := T.zh0
  rw [e] at lk bd
  refine zac1 gl T.zwm T.zwb lk hcd bd zhs rfl (Or.inl rfl) (zxx (Ng := ["_law_work", "_law_found", "_law_caught", "error"]) (T := "CallError") (t := T.zbn) (i1 := 1) (i2 := 2) (ie := 3) (j := 1) (k := 2) (mr := zh0) (W := T.W) rfl (by decide) (by decide) (by decide) (by decide) (by decide) T.zmu ?_ ?_ ?_) TB code mem uniq room L nodef nopar inner (by decide) (by decide) (by decide)
  · exact fun s H => ps_asg (pe_tup (pa_cons pe_non (pa_cons pe_non pa_nil))) (pg_tup rfl (pgs_cons (pg_name (i := 1) zhs.nd rfl loB) (pgs_cons (pg_name (i := 2) zhs.nd rfl loB) pgs_nil)))
  · exact fun f c' s H tl act => Cs.zuy (tb := fun WX => tAsg (tGot f c' _ tl (WE WX)) (gName 1)) rfl rfl zhs.nd rfl rfl (by exact ⟨rfl, by decide, .inl T.zh9⟩) LamX.takes0 (fun WX pn xe tk po => pss_one (ps_set (i := 1) zhs.nd rfl loB (act WX pn xe _ _ tk))) (fun a oe cls d pn hz hv => pss_one (ps_set (i := 2) zhs.nd rfl loB (pv 3)))
  · exact fun s H => (zaf (pss_cons (ms_if (ps_if (zap zvr (pt_cmpR op_isN (zab (pv 2)) (zk9 pe_non) (nomark _))) (pss_one (zas (ps_ret (zab (pv 1))))) (za0 pss_nil)))
    (pss_one (zas (ps_ret (me_if (pe_ifExp (PW.pt (zdo (pw_and (zcm (pt_val (me_is (cl := (.cls "Repeated")) (u := (.ref T.zbi)) (T.isf _) ⟨by decide, T.zbi, zku T, rfl⟩ (pe_callB zer (by rfl) T.za8 (by decide +kernel) (pa_cons (zab (pv 2)) (pa_cons (pe_glob rfl T.zma rfl) pa_nil)))))) (pw_and1 (zga (pt_not (zcm (pt_val (me_is (cl := (.cls "BadPiece")) (u := (.ref T.zbj)) (T.isf _) ⟨by decide, T.zbj, zkv T, rfl⟩ (pe_callB zer (by rfl) T.za8 (by decide +kernel) (pa_cons (zab (pv 2)) (pa_cons (pe_glob rfl T.zi0 rfl) pa_nil)))))))))))) (me_op (zcw (b := false)) (pe_op Cs.zcx (zak pe_str) (zadg (all1 (zo4 T)) (zac2 (zab (pv 2)))))) (zak pe_str))))))))
theorem zgu : FnScope ["_law_things", "_law_seen", "_law_thing", "_law_names", "_law_name"] ["_law_things"] (defScope ze5) := ⟨rfl, rfl, rfl, by decide +kernel, rfl, by decide +kernel, by decide +kernel⟩
theorem zyy (T : Tx K mg w base) : FnOk P w K mg base (L2.CX P w) 1 T.zj0 T.zkc ["_law_things"] (spM T.W zgq) :=
  zbs T.zus zgu (fun vs H Q E h => by exact zbb (P := 1) h) fun cdv A out s H vs Q E hr h => ⟨tS T.W E zfo, (zaf (pss_cons (zca (ps_set (i := 1) zgu.nd rfl loB (zba (b := true) (pe_lst (zac pa_nil)))))
    (zaf (pss_cons (zd6 (ps_for (passes_own rfl) rfl (zef (Cs.zee (zab (pv 0)))) (zbu (pg_name (i := 2) zgu.nd rfl loB)) (zaf (pss_cons (zca (ps_set (i := 3) zgu.nd rfl loB (me_if (pe_ifExp (zap za6 (pt_cmpR (za7 hr.units) (me_op zag (pe_ix ix_seq (zab (pv 2)) (zad pe_int) (fun _ _ => rfl))) (zak pe_str) (nomark _))) (zba (b := false) (pe_lst (zaa (pa_cons (me_op zag (pe_ix ix_seq (zab (pv 2)) (zad pe_int) (fun _ _ => rfl))) (zac pa_nil))))) (zba (b := false) (pe_lst (zac pa_nil)))))))
    (zaf (pss_cons (ms_if (ps_if (PW.pt (zdo (pw_and (zap za6 (pt_cmpR (za7 hr.units) (me_op zag (pe_ix ix_seq (zab (pv 2)) (zad pe_int) (fun _ _ => rfl))) (zak pe_str) (nomark _))) (pw_and1 (zap za6 (pt_cmpR (za7 hr.units) (me_cb zdk (pe_callB zb5 (by rfl) T.n_len (by decide +kernel) (zaa (pa_cons (zab (pv 2)) (zac pa_nil))))) (zad pe_int) (nomark _))))))) (pss_one (zca (ps_set (i := 3) zgu.nd rfl loB (me_cb (zqj (b := false)) (pe_callB (zqk rfl) (by rfl) T.zot (by decide +kernel) (zaa (pa_cons (me_cb (zml (b := false)) (pe_callTy (zie rfl) (by rfl) T.zf9 (by decide +kernel) (zaa (pa_cons (me_op zag (pe_ix ix_seq (zab (pv 2)) (zad pe_int) (fun _ _ => rfl))) (zac pa_nil))))) (zac pa_nil)))))))) (za0 pss_nil)))
    (pss_one (zd6 (ps_for (passes_own rfl) rfl (zef (Cs.zee (zab (pv 3)))) (zbu (pg_name (i := 4) zgu.nd rfl loB)) (zaf (pss_cons (ms_if (ps_if (zap zpq (pt_cmpR Cs.op_inD (zab (pv 4)) (zab (pv 1)) (by first | exact nomark _ | rfl))) (pss_one (zas (ps_ret (zab (pv 4))))) (za0 pss_nil)))
    (pss_one (zcf (ps_expr (me_bm zc5 (pe_bm PySem.F.plainAttrs_list PySem.F.slot_list_append PySem.F.type_list_append mt_append (zab (pv 1)) (zaa (pa_cons (zab (pv 4)) (zac pa_nil)))))))))))))))))))
    (pss_one (zas (ps_ret (zk9 pe_non)))))))), pureM (N := ["_law_things", "_law_seen", "_law_thing", "_law_names", "_law_name"]) h⟩
theorem zm1 : FnScope ["self", "name"] ["self", "name"] (defScope zbf) := ⟨rfl, rfl, rfl, by decide +kernel, rfl, by decide +kernel, by decide +kernel⟩
theorem zna (T : Tx K mg w base) : FnOk P w K mg base (L2.CX P w) 1 T.zdq T.zek ["self", "name"] (spXI K "name") :=
  zbs T.ziv zm1 (fun vs H Q E h => by exact zsr h) fun cdv A out s H vs Q E hr h => ⟨_, pss_cons (ps_expr (zpm rfl T.zh9 T.zjy T.bi (pa_cons (pv 0) (pa_cons pe_str pa_nil)))) (pss_one (ps_ost (pv 0) (pv 1))), zyr h⟩
theorem zuw : FnScope ["piece"] ["piece"] (defScope zdt) := ⟨rfl, rfl, rfl, by decide +kernel, rfl, by decide +kernel, by decide +kernel⟩
theorem zu0 (T : Tx K mg w base) : FnOk P w K mg base (L2.CX P w) 1 T.zhl T.zib ["piece"] (spM T.W zdv) :=
  zbs T.zqq zuw (fun vs H Q E h => by exact zbb (P := 1) h) fun cdv A out s H vs Q E hr h => ⟨tS T.W E zco, (zaf (pss_cons (ms_if (ps_if (zap za6 (pt_cmpR (za7 hr.units) (me_op zag (pe_ix ix_seq (zab (pv 0)) (zad pe_int) (fun _ _ => rfl))) (zak pe_str) (nomark _))) (pss_one (zas (ps_ret (zba (b := false) (pe_lst (zaa (pa_cons (me_op zag (pe_ix ix_seq (zab (pv 0)) (zad pe_int) (fun _ _ => rfl))) (zac pa_nil)))))))) (za0 pss_nil)))
    (pss_one (zas (ps_ret (me_if (pe_ifExp (PW.pt (zdo (pw_and (zap za6 (pt_cmpR (za7 hr.units) (me_op zag (pe_ix ix_seq (zab (pv 0)) (zad pe_int) (fun _ _ => rfl))) (zak pe_str) (nomark _))) (pw_and1 (zap za6 (pt_cmpR (za7 hr.units) (me_cb zdk (pe_callB zb5 (by rfl) T.n_len (by decide +kernel) (zaa (pa_cons (zab (pv 0)) (zac pa_nil))))) (zad pe_int) (nomark _))))))) (me_cb (zml (b := false)) (pe_callTy (zie rfl) (by rfl) T.zf9 (by decide +kernel) (zaa (pa_cons (me_op zag (pe_ix ix_seq (zab (pv 0)) (zad pe_int) (fun _ _ => rfl))) (zac pa_nil))))) (zba (b := false) (pe_lst (zac pa_nil)))))))))), pureM (N := ["piece"]) h⟩
theorem zfr : FnScope ["pieces", "found", "piece", "name"] ["pieces"] (defScope zcb) := ⟨rfl, rfl, rfl, by decide +kernel, rfl, by decide +kernel, by decide +kernel⟩
theorem zq2 (T : Tx K mg w base) : FnOk P w K mg base (L2.CX P w) 3 T.zfd T.zf1 ["pieces"] (spM T.W zd8) :=
  zbs T.zms zfr (fun vs H Q E h => by exact zbb (P := 1) h) fun cdv A out s H vs Q E hr h => ⟨tS T.W E zcs, (zaf (pss_cons (zca (ps_set (i := 1) zfr.nd rfl loB (zba (b := true) (pe_lst (zac pa_nil)))))
    (zaf (pss_cons (zd6 (ps_for (passes_own rfl) rfl (zef (Cs.zee (zab (pv 0)))) (zbu (pg_name (i := 2) zfr.nd rfl loB)) (pss_one (zd6 (ps_for (passes_own rfl) rfl (zef (Cs.zee (zai (pe_call (zu0 T) (hr.mono (by decide)) rfl T.zp9 T.zp6 T.zco .nil (zar (takes_of rfl rfl rfl rfl)) (by exact (zaa (pa_cons (zab (pv 2)) (zac pa_nil)))))))) (zbu (pg_name (i := 3) zfr.nd rfl loB)) (zaf (pss_cons (ms_if (ps_if (zap zpq (pt_cmpR Cs.op_inD (zab (pv 3)) (zab (pv 1)) (by first | exact nomark _ | rfl))) (pss_one (zne (zku T) T.zkp T.zgp (ps_raise rfl (takes_of rfl rfl rfl rfl) (pmk_oex T.zkp T.zoi T.zoe (zna T) (hr.mono (by decide)) T.ziu .nil zax rfl T.zma (zaa (pa_cons (zab (pv 3)) (zac pa_nil))))))) (za0 pss_nil)))
    (pss_one (zcf (ps_expr (me_bm zc5 (pe_bm PySem.F.plainAttrs_list PySem.F.slot_list_append PySem.F.type_list_append mt_append (zab (pv 1)) (zaa (pa_cons (zab (pv 3)) (zac pa_nil)))))))))))))))
    (pss_one (zik (i := 1) (zas (ps_ret (zab (pv 1)))))))))), pureM (N := ["pieces", "found", "piece", "name"]) h⟩
theorem zg1 : FnScope ["pieces", "found", "piece"] ["pieces"] (defScope zb2) := ⟨rfl, rfl, rfl, by decide +kernel, rfl, by decide +kernel, by decide +kernel⟩
theorem zpr (T : Tx K mg w base) : FnOk P w K mg base (L2.CX P w) 1 T.ze1 T.zfh ["pieces"] (spM T.W zd3) :=
  zbs T.zlx zg1 (fun vs H Q E h => by exact zbb (P := 1) h) fun cdv A out s H vs Q E hr h => ⟨tS T.W E zcg, (zaf (pss_cons (zca (ps_set (i := 1) zg1.nd rfl loB (zba (b := true) (pe_lst (zac pa_nil)))))
    (zaf (pss_cons (zd6 (ps_for (passes_own rfl) rfl (zef (Cs.zee (zab (pv 0)))) (zbu (pg_name (i := 2) zg1.nd rfl loB)) (pss_one (ms_if (ps_if (zap za6 (pt_cmpR (za7 hr.units) (me_op zag (pe_ix ix_seq (zab (pv 2)) (zad pe_int) (fun _ _ => rfl))) (zak pe_str) (nomark _))) (pss_one (zcf (ps_expr (me_bm zc5 (pe_bm PySem.F.plainAttrs_list PySem.F.slot_list_append PySem.F.type_list_append mt_append (zab (pv 1)) (zaa (pa_cons (me_op zag (pe_ix ix_seq (zab (pv 2)) (zad pe_int) (fun _ _ => rfl))) (zac pa_nil)))))))) (pss_one (ms_if (ps_if (PW.pt (zdo (pw_and (zap za6 (pt_cmpR (za7 hr.units) (me_op zag (pe_ix ix_seq (zab (pv 2)) (zad pe_int) (fun _ _ => rfl))) (zak pe_str) (nomark _))) (pw_and1 (zap za6 (pt_cmpR (za7 hr.units) (me_cb zdk (pe_callB zb5 (by rfl) T.n_len (by decide +kernel) (zaa (pa_cons (zab (pv 2)) (zac pa_nil))))) (zad pe_int) (nomark _))))))) (pss_one (zcf (ps_expr (me_bm zpx (pe_bm PySem.F.plainAttrs_list PySem.F.slot_list_extend PySem.F.type_list_extend zvz (zab (pv 1)) (zaa (pa_cons (me_op zag (pe_ix ix_seq (zab (pv 2)) (zad pe_int) (fun _ _ => rfl))) (zac pa_nil)))))))) (za0 pss_nil)))))))))
    (pss_one (zik (i := 1) (zas (ps_ret (zab (pv 1)))))))))), pureM (N := ["pieces", "found", "piece"]) h⟩
theorem zm3 : FnScope ["self", "index"] ["self", "index"] (defScope zbg) := ⟨rfl, rfl, rfl, by decide +kernel, rfl, by decide +kernel, by decide +kernel⟩
theorem zig (T : Tx K mg w base) : FnOk P w K mg base (L2.CX P w) 1 T.zdr T.zel ["self", "index"] (spXI K "index") :=
  zbs T.ziw zm3 (fun vs H Q E h => by exact zsr h) fun cdv A out s H vs Q E hr h => ⟨_, pss_cons (ps_expr (zpm rfl T.zh9 T.zjy T.bi (pa_cons (pv 0) (pa_cons pe_str pa_nil)))) (pss_one (ps_ost (pv 0) (pv 1))), zyr h⟩
theorem zkm : FnScope ["value", "is_site", "word", "more"] ["value", "is_site"] (defScope zds) := ⟨rfl, rfl, rfl, by decide +kernel, rfl, by decide +kernel, by decide +kernel⟩
theorem zuz (T : Tx K mg w base) : FnOk P w K mg base (L2.CX P w) 3 T.zhk T.zia ["value", "is_site"] (spM T.W za4) :=
  zbs T.zqp zkm (fun vs H Q E h => by exact zbb (P := 2) h) fun cdv A out s H vs Q E hr h => ⟨tS T.W E zb3, (zaf (pss_cons (ms_if (ps_if (PW.pt (mw_or (pw_or (zga (pt_not (zcm (pt_val (zpz (cls := [(.ty "list"), (.ty "tuple")]) (us := [(.ty "list"), (.ty "tuple")]) (T.isf _) ⟨⟨by decide, rfl⟩, ⟨⟨by decide, rfl⟩, trivial⟩⟩ (by show 2 ≤ sizeLine; decide) (pe_callB zki (by rfl) T.za8 (by decide +kernel) (pa_cons (zab (pv 0)) (pa_cons (pe_tup (pa_cons (pe_bltn (v := .ty "list") (by rfl) T.zf9 (by decide +kernel) rfl) (pa_cons (pe_bltn (v := .ty "tuple") (by rfl) T.zhu (by decide +kernel) rfl) pa_nil))) pa_nil)))))))) (mw_or (pw_or (zap za6 (pt_cmpR (za7 hr.units) (me_cb zdk (pe_callB zb5 (by rfl) T.n_len (by decide +kernel) (zaa (pa_cons (zab (pv 0)) (zac pa_nil))))) (zad pe_int) (nomark _))) (pw_or1 (zga (pt_not (zcm (pt_val (me_is (cl := (.ty "str")) (u := (.ty "str")) (T.isf _) ⟨by decide, rfl⟩ (pe_callB zer (by rfl) T.za8 (by decide +kernel) (pa_cons (me_op zag (pe_ix ix_seq (zab (pv 0)) (zad pe_int) (fun _ _ => rfl))) (pa_cons (pe_bltn (v := .ty "str") (by rfl) T.n_str (by decide +kernel) rfl) pa_nil)))))))))))))) (pss_one (zas (ps_ret (zk9 pe_non)))) (za0 pss_nil)))
    (zaf (pss_cons (zk7 (ps_asg (zab (pv 0)) (zadd (zac0 rfl (zfj (pgs_cons (zbu (pg_name (i := 2) zkm.nd rfl loB)) (zfj (zyt (zbu (pg_name (i := 3) zkm.nd rfl loB)) (zn6 pgs_nil)))))))))
    (zaf (pss_cons (ms_if (ps_if (PW.pt (zdo (pw_and (zap zpq (pt_cmpR Cs.op_inD (zab (pv 2)) (za9 (pe_tup (zaa (pa_cons (zak pe_str) (zaa (pa_cons (zak pe_str) (zac pa_nil))))))) (by first | exact nomark _ | rfl))) (zdo (pw_and (zap za6 (pt_cmpR (za7 hr.units) (zab (pv 3)) (zba (b := false) (pe_lst (zac pa_nil))) (nomark _))) (pw_and1 (zcm (pt_val (zab (pv 1)))))))))) (pss_one (zas (ps_ret (za9 (pe_tup (zaa (pa_cons (zab (pv 2)) (zac pa_nil)))))))) (za0 pss_nil)))
    (zaf (pss_cons (ms_if (ps_if (PW.pt (zdo (pw_and (zap za6 (pt_cmpR (za7 hr.units) (zab (pv 2)) (zak pe_str) (nomark _))) (zdo (pw_and (zap za6 (pt_cmpR (za7 hr.units) (me_cb zdk (pe_callB zb5 (by rfl) T.n_len (by decide +kernel) (zaa (pa_cons (zab (pv 3)) (zac pa_nil))))) (zad pe_int) (nomark _))) (pw_and1 (zcm (pt_val (zai (pe_call (zh4 T) (hr.mono (by decide)) rfl T.zhb T.zg8 T.zb4 .nil (zar (takes_of rfl rfl rfl rfl)) (by exact (zaa (pa_cons (me_op zag (pe_ix ix_seq (zab (pv 3)) (zad pe_int) (fun _ _ => rfl))) (zac pa_nil)))))))))))))) (pss_one (zas (ps_ret (za9 (pe_tup (zaa (pa_cons (zab (pv 2)) (zaa (pa_cons (me_op zag (pe_ix ix_seq (zab (pv 3)) (zad pe_int) (fun _ _ => rfl))) (zac pa_nil)))))))))) (za0 pss_nil)))
    (zaf (pss_cons (ms_if (ps_if (PW.pt (zdo (pw_and (zap za6 (pt_cmpR (za7 hr.units) (zab (pv 2)) (zak pe_str) (nomark _))) (zdo (pw_and (zap za6 (pt_cmpR (za7 hr.units) (me_cb zdk (pe_callB zb5 (by rfl) T.n_len (by decide +kernel) (zaa (pa_cons (zab (pv 3)) (zac pa_nil))))) (zad pe_int) (nomark _))) (pw_and1 (zcm (pt_val (zai (pe_call (zit T) (hr.mono (by decide)) rfl T.zhc T.zg9 T.zbm .nil (zar (takes_of rfl rfl rfl rfl)) (by exact (zaa (pa_cons (me_op zag (pe_ix ix_seq (zab (pv 3)) (zad pe_int) (fun _ _ => rfl))) (zac pa_nil)))))))))))))) (pss_one (zas (ps_ret (za9 (pe_tup (zaa (pa_cons (zab (pv 2)) (zaa (pa_cons (me_cb znv (pe_callTy (znw rfl) (by rfl) T.zhu (by decide +kernel) (zaa (pa_cons (me_op zag (pe_ix ix_seq (zab (pv 3)) (zad pe_int) (fun _ _ => rfl))) (zac pa_nil))))) (zac pa_nil)))))))))) (za0 pss_nil)))
    (zaf (pss_cons (ms_if (ps_if (PW.pt (zdo (pw_and (zap za6 (pt_cmpR (za7 hr.units) (zab (pv 2)) (zak pe_str) (nomark _))) (zdo (pw_and (zap za6 (pt_cmpR (za7 hr.units) (me_cb zdk (pe_callB zb5 (by rfl) T.n_len (by decide +kernel) (zaa (pa_cons (zab (pv 3)) (zac pa_nil))))) (zad pe_int) (nomark _))) (zdo (pw_and (zcm (pt_val (zai (pe_call (zps T) (hr.mono (by decide)) rfl T.znn T.znk T.zdf .nil (zar (takes_of rfl rfl rfl rfl)) (by exact (zaa (pa_cons (me_op zag (pe_ix ix_seq (zab (pv 3)) (zad pe_int) (fun _ _ => rfl))) (zac pa_nil)))))))) (pw_and1 (zcm (pt_val (zai (pe_call (zh4 T) (hr.mono (by decide)) rfl T.zhb T.zg8 T.zb4 .nil (zar (takes_of rfl rfl rfl rfl)) (by exact (zaa (pa_cons (me_op zag (pe_ix ix_seq (zab (pv 3)) (zad pe_int) (fun _ _ => rfl))) (zac pa_nil)))))))))))))))) (pss_one (zas (ps_ret (za9 (pe_tup (zaa (pa_cons (zab (pv 2)) (zaa (pa_cons (me_op zag (pe_ix ix_seq (zab (pv 3)) (zad pe_int) (fun _ _ => rfl))) (zaa (pa_cons (me_op zag (pe_ix ix_seq (zab (pv 3)) (zad pe_int) (fun _ _ => rfl))) (zac pa_nil)))))))))))) (za0 pss_nil)))
    (zaf (pss_cons (ms_if (ps_if (PW.pt (zdo (pw_and (zap za6 (pt_cmpR (za7 hr.units) (zab (pv 2)) (zak pe_str) (nomark _))) (zdo (pw_and (zap za6 (pt_cmpR (za7 hr.units) (me_cb zdk (pe_callB zb5 (by rfl) T.n_len (by decide +kernel) (zaa (pa_cons (zab (pv 3)) (zac pa_nil))))) (zad pe_int) (nomark _))) (pw_and1 (zcm (pt_val (zai (pe_call (zkq T) (hr.mono (by decide)) rfl T.ziz T.ziy T.zbw .nil (zar (takes_of rfl rfl rfl rfl)) (by exact (zaa (pa_cons (me_op zag (pe_ix ix_seq (zab (pv 3)) (zad pe_int) (fun _ _ => rfl))) (zac pa_nil)))))))))))))) (pss_one (zas (ps_ret (za9 (pe_tup (zaa (pa_cons (zab (pv 2)) (zaa (pa_cons (zai (pe_call (zjm T) (hr.mono (by decide)) rfl T.zh8 T.zh6 T.zb0 .nil (zar (takes_of rfl rfl rfl rfl)) (by exact (zaa (pa_cons (me_op zag (pe_ix ix_seq (zab (pv 3)) (zad pe_int) (fun _ _ => rfl))) (zac pa_nil)))))) (zac pa_nil)))))))))) (za0 pss_nil)))
    (pss_one (zas (ps_ret (zk9 pe_non)))))))))))))))))), pureM (N := ["value", "is_site", "word", "more"]) h⟩
theorem zet : FnScope ["value", "is_site", "found", "rank", "index", "one", "piece"] ["value", "is_site"] (defScope zc0) := ⟨rfl, rfl, rfl, by decide +kernel, rfl, by decide +kernel, by decide +kernel⟩
theorem zs9 (T : Tx K mg w base) : FnOk P w K mg base (L2.CX P w) 4 T.zgi T.zhf ["value", "is_site"] (spM T.W zc6) :=
  zbs T.zok zet (fun vs H Q E h => by exact zbb (P := 2) h) fun cdv A out s H vs Q E hr h => ⟨tS T.W E zc8, (zaf (pss_cons (ms_if (ps_if (zga (pt_not (zcm (pt_val (zpz (cls := [(.ty "list"), (.ty "tuple")]) (us := [(.ty "list"), (.ty "tuple")]) (T.isf _) ⟨⟨by decide, rfl⟩, ⟨⟨by decide, rfl⟩, trivial⟩⟩ (by show 2 ≤ sizeLine; decide) (pe_callB zki (by rfl) T.za8 (by decide +kernel) (pa_cons (zab (pv 0)) (pa_cons (pe_tup (pa_cons (pe_bltn (v := .ty "list") (by rfl) T.zf9 (by decide +kernel) rfl) (pa_cons (pe_bltn (v := .ty "tuple") (by rfl) T.zhu (by decide +kernel) rfl) pa_nil))) pa_nil)))))))) (pss_one (zne (zkv T) T.zf7 T.zf5 (ps_raise rfl (takes_of rfl rfl rfl rfl) (pmk_oex T.zf7 T.zks T.zkk (zig T) (hr.mono (by decide)) T.zf6 .nil zax rfl T.zi0 (zaa (pa_cons (zad pe_int) (zac pa_nil))))))) (za0 pss_nil)))
    (zaf (pss_cons (zk6 (ps_par (by rfl) zet.nd rfl rfl (by decide) rfl rfl (zaa (pa_cons (zba (b := true) (pe_lst (zac pa_nil))) (zaa (pa_cons (zad pe_int) (zac pa_nil))))) (by rfl)))
    (zaf (pss_cons (zd6 (ps_for (passes_own rfl) rfl (zq5 (Cs.zos (by rfl) T.zh5 (zaa (pa_cons (zab (pv 0)) (zac pa_nil))))) (ztg (pg_tup rfl (zfj (pgs_cons (zbu (pg_name (i := 4) zet.nd rfl loB)) (zfj (pgs_cons (zbu (pg_name (i := 5) zet.nd rfl loB)) (zn6 pgs_nil))))))) (zaf (pss_cons (zca (ps_set (i := 6) zet.nd rfl loB (zai (pe_call (zuz T) (hr.mono (by decide)) rfl T.zp8 T.zp5 T.zb3 .nil (zar (takes_of rfl rfl rfl rfl)) (by exact (zaa (pa_cons (zab (pv 5)) (zaa (pa_cons (zab (pv 1)) (zac pa_nil))))))))))
    (zaf (pss_cons (ms_if (ps_if (PW.pt (mw_or (pw_or (zap zvr (pt_cmpR op_isN (zab (pv 6)) (zk9 pe_non) (nomark _))) (pw_or1 (zap zyx (pt_cmpR op_gt (zab (pv 3)) (zze T.zri (pe_ix ix_kdict (pe_glob rfl T.zt6 rfl) (me_op zag (pe_ix ix_seq (zab (pv 6)) (zad pe_int) (fun _ _ => rfl))) (fun _ _ => rfl))) (nomark _))))))) (pss_one (zne (zkv T) T.zf7 T.zf5 (ps_raise rfl (takes_of rfl rfl rfl rfl) (pmk_oex T.zf7 T.zks T.zkk (zig T) (hr.mono (by decide)) T.zf6 .nil zax rfl T.zi0 (zaa (pa_cons (zab (pv 4)) (zac pa_nil))))))) (za0 pss_nil)))
    (zaf (pss_cons (zca (ps_set (i := 3) zet.nd rfl loB (me_cb zun (pe_callB (Cs.zqm rfl) (by rfl) T.n_max (by decide +kernel) (zaa (pa_cons (zab (pv 3)) (zaa (pa_cons (zze T.zsl (pe_ix ix_kdict (pe_glob rfl T.zwl rfl) (me_op zag (pe_ix ix_seq (zab (pv 6)) (zad pe_int) (fun _ _ => rfl))) (fun _ _ => rfl))) (zac pa_nil)))))))))
    (pss_one (zcf (ps_expr (me_bm zc5 (pe_bm PySem.F.plainAttrs_list PySem.F.slot_list_append PySem.F.type_list_append mt_append (zab (pv 2)) (zaa (pa_cons (zab (pv 6)) (zac pa_nil))))))))))))))))
    (pss_one (zik (i := 2) (zas (ps_ret (zab (pv 2)))))))))))), pureM (N := ["value", "is_site", "found", "rank", "index", "one", "piece"]) h⟩
theorem zko : FnScope ["pieces", "some", "named", "piece"] ["pieces"] (defScope zc2) := ⟨rfl, rfl, rfl, by decide +kernel, rfl, by decide +kernel, by decide +kernel⟩
theorem zf8 (T : Tx K mg w base) : FnOk P w K mg base (L2.CX P w) 6 T.zho T.zgg ["pieces"] (spM T.W zbh) :=
  zbs T.zqt zko (fun vs H Q E h => by exact zbb (P := 1) h) fun cdv A out s H vs Q E hr h => ⟨tS T.W E zcp, (zaf (pss_cons (zk6 (ps_par (by rfl) zko.nd rfl rfl (by decide) rfl rfl (zaa (pa_cons (zai (pe_call (zs9 T) (hr.mono (by decide)) rfl T.zoj T.zoh T.zc8 .nil (zar (takes_of rfl rfl rfl rfl)) (by exact (zaa (pa_cons (zab (pv 0)) (zaa (pa_cons (me_bl pe_bl) (zac pa_nil)))))))) (zaa (pa_cons (zn7 (b := true) pe_dnewK) (zac pa_nil))))) (by rfl)))
    (zaf (pss_cons (zcf (ps_expr (zai (pe_call (zq2 T) (hr.mono (by decide)) rfl T.zmr T.zmq T.zcs .nil (zar (takes_of rfl rfl rfl rfl)) (by exact (zaa (pa_cons (zab (pv 1)) (zac pa_nil))))))))
    (zaf (pss_cons (zd6 (ps_for (passes_own rfl) rfl (zef (Cs.zee (zab (pv 1)))) (zbu (pg_name (i := 3) zko.nd rfl loB)) (pss_one (ms_if (ps_if (zap za6 (pt_cmpR (za7 hr.units) (me_op zag (pe_ix ix_seq (zab (pv 3)) (zad pe_int) (fun _ _ => rfl))) (zak pe_str) (nomark _))) (pss_one (zk7 (ps_asg (me_op zag (pe_ix ix_seq (zab (pv 3)) (zad pe_int) (fun _ _ => rfl))) (zv4 (pg_sub (zab (pv 2)) (me_op zag (pe_ix ix_seq (zab (pv 3)) (zad pe_int) (fun _ _ => rfl))) (set_dict (hu_of hr))))))) (pss_one (ms_if (ps_if (zap za6 (pt_cmpR (za7 hr.units) (me_op zag (pe_ix ix_seq (zab (pv 3)) (zad pe_int) (fun _ _ => rfl))) (zak pe_str) (nomark _))) (pss_one (zcf (ps_expr (me_bm zvy (pe_bm PySem.F.plainAttrs_dict PySem.F.slot_dict_update PySem.F.type_dict_update zv0 (zab (pv 2)) (zaa (pa_cons (me_op zag (pe_ix ix_seq (zab (pv 3)) (zad pe_int) (fun _ _ => rfl))) (zac pa_nil)))))))) (za0 pss_nil)))))))))
    (pss_one (zas (ps_ret (zjp (zbx T) (ClX.pe_cmeth (pe_glob rfl T.zhd rfl) T.zjd T.zf3 (zhe T) (hr.mono (by decide)) (zar (takes_of rfl rfl rfl rfl)) (by exact (zaa (pa_cons (zai (pe_call (zpr T) (hr.mono (by decide)) rfl T.zlg T.zlf T.zcg .nil (zar (takes_of rfl rfl rfl rfl)) (by exact (zaa (pa_cons (zab (pv 1)) (zac pa_nil)))))) (zaa (pa_cons (zab (pv 2)) (zac pa_nil))))))))))))))))), pureM (N := ["pieces", "some", "named", "piece"]) h⟩
theorem zrk (T : Tx K mg w base) : (T.zgv, ((("_law_right" : Str) ++ ".<locals>.") ++ "<lambda>")) ∈ T.W.tabs ∧ ∀ p ∈ T.W.tabs, p.1 = T.zgv → p.2 = ((("_law_right" : Str) ++ ".<locals>.") ++ "<lambda>") := by
  refine ⟨List.mem_cons_self, fun p hp e => ?_⟩
  rcases List.mem_cons.mp hp with rfl | hp
  · exact rfl
  cases hp
theorem zda : FnScope ["_law_state", "_law_things", "_law_thing", "_law_shown", "_law_twice_here", "_law_told_here", "_law_some", "_law_table"] ["_law_state", "_law_things"] (defScope zcv) := ⟨rfl, rfl, rfl, by decide +kernel, rfl, by decide +kernel, by decide +kernel⟩
theorem zyz (T : Tx K mg w base) : Cs.FnG P w K mg base CX0 9 T.zh2 T.zkd ["_law_state", "_law_things"] (spN T.W zow) :=
  okGC T.zut zda (fun vs H Q E h => by exact zbb (P := 2) h) fun A out s H vs Q E hgd hr h => ⟨tS T.W E0' zh1, (zaf (pss_cons (ms_if (ps_if (zap za6 (pt_cmpR (za7 hr.units) (zai (pe_call (zcl T) (hr.mono (by decide)) rfl T.zcz T.zcy T.zb6 .nil zax (by exact (zaa (pa_cons (zab (pv 0)) (zaa (pa_cons (zad pe_int) (zac pa_nil)))))))) (zad pe_int) (nomark _))) (pss_one (zca (ps_set (i := 1) zda.nd rfl loB (me_lc (b := false) (ze8 (by decide)) (pe_lc (own := [("_law_thing", 2)]) (g := (gName 2)) (tt := tT T.W E0' mYes) (te := tE T.W E0' (mCb (fList false) (mCons (mVar 2) mNil))) rfl zda.nd (zef (Cs.zee (zab (pv 1)))) (blkOk_by (own := [("_law_thing", 2)]) (N := ["_law_state", "_law_things", "_law_thing", "_law_shown", "_law_twice_here", "_law_told_here", "_law_some", "_law_table"]) (sc := defScope zcv) (by decide +kernel)) (fun _ _ _ _ _ => (pg_name (i := 2) zda.nd rfl loB)) (fun _ _ _ _ _ => (zij pts_nil)) (fun _ _ _ _ _ => (me_cb (zml (b := false)) (pe_callTy (zie rfl) (by rfl) T.zf9 (by decide +kernel) (zaa (pa_cons (zab (pv 2)) (zac pa_nil))))))))))) (za0 pss_nil)))
    (zaf (pss_cons (zk6 (ps_par (by rfl) zda.nd rfl rfl (by decide) rfl rfl (zaa (pa_cons (me_cb zum (pe_callB (Cs.zql hgd (hu66 hr)) (by rfl) T.ztd (by decide +kernel) (zaa (pa_cons (zab (pv 1)) (zac pa_nil))))) (zaa (pa_cons (zai (pe_call (zyy T) (hr.mono (by decide)) rfl T.zt3 T.ztu T.zfo .nil zax (by exact (zaa (pa_cons (zab (pv 1)) (zac pa_nil)))))) (zac pa_nil))))) (by rfl)))
    (zaf (pss_cons (zca (ps_set (i := 5) zda.nd rfl loB (zae8 (P := T.zgv) (zz1 (X := (cxOf CX0 P w K mg base ["_law_state", "_law_things", "_law_thing", "_law_shown", "_law_twice_here", "_law_told_here", "_law_some", "_law_table"] "_law_right" (defScope zcv) T.zh2 (.ref T.zkh) A out s H E).nox) T (k := 6) (t := fun E => tE T.W E (mCall zbh (mCons (mCall zex (mCons (mVar 0) (mCons (mLst false (mCons (mVar 1) (mCons (mCb fTuple (mCons (mVar 1) mNil)) mNil))) mNil))) mNil))) rfl T.zrm rfl (zrk T).1 (zrk T).2 (hr.mono (by decide)) (LamX.lamS_by (sc := defScope zcv) (by decide +kernel)) rfl (fun _ _ _ _ _ => rfl) (fun A out s H E f c' hr => (zai (pe_call (zf8 T) (hr.mono (by decide)) rfl T.zf0 T.zfz T.zcp .nil (zar (takes_of rfl rfl rfl rfl)) (by exact (zaa (pa_cons (zai (pe_call (zjn T) (hr.mono (by decide)) rfl T.zjb T.zja T.zf4 .nil (zar (takes_of rfl rfl rfl rfl)) (by exact (zaa (pa_cons (zab (pv 0)) (zaa (pa_cons (zba (b := false) (pe_lst (zaa (pa_cons (zab (pv 1)) (zaa (pa_cons (me_cb znv (pe_callTy (znw rfl) (by rfl) T.zhu (by decide +kernel) (zaa (pa_cons (zab (pv 1)) (zac pa_nil))))) (zac pa_nil))))))) (zac pa_nil)))))))) (zac pa_nil)))))))) (fun _ => zadh))))
    (zaf (pss_cons (ms_if (ps_if (zap zs6 (pt_cmpR (zs8 hr.units) (me_cb zum (pe_callB (Cs.zql hgd (hu66 hr)) (by rfl) T.ztd (by decide +kernel) (zaa (pa_cons (zab (pv 1)) (zac pa_nil))))) (zab (pv 3)) (nomark _))) (pss_one (zas (ps_ret (me_bl pe_bl)))) (za0 pss_nil)))
    (zaf (pss_cons (ms_if (ps_if (zap zabs (pt_cmpR op_notN (zab (pv 4)) (zk9 pe_non) (nomark _))) (pss_one (zas (ps_ret (zgd (pe_and (me_is (cl := (.ty "str")) (u := (.ty "str")) (T.isf _) ⟨by decide, rfl⟩ (pe_callB zer (by rfl) T.za8 (by decide +kernel) (pa_cons (zab (pv 5)) (pa_cons (pe_bltn (v := .ty "str") (by rfl) T.n_str (by decide +kernel) rfl) pa_nil)))) (pe_one (me_op za6 (pe_cmpR (za7 hr.units) (zab (pv 5)) (me_op (zcw (b := false)) (pe_op Cs.zcx (zak pe_str) (zab (pv 4)))) (nomark _))))))))) (za0 pss_nil)))
    (zaf (pss_cons (zk7 (ps_asg (zai (pe_call (zabt T) (hr.mono (by decide)) rfl T.zwn T.zwc T.zje .nil zax (by exact (zaa (pa_cons (zab (pv 1)) (zac pa_nil)))))) (ztg (pg_tup rfl (zfj (pgs_cons (zbu (pg_name (i := 6) zda.nd rfl loB)) (zfj (pgs_cons (zbu (pg_name (i := 7) zda.nd rfl loB)) (zn6 pgs_nil)))))))))
    (zaf (pss_cons (ms_if (ps_if (PW.pt (mw_or (pw_or (zga (pt_not (zcm (pt_val (me_is (cl := (.cls "Call")) (u := (.ref T.zbt)) (T.isf _) ⟨by decide, T.zbt, zbx T, rfl⟩ (pe_callB zer (by rfl) T.za8 (by decide +kernel) (pa_cons (zab (pv 5)) (pa_cons (pe_glob rfl T.zhd rfl) pa_nil)))))))) (mw_or (pw_or (zap (zk3 (zbx T)) (pt_cmpR (Cs.zm9 T.zev T.zde.2 (zez T) (hr.mono (by decide)) zax) (zab (pv 5)) (zjp (zbx T) (ClX.pe_cmeth (pe_glob rfl T.zhd rfl) T.zjd T.zf3 (zhe T) (hr.mono (by decide)) zax (by exact (zaa (pa_cons (zab (pv 6)) (zaa (pa_cons (zab (pv 7)) (zac pa_nil)))))))) (nomark _))) (pw_or1 (zap zs6 (pt_cmpR (zs8 hr.units) (me_op zag (pe_ix ix_seq (zab1 (zbx T) (pe_prop (zab (pv 5)) T.zob T.zmo (zsh T) (hr.mono (by decide)) T.zdg .nil zax rfl)) (zad pe_int) (fun _ _ => rfl))) (me_cb zdk (pe_callB zb5 (by rfl) T.n_len (by decide +kernel) (zaa (pa_cons (zab (pv 6)) (zac pa_nil))))) (nomark _))))))))) (pss_one (zas (ps_ret (me_bl pe_bl)))) (za0 pss_nil)))
    (zaf (pss_cons (ms_if (ps_if (zap (zk3 (zbx T)) (pt_cmpR (Cs.zm9 T.zev T.zde.2 (zez T) (hr.mono (by decide)) zax) (zai (pe_call (zf8 T) (hr.mono (by decide)) rfl T.zf0 T.zfz T.zcp .nil zax (by exact (zaa (pa_cons (zba (b := false) (pe_lst (zaa (pa_cons (za9 (pe_tup (zaa (pa_cons (zak pe_str) (zaa (pa_cons (zab (pv 6)) (zac pa_nil))))))) (zaa (pa_cons (za9 (pe_tup (zaa (pa_cons (zak pe_str) (zaa (pa_cons (zab (pv 7)) (zac pa_nil))))))) (zac pa_nil))))))) (zac pa_nil)))))) (zab (pv 5)) (nomark _))) (pss_one (zas (ps_ret (me_bl pe_bl)))) (za0 pss_nil)))
    (zaf (pss_cons (zd6 (ps_for PassesOwn.never rfl (zef (Cs.zee (me_lc (b := false) (ze8 (by decide)) (pe_lc (own := [("_law_thing", 2)]) (g := (gName 2)) (tt := tT T.W E0' (mB (mOp (fIn false) (mOp fIx (mVar 2) (mC (.int 0))) (mLst false (mCons (mC (.str "star")) (mCons (mC (.str "double")) mNil)))))) (te := tE T.W E0' (mVar 2)) rfl zda.nd (zef (Cs.zee (zab (pv 1)))) (blkOk_by (own := [("_law_thing", 2)]) (N := ["_law_state", "_law_things", "_law_thing", "_law_shown", "_law_twice_here", "_law_told_here", "_law_some", "_law_table"]) (sc := defScope zcv) (by decide +kernel)) (fun _ _ _ _ _ => (pg_name (i := 2) zda.nd rfl loB)) (fun _ _ _ _ _ => ((pts_one (zap zpq (pt_cmpR Cs.op_inD (me_op zag (pe_ix ix_seq (zab (pv 2)) (zad pe_int) (fun _ _ => rfl))) (zba (b := false) (pe_lst (zaa (pa_cons (zak pe_str) (zaa (pa_cons (zak pe_str) (zac pa_nil))))))) (by first | exact nomark _ | rfl)))))) (fun _ _ _ _ _ => (zab (pv 2))))))) (zbu (pg_name (i := 2) zda.nd rfl loB)) (pss_one (ms_if (ps_if (zcm (pt_val (zpz (cls := [(.ty "list"), (.ty "dict")]) (us := [(.ty "list"), (.ty "dict")]) (T.isf _) ⟨⟨by decide, rfl⟩, ⟨⟨by decide, rfl⟩, trivial⟩⟩ (by show 2 ≤ sizeLine; decide) (pe_callB zki (by rfl) T.za8 (by decide +kernel) (pa_cons (me_op zag (pe_ix ix_seq (zab (pv 2)) (zad pe_int) (fun _ _ => rfl))) (pa_cons (pe_tup (pa_cons (pe_bltn (v := .ty "list") (by rfl) T.zf9 (by decide +kernel) rfl) (pa_cons (pe_bltn (v := .ty "dict") (by rfl) T.zpw (by decide +kernel) rfl) pa_nil))) pa_nil)))))) (pss_one (zcf (ps_expr (me_ei (zzg zy8 (pe_bm0 PySem.F.plainAttrs_list PySem.F.slot_list_clear PySem.F.type_list_clear mt_clear (me_op zag (pe_ix ix_seq (zab (pv 2)) (zad pe_int) (fun _ _ => rfl))))) (zzg zxs (pe_bm0 PySem.F.plainAttrs_dict PySem.F.slot_dict_clear PySem.F.type_dict_clear mtd_clear (me_op zag (pe_ix ix_seq (zab (pv 2)) (zad pe_int) (fun _ _ => rfl))))))))) (za0 pss_nil))))))
    (pss_one (zas (ps_ret (me_op (zac7 (zbx T) (T.znq _)) (pe_cmpR (Cs.zaex T.zde.1 T.zde.2 (zez T) (hr.mono (by decide)) zax) (zab (pv 5)) (zjp (zbx T) (ClX.pe_cmeth (pe_glob rfl T.zhd rfl) T.zjd T.zf3 (zhe T) (hr.mono (by decide)) zax (by exact (zaa (pa_cons (zab (pv 6)) (zaa (pa_cons (zab (pv 7)) (zac pa_nil)))))))) (nomark _)))))))))))))))))))))))), pureM (N := ["_law_state", "_law_things", "_law_thing", "_law_shown", "_law_twice_here", "_law_told_here", "_law_some", "_law_table"]) h⟩
theorem zjj : FnScope ["_law_script", "_law_turn", "_law_cell", "_law_state", "_law_pool_here", "_law_again", "_law_many"] ["_law_script"] (defScope s_law) := ⟨rfl, rfl, rfl, by decide +kernel, rfl, by decide +kernel, by decide +kernel⟩
theorem ok_law (T : Tx K mg w base) (hm : ∀ ns : List Int, ns.length ≤ 63 → ∃ μ, m_law [.lst (ns.map D.int)] [] = .ok (.bl true) μ) : Cs.FnG P w K mg base CX0 10 T.a_law T.zqb ["_law_script"] (zpc K T.W.tabs) :=
  Cs.Fun.okG T.F_law zjj (fun vs H Q E h => by exact zbb (zzy (W := T.W) hm h.1 h.2.1 h.2.2)) fun cdv A out s H vs Q E hgd hr h => ⟨tS T.W E0' b_law, (zaf (pss_cons (zd6 (ps_for PassesOwn.never rfl (zq5 (Cs.zos (by rfl) T.zh5 (zaa (pa_cons (zou (b := false) (pe_slice Cs.sl_D (zae5 (pe_orT (zab (pv 0)) (pe_one (zba (b := false) (pe_lst (zaa (pa_cons (zad pe_int) (zac pa_nil)))))))) (zv1 po_none) (zn5 (po_some (zad pe_int))))) (zac pa_nil))))) (ztg (pg_tup rfl (zfj (pgs_cons (zbu (pg_name (i := 1) zjj.nd rfl loB)) (zfj (pgs_cons (zbu (pg_name (i := 2) zjj.nd rfl loB)) (zn6 pgs_nil))))))) (zaf (pss_cons (zca (ps_set (i := 3) zjj.nd rfl loB (zai (pe_call (zy0 T) (hr.mono (by decide)) rfl T.zt5 T.ztw T.zjz .nil zax (by exact (zaa (pa_cons (zab (pv 2)) (zaa (pa_cons (zab (pv 1)) (zac pa_nil))))))))))
    (zaf (pss_cons (zca (ps_set (i := 4) zjj.nd rfl loB (zai (pe_call (zabu T) (hr.mono (by decide)) rfl T.zwo T.zwd T.zjf .nil zax (by exact (zaa (pa_cons (zab (pv 3)) (zac pa_nil))))))))
    (zaf (pss_cons (zd6 (ps_for PassesOwn.never rfl (zhv (pi_range1 rfl T.zfx (zaa (pa_cons (zad pe_int) (zac pa_nil))))) (zbu (pg_name (i := 5) zjj.nd rfl loB)) (pss_one (ms_if (ps_if (zga (pt_not (zcm (pt_val (zab3 (Cs.pe_callG hgd (zyz T) (hr.mono (by decide)) rfl T.zt4 T.ztv T.zh1 .nil pass0 (by exact (zaa (pa_cons (zab (pv 3)) (zaa (pa_cons (zai (pe_call (zxp T) (hr.mono (by decide)) rfl T.zr5 T.zr2 T.zg0 .nil zax (by exact (zaa (pa_cons (zab (pv 3)) (zaa (pa_cons (zab (pv 4)) (zaa (pa_cons (me_bl pe_bl) (zac pa_nil)))))))))) (zac pa_nil)))))))))))) (pss_one (zas (ps_ret (me_bl pe_bl)))) (za0 pss_nil))))))
    (zaf (pss_cons (zca (ps_set (i := 6) zjj.nd rfl loB (zai (pe_call (zjn T) (hr.mono (by decide)) rfl T.zjb T.zja T.zf4 .nil zax (by exact (zaa (pa_cons (zab (pv 3)) (zaa (pa_cons (zba (b := false) (pe_lst (zaa (pa_cons (zad pe_int) (zaa (pa_cons (zad pe_int) (zaa (pa_cons (zad pe_int) (zac pa_nil))))))))) (zac pa_nil))))))))))
    (zaf (pss_cons (ms_if (ps_if (zap (zk3 (zbx T)) (pt_cmpR (Cs.zm9 T.zev T.zde.2 (zez T) (hr.mono (by decide)) zax) (zai (pe_call (zf8 T) (hr.mono (by decide)) rfl T.zf0 T.zfz T.zcp .nil zax (by exact (zaa (pa_cons (zai (pe_call (zabv T) (hr.mono (by decide)) rfl T.zwp T.zwe T.zjg .nil zax (by exact (zaa (pa_cons (zab (pv 4)) (zaa (pa_cons (zab (pv 6)) (zac pa_nil)))))))) (zac pa_nil)))))) (zjp (zbx T) (ClX.pe_cmeth (pe_glob rfl T.zhd rfl) T.zjd T.zf3 (zhe T) (hr.mono (by decide)) zax (by exact (zaa (pa_cons (zade (b := false) (pe_listRg rfl rfl T.zf9 (prg_1 rfl T.zfx (zab (pv 6))))) (zaa (pa_cons (zv5 (b := false) (trs := [((mOp fIx (mVar 4) (mC (.int 0))), (mC (.int 1))), ((mOp fIx (mVar 4) (mC (.int 1))), (mC (.int 2)))]) (pe_disp (pps_cons (me_op zag (pe_ix ix_seq (zab (pv 4)) (zad pe_int) (fun _ _ => rfl))) (zad pe_int) (pps_cons (me_op zag (pe_ix ix_seq (zab (pv 4)) (zad pe_int) (fun _ _ => rfl))) (zad pe_int) pps_nil)) (by rfl) (by rfl) (fun z => by cases z) (by decide))) (zac pa_nil)))))))) (nomark _))) (pss_one (zas (ps_ret (me_bl pe_bl)))) (za0 pss_nil)))
    (pss_one (ms_if (ps_if (PW.pt (mw_or (pw_or (zap (zk3 (zbx T)) (pt_cmpR (Cs.zm9 T.zev T.zde.2 (zez T) (hr.mono (by decide)) zax) (zai (pe_call (zf8 T) (hr.mono (by decide)) rfl T.zf0 T.zfz T.zcp .nil zax (by exact (zaa (pa_cons (zba (b := false) (pe_lst (zac pa_nil))) (zac pa_nil)))))) (zjp (zbx T) (ClX.pe_cmeth (pe_glob rfl T.zhd rfl) T.zjd T.zf3 (zhe T) (hr.mono (by decide)) zax (by exact (zaa (pa_cons (zba (b := false) (pe_lst (zac pa_nil))) (zaa (pa_cons (zn7 (b := false) pe_dnewK) (zac pa_nil)))))))) (nomark _))) (pw_or1 (zap (zk3 (zbx T)) (pt_cmpR (Cs.zm9 T.zev T.zde.2 (zez T) (hr.mono (by decide)) zax) (zzf (zyv (ks := ["pieces"]) (zf8 T) (hr.mono (by decide)) rfl T.zf0 T.zfz T.zg7 zax (by exact (zadc (pk_cons (za9 (pe_tup (zac pa_nil))) (zae3 pk_nil)))))) (zzd (frz := true) (zbx T) (zyu T.zq4 (zli T) (hr.mono (by decide)) rfl T.zhd zax)) (nomark _))))))) (pss_one (zas (ps_ret (me_bl pe_bl)))) (za0 pss_nil))))))))))))))))
    (pss_one (zas (ps_ret (me_bl pe_bl)))))), pureM (N := ["_law_script", "_law_turn", "_law_cell", "_law_state", "_law_pool_here", "_law_again", "_law_many"]) (zzy (W := T.W) hm h.1 h.2.1 h.2.2)⟩
end
end K04
namespace K04
open PySem PySem.Spec L2 Mi
section
theorem all_mk (hm : ∀ ns : List Int, ns.length ≤ 63 → ∃ μ, m_law [.lst (ns.map D.int)] [] = .ok (.bl true) μ) {l : W.OpenLaw} {qq : Program} {w : World} {K : W.Frag} {h : Heap} {mg : Str → Option Value} {fa : Addr} (X : K.In h) (G : h.Ns mainGlobals mg) (hfa : mg "law" = some (.ref fa))
    {C_CallError : Addr} {C_BadCall : Addr} {C_BadPiece : Addr} {C_Repeated : Addr} {C_Call : Addr} {f1 : Addr} {od1 an1 : Option Addr} {sl1 : Array (Option Value)} {oc1 kV1 dc1 pm1 cd1 ct1 : Value} {f2 : Addr} {od2 an2 : Option Addr} {sl2 : Array (Option Value)} {oc2 kV2 dc2 pm2 cd2 ct2 : Value} {f3 : Addr} {od3 an3 : Option Addr} {sl3 : Array (Option Value)} {oc3 kV3 dc3 pm3 cd3 ct3 : Value} {f4 : Addr} {od4 an4 : Option Addr} {sl4 : Array (Option Value)} {oc4 kV4 dc4 pm4 cd4 ct4 : Value} {f5 : Addr} {od5 an5 : Option Addr} {sl5 : Array (Option Value)} {oc5 kV5 dc5 pm5 cd5 ct5 : Value} {f6 : Addr} {od6 an6 : Option Addr} {sl6 : Array (Option Value)} {oc6 kV6 dc6 pm6 cd6 ct6 : Value} {f7 : Addr} {od7 an7 : Option Addr} {sl7 : Array (Option Value)} {oc7 kV7 dc7 pm7 cd7 ct7 : Value} {f8 : Addr} {od8 an8 : Option Addr} {sl8 : Array (Option Value)} {oc8 kV8 dc8 pm8 cd8 ct8 : Value} {pc8 : Addr} {rs8 : List Value} {f9 : Addr} {od9 an9 : Option Addr} {sl9 : Array (Option Value)} {oc9 kV9 dc9 pm9 cd9 ct9 : Value} {f10 : Addr} {od10 an10 : Option Addr} {sl10 : Array (Option Value)} {oc10 kV10 dc10 pm10 cd10 ct10 : Value} {f11 : Addr} {od11 an11 : Option Addr} {sl11 : Array (Option Value)} {oc11 kV11 dc11 pm11 cd11 ct11 : Value} {f12 : Addr} {od12 an12 : Option Addr} {sl12 : Array (Option Value)} {oc12 kV12 dc12 pm12 cd12 ct12 : Value} {f13 : Addr} {od13 an13 : Option Addr} {sl13 : Array (Option Value)} {oc13 kV13 dc13 pm13 cd13 ct13 : Value} {f14 : Addr} {od14 an14 : Option Addr} {sl14 : Array (Option Value)} {oc14 kV14 dc14 pm14 cd14 ct14 : Value} {f15 : Addr} {od15 an15 : Option Addr} {sl15 : Array (Option Value)} {oc15 kV15 dc15 pm15 cd15 ct15 : Value} {f16 : Addr} {od16 an16 : Option Addr} {sl16 : Array (Option Value)} {oc16 kV16 dc16 pm16 cd16 ct16 : Value} {pp16 : Addr} {rs16 : List Value} {f17 : Addr} {od17 an17 : Option Addr} {sl17 : Array (Option Value)} {oc17 kV17 dc17 pm17 cd17 ct17 : Value} {f18 : Addr} {od18 an18 : Option Addr} {sl18 : Array (Option Value)} {oc18 kV18 dc18 pm18 cd18 ct18 : Value} {f19 : Addr} {od19 an19 : Option Addr} {sl19 : Array (Option Value)} {oc19 kV19 dc19 pm19 cd19 ct19 : Value} {f20 : Addr} {od20 an20 : Option Addr} {sl20 : Array (Option Value)} {oc20 kV20 dc20 pm20 cd20 ct20 : Value} {f21 : Addr} {od21 an21 : Option Addr} {sl21 : Array (Option Value)} {oc21 kV21 dc21 pm21 cd21 ct21 : Value} {f22 : Addr} {od22 an22 : Option Addr} {sl22 : Array (Option Value)} {oc22 kV22 dc22 pm22 cd22 ct22 : Value} {f23 : Addr} {od23 an23 : Option Addr} {sl23 : Array (Option Value)} {oc23 kV23 dc23 pm23 cd23 ct23 : Value} {f24 : Addr} {od24 an24 : Option Addr} {sl24 : Array (Option Value)} {oc24 kV24 dc24 pm24 cd24 ct24 : Value} {f25 : Addr} {od25 an25 : Option Addr} {sl25 : Array (Option Value)} {oc25 kV25 dc25 pm25 cd25 ct25 : Value} {f26 : Addr} {od26 an26 : Option Addr} {sl26 : Array (Option Value)} {oc26 kV26 dc26 pm26 cd26 ct26 : Value} {f27 : Addr} {od27 an27 : Option Addr} {sl27 : Array (Option Value)} {oc27 kV27 dc27 pm27 cd27 ct27 : Value} {cc28 : Addr} {pt28 : Addr} {f28 : Addr} {od28 an28 : Option Addr} {sl28 : Array (Option Value)} {oc28 kV28 dc28 pm28 ct28 : Value} {f29 : Addr} {od29 an29 : Option Addr} {sl29 : Array (Option Value)} {oc29 kV29 dc29 pm29 cd29 ct29 : Value} {D_LATEST : Addr} {es_LATEST : Array DictEntry} {nn_LATEST : Nat} {tk_LATEST_value : Tok} {tk_LATEST_star : Tok} {tk_LATEST_name : Tok} {tk_LATEST_double : Tok} {D_RANKS : Addr} {es_RANKS : Array DictEntry} {nn_RANKS : Nat} {tk_RANKS_value : Tok} {tk_RANKS_star : Tok} {tk_RANKS_name : Tok} {tk_RANKS_double : Tok} {tk_LONGEST_NAME : Tok} {tk_MOST_VALUE : Tok}
    (a_CallError : W.nsIn K mainGlobals "CallError" = some (some (.ref C_CallError)))
    (a_BadCall : W.nsIn K mainGlobals "BadCall" = some (some (.ref C_BadCall)))
    (a_BadPiece : W.nsIn K mainGlobals "BadPiece" = some (some (.ref C_BadPiece)))
    (a_Repeated : W.nsIn K mainGlobals "Repeated" = some (some (.ref C_Repeated)))
    (a_Call : W.nsIn K mainGlobals "Call" = some (some (.ref C_Call)))
    (a2 : W.nsIn K mainGlobals "is_value" = some (some (.ref f2)))
    (a3 : W.nsIn K mainGlobals "are_values" = some (some (.ref f3)))
    (a4 : W.nsIn K mainGlobals "ascending" = some (some (.ref f4)))
    (a5 : W.nsIn K mainGlobals "is_name" = some (some (.ref f5)))
    (a6 : W.nsIn K mainGlobals "is_table" = some (some (.ref f6)))
    (a9 : W.nsIn K mainGlobals "_law_begin" = some (some (.ref f9)))
    (a10 : W.nsIn K mainGlobals "_law_long" = some (some (.ref f10)))
    (a11 : W.nsIn K mainGlobals "_law_draw" = some (some (.ref f11)))
    (a12 : W.nsIn K mainGlobals "_law_pick" = some (some (.ref f12)))
    (a13 : W.nsIn K mainGlobals "_law_shuffled" = some (some (.ref f13)))
    (a14 : W.nsIn K mainGlobals "_law_pieces" = some (some (.ref f14)))
    (a15 : W.nsIn K mainGlobals "_law_pool" = some (some (.ref f15)))
    (a17 : W.nsIn K mainGlobals "_law_sums" = some (some (.ref f17)))
    (a18 : W.nsIn K mainGlobals "_law_told" = some (some (.ref f18)))
    (a19 : W.nsIn K mainGlobals "_law_twice" = some (some (.ref f19)))
    (a21 : W.nsIn K mainGlobals "names_of" = some (some (.ref f21)))
    (a22 : W.nsIn K mainGlobals "known_names" = some (some (.ref f22)))
    (a23 : W.nsIn K mainGlobals "known_values" = some (some (.ref f23)))
    (a25 : W.nsIn K mainGlobals "piece_of" = some (some (.ref f25)))
    (a26 : W.nsIn K mainGlobals "pieces_of" = some (some (.ref f26)))
    (a27 : W.nsIn K mainGlobals "gathered" = some (some (.ref f27)))
    (a28 : W.nsIn K mainGlobals "_law_right" = some (some (.ref f28)))
    (a29 : W.nsIn K mainGlobals "law" = some (some (.ref f29)))
    (d1_LATEST : W.nsIn K mainGlobals "LATEST" = some (some (.ref D_LATEST)))
    (d1_RANKS : W.nsIn K mainGlobals "RANKS" = some (some (.ref D_RANKS)))
    (q11 : W.findIn K (.ref C_Call) "__eq__" = some (some (.ref f1)))
    (in7 : W.findIn K (.ref C_Call) "__init__" = some (some (.ref f7)))
    (o18 : W.findCls K (.ref C_Call) (.type "type") "of" = some (.get (.builtin "classmethod.__get__") (.ref pc8) .none (.ref C_Call)))
    (p116 : W.findIn K (.ref C_Call) "shape" = some (some (.ref pp16)))
    (in20 : W.findIn K (.ref C_Repeated) "__init__" = some (some (.ref f20)))
    (in24 : W.findIn K (.ref C_BadPiece) "__init__" = some (some (.ref f24)))
    (l1 : K.lookup f1 = some ⟨oc1, od1, .func (W.fnOf "__eq__" "Call.__eq__" (defArgs zc4) (defBody zc4) (defScope zc4) .none kV1 dc1 pm1 an1 cd1 ct1), sl1⟩)
    (l2 : K.lookup f2 = some ⟨oc2, od2, .func (W.fnOf "is_value" "is_value" (defArgs zdu) (defBody zdu) (defScope zdu) .none kV2 dc2 pm2 an2 cd2 ct2), sl2⟩)
    (l3 : K.lookup f3 = some ⟨oc3, od3, .func (W.fnOf "are_values" "are_values" (defArgs zb9) (defBody zb9) (defScope zb9) .none kV3 dc3 pm3 an3 cd3 ct3), sl3⟩)
    (l4 : K.lookup f4 = some ⟨oc4, od4, .func (W.fnOf "ascending" "ascending" (defArgs zci) (defBody zci) (defScope zci) .none kV4 dc4 pm4 an4 cd4 ct4), sl4⟩)
    (l5 : K.lookup f5 = some ⟨oc5, od5, .func (W.fnOf "is_name" "is_name" (defArgs zdz) (defBody zdz) (defScope zdz) .none kV5 dc5 pm5 an5 cd5 ct5), sl5⟩)
    (l6 : K.lookup f6 = some ⟨oc6, od6, .func (W.fnOf "is_table" "is_table" (defArgs zc1) (defBody zc1) (defScope zc1) .none kV6 dc6 pm6 an6 cd6 ct6), sl6⟩)
    (l7 : K.lookup f7 = some ⟨oc7, od7, .func (W.fnOf "__init__" "Call.__init__" (defArgs zcr) (defBody zcr) (defScope zcr) .none kV7 dc7 pm7 an7 cd7 ct7), sl7⟩)
    (o28 : W.recIn K pc8 "classmethod" = some (.ref f8 :: rs8))
    (l8 : K.lookup f8 = some ⟨oc8, od8, .func (W.fnOf "of" "Call.of" (defArgs zed) (defBody zed) (defScope zed) .none kV8 dc8 pm8 an8 cd8 ct8), sl8⟩)
    (l9 : K.lookup f9 = some ⟨oc9, od9, .func (W.fnOf "_law_begin" "_law_begin" (defArgs ze6) (defBody ze6) (defScope ze6) .none kV9 dc9 pm9 an9 cd9 ct9), sl9⟩)
    (l10 : K.lookup f10 = some ⟨oc10, od10, .func (W.fnOf "_law_long" "_law_long" (defArgs zff) (defBody zff) (defScope zff) .none kV10 dc10 pm10 an10 cd10 ct10), sl10⟩)
    (l11 : K.lookup f11 = some ⟨oc11, od11, .func (W.fnOf "_law_draw" "_law_draw" (defArgs zfw) (defBody zfw) (defScope zfw) .none kV11 dc11 pm11 an11 cd11 ct11), sl11⟩)
    (l12 : K.lookup f12 = some ⟨oc12, od12, .func (W.fnOf "_law_pick" "_law_pick" (defArgs zfv) (defBody zfv) (defScope zfv) .none kV12 dc12 pm12 an12 cd12 ct12), sl12⟩)
    (l13 : K.lookup f13 = some ⟨oc13, od13, .func (W.fnOf "_law_shuffled" "_law_shuffled" (defArgs zc3) (defBody zc3) (defScope zc3) .none kV13 dc13 pm13 an13 cd13 ct13), sl13⟩)
    (l14 : K.lookup f14 = some ⟨oc14, od14, .func (W.fnOf "_law_pieces" "_law_pieces" (defArgs zcq) (defBody zcq) (defScope zcq) .none kV14 dc14 pm14 an14 cd14 ct14), sl14⟩)
    (l15 : K.lookup f15 = some ⟨oc15, od15, .func (W.fnOf "_law_pool" "_law_pool" (defArgs zfu) (defBody zfu) (defScope zfu) .none kV15 dc15 pm15 an15 cd15 ct15), sl15⟩)
    (p416 : W.recIn K pp16 "property" = some (.ref f16 :: rs16))
    (l16 : K.lookup f16 = some ⟨oc16, od16, .func (W.fnOf "shape" "Call.shape" (defArgs zck) (defBody zck) (defScope zck) .none kV16 dc16 pm16 an16 cd16 ct16), sl16⟩)
    (l17 : K.lookup f17 = some ⟨oc17, od17, .func (W.fnOf "_law_sums" "_law_sums" (defArgs zft) (defBody zft) (defScope zft) .none kV17 dc17 pm17 an17 cd17 ct17), sl17⟩)
    (l18 : K.lookup f18 = some ⟨oc18, od18, .func (W.fnOf "_law_told" "_law_told" (defArgs zfs) (defBody zfs) (defScope zfs) .none kV18 dc18 pm18 an18 cd18 ct18), sl18⟩)
    (l19 : K.lookup f19 = some ⟨oc19, od19, .func (W.fnOf "_law_twice" "_law_twice" (defArgs ze5) (defBody ze5) (defScope ze5) .none kV19 dc19 pm19 an19 cd19 ct19), sl19⟩)
    (l20 : K.lookup f20 = some ⟨oc20, od20, .func (W.fnOf "__init__" "Repeated.__init__" (defArgs zbf) (defBody zbf) (defScope zbf) .none kV20 dc20 pm20 an20 cd20 ct20), sl20⟩)
    (l21 : K.lookup f21 = some ⟨oc21, od21, .func (W.fnOf "names_of" "names_of" (defArgs zdt) (defBody zdt) (defScope zdt) .none kV21 dc21 pm21 an21 cd21 ct21), sl21⟩)
    (l22 : K.lookup f22 = some ⟨oc22, od22, .func (W.fnOf "known_names" "known_names" (defArgs zcb) (defBody zcb) (defScope zcb) .none kV22 dc22 pm22 an22 cd22 ct22), sl22⟩)
    (l23 : K.lookup f23 = some ⟨oc23, od23, .func (W.fnOf "known_values" "known_values" (defArgs zb2) (defBody zb2) (defScope zb2) .none kV23 dc23 pm23 an23 cd23 ct23), sl23⟩)
    (l24 : K.lookup f24 = some ⟨oc24, od24, .func (W.fnOf "__init__" "BadPiece.__init__" (defArgs zbg) (defBody zbg) (defScope zbg) .none kV24 dc24 pm24 an24 cd24 ct24), sl24⟩)
    (l25 : K.lookup f25 = some ⟨oc25, od25, .func (W.fnOf "piece_of" "piece_of" (defArgs zds) (defBody zds) (defScope zds) .none kV25 dc25 pm25 an25 cd25 ct25), sl25⟩)
    (l26 : K.lookup f26 = some ⟨oc26, od26, .func (W.fnOf "pieces_of" "pieces_of" (defArgs zc0) (defBody zc0) (defScope zc0) .none kV26 dc26 pm26 an26 cd26 ct26), sl26⟩)
    (l27 : K.lookup f27 = some ⟨oc27, od27, .func (W.fnOf "gathered" "gathered" (defArgs zc2) (defBody zc2) (defScope zc2) .none kV27 dc27 pm27 an27 cd27 ct27), sl27⟩)
    (l28 : K.lookup f28 = some ⟨oc28, od28, .func (W.fnOf "_law_right" "_law_right" (defArgs zcv) (defBody zcv) (defScope zcv) .none kV28 dc28 pm28 an28 (.ref cc28) ct28), sl28⟩)
    (l29 : K.lookup f29 = some ⟨oc29, od29, .func (W.fnOf "law" "law" (defArgs s_law) (defBody s_law) (defScope s_law) .none kV29 dc29 pm29 an29 cd29 ct29), sl29⟩)
    (d2_LATEST : K.lookup D_LATEST = some ⟨.type "dict", none, .dict es_LATEST nn_LATEST, #[]⟩)
    (d2_RANKS : K.lookup D_RANKS = some ⟨.type "dict", none, .dict es_RANKS nn_RANKS, #[]⟩)
    (ti20 : W.typeIn K (.ref f20) = some (.type "function"))
    (ti24 : W.typeIn K (.ref f24) = some (.type "function"))
    (ti28 : W.tabIn K "_law_right" = some (cc28, pt28))
    (q21 : W.isFn K (.ref f1) = true)
    (c1 : W.codeIn K cd1 "Call.__eq__" = true)
    (k1 : W.keepIn K (.ref f1) = true)
    (c2 : W.codeIn K cd2 "is_value" = true)
    (k2 : W.keepIn K (.ref f2) = true)
    (c3 : W.codeIn K cd3 "are_values" = true)
    (k3 : W.keepIn K (.ref f3) = true)
    (c4 : W.codeIn K cd4 "ascending" = true)
    (k4 : W.keepIn K (.ref f4) = true)
    (c5 : W.codeIn K cd5 "is_name" = true)
    (k5 : W.keepIn K (.ref f5) = true)
    (c6 : W.codeIn K cd6 "is_table" = true)
    (k6 : W.keepIn K (.ref f6) = true)
    (mk7 : mkB K C_Call f7 = true)
    (c7 : W.codeIn K cd7 "Call.__init__" = true)
    (k7 : W.keepIn K (.ref f7) = true)
    (o38 : W.fnIn K f8 = true)
    (c8 : W.codeIn K cd8 "Call.of" = true)
    (k8 : W.keepIn K (.ref f8) = true)
    (c9 : W.codeIn K cd9 "_law_begin" = true)
    (k9 : W.keepIn K (.ref f9) = true)
    (c10 : W.codeIn K cd10 "_law_long" = true)
    (k10 : W.keepIn K (.ref f10) = true)
    (c11 : W.codeIn K cd11 "_law_draw" = true)
    (k11 : W.keepIn K (.ref f11) = true)
    (c12 : W.codeIn K cd12 "_law_pick" = true)
    (k12 : W.keepIn K (.ref f12) = true)
    (c13 : W.codeIn K cd13 "_law_shuffled" = true)
    (k13 : W.keepIn K (.ref f13) = true)
    (c14 : W.codeIn K cd14 "_law_pieces" = true)
    (k14 : W.keepIn K (.ref f14) = true)
    (c15 : W.codeIn K cd15 "_law_pool" = true)
    (k15 : W.keepIn K (.ref f15) = true)
    (p216 : W.specialIn K (.ref pp16) "__get__" = some (some (.builtin "property.__get__")))
    (p316 : W.takesIn K (.ref pp16) = some true)
    (c16 : W.codeIn K cd16 "Call.shape" = true)
    (k16 : W.keepIn K (.ref f16) = true)
    (c17 : W.codeIn K cd17 "_law_sums" = true)
    (k17 : W.keepIn K (.ref f17) = true)
    (c18 : W.codeIn K cd18 "_law_told" = true)
    (k18 : W.keepIn K (.ref f18) = true)
    (c19 : W.codeIn K cd19 "_law_twice" = true)
    (k19 : W.keepIn K (.ref f19) = true)
    (c20 : W.codeIn K cd20 "Repeated.__init__" = true)
    (k20 : W.keepIn K (.ref f20) = true)
    (c21 : W.codeIn K cd21 "names_of" = true)
    (k21 : W.keepIn K (.ref f21) = true)
    (c22 : W.codeIn K cd22 "known_names" = true)
    (k22 : W.keepIn K (.ref f22) = true)
    (c23 : W.codeIn K cd23 "known_values" = true)
    (k23 : W.keepIn K (.ref f23) = true)
    (c24 : W.codeIn K cd24 "BadPiece.__init__" = true)
    (k24 : W.keepIn K (.ref f24) = true)
    (c25 : W.codeIn K cd25 "piece_of" = true)
    (k25 : W.keepIn K (.ref f25) = true)
    (c26 : W.codeIn K cd26 "pieces_of" = true)
    (k26 : W.keepIn K (.ref f26) = true)
    (c27 : W.codeIn K cd27 "gathered" = true)
    (k27 : W.keepIn K (.ref f27) = true)
    (c28 : W.codeIn K (.ref cc28) "_law_right" = true)
    (k28 : W.keepIn K (.ref f28) = true)
    (tn28 : K.lookup pt28 = none)
    (rf28 : ((PyProof.Rows.recsOf qq).find? (fun e => e.name == ("_law_right" : Str))).isSome = true)
    (c29 : W.codeIn K cd29 "law" = true)
    (k29 : W.keepIn K (.ref f29) = true)
    (xisf : isfB K [("CallError", C_CallError), ("BadCall", C_BadCall), ("BadPiece", C_BadPiece), ("Repeated", C_Repeated), ("Call", C_Call)] ["BadPiece", "Repeated", "Call"] ["bool", "dict", "int", "list", "str", "tuple"] = true)
    (eq1 : eqB K [("CallError", C_CallError), ("BadCall", C_BadCall), ("BadPiece", C_BadPiece), ("Repeated", C_Repeated), ("Call", C_Call)] C_Call = true)
    (no1 : Cs.zi7 K C_Call f1 = true)
    (xxm_CallError : xmB K [("CallError", C_CallError), ("BadCall", C_BadCall), ("BadPiece", C_BadPiece), ("Repeated", C_Repeated), ("Call", C_Call)] "CallError" C_CallError = true)
    (xcl_Call : clsB K C_Call = true)
    (xno : noB K [(C_Call, "kept_given"), (C_Call, "kept_named"), (C_Repeated, "name"), (C_BadPiece, "index")] = true)
    (xcr_CallError : crB K C_CallError = true)
    (xcr_Call : crB K C_Call = true)
    (ze2 : W.excIn K C_BadCall [.type "ValueError", .type "Exception", .type "BaseException", .type "object"] "ValueError.__new__" = true)
    (zeh : W.keepIn K (.ref C_BadCall) = true)
    (zec : W.subIn K (.ref C_BadCall) (.type "BaseException") = some true)
    (zeb : W.typeIn K (.ref C_BadCall) = some (.type "type"))
    (xx_BadPiece : zur K C_BadPiece)
    (xs_BadPiece : W.findIn K (.ref C_BadPiece) "__setattr__" = some (some (.builtin "object.__setattr__")))
    (sb_BadPiece : W.subIn K (.ref C_BadPiece) (.type "BaseException") = some true)
    (ty_BadPiece : W.typeIn K (.ref C_BadPiece) = some (.type "type"))
    (kp_BadPiece : W.keepIn K (.ref C_BadPiece) = true)
    (xx_Repeated : zur K C_Repeated)
    (xs_Repeated : W.findIn K (.ref C_Repeated) "__setattr__" = some (some (.builtin "object.__setattr__")))
    (sb_Repeated : W.subIn K (.ref C_Repeated) (.type "BaseException") = some true)
    (ty_Repeated : W.typeIn K (.ref C_Repeated) = some (.type "type"))
    (kp_Repeated : W.keepIn K (.ref C_Repeated) = true)
    (bi : W.findCls K (.ref C_CallError) (.type "type") "__init__" = some (.val (.builtin "ValueError.__init__")))
    (d3_LATEST : W.KeysLit w.params es_LATEST.toList)
    (d4_LATEST_value : W.nsIn K D_LATEST "value" = some (some (.int 0 tk_LATEST_value)))
    (d4_LATEST_star : W.nsIn K D_LATEST "star" = some (some (.int 1 tk_LATEST_star)))
    (d4_LATEST_name : W.nsIn K D_LATEST "name" = some (some (.int 2 tk_LATEST_name)))
    (d4_LATEST_double : W.nsIn K D_LATEST "double" = some (some (.int 2 tk_LATEST_double)))
    (d3_RANKS : W.KeysLit w.params es_RANKS.toList)
    (d4_RANKS_value : W.nsIn K D_RANKS "value" = some (some (.int 0 tk_RANKS_value)))
    (d4_RANKS_star : W.nsIn K D_RANKS "star" = some (some (.int 0 tk_RANKS_star)))
    (d4_RANKS_name : W.nsIn K D_RANKS "name" = some (some (.int 1 tk_RANKS_name)))
    (d4_RANKS_double : W.nsIn K D_RANKS "double" = some (some (.int 2 tk_RANKS_double)))
    (v_LONGEST_NAME : W.nsIn K mainGlobals "LONGEST_NAME" = some (some (.int 6 tk_LONGEST_NAME)))
    (v_MOST_VALUE : W.nsIn K mainGlobals "MOST_VALUE" = some (some (.int 999 tk_MOST_VALUE)))
    (z_all : W.nsIn K mainGlobals "all" = some none)
    (z_bool : W.nsIn K mainGlobals "bool" = some none)
    (z_dict : W.nsIn K mainGlobals "dict" = some none)
    (z_enumerate : W.nsIn K mainGlobals "enumerate" = some none)
    (z_int : W.nsIn K mainGlobals "int" = some none)
    (z_isinstance : W.nsIn K mainGlobals "isinstance" = some none)
    (z_len : W.nsIn K mainGlobals "len" = some none)
    (z_list : W.nsIn K mainGlobals "list" = some none)
    (z_max : W.nsIn K mainGlobals "max" = some none)
    (z_range : W.nsIn K mainGlobals "range" = some none)
    (z_repr : W.nsIn K mainGlobals "repr" = some none)
    (z_sorted : W.nsIn K mainGlobals "sorted" = some none)
    (z_str : W.nsIn K mainGlobals "str" = some none)
    (z_tuple : W.nsIn K mainGlobals "tuple" = some none) :
    ∃ (fd : FuncData) (cs : List (Addr × Addr)) (ts : List (Addr × Str)), ts.map (·.1) = cs.map (·.2) ∧ (∀ p ∈ cs, K.lookup p.2 = none ∧ ∃ (y : Str) (e : DefRec), (PyProof.Rows.recsOf qq).find? (fun e => e.name == y) = some e ∧ W.tabIn K y = some p) ∧
      (∀ (s : Shared) (v : Value), BindsTo s fd ⟨[v], []⟩ [("_law_script", v)]) ∧ ∀ base : Heap, K.In base → base.Ns mainGlobals mg → (∀ p ∈ cs, LamX.TabB base mg p.1 p.2) → Cs.FnG l.prog w K mg base CX0 10 fa fd ["_law_script"] (zpc K ts) := by
  have e := (W.mg_of X G a29).symm.trans hfa
  obtain rfl : f29 = fa := by cases e; rfl
  refine ⟨W.fnOf "law" "law" (defArgs s_law) (defBody s_law) (defScope s_law) .none kV29 dc29 pm29 an29 cd29 ct29, [(cc28, pt28)], [(pt28, ((("_law_right" : Str) ++ ".<locals>.") ++ "<lambda>"))], rfl, (by
    intro p hp
    simp only [List.mem_cons, List.not_mem_nil, or_false] at hp
    rcases hp with rfl
    · exact ⟨tn28, "_law_right", Option.isSome_iff_exists.mp rf28 |>.choose, Option.isSome_iff_exists.mp rf28 |>.choose_spec, ti28⟩), fun s v => .of_eq rfl, fun base _ _ htb => ?_⟩
  let T : Tx K mg w base := {
    zbn := C_CallError,
    zh9 := W.mg_of X G a_CallError,
    zbz := C_BadCall,
    znp := W.mg_of X G a_BadCall,
    zbj := C_BadPiece,
    zi0 := W.mg_of X G a_BadPiece,
    zbi := C_Repeated,
    zma := W.mg_of X G a_Repeated,
    zbt := C_Call,
    zhd := W.mg_of X G a_Call,
    zde := ⟨q11, q21⟩,
    zes := f1,
    zhi := _,
    zon := fun_mk (st := zc4) l1 c1 k1,
    zd0 := (fun_mk (st := zc4) l1 c1 k1).binds (ps := ["self", "other"]) fun _ _ _ _ _ _ us hl => match us, hl with | [_, _], _ => rfl,
    zhb := W.mg_of X G a2,
    zg8 := k2,
    zhm := f2,
    zic := _,
    zqr := fun_mk (st := zdu) l2 c2 k2,
    zb4 := (fun_mk (st := zdu) l2 c2 k2).binds (ps := ["value"]) fun _ _ _ _ _ _ us hl => match us, hl with | [_], _ => rfl,
    zhc := W.mg_of X G a3,
    zg9 := k3,
    zfp := f3,
    zgl := _,
    zny := fun_mk (st := zb9) l3 c3 k3,
    zbm := (fun_mk (st := zb9) l3 c3 k3).binds (ps := ["value"]) fun _ _ _ _ _ _ us hl => match us, hl with | [_], _ => rfl,
    zh8 := W.mg_of X G a4,
    zh6 := k4,
    zgj := f4,
    zhg := _,
    zol := fun_mk (st := zci) l4 c4 k4,
    zb0 := (fun_mk (st := zci) l4 c4 k4).binds (ps := ["table"]) fun _ _ _ _ _ _ us hl => match us, hl with | [_], _ => rfl,
    znn := W.mg_of X G a5,
    znk := k5,
    zio := f5,
    zi1 := _,
    zsb := fun_mk (st := zdz) l5 c5 k5,
    zdf := (fun_mk (st := zdz) l5 c5 k5).binds (ps := ["value"]) fun _ _ _ _ _ _ us hl => match us, hl with | [_], _ => rfl,
    ziz := W.mg_of X G a6,
    ziy := k6,
    zhn := f6,
    zid := _,
    zqs := fun_mk (st := zc1) l6 c6 k6,
    zbw := (fun_mk (st := zc1) l6 c6 k6).binds (ps := ["value"]) fun _ _ _ _ _ _ us hl => match us, hl with | [_], _ => rfl,
    zq4 := zae4 mk7,
    zgn := f7,
    zlj := _,
    zmt := fun_mk (st := zcr) l7 c7 k7,
    zpn := pc8,
    zf3 := ⟨o18, ⟨_, o28⟩, o38⟩,
    zir := f8,
    zi3 := _,
    zsd := fun_mk (st := zed) l8 c8 k8,
    zen := (fun_mk (st := zed) l8 c8 k8).binds (ps := ["cls", "values", "named"]) fun _ _ _ _ _ _ us hl => match us, hl with | [_, _, _], _ => rfl,
    zt5 := W.mg_of X G a9,
    ztw := k9,
    zj1 := f9,
    zke := _,
    zuu := fun_mk (st := ze6) l9 c9 k9,
    zjz := (fun_mk (st := ze6) l9 c9 k9).binds (ps := ["_law_cell", "_law_turn"]) fun _ _ _ _ _ _ us hl => match us, hl with | [_, _], _ => rfl,
    zwp := W.mg_of X G a10,
    zwe := k10,
    zlu := f10,
    zmf := _,
    zxe := fun_mk (st := zff) l10 c10 k10,
    zjg := (fun_mk (st := zff) l10 c10 k10).binds (ps := ["_law_pool_here", "_law_many"]) fun _ _ _ _ _ _ us hl => match us, hl with | [_, _], _ => rfl,
    zcz := W.mg_of X G a11,
    zcy := k11,
    zlv := f11,
    zmg := _,
    zxf := fun_mk (st := zfw) l11 c11 k11,
    zb6 := (fun_mk (st := zfw) l11 c11 k11).binds (ps := ["_law_state", "_law_size"]) fun _ _ _ _ _ _ us hl => match us, hl with | [_, _], _ => rfl,
    zjb := W.mg_of X G a12,
    zja := k12,
    zlt := f12,
    zme := _,
    zxd := fun_mk (st := zfv) l12 c12 k12,
    zf4 := (fun_mk (st := zfv) l12 c12 k12).binds (ps := ["_law_state", "_law_items"]) fun _ _ _ _ _ _ us hl => match us, hl with | [_, _], _ => rfl,
    zkt := W.mg_of X G a13,
    zkr := k13,
    zgk := f13,
    zhh := _,
    zom := fun_mk (st := zc3) l13 c13 k13,
    zfg := (fun_mk (st := zc3) l13 c13 k13).binds (ps := ["_law_state", "_law_items"]) fun _ _ _ _ _ _ us hl => match us, hl with | [_, _], _ => rfl,
    zr5 := W.mg_of X G a14,
    zr2 := k14,
    ziq := f14,
    zi2 := _,
    zsc := fun_mk (st := zcq) l14 c14 k14,
    zg0 := (fun_mk (st := zcq) l14 c14 k14).binds (ps := ["_law_state", "_law_pool_here", "_law_is_open"]) fun _ _ _ _ _ _ us hl => match us, hl with | [_, _, _], _ => rfl,
    zwo := W.mg_of X G a15,
    zwd := k15,
    zls := f15,
    zmd := _,
    zxc := fun_mk (st := zfu) l15 c15 k15,
    zjf := (fun_mk (st := zfu) l15 c15 k15).binds (ps := ["_law_state"]) fun _ _ _ _ _ _ us hl => match us, hl with | [_], _ => rfl,
    zmp := pp16,
    zmo := ⟨p116, p216, p316, ⟨_, p416⟩⟩,
    zhp := f16,
    zgm := _,
    znz := fun_mk (st := zck) l16 c16 k16,
    zdg := (fun_mk (st := zck) l16 c16 k16).binds (ps := ["self"]) fun _ _ _ _ _ _ us hl => match us, hl with | [_], _ => rfl,
    zwn := W.mg_of X G a17,
    zwc := k17,
    zlr := f17,
    zmc := _,
    zxb := fun_mk (st := zft) l17 c17 k17,
    zje := (fun_mk (st := zft) l17 c17 k17).binds (ps := ["_law_things"]) fun _ _ _ _ _ _ us hl => match us, hl with | [_], _ => rfl,
    zwm := W.mg_of X G a18,
    zwb := k18,
    zoc := f18,
    zo5 := _,
    zxa := fun_mk (st := zfs) l18 c18 k18,
    zh0 := (fun_mk (st := zfs) l18 c18 k18).binds (ps := ["_law_work"]) fun _ _ _ _ _ _ us hl => match us, hl with | [_], _ => rfl,
    zt3 := W.mg_of X G a19,
    ztu := k19,
    zj0 := f19,
    zkc := _,
    zus := fun_mk (st := ze5) l19 c19 k19,
    zfo := (fun_mk (st := ze5) l19 c19 k19).binds (ps := ["_law_things"]) fun _ _ _ _ _ _ us hl => match us, hl with | [_], _ => rfl,
    zoi := in20,
    zoe := ti20,
    zdq := f20,
    zek := _,
    ziv := fun_mk (st := zbf) l20 c20 k20,
    ziu := (fun_mk (st := zbf) l20 c20 k20).binds (ps := ["self", "name"]) fun _ _ _ _ _ _ us hl => match us, hl with | [_, _], _ => rfl,
    zp9 := W.mg_of X G a21,
    zp6 := k21,
    zhl := f21,
    zib := _,
    zqq := fun_mk (st := zdt) l21 c21 k21,
    zco := (fun_mk (st := zdt) l21 c21 k21).binds (ps := ["piece"]) fun _ _ _ _ _ _ us hl => match us, hl with | [_], _ => rfl,
    zmr := W.mg_of X G a22,
    zmq := k22,
    zfd := f22,
    zf1 := _,
    zms := fun_mk (st := zcb) l22 c22 k22,
    zcs := (fun_mk (st := zcb) l22 c22 k22).binds (ps := ["pieces"]) fun _ _ _ _ _ _ us hl => match us, hl with | [_], _ => rfl,
    zlg := W.mg_of X G a23,
    zlf := k23,
    ze1 := f23,
    zfh := _,
    zlx := fun_mk (st := zb2) l23 c23 k23,
    zcg := (fun_mk (st := zb2) l23 c23 k23).binds (ps := ["pieces"]) fun _ _ _ _ _ _ us hl => match us, hl with | [_], _ => rfl,
    zks := in24,
    zkk := ti24,
    zdr := f24,
    zel := _,
    ziw := fun_mk (st := zbg) l24 c24 k24,
    zf6 := (fun_mk (st := zbg) l24 c24 k24).binds (ps := ["self", "index"]) fun _ _ _ _ _ _ us hl => match us, hl with | [_, _], _ => rfl,
    zp8 := W.mg_of X G a25,
    zp5 := k25,
    zhk := f25,
    zia := _,
    zqp := fun_mk (st := zds) l25 c25 k25,
    zb3 := (fun_mk (st := zds) l25 c25 k25).binds (ps := ["value", "is_site"]) fun _ _ _ _ _ _ us hl => match us, hl with | [_, _], _ => rfl,
    zoj := W.mg_of X G a26,
    zoh := k26,
    zgi := f26,
    zhf := _,
    zok := fun_mk (st := zc0) l26 c26 k26,
    zc8 := (fun_mk (st := zc0) l26 c26 k26).binds (ps := ["value", "is_site"]) fun _ _ _ _ _ _ us hl => match us, hl with | [_, _], _ => rfl,
    zf0 := W.mg_of X G a27,
    zfz := k27,
    zho := f27,
    zgg := _,
    zqt := fun_mk (st := zc2) l27 c27 k27,
    zcp := (fun_mk (st := zc2) l27 c27 k27).binds (ps := ["pieces"]) fun _ _ _ _ _ _ us hl => match us, hl with | [_], _ => rfl,
    zg7 := kb_of (fun_mk (st := zc2) l27 c27 k27) (ps := ["pieces"]) (ks := ["pieces"]) (n := 0) (ix := [0]) (by simp) fun _ _ _ _ _ _ us ws h1 h2 => match us, h1, ws, h2 with | [], _, [_], _ => rfl,
    zt4 := W.mg_of X G a28,
    ztv := k28,
    zh2 := f28,
    zkd := _,
    zkh := cc28,
    zgv := pt28,
    zut := zwq (st := zcv) l28 c28,
    zrm := htb (cc28, pt28) (by simp),
    zh1 := ((zwq (st := zcv) l28 c28).fn k28).binds (ps := ["_law_state", "_law_things"]) fun _ _ _ _ _ _ us hl => match us, hl with | [_, _], _ => rfl,
    g_law := W.mg_of X G a29,
    k_law := k29,
    a_law := f29,
    zqb := _,
    F_law := fun_mk (st := s_law) l29 c29 k29,
    b_law := (fun_mk (st := s_law) l29 c29 k29).binds (ps := ["_law_script"]) fun _ _ _ _ _ _ us hl => match us, hl with | [_], _ => rfl,
    isf := fun _ => zadl xisf,
    znq := fun _ => zafo eq1,
    zev := no1,
    zmu := zad9 xxm_CallError,
    zob := zw4 xcl_Call,
    zii := zpu xno (by simp),
    zih := zpu xno (by simp),
    zgp := zpu xno (by simp),
    zf5 := zpu xno (by simp),
    zjy := zaam xcr_CallError,
    zjd := zaam xcr_Call,
    ze2 := ze2,
    zeh := zeh,
    zec := zec,
    zeb := zeb,
    zf7 := ⟨xx_BadPiece, xs_BadPiece, sb_BadPiece, ty_BadPiece, kp_BadPiece⟩,
    zkp := ⟨xx_Repeated, xs_Repeated, sb_Repeated, ty_Repeated, kp_Repeated⟩,
    bi := bi,
    zo8 := D_LATEST,
    zt6 := W.mg_of X G d1_LATEST,
    zri := zx1 d2_LATEST d3_LATEST (by unfold zfq; simp only [WrE]; exact ⟨⟨_, d4_LATEST_value⟩, ⟨_, d4_LATEST_star⟩, ⟨_, d4_LATEST_name⟩, ⟨_, d4_LATEST_double⟩, trivial⟩),
    zre := D_RANKS,
    zwl := W.mg_of X G d1_RANKS,
    zsl := zx1 d2_RANKS d3_RANKS (by unfold zgt; simp only [WrE]; exact ⟨⟨_, d4_RANKS_value⟩, ⟨_, d4_RANKS_star⟩, ⟨_, d4_RANKS_name⟩, ⟨_, d4_RANKS_double⟩, trivial⟩),
    zky := tk_LONGEST_NAME,
    zlh := W.mg_of X G v_LONGEST_NAME,
    zmx := tk_MOST_VALUE,
    zno := W.mg_of X G v_MOST_VALUE,
    n_all := W.mg_none_of X G z_all,
    zy6 := W.mg_none_of X G z_bool,
    zpw := W.mg_none_of X G z_dict,
    zh5 := W.mg_none_of X G z_enumerate,
    n_int := W.mg_none_of X G z_int,
    za8 := W.mg_none_of X G z_isinstance,
    n_len := W.mg_none_of X G z_len,
    zf9 := W.mg_none_of X G z_list,
    n_max := W.mg_none_of X G z_max,
    zfx := W.mg_none_of X G z_range,
    ztd := W.mg_none_of X G z_repr,
    zot := W.mg_none_of X G z_sorted,
    n_str := W.mg_none_of X G z_str,
    zhu := W.mg_none_of X G z_tuple}
  exact ok_law T hm
end
end K04
namespace K04
open PySem PySem.Spec PyProof.Rows L2 Mi
theorem zafi (hm : ∀ ns : List Int, ns.length ≤ 63 → ∃ μ, m_law [.lst (ns.map D.int)] [] = .ok (.bl true) μ) {l : W.OpenLaw} {qq : Program} {w : World} {K : W.Frag} {h : Heap} {mg : Str → Option Value} {fa : Addr} (X : K.In h) (G : h.Ns mainGlobals mg) (hfa : mg "law" = some (.ref fa)) (c : obsH hEx hFs hDs K = valH hFs hDs w) (hrf28 : ((PyProof.Rows.recsOf qq).find? (fun e => e.name == ("_law_right" : Str))).isSome = true) :
    ∃ (fd : FuncData) (cs : List (Addr × Addr)) (ts : List (Addr × Str)), ts.map (·.1) = cs.map (·.2) ∧ (∀ p ∈ cs, K.lookup p.2 = none ∧ ∃ (y : Str) (e : DefRec), (PyProof.Rows.recsOf qq).find? (fun e => e.name == y) = some e ∧ W.tabIn K y = some p) ∧
      (∀ (s : Shared) (v : Value), BindsTo s fd ⟨[v], []⟩ [("_law_script", v)]) ∧ ∀ base : Heap, K.In base → base.Ns mainGlobals mg → (∀ p ∈ cs, LamX.TabB base mg p.1 p.2) → Cs.FnG l.prog w K mg base CX0 10 fa fd ["_law_script"] (zpc K ts) := by
  obtain ⟨oc1, od1, sl1, kV1, dc1, pm1, an1, cd1, ct1, lx1, cx1⟩ := za2 (st := zc4) (fX c 0) (eX (b := cdB K (xF1 K) "Call.__eq__") c 7)
  obtain ⟨oc2, od2, sl2, kV2, dc2, pm2, an2, cd2, ct2, lx2, cx2⟩ := za2 (st := zdu) (fX c 1) (eX (b := cdB K (xF2 K) "is_value") c 10)
  obtain ⟨oc3, od3, sl3, kV3, dc3, pm3, an3, cd3, ct3, lx3, cx3⟩ := za2 (st := zb9) (fX c 2) (eX (b := cdB K (xF3 K) "are_values") c 13)
  obtain ⟨oc4, od4, sl4, kV4, dc4, pm4, an4, cd4, ct4, lx4, cx4⟩ := za2 (st := zci) (fX c 3) (eX (b := cdB K (xF4 K) "ascending") c 16)
  obtain ⟨oc5, od5, sl5, kV5, dc5, pm5, an5, cd5, ct5, lx5, cx5⟩ := za2 (st := zdz) (fX c 4) (eX (b := cdB K (xF5 K) "is_name") c 19)
  obtain ⟨oc6, od6, sl6, kV6, dc6, pm6, an6, cd6, ct6, lx6, cx6⟩ := za2 (st := zc1) (fX c 5) (eX (b := cdB K (xF6 K) "is_table") c 22)
  obtain ⟨oc7, od7, sl7, kV7, dc7, pm7, an7, cd7, ct7, lx7, cx7⟩ := za2 (st := zcr) (fX c 6) (eX (b := cdB K (xF7 K) "Call.__init__") c 26)
  obtain ⟨oc8, od8, sl8, kV8, dc8, pm8, an8, cd8, ct8, lx8, cx8⟩ := za2 (st := zed) (fX c 7) (eX (b := cdB K (xF8 K) "Call.of") c 31)
  obtain ⟨oc9, od9, sl9, kV9, dc9, pm9, an9, cd9, ct9, lx9, cx9⟩ := za2 (st := ze6) (fX c 8) (eX (b := cdB K (xF9 K) "_law_begin") c 34)
  obtain ⟨oc10, od10, sl10, kV10, dc10, pm10, an10, cd10, ct10, lx10, cx10⟩ := za2 (st := zff) (fX c 9) (eX (b := cdB K (xF10 K) "_law_long") c 37)
  obtain ⟨oc11, od11, sl11, kV11, dc11, pm11, an11, cd11, ct11, lx11, cx11⟩ := za2 (st := zfw) (fX c 10) (eX (b := cdB K (xF11 K) "_law_draw") c 40)
  obtain ⟨oc12, od12, sl12, kV12, dc12, pm12, an12, cd12, ct12, lx12, cx12⟩ := za2 (st := zfv) (fX c 11) (eX (b := cdB K (xF12 K) "_law_pick") c 43)
  obtain ⟨oc13, od13, sl13, kV13, dc13, pm13, an13, cd13, ct13, lx13, cx13⟩ := za2 (st := zc3) (fX c 12) (eX (b := cdB K (xF13 K) "_law_shuffled") c 46)
  obtain ⟨oc14, od14, sl14, kV14, dc14, pm14, an14, cd14, ct14, lx14, cx14⟩ := za2 (st := zcq) (fX c 13) (eX (b := cdB K (xF14 K) "_law_pieces") c 49)
  obtain ⟨oc15, od15, sl15, kV15, dc15, pm15, an15, cd15, ct15, lx15, cx15⟩ := za2 (st := zfu) (fX c 14) (eX (b := cdB K (xF15 K) "_law_pool") c 52)
  obtain ⟨oc16, od16, sl16, kV16, dc16, pm16, an16, cd16, ct16, lx16, cx16⟩ := za2 (st := zck) (fX c 15) (eX (b := cdB K (xF16 K) "Call.shape") c 58)
  obtain ⟨oc17, od17, sl17, kV17, dc17, pm17, an17, cd17, ct17, lx17, cx17⟩ := za2 (st := zft) (fX c 16) (eX (b := cdB K (xF17 K) "_law_sums") c 61)
  obtain ⟨oc18, od18, sl18, kV18, dc18, pm18, an18, cd18, ct18, lx18, cx18⟩ := za2 (st := zfs) (fX c 17) (eX (b := cdB K (xF18 K) "_law_told") c 64)
  obtain ⟨oc19, od19, sl19, kV19, dc19, pm19, an19, cd19, ct19, lx19, cx19⟩ := za2 (st := ze5) (fX c 18) (eX (b := cdB K (xF19 K) "_law_twice") c 67)
  obtain ⟨oc20, od20, sl20, kV20, dc20, pm20, an20, cd20, ct20, lx20, cx20⟩ := za2 (st := zbf) (fX c 19) (eX (b := cdB K (xF20 K) "Repeated.__init__") c 71)
  obtain ⟨oc21, od21, sl21, kV21, dc21, pm21, an21, cd21, ct21, lx21, cx21⟩ := za2 (st := zdt) (fX c 20) (eX (b := cdB K (xF21 K) "names_of") c 74)
  obtain ⟨oc22, od22, sl22, kV22, dc22, pm22, an22, cd22, ct22, lx22, cx22⟩ := za2 (st := zcb) (fX c 21) (eX (b := cdB K (xF22 K) "known_names") c 77)
  obtain ⟨oc23, od23, sl23, kV23, dc23, pm23, an23, cd23, ct23, lx23, cx23⟩ := za2 (st := zb2) (fX c 22) (eX (b := cdB K (xF23 K) "known_values") c 80)
  obtain ⟨oc24, od24, sl24, kV24, dc24, pm24, an24, cd24, ct24, lx24, cx24⟩ := za2 (st := zbg) (fX c 23) (eX (b := cdB K (xF24 K) "BadPiece.__init__") c 84)
  obtain ⟨oc25, od25, sl25, kV25, dc25, pm25, an25, cd25, ct25, lx25, cx25⟩ := za2 (st := zds) (fX c 24) (eX (b := cdB K (xF25 K) "piece_of") c 87)
  obtain ⟨oc26, od26, sl26, kV26, dc26, pm26, an26, cd26, ct26, lx26, cx26⟩ := za2 (st := zc0) (fX c 25) (eX (b := cdB K (xF26 K) "pieces_of") c 90)
  obtain ⟨oc27, od27, sl27, kV27, dc27, pm27, an27, cd27, ct27, lx27, cx27⟩ := za2 (st := zc2) (fX c 26) (eX (b := cdB K (xF27 K) "gathered") c 93)
  obtain ⟨oc28, od28, sl28, kV28, dc28, pm28, an28, cd28, ct28, lx28, cx28⟩ := za2 (st := zcv) (fX c 27) (eX (b := cdB K (xF28 K) "_law_right") c 96)
  have tc28 : cd28 = .ref (ccA K "_law_right") := zaa7 (zso (eX (b := (W.tabIn K "_law_right").isSome) c 97)) (He.eqO_ok (eX (b := He.eqO (W.nsIn K mainGlobals "_law_right") (some (some (.ref (xF28 K))))) c 98)) lx28
  subst tc28
  obtain ⟨oc29, od29, sl29, kV29, dc29, pm29, an29, cd29, ct29, lx29, cx29⟩ := za2 (st := s_law) (fX c 28) (eX (b := cdB K (xF29 K) "law") c 103)
  obtain ⟨es_LATEST, nn_LATEST, kd_LATEST⟩ := dX c 0
  obtain ⟨tk_LATEST_value, htk_LATEST_value⟩ := zgf (eX (b := hdI (W.nsIn K (zdy K) "value") 0) c 129)
  obtain ⟨tk_LATEST_star, htk_LATEST_star⟩ := zgf (eX (b := hdI (W.nsIn K (zdy K) "star") 1) c 130)
  obtain ⟨tk_LATEST_name, htk_LATEST_name⟩ := zgf (eX (b := hdI (W.nsIn K (zdy K) "name") 2) c 131)
  obtain ⟨tk_LATEST_double, htk_LATEST_double⟩ := zgf (eX (b := hdI (W.nsIn K (zdy K) "double") 2) c 132)
  obtain ⟨es_RANKS, nn_RANKS, kd_RANKS⟩ := dX c 1
  obtain ⟨tk_RANKS_value, htk_RANKS_value⟩ := zgf (eX (b := hdI (W.nsIn K (zeo K) "value") 0) c 134)
  obtain ⟨tk_RANKS_star, htk_RANKS_star⟩ := zgf (eX (b := hdI (W.nsIn K (zeo K) "star") 0) c 135)
  obtain ⟨tk_RANKS_name, htk_RANKS_name⟩ := zgf (eX (b := hdI (W.nsIn K (zeo K) "name") 1) c 136)
  obtain ⟨tk_RANKS_double, htk_RANKS_double⟩ := zgf (eX (b := hdI (W.nsIn K (zeo K) "double") 2) c 137)
  obtain ⟨tk_LONGEST_NAME, htk_LONGEST_NAME⟩ := zgf (eX (b := hdI (W.nsIn K mainGlobals "LONGEST_NAME") 6) c 138)
  obtain ⟨tk_MOST_VALUE, htk_MOST_VALUE⟩ := zgf (eX (b := hdI (W.nsIn K mainGlobals "MOST_VALUE") 999) c 139)
  refine' K04.all_mk hm X G hfa (a_CallError := ?a_CallError) (a_BadCall := ?a_BadCall) (a_BadPiece := ?a_BadPiece) (a_Repeated := ?a_Repeated) (a_Call := ?a_Call) (q11 := ?q11) (q21 := ?q21) (l1 := ?l1) (c1 := ?c1) (k1 := ?k1) (a2 := ?a2) (l2 := ?l2) (c2 := ?c2) (k2 := ?k2) (a3 := ?a3) (l3 := ?l3) (c3 := ?c3) (k3 := ?k3) (a4 := ?a4) (l4 := ?l4) (c4 := ?c4) (k4 := ?k4) (a5 := ?a5) (l5 := ?l5) (c5 := ?c5) (k5 := ?k5) (a6 := ?a6) (l6 := ?l6) (c6 := ?c6) (k6 := ?k6) (in7 := ?in7) (mk7 := ?mk7) (l7 := ?l7) (c7 := ?c7) (k7 := ?k7) (o18 := ?o18) (o28 := ?o28) (o38 := ?o38) (l8 := ?l8) (c8 := ?c8) (k8 := ?k8) (a9 := ?a9) (l9 := ?l9) (c9 := ?c9) (k9 := ?k9) (a10 := ?a10) (l10 := ?l10) (c10 := ?c10) (k10 := ?k10) (a11 := ?a11) (l11 := ?l11) (c11 := ?c11) (k11 := ?k11) (a12 := ?a12) (l12 := ?l12) (c12 := ?c12) (k12 := ?k12) (a13 := ?a13) (l13 := ?l13) (c13 := ?c13) (k13 := ?k13) (a14 := ?a14) (l14 := ?l14) (c14 := ?c14) (k14 := ?k14) (a15 := ?a15) (l15 := ?l15) (c15 := ?c15) (k15 := ?k15) (p116 := ?p116) (p216 := ?p216) (p316 := ?p316) (p416 := ?p416) (l16 := ?l16) (c16 := ?c16) (k16 := ?k16) (a17 := ?a17) (l17 := ?l17) (c17 := ?c17) (k17 := ?k17) (a18 := ?a18) (l18 := ?l18) (c18 := ?c18) (k18 := ?k18) (a19 := ?a19) (l19 := ?l19) (c19 := ?c19) (k19 := ?k19) (in20 := ?in20) (ti20 := ?ti20) (l20 := ?l20) (c20 := ?c20) (k20 := ?k20) (a21 := ?a21) (l21 := ?l21) (c21 := ?c21) (k21 := ?k21) (a22 := ?a22) (l22 := ?l22) (c22 := ?c22) (k22 := ?k22) (a23 := ?a23) (l23 := ?l23) (c23 := ?c23) (k23 := ?k23) (in24 := ?in24) (ti24 := ?ti24) (l24 := ?l24) (c24 := ?c24) (k24 := ?k24) (a25 := ?a25) (l25 := ?l25) (c25 := ?c25) (k25 := ?k25) (a26 := ?a26) (l26 := ?l26) (c26 := ?c26) (k26 := ?k26) (a27 := ?a27) (l27 := ?l27) (c27 := ?c27) (k27 := ?k27) (a28 := ?a28) (l28 := ?l28) (c28 := ?c28) (k28 := ?k28) (tn28 := ?tn28) (ti28 := ?ti28) (rf28 := ?rf28) (a29 := ?a29) (l29 := ?l29) (c29 := ?c29) (k29 := ?k29) (xisf := ?xisf) (eq1 := ?eq1) (no1 := ?no1) (xxm_CallError := ?xxm_CallError) (xcl_Call := ?xcl_Call) (xno := ?xno) (xcr_CallError := ?xcr_CallError) (xcr_Call := ?xcr_Call) (ze2 := ?ze2) (zeh := ?zeh) (zec := ?zec) (zeb := ?zeb) (xx_BadPiece := ?xx_BadPiece) (xs_BadPiece := ?xs_BadPiece) (sb_BadPiece := ?sb_BadPiece) (ty_BadPiece := ?ty_BadPiece) (kp_BadPiece := ?kp_BadPiece) (xx_Repeated := ?xx_Repeated) (xs_Repeated := ?xs_Repeated) (sb_Repeated := ?sb_Repeated) (ty_Repeated := ?ty_Repeated) (kp_Repeated := ?kp_Repeated) (bi := ?bi) (d1_LATEST := ?d1_LATEST) (d2_LATEST := ?d2_LATEST) (d3_LATEST := ?d3_LATEST) (d4_LATEST_value := ?d4_LATEST_value) (d4_LATEST_star := ?d4_LATEST_star) (d4_LATEST_name := ?d4_LATEST_name) (d4_LATEST_double := ?d4_LATEST_double) (d1_RANKS := ?d1_RANKS) (d2_RANKS := ?d2_RANKS) (d3_RANKS := ?d3_RANKS) (d4_RANKS_value := ?d4_RANKS_value) (d4_RANKS_star := ?d4_RANKS_star) (d4_RANKS_name := ?d4_RANKS_name) (d4_RANKS_double := ?d4_RANKS_double) (v_LONGEST_NAME := ?v_LONGEST_NAME) (v_MOST_VALUE := ?v_MOST_VALUE) (z_all := ?z_all) (z_bool := ?z_bool) (z_dict := ?z_dict) (z_enumerate := ?z_enumerate) (z_int := ?z_int) (z_isinstance := ?z_isinstance) (z_len := ?z_len) (z_list := ?z_list) (z_max := ?z_max) (z_range := ?z_range) (z_repr := ?z_repr) (z_sorted := ?z_sorted) (z_str := ?z_str) (z_tuple := ?z_tuple)
  (case a_CallError => exact He.eqO_ok (eX c 0))
  (case a_BadCall => exact He.eqO_ok (eX c 1))
  (case a_BadPiece => exact He.eqO_ok (eX c 2))
  (case a_Repeated => exact He.eqO_ok (eX c 3))
  (case a_Call => exact He.eqO_ok (eX c 4))
  (case q11 => exact He.eqO_ok (eX c 5))
  (case q21 => exact (eX c 6))
  (case l1 => exact lx1)
  (case c1 => exact cx1)
  (case k1 => exact (eX c 8))
  (case a2 => exact He.eqO_ok (eX c 9))
  (case l2 => exact lx2)
  (case c2 => exact cx2)
  (case k2 => exact (eX c 11))
  (case a3 => exact He.eqO_ok (eX c 12))
  (case l3 => exact lx3)
  (case c3 => exact cx3)
  (case k3 => exact (eX c 14))
  (case a4 => exact He.eqO_ok (eX c 15))
  (case l4 => exact lx4)
  (case c4 => exact cx4)
  (case k4 => exact (eX c 17))
  (case a5 => exact He.eqO_ok (eX c 18))
  (case l5 => exact lx5)
  (case c5 => exact cx5)
  (case k5 => exact (eX c 20))
  (case a6 => exact He.eqO_ok (eX c 21))
  (case l6 => exact lx6)
  (case c6 => exact cx6)
  (case k6 => exact (eX c 23))
  (case in7 => exact He.eqO_ok (eX c 24))
  (case mk7 => exact (eX c 25))
  (case l7 => exact lx7)
  (case c7 => exact cx7)
  (case k7 => exact (eX c 27))
  (case o18 => exact zafg (eX (b := hdG (W.findCls K (.ref (zb1 K)) (.type "type") "of") (zb1 K)) c 28))
  (case o28 => exact rB_ok (eX c 29))
  (case o38 => exact (eX c 30))
  (case l8 => exact lx8)
  (case c8 => exact cx8)
  (case k8 => exact (eX c 32))
  (case a9 => exact He.eqO_ok (eX c 33))
  (case l9 => exact lx9)
  (case c9 => exact cx9)
  (case k9 => exact (eX c 35))
  (case a10 => exact He.eqO_ok (eX c 36))
  (case l10 => exact lx10)
  (case c10 => exact cx10)
  (case k10 => exact (eX c 38))
  (case a11 => exact He.eqO_ok (eX c 39))
  (case l11 => exact lx11)
  (case c11 => exact cx11)
  (case k11 => exact (eX c 41))
  (case a12 => exact He.eqO_ok (eX c 42))
  (case l12 => exact lx12)
  (case c12 => exact cx12)
  (case k12 => exact (eX c 44))
  (case a13 => exact He.eqO_ok (eX c 45))
  (case l13 => exact lx13)
  (case c13 => exact cx13)
  (case k13 => exact (eX c 47))
  (case a14 => exact He.eqO_ok (eX c 48))
  (case l14 => exact lx14)
  (case c14 => exact cx14)
  (case k14 => exact (eX c 50))
  (case a15 => exact He.eqO_ok (eX c 51))
  (case l15 => exact lx15)
  (case c15 => exact cx15)
  (case k15 => exact (eX c 53))
  (case p116 => exact He.eqO_ok (eX c 54))
  (case p216 => exact He.eqO_ok (eX c 55))
  (case p316 => exact of_decide_eq_true (eX c 56))
  (case p416 => exact rB_ok (eX c 57))
  (case l16 => exact lx16)
  (case c16 => exact cx16)
  (case k16 => exact (eX c 59))
  (case a17 => exact He.eqO_ok (eX c 60))
  (case l17 => exact lx17)
  (case c17 => exact cx17)
  (case k17 => exact (eX c 62))
  (case a18 => exact He.eqO_ok (eX c 63))
  (case l18 => exact lx18)
  (case c18 => exact cx18)
  (case k18 => exact (eX c 65))
  (case a19 => exact He.eqO_ok (eX c 66))
  (case l19 => exact lx19)
  (case c19 => exact cx19)
  (case k19 => exact (eX c 68))
  (case in20 => exact He.eqO_ok (eX c 69))
  (case ti20 => exact of_decide_eq_true (eX c 70))
  (case l20 => exact lx20)
  (case c20 => exact cx20)
  (case k20 => exact (eX c 72))
  (case a21 => exact He.eqO_ok (eX c 73))
  (case l21 => exact lx21)
  (case c21 => exact cx21)
  (case k21 => exact (eX c 75))
  (case a22 => exact He.eqO_ok (eX c 76))
  (case l22 => exact lx22)
  (case c22 => exact cx22)
  (case k22 => exact (eX c 78))
  (case a23 => exact He.eqO_ok (eX c 79))
  (case l23 => exact lx23)
  (case c23 => exact cx23)
  (case k23 => exact (eX c 81))
  (case in24 => exact He.eqO_ok (eX c 82))
  (case ti24 => exact of_decide_eq_true (eX c 83))
  (case l24 => exact lx24)
  (case c24 => exact cx24)
  (case k24 => exact (eX c 85))
  (case a25 => exact He.eqO_ok (eX c 86))
  (case l25 => exact lx25)
  (case c25 => exact cx25)
  (case k25 => exact (eX c 88))
  (case a26 => exact He.eqO_ok (eX c 89))
  (case l26 => exact lx26)
  (case c26 => exact cx26)
  (case k26 => exact (eX c 91))
  (case a27 => exact He.eqO_ok (eX c 92))
  (case l27 => exact lx27)
  (case c27 => exact cx27)
  (case k27 => exact (eX c 94))
  (case a28 => exact He.eqO_ok (eX c 95))
  (case l28 => exact lx28)
  (case c28 => exact cx28)
  (case k28 => exact (eX c 99))
  (case tn28 => exact zz2 (eX (b := (K.lookup (ptA K "_law_right")).isNone) c 100))
  (case ti28 => exact zso (eX (b := (W.tabIn K "_law_right").isSome) c 101))
  (case rf28 => exact hrf28)
  (case a29 => exact He.eqO_ok (eX c 102))
  (case l29 => exact lx29)
  (case c29 => exact cx29)
  (case k29 => exact (eX c 104))
  (case xisf => exact (eX c 105))
  (case eq1 => exact (eX c 106))
  (case no1 => exact (eX c 107))
  (case xxm_CallError => exact (eX c 108))
  (case xcl_Call => exact (eX c 109))
  (case xno => exact (eX c 110))
  (case xcr_CallError => exact (eX c 111))
  (case xcr_Call => exact (eX c 112))
  (case ze2 => exact (eX c 113))
  (case zeh => exact (eX c 114))
  (case zec => exact of_decide_eq_true (eX c 115))
  (case zeb => exact of_decide_eq_true (eX c 116))
  (case xx_BadPiece => exact zvv (eX c 117))
  (case xs_BadPiece => exact He.eqO_ok (eX c 118))
  (case sb_BadPiece => exact of_decide_eq_true (eX c 119))
  (case ty_BadPiece => exact of_decide_eq_true (eX c 120))
  (case kp_BadPiece => exact (eX c 121))
  (case xx_Repeated => exact zvv (eX c 122))
  (case xs_Repeated => exact He.eqO_ok (eX c 123))
  (case sb_Repeated => exact of_decide_eq_true (eX c 124))
  (case ty_Repeated => exact of_decide_eq_true (eX c 125))
  (case kp_Repeated => exact (eX c 126))
  (case bi => exact zaff (eX (b := hdV (W.findCls K (.ref (zc9 K)) (.type "type") "__init__") (.builtin "ValueError.__init__")) c 127))
  (case d1_LATEST => exact He.eqO_ok (eX c 128))
  (case d2_LATEST => exact kd_LATEST.at_)
  (case d3_LATEST => exact kd_LATEST.lit)
  (case d4_LATEST_value => exact htk_LATEST_value)
  (case d4_LATEST_star => exact htk_LATEST_star)
  (case d4_LATEST_name => exact htk_LATEST_name)
  (case d4_LATEST_double => exact htk_LATEST_double)
  (case d1_RANKS => exact He.eqO_ok (eX c 133))
  (case d2_RANKS => exact kd_RANKS.at_)
  (case d3_RANKS => exact kd_RANKS.lit)
  (case d4_RANKS_value => exact htk_RANKS_value)
  (case d4_RANKS_star => exact htk_RANKS_star)
  (case d4_RANKS_name => exact htk_RANKS_name)
  (case d4_RANKS_double => exact htk_RANKS_double)
  (case v_LONGEST_NAME => exact htk_LONGEST_NAME)
  (case v_MOST_VALUE => exact htk_MOST_VALUE)
  (case z_all => exact He.eqO_ok (eX c 140))
  (case z_bool => exact He.eqO_ok (eX c 141))
  (case z_dict => exact He.eqO_ok (eX c 142))
  (case z_enumerate => exact He.eqO_ok (eX c 143))
  (case z_int => exact He.eqO_ok (eX c 144))
  (case z_isinstance => exact He.eqO_ok (eX c 145))
  (case z_len => exact He.eqO_ok (eX c 146))
  (case z_list => exact He.eqO_ok (eX c 147))
  (case z_max => exact He.eqO_ok (eX c 148))
  (case z_range => exact He.eqO_ok (eX c 149))
  (case z_repr => exact He.eqO_ok (eX c 150))
  (case z_sorted => exact He.eqO_ok (eX c 151))
  (case z_str => exact He.eqO_ok (eX c 152))
  (case z_tuple => exact He.eqO_ok (eX c 153))
end K04
open PySem PySem.W PyProof.Rows in
set_option maxRecDepth 100000 in
set_option maxHeartbeats 0 in
theorem K04.hMain (hm : ∀ ns : List Int, ns.length ≤ 63 → ∃ μ, K04.m_law [.lst (ns.map Mi.D.int)] [] = .ok (.bl true) μ) : PySem.Challenge.rw_callstairs_k04_pieces_gathered.Holds := by
  w_on; o_law
  refine HandSHeadRun.head_any (r := OpenLaw.row PySem.Challenge.rw_callstairs_k04_pieces_gathered) (q := view (OpenLaw.row PySem.Challenge.rw_callstairs_k04_pieces_gathered).prog [34, 36]) (H := K04.hHk) (ob := K04.hOb) (M := 9000) (loose := K04.hNm) (d := HandSHeadRun.topDef (OpenLaw.row PySem.Challenge.rw_callstairs_k04_pieces_gathered).prog 36) (kwd := []) K04.zafh
    (by kernel_rfl) (fun s => by kernel_rfl) K04.hRun (by kernel_rfl) (by kernel_rfl) (by kernel_rfl) (by rfl) (by first | assumption | decide +kernel) (by decide +kernel) ⟨rfl, rfl, rfl, rfl, rfl, by decide +kernel⟩ ?hw ?hc
  case hw => w_witness2
  case hc =>
    refine Mi.zaa0 (l := PySem.Challenge.rw_callstairs_k04_pieces_gathered) (k := 10) (x := "_law_script") rfl (by kernel_rfl) ⟨rfl, by decide, by decide⟩ ?F
    intro w mg fa h Y G hmg0
    obtain ⟨K, KX, c⟩ := Y
    have hmg : mg ("law" : PySem.Str) = some (.ref fa) := by
      have e : (HandSHeadRun.topDef (OpenLaw.row PySem.Challenge.rw_callstairs_k04_pieces_gathered).prog 36).name = ("law" : PySem.Str) := by kernel_rfl
      rw [← e]
      exact hmg0
    obtain ⟨fd, cs, ts, h1, h2, h3, h4⟩ := K04.zafi hm (l := PySem.Challenge.rw_callstairs_k04_pieces_gathered) (qq := view (OpenLaw.row PySem.Challenge.rw_callstairs_k04_pieces_gathered).prog [34, 36]) (w := w) KX G hmg c (by kernel_rfl)
    exact ⟨K, fd, cs, ts, KX, h1, h2, h3, h4⟩
namespace Cs
open PySem PySem.Spec L2 PyProof.Rows
section
variable {K : PySem.W.Frag} {C Cb : Addr} {σ : L2.St} {M : Addr → Prop} {G G' G1 G0 H0 H H' H1 : Hp} {Q : VK} {E : XK} {vs : List V} {ta tb tc te tk tv td ty : TE} {tA : TA} {t : TT} {d x y z : PyData} {v : V} {a : Addr} {R X Y Z : Rp} {k n : Nat} {r : R2}
end
end Cs
namespace Cs
open PySem PySem.Spec L2 PyProof.Rows
section
variable {K : PySem.W.Frag} {C Cb : Addr} {σ : L2.St} {M : Addr → Prop} {G G' G1 G0 H0 H H' H1 : Hp} {Q : VK} {E : XK} {vs : List V} {ta tb tc te tk tv td ty : TE} {tA : TA} {t : TT} {d x y z : PyData} {v : V} {a : Addr} {R X Y Z : Rp} {k n : Nat} {r : R2}
end
end Cs
namespace K05
open PySem PySem.Spec L2 Mi
def zfq : List (Str × Int) := [("value", 0), ("star", 1), ("name", 2), ("double", 2)]
def zgt : List (Str × Int) := [("value", 0), ("star", 0), ("name", 1), ("double", 2)]
def zb4 : MS := (mRet (mAndV (mUn (fIsS (.ty "int")) (mVar 0)) (mAndV (mNotV (mUn (fIsS (.ty "bool")) (mVar 0))) (zeg (fI2 fun i j => .bl (decide (i ≤ j))) (fI2 fun i j => .bl (decide (i ≤ j))) (mC (.int 0)) (mVar 0) (mC (.int 999))))))
def zaz : List D → Store → Res D := mFn 1 1 zb4
def zbm : MS := (mRet (mAndV (mUn (fIsL [(.ty "list"), (.ty "tuple")]) (mVar 0)) (mCb (fAll false) (mCons (mLc false (miAny (mVar 0)) (zbk 1) mYes (mCall zaz (mCons (mVar 1) mNil)) [1]) mNil))))
def zau : List D → Store → Res D := mFn 2 1 zbm
def zb0 : MS := (mRet (mDc false (miAny (mCb (ze0 false) (mCons (mVar 0) mNil))) (zbk 1) mYes (mVar 1) (mDGet (mVar 0) (mVar 1)) [1]))
def za5 : List D → Store → Res D := mFn 2 1 zb0
def zdf : MS := (mRet (mAndV (mUn (fIsS (.ty "str")) (mVar 0)) (mAndV (zeg fLt (fI2 fun i j => .bl (decide (i ≤ j))) (mC (.int 0)) (mCb fLen (mCons (mVar 0) mNil)) (mC (.int 6))) (mCb (fAll false) (mCons (mLc false (miAny (mVar 0)) (zbk 1) mYes (zeg fLeS fLeS (mC (.str "a")) (mVar 1) (mC (.str "z"))) [1]) mNil)))))
def zbv : List D → Store → Res D := mFn 2 1 zdf
def zbw : MS := (mRet (mAndV (mUn (fIsS (.ty "dict")) (mVar 0)) (mCb (fAll false) (mCons (mLcK false 0 (zbk 1) mYes (mAndV (mCall zbv (mCons (mVar 1) mNil)) (mCall zaz (mCons (mDGet (mVar 0) (mVar 1)) mNil))) [1]) mNil))))
def za1 : List D → Store → Res D := mFn 2 1 zbw
def zfc : MS := (mSeq (mIfS (mOr (mNot (mB (mCall zau (mCons (mVar 1) mNil)))) (mNot (mB (mCall za1 (mCons (mVar 2) mNil))))) (zlc "BadCall") mNext)
  (mSeq (mPutF ["Call"] "kept_given" (mVar 0) (mVar 1))
  (mPutF ["Call"] "kept_named" (mVar 0) (mCall za5 (mCons (mVar 2) mNil)))))
def zcc : List D → Store → Res D := mFn 3 3 zfc
def zfo : MS := (mSeq (mSet 1 (mLst true mNil))
  (mSeq (mFor (miAny (mVar 0)) (zam 2) (mSeq (mSet 3 (mIf (mB (mOp (fEq false) (mOp fIx (mVar 2) (mC (.int 0))) (mC (.str "name")))) (mLst false (mCons (mOp fIx (mVar 2) (mC (.int 1))) mNil)) (mLst false mNil)))
  (mSeq (mIfS (mAnd (mB (mOp (fEq false) (mOp fIx (mVar 2) (mC (.int 0))) (mC (.str "double")))) (mB (mOp (fEq false) (mCb fLen (mCons (mVar 2) mNil)) (mC (.int 2))))) (mSet 3 (mCb (ze0 false) (mCons (mCb (fList false) (mCons (mOp fIx (mVar 2) (mC (.int 1))) mNil)) mNil))) mNext)
  (mFor (miAny (mVar 3)) (zam 4) (mSeq (mIfS (mB (mOp (fIn false) (mVar 4) (mVar 1))) (mRet (mVar 4)) mNext)
  (mDrop (mBm "list" zbc (mVar 1) (mCons (mVar 4) mNil))))))))
  (mRet (mC .non))))
def zgq : List D → Store → Res D := mFn 5 1 zfo
def zen : MS := (mSeq (mIfS (mOr (mNot (mB (mCall zau (mCons (mVar 1) mNil)))) (mNot (mB (mCall za1 (mCons (mVar 2) mNil))))) (zlc "BadCall") mNext)
  (mSeq (mSet 3 (zld false 0 "Call" (zfy zcc) (mVar 1)))
  (mSeq (mPutF ["Call"] "kept_named" (mVar 3) (mCall za5 (mCons (mVar 2) mNil)))
  (mFrz 3 (mRet (mVar 3))))))
def zbq : List D → Store → Res D := mFn 4 3 zen
def zco : MS := (mSeq (mIfS (mB (mOp (fEq false) (mOp fIx (mVar 0) (mC (.int 0))) (mC (.str "name")))) (mRet (mLst false (mCons (mOp fIx (mVar 0) (mC (.int 1))) mNil))) mNext)
  (mRet (mIf (mAnd (mB (mOp (fEq false) (mOp fIx (mVar 0) (mC (.int 0))) (mC (.str "double")))) (mB (mOp (fEq false) (mCb fLen (mCons (mVar 0) mNil)) (mC (.int 2))))) (mCb (fList false) (mCons (mOp fIx (mVar 0) (mC (.int 1))) mNil)) (mLst false mNil))))
def zdv : List D → Store → Res D := mFn 1 1 zco
def zcs : MS := (mSeq (mSet 1 (mLst true mNil))
  (mSeq (mFor (miAny (mVar 0)) (zam 2) (mFor (miAny (mCall zdv (mCons (mVar 2) mNil))) (zam 3) (mSeq (mIfS (mB (mOp (fIn false) (mVar 3) (mVar 1))) (zey "Repeated" "name" (mCons (mVar 3) mNil)) mNext)
  (mDrop (mBm "list" zbc (mVar 1) (mCons (mVar 3) mNil))))))
  (mFrz 1 (mRet (mVar 1)))))
def zd8 : List D → Store → Res D := mFn 4 1 zcs
def zcg : MS := (mSeq (mSet 1 (mLst true mNil))
  (mSeq (mFor (miAny (mVar 0)) (zam 2) (mIfS (mB (mOp (fEq false) (mOp fIx (mVar 2) (mC (.int 0))) (mC (.str "value")))) (mDrop (mBm "list" zbc (mVar 1) (mCons (mOp fIx (mVar 2) (mC (.int 1))) mNil))) (mIfS (mAnd (mB (mOp (fEq false) (mOp fIx (mVar 2) (mC (.int 0))) (mC (.str "star")))) (mB (mOp (fEq false) (mCb fLen (mCons (mVar 2) mNil)) (mC (.int 2))))) (mDrop (mBm "list" zgz (mVar 1) (mCons (mOp fIx (mVar 2) (mC (.int 1))) mNil))) mNext)))
  (mFrz 1 (mRet (mVar 1)))))
def zd3 : List D → Store → Res D := mFn 3 1 zcg
def zb3 : MS := (mSeq (mIfS (mOr (mNot (mB (mUn (fIsL [(.ty "list"), (.ty "tuple")]) (mVar 0)))) (mOr (mB (mOp (fEq false) (mCb fLen (mCons (mVar 0) mNil)) (mC (.int 0)))) (mNot (mB (mUn (fIsS (.ty "str")) (mOp fIx (mVar 0) (mC (.int 0)))))))) (mRet (mC .non)) mNext)
  (mSeq (mAsg (mVar 0) (zng (zbp (zam 2) (zbp (zam 3) mgNil))))
  (mSeq (mIfS (mAnd (mB (mOp (fIn false) (mVar 2) (mTup (mCons (mC (.str "star")) (mCons (mC (.str "double")) mNil))))) (mAnd (mB (mOp (fEq false) (mVar 3) (mLst false mNil))) (mB (mVar 1)))) (mRet (mTup (mCons (mVar 2) mNil))) mNext)
  (mSeq (mIfS (mAnd (mB (mOp (fEq false) (mVar 2) (mC (.str "value")))) (mAnd (mB (mOp (fEq false) (mCb fLen (mCons (mVar 3) mNil)) (mC (.int 1)))) (mB (mCall zaz (mCons (mOp fIx (mVar 3) (mC (.int 0))) mNil))))) (mRet (mTup (mCons (mVar 2) (mCons (mOp fIx (mVar 3) (mC (.int 0))) mNil)))) mNext)
  (mSeq (mIfS (mAnd (mB (mOp (fEq false) (mVar 2) (mC (.str "star")))) (mAnd (mB (mOp (fEq false) (mCb fLen (mCons (mVar 3) mNil)) (mC (.int 1)))) (mB (mCall zau (mCons (mOp fIx (mVar 3) (mC (.int 0))) mNil))))) (mRet (mTup (mCons (mVar 2) (mCons (mCb fTuple (mCons (mOp fIx (mVar 3) (mC (.int 0))) mNil)) mNil)))) mNext)
  (mSeq (mIfS (mAnd (mB (mOp (fEq false) (mVar 2) (mC (.str "name")))) (mAnd (mB (mOp (fEq false) (mCb fLen (mCons (mVar 3) mNil)) (mC (.int 2)))) (mAnd (mB (mCall zbv (mCons (mOp fIx (mVar 3) (mC (.int 0))) mNil))) (mB (mCall zaz (mCons (mOp fIx (mVar 3) (mC (.int 1))) mNil)))))) (mRet (mTup (mCons (mVar 2) (mCons (mOp fIx (mVar 3) (mC (.int 0))) (mCons (mOp fIx (mVar 3) (mC (.int 1))) mNil))))) mNext)
  (mSeq (mIfS (mAnd (mB (mOp (fEq false) (mVar 2) (mC (.str "double")))) (mAnd (mB (mOp (fEq false) (mCb fLen (mCons (mVar 3) mNil)) (mC (.int 1)))) (mB (mCall za1 (mCons (mOp fIx (mVar 3) (mC (.int 0))) mNil))))) (mRet (mTup (mCons (mVar 2) (mCons (mCall za5 (mCons (mOp fIx (mVar 3) (mC (.int 0))) mNil)) mNil)))) mNext)
  (mRet (mC .non)))))))))
def za4 : List D → Store → Res D := mFn 4 2 zb3
def zc8 : MS := (mSeq (mIfS (mNot (mB (mUn (fIsL [(.ty "list"), (.ty "tuple")]) (mVar 0)))) (zey "BadPiece" "index" (mCons (mC (.int 0)) mNil)) mNext)
  (mSeq (mPar 2 3 (mCons (mLst true mNil) (mCons (mC (.int 0)) mNil)))
  (mSeq (mFor (zgc (mCons (mVar 0) mNil)) (mgTup 2 (zbp (zam 4) (zbp (zam 5) mgNil))) (mSeq (mSet 6 (mCall za4 (mCons (mVar 5) (mCons (mVar 1) mNil))))
  (mSeq (mIfS (mOr (mB (mOp (fIsN false) (mVar 6) (mC .non))) (mB (mOp (fI2 fun i j => .bl (decide (j < i))) (mVar 3) (mUn (fIxW zfq) (mOp fIx (mVar 6) (mC (.int 0))))))) (zey "BadPiece" "index" (mCons (mVar 4) mNil)) mNext)
  (mSeq (mSet 3 (mCb fMax2 (mCons (mVar 3) (mCons (mUn (fIxW zgt) (mOp fIx (mVar 6) (mC (.int 0)))) mNil))))
  (mDrop (mBm "list" zbc (mVar 2) (mCons (mVar 6) mNil)))))))
  (mFrz 2 (mRet (mVar 2))))))
def zc6 : List D → Store → Res D := mFn 7 2 zc8
def zcp : MS := (mSeq (mPar 1 2 (mCons (mCall zc6 (mCons (mVar 0) (mCons (mC (.bl false)) mNil))) (mCons (mDNew true) mNil)))
  (mSeq (mDrop (mCall zd8 (mCons (mVar 1) mNil)))
  (mSeq (mFor (miAny (mVar 1)) (zam 3) (mIfS (mB (mOp (fEq false) (mOp fIx (mVar 3) (mC (.int 0))) (mC (.str "name")))) (mAsg (mOp fIx (mVar 3) (mC (.int 2))) (zk8 (mVar 2) (mOp fIx (mVar 3) (mC (.int 1))))) (mIfS (mB (mOp (fEq false) (mOp fIx (mVar 3) (mC (.int 0))) (mC (.str "double")))) (mDrop (mBm "dict" fUpd (mVar 2) (mCons (mOp fIx (mVar 3) (mC (.int 1))) mNil))) mNext)))
  (mRet (zg6 "Call" zbq (mCons (mCall zd3 (mCons (mVar 1) mNil)) (mCons (mVar 2) mNil)))))))
def zbh : List D → Store → Res D := mFn 4 1 zcp
end K05
namespace Pl
open PySem PySem.Spec L2 Mi
section
variable {α : Type} {Q : D → Store → Prop} {X : Exc → Store → Prop} {P : Post} {ρ : Mi.Env} {μ μ0 : Store} {n : Nat} {S : Src → Store → Prop}
theorem zbo : watch [] μ0 μ := fun _ h => by cases h
@[simp] theorem rs_for {i : MI} {g : MG} {body : MS} : @RpS (mFor i g body n ρ μ) P = @Rp _ (i ρ μ) (fun s μ => @RpS (forS s.w μ g body n s.items ρ μ) P) P.X := by
  unfold mFor; rw [rs_st]
@[simp] theorem ri_any {a : ME} : @Rp _ (miAny a ρ μ) S X = @Rp _ (a ρ μ) (fun d μ => match zdn μ d with
  | some (ds, w) => S ⟨ds, w⟩ μ
  | none => False) X := by
  unfold miAny; rw [rp_bind]; congr 1; funext d μ; cases zdn μ d <;> rfl
@[simp] theorem ri_rng1 {a : MA} : @Rp _ (zew a ρ μ) S X = @Rp _ (a ρ μ) (fun ds μ => match ds with
  | [.int j] => (-(2 ^ 62) ≤ j ∧ j < 2 ^ 62) ∧ S ⟨zce 0 j.toNat, []⟩ μ
  | _ => False) X := by
  unfold zew; rw [rp_bind]; congr 1; funext ds μ
  split
  · rename_i j; by_cases h : -(2 ^ 62) ≤ j ∧ j < 2 ^ 62 <;> simp [h]
  · rename_i h
    first
      | rfl
      | (split
         · rename_i j; exact absurd rfl (h j)
         · rfl)
@[simp] theorem ri_rng2 {a : MA} : @Rp _ (zy9 a ρ μ) S X = @Rp _ (a ρ μ) (fun ds μ => match ds with
  | [.int i, .int j] => (-(2 ^ 62) ≤ i ∧ i < 2 ^ 62 ∧ -(2 ^ 62) ≤ j ∧ j < 2 ^ 62) ∧ S ⟨zce i (j - i).toNat, []⟩ μ
  | _ => False) X := by
  unfold zy9; rw [rp_bind]; congr 1; funext ds μ
  split
  · rename_i i j; by_cases h : -(2 ^ 62) ≤ i ∧ i < 2 ^ 62 ∧ -(2 ^ 62) ≤ j ∧ j < 2 ^ 62 <;> simp [h]
  · rename_i h
    first
      | rfl
      | (split
         · rename_i i j; exact absurd rfl (h i j)
         · rfl)
@[simp] theorem ri_enum {a : MA} : @Rp _ (zgc a ρ μ) S X = @Rp _ (a ρ μ) (fun xs μ => match xs with
  | [d] => (match seqL μ d with
    | some ds => S ⟨enumD ds, d.cell⟩ μ
    | none => (match seqT d with
      | some ds => S ⟨enumD ds, []⟩ μ
      | none => False))
  | _ => False) X := by
  unfold zgc; rw [rp_bind]; congr 1; funext xs μ
  rcases xs with _ | ⟨d, _ | ⟨e, r⟩⟩
  · rfl
  · dsimp only
    cases seqL μ d with
    | some ds => rfl
    | none => dsimp only; cases seqT d <;> rfl
  · rfl
theorem zaaz {t : MT} {body : MS} (I : Nat → Mi.Env → Store → Prop) (step : ∀ m ρ μ, I m ρ μ → @Rp _ (t ρ μ) (fun b μ => if b = true then ∃ k, m = k + 1 ∧ @RpS (body n ρ μ) ⟨I k, P.R, P.N, I k, P.X⟩ else P.N ρ μ) P.X) :
    ∀ (m : Nat) (ρ : Mi.Env) (μ : Store), I m ρ μ → @RpS (zcd t body n (m + 1) ρ μ) P := fun m => by
  induction m with
  | zero =>
    intro ρ μ h
    have s := step 0 ρ μ h
    unfold zcd
    cases et : t ρ μ with
    | bad => rw [et] at s; exact s
    | exc x μ1 => rw [et] at s; exact s
    | ok b μ1 =>
      rw [et] at s
      cases b with
      | false => exact s
      | true => obtain ⟨k, z, _⟩ := s; exact absurd z (by omega)
  | succ m ih =>
    intro ρ μ h
    have s := step (m + 1) ρ μ h
    unfold zcd
    cases et : t ρ μ with
    | bad => rw [et] at s; exact s
    | exc x μ1 => rw [et] at s; exact s
    | ok b μ1 =>
      rw [et] at s
      cases b with
      | false => exact s
      | true =>
        obtain ⟨k, z, s⟩ := s
        obtain rfl : m = k := by omega
        dsimp only
        rw [if_pos rfl]
        cases eb : body n ρ μ1 with
        | nx ρ2 μ2 => rw [eb] at s; exact ih ρ2 μ2 s
        | ct ρ2 μ2 => rw [eb] at s; exact ih ρ2 μ2 s
        | bk ρ2 μ2 => rw [eb] at s; exact s
        | rt d2 μ2 => rw [eb] at s; exact s
        | exc x μ2 => rw [eb] at s; exact s
        | bad => rw [eb] at s; exact s
theorem zx2 {t : MT} {body : MS} (I : Nat → Mi.Env → Store → Prop) (m : Nat) (h0 : I m ρ μ) (step : ∀ m ρ μ, I m ρ μ → @Rp _ (t ρ μ) (fun b μ => if b = true then ∃ k, m = k + 1 ∧ @RpS (body n ρ μ) ⟨I k, P.R, P.N, I k, P.X⟩ else P.N ρ μ) P.X) :
    @RpS (zjq t body n ρ μ) P := by
  have h := zaaz (P := P) I step m ρ μ h0
  have nb : zcd t body n (m + 1) ρ μ ≠ .bad := fun z => by rw [z] at h; exact h
  rw [zzh rfl nb]
  exact h
@[simp] theorem rp_lc {b : Bool} {i : MI} {g : D → Mi.Env → Option Mi.Env} {t : MT} {el : ME} {vs : List Nat} : @Rp _ (mLc b i g t el vs ρ μ) Q X = @Rp _ (i ρ μ) (fun s μ => @Rp _ (lcA s.w μ g t el (wipeD ρ vs) s.items [] μ) (fun xs μ => @Rp _ (newL b xs μ) Q X) X) X := by
  unfold mLc; simp only [rp_bind]
variable {L : List D → Store → Prop}
theorem lc_go {g : D → Mi.Env → Option Mi.Env} {t : MT} {el : ME} {w : List Nat} (I : List D → List D → Store → Prop) (all : List D) (hw : ∀ pre acc μ, I pre acc μ → watch w μ0 μ) (hn : ∀ pre acc μ, I pre acc μ → acc.length ≤ pre.length) (hz : all.length ≤ sizeLine)
    (step : ∀ pre d post acc μ, all = pre ++ d :: post → I pre acc μ → ∃ ρ2, g d ρ = some ρ2 ∧ @Rp _ (t ρ2 μ) (fun k μ => if k = true then @Rp _ (el ρ2 μ) (fun y μ => I (pre ++ [d]) (acc ++ [y]) μ) (fun _ _ => False) else I (pre ++ [d]) acc μ) (fun _ _ => False)) (fin : ∀ acc μ, I all acc μ → L acc μ) :
    ∀ (ds pre acc : List D) (μ : Store), all = pre ++ ds → I pre acc μ → @Rp _ (lcA w μ0 g t el ρ ds acc μ) L X
  | [], pre, acc, μ, e, h => by
    unfold lcA
    rw [if_pos (hw _ _ _ h)]
    rw [List.append_nil] at e
    exact fin acc μ (e ▸ h)
  | d :: ds, pre, acc, μ, e, h => by
    unfold lcA
    rw [if_pos (hw _ _ _ h)]
    obtain ⟨ρ2, eg, s⟩ := step pre d ds acc μ e h
    have e' : all = (pre ++ [d]) ++ ds := by rw [e]; simp
    rw [eg]
    dsimp only
    cases et : t ρ2 μ with
    | bad => rw [et] at s; exact s
    | exc x μ1 => rw [et] at s; exact s.elim
    | ok b μ1 =>
      rw [et] at s
      cases b with
      | false => exact lc_go I all hw hn hz step fin ds _ acc μ1 e' s
      | true =>
        have s : @Rp _ (el ρ2 μ1) (fun y μ => I (pre ++ [d]) (acc ++ [y]) μ) (fun _ _ => False) := s
        dsimp only
        cases ee : el ρ2 μ1 with
        | bad => rw [ee] at s; exact s
        | exc x μ2 => rw [ee] at s; exact s.elim
        | ok y μ2 =>
          rw [ee] at s
          dsimp only
          have l1 := hn _ _ _ h
          rw [e, List.length_append, List.length_cons] at hz
          rw [if_pos (by omega)]
          exact lc_go I all hw hn (by rw [e, List.length_append, List.length_cons]; exact hz) step fin ds _ _ μ2 e' s
theorem ztp {g : D → Mi.Env → Option Mi.Env} {t : MT} {el : ME} {w : List Nat} {ds : List D} (I : List D → List D → Store → Prop) (hz : ds.length ≤ sizeLine) (h0 : I [] [] μ) (hw : ∀ pre acc μ, I pre acc μ → watch w μ0 μ) (hn : ∀ pre acc μ, I pre acc μ → acc.length ≤ pre.length)
    (step : ∀ pre d post acc μ, ds = pre ++ d :: post → I pre acc μ → ∃ ρ2, g d ρ = some ρ2 ∧ @Rp _ (t ρ2 μ) (fun k μ => if k = true then @Rp _ (el ρ2 μ) (fun y μ => I (pre ++ [d]) (acc ++ [y]) μ) (fun _ _ => False) else I (pre ++ [d]) acc μ) (fun _ _ => False)) (fin : ∀ acc μ, I ds acc μ → L acc μ) :
    @Rp _ (lcA w μ0 g t el ρ ds [] μ) L X := lc_go I ds hw hn hz step fin ds [] [] μ rfl h0
theorem zv8 {g : D → Mi.Env → Option Mi.Env} {t : MT} {el : ME} {w : List Nat} {ds : List D} (p : D → Bool) (f : D → D) (hz : ds.length ≤ sizeLine)
    (step : ∀ d ∈ ds, ∃ ρ2, g d ρ = some ρ2 ∧ t ρ2 μ = .ok (p d) μ ∧ (p d = true → el ρ2 μ = .ok (f d) μ)) : lcA w μ g t el ρ ds [] μ = .ok ((ds.filter p).map f) μ := by
  have h : @Rp _ (lcA w μ g t el ρ ds [] μ) (fun xs μ' => xs = (ds.filter p).map f ∧ μ' = μ) (fun _ _ => False) := by
    refine ztp (fun pre acc μ' => acc = (pre.filter p).map f ∧ μ' = μ) hz ⟨rfl, rfl⟩ (fun pre acc μ' q => by rw [q.2]; exact fun _ _ => rfl) (fun pre acc μ' q => by rw [q.1, List.length_map]; exact List.length_filter_le _ _) (fun pre d post acc μ' e q => ?_) fun acc μ' q => q
    obtain ⟨rfl, rfl⟩ := q
    obtain ⟨ρ2, h1, h2, h3⟩ := step d (by rw [e]; simp)
    refine ⟨ρ2, h1, ?_⟩
    rw [h2]
    cases hp : p d with
    | true => rw [rp_ok, if_pos rfl, h3 hp]; simp [hp]
    | false => simp [hp]
  obtain ⟨xs, μ', e, rfl, rfl⟩ := zpj h
  exact e
theorem zzx {g : D → Mi.Env → Option Mi.Env} {el : ME} {w : List Nat} {ds : List D} (f : D → D) (hz : ds.length ≤ sizeLine)
    (step : ∀ d ∈ ds, ∃ ρ2, g d ρ = some ρ2 ∧ el ρ2 μ = .ok (f d) μ) : lcA w μ g mYes el ρ ds [] μ = .ok (ds.map f) μ := by
  rw [zv8 (fun _ => true) f hz fun d hd => ?_, List.filter_eq_self.mpr fun _ _ => rfl]
  obtain ⟨ρ2, h1, h2⟩ := step d hd
  exact ⟨ρ2, h1, rfl, fun _ => h2⟩
theorem zyi {g : D → Mi.Env → Option Mi.Env} {el : ME} {w : List Nat} {ds : List D} (f : D → D) (hz : ds.length ≤ sizeLine)
    (step : ∀ d ∈ ds, ∃ ρ2, g d ρ = some ρ2 ∧ el ρ2 μ = .ok (f d) μ) (k : L (ds.map f) μ) : @Rp _ (lcA w μ g mYes el ρ ds [] μ) L X := by
  rw [zzx f hz step]; exact k
@[simp] theorem seqL_lst {ds : List D} : seqL μ (.lst ds) = some ds := rfl
@[simp] theorem seqL_tup {ds : List D} : seqL μ (.tup ds) = none := rfl
@[simp] theorem seqL_str {z : Str} : seqL μ (.str z) = none := rfl
@[simp] theorem seqL_int {z : Int} : seqL μ (.int z) = none := rfl
@[simp] theorem seqL_bl {z : Bool} : seqL μ (.bl z) = none := rfl
@[simp] theorem seqL_non : seqL μ .non = none := rfl
@[simp] theorem seqL_dct {ks : List Key} {ds : List D} : seqL μ (.dct ks ds) = none := rfl
@[simp] theorem seqT_lst {ds : List D} : seqT (.lst ds) = none := rfl
@[simp] theorem seqT_tup {ds : List D} : seqT (.tup ds) = some ds := rfl
theorem zdm {k : Nat} {ds : List D} (h : μ[k]? = some (some (.lst ds))) : seqL μ (.own k) = some ds := by unfold seqL; simp [h]
theorem zgo {k : Nat} {ds : List D} (h : μ[k]? = some (some (.lst ds))) : ownL μ (.own k) = some (k, ds) := by unfold ownL; simp [h]
theorem zht {k : Nat} {ks : List Key} {ds : List D} (h : μ[k]? = some (some (.dct ks ds))) : ownK μ (.own k) = some (k, ks, ds) := by unfold ownK; simp [h]
theorem zaai {k : Nat} {ks : List Key} {ds : List D} (h : μ[k]? = some (some (.dct ks ds))) : dctOf μ (.own k) = some (ks, ds) := by unfold dctOf; simp [h]
@[simp] theorem dctOf_dct {ks : List Key} {ds : List D} : dctOf μ (.dct ks ds) = some (ks, ds) := rfl
theorem zcj {k : Nat} {ds : List D} (h : μ[k]? = some (some (.lst ds))) : tyM μ (.own k) = some "list" := by unfold tyM; simp [h]
theorem zly {k : Nat} {ks : List Key} {ds : List D} (h : μ[k]? = some (some (.dct ks ds))) : tyM μ (.own k) = some "dict" := by unfold tyM; simp [h]
@[simp] theorem keyOf_int {i : Int} : keyOf (.int i) = some (.inl i) := rfl
@[simp] theorem keyOf_str {x : Str} : keyOf (.str x) = some (.inr x) := rfl
@[simp] theorem f_i2 {g : Int → Int → D} {i j : Int} : @Rp _ (fI2 g (.int i) (.int j) μ) Q X = Q (g i j) μ := rfl
@[simp] theorem f_i2c {C : Int → Int → Prop} {g : Int → Int → D} {i j : Int} : @Rp _ (fI2c C g (.int i) (.int j) μ) Q X = (C i j ∧ Q (g i j) μ) := by
  unfold fI2c; by_cases h : C i j <;> simp [h]
@[simp] theorem f_addI {b : Bool} {i j : Int} : @Rp _ (fAdd b (.int i) (.int j) μ) Q X = Q (.int (i + j)) μ := rfl
@[simp] theorem f_addS {b : Bool} {i j : Str} : @Rp _ (fAdd b (.str i) (.str j) μ) Q X = (i.length + j.length ≤ sizeLine ∧ Q (.str (i ++ j)) μ) := by
  unfold fAdd; by_cases h : i.length + j.length ≤ sizeLine <;> simp [h]
theorem zafm {b : Bool} {x y : D} {xs ys : List D} (hx : seqL μ x = some xs) (hy : seqL μ y = some ys) : @Rp _ (fAdd b x y μ) Q X = (xs.length + ys.length ≤ sizeLine ∧ @Rp _ (newL b (xs ++ ys) μ) Q X) := by
  have e : fAdd b x y μ = if xs.length + ys.length ≤ sizeLine then newL b (xs ++ ys) μ else .bad := by
    unfold fAdd
    split
    · cases hx
    · cases hx
    · cases hx
    · rw [hx, hy]
  rw [e]; by_cases h : xs.length + ys.length ≤ sizeLine <;> simp [h]
@[simp] theorem f_addLL {b : Bool} {xs ys : List D} : @Rp _ (fAdd b (.lst xs) (.lst ys) μ) Q X = (xs.length + ys.length ≤ sizeLine ∧ @Rp _ (newL b (xs ++ ys) μ) Q X) := zafm rfl rfl
@[simp] theorem f_mulI {b : Bool} {i j : Int} : @Rp _ (fMul b (.int i) (.int j) μ) Q X = (CMulW i j ∧ Q (.int (i * j)) μ) := by
  unfold fMul; by_cases h : CMulW i j <;> simp [h]
@[simp] theorem f_neg {i : Int} : @Rp _ (fNeg (.int i) μ) Q X = Q (.int (-i)) μ := rfl
@[simp] theorem f_max {i j : Int} : @Rp _ (fMax2 [.int i, .int j] μ) Q X = Q (.int (if j > i then j else i)) μ := rfl
theorem zqc {x : D} {xs : List D} (hx : seqL μ x = some xs) : @Rp _ (fLen [x] μ) Q X = Q (.int xs.length) μ := by
  have e : fLen [x] μ = .ok (.int xs.length) μ := by
    unfold fLen
    split
    · rename_i e; cases e; cases hx
    · rename_i e; cases e; simp [hx]
    · rename_i h; exact absurd rfl (h x)
  rw [e]; rfl
@[simp] theorem f_lenLst {xs : List D} : @Rp _ (fLen [.lst xs] μ) Q X = Q (.int xs.length) μ := zqc rfl
@[simp] theorem f_lenTup {xs : List D} : @Rp _ (fLen [.tup xs] μ) Q X = Q (.int xs.length) μ := rfl
theorem zacd {z : Str} (h : z.length ≤ sizeLine) : @Rp _ (fLen [.str z] μ) Q X = Q (.int z.length) μ := by
  unfold fLen; simp [h]
theorem f_ixL {x : D} {xs : List D} {i : Int} (hx : seqL μ x = some xs) : @Rp _ (fIx x (.int i) μ) Q X = (match atI xs i with
  | some d => Q d μ
  | none => False) := by
  have e : fIx x (.int i) μ = match atI xs i with
      | some d => .ok d μ
      | none => .bad := by
    unfold fIx
    split
    · cases hx
    · rename_i i' _ e; cases e; simp only [hx]; all_goals (cases atI xs i <;> rfl)
    · rename_i h2 h1; exact (h2 _ rfl).elim
  rw [e]
  all_goals (cases atI xs i <;> rfl)
@[simp] theorem f_ixLst {xs : List D} {i : Int} : @Rp _ (fIx (.lst xs) (.int i) μ) Q X = (match atI xs i with
  | some d => Q d μ
  | none => False) := f_ixL rfl
@[simp] theorem f_ixTup {xs : List D} {i : Int} : @Rp _ (fIx (.tup xs) (.int i) μ) Q X = (match atI xs i with
  | some d => Q d μ
  | none => False) := by
  have e : fIx (.tup xs) (.int i) μ = match atI xs i with
      | some d => .ok d μ
      | none => .bad := by
    unfold fIx
    simp only [seqL_tup, seqT_tup]
    all_goals (cases atI xs i <;> rfl)
  rw [e]
  all_goals (cases atI xs i <;> rfl)
theorem atI_nat {α : Type} {xs : List α} {i : Int} (h0 : 0 ≤ i) (h1 : i < xs.length) : ∃ d, atI xs i = some d ∧ d ∈ xs := by
  have hl : i.toNat < xs.length := by omega
  refine ⟨xs[i.toNat], ?_, List.getElem_mem hl⟩
  unfold atI ixN
  rw [if_pos h0, if_pos h1]
  simp [hl]
theorem ixN_nat {n : Nat} {i : Int} (h0 : 0 ≤ i) (h1 : i < n) : ixN n i = some i.toNat := by
  unfold ixN
  rw [if_pos h0, if_pos h1]
@[simp] theorem atI_0 {α : Type} {x : α} {xs : List α} : atI (x :: xs) 0 = some x := by
  unfold atI ixN; simp
@[simp] theorem atI_1 {α : Type} {x y : α} {xs : List α} : atI (x :: y :: xs) 1 = some y := by
  unfold atI ixN
  rw [if_pos (by decide), if_pos (by simp only [List.length_cons]; omega)]; rfl
@[simp] theorem atI_2 {α : Type} {x y z : α} {xs : List α} : atI (x :: y :: z :: xs) 2 = some z := by
  unfold atI ixN
  rw [if_pos (by decide), if_pos (by simp only [List.length_cons]; omega)]; rfl
theorem zaa1 {x : D} (hx : seqL μ x = some []) : x.view μ = some (.list []) := by
  cases x with
  | lst ds => cases Option.some.inj hx; rfl
  | own k =>
    unfold seqL at hx
    dsimp only at hx
    cases e : μ[k]? with
    | none => rw [e] at hx; cases hx
    | some o =>
      rw [e] at hx
      cases o with
      | none => cases hx
      | some y =>
        cases y with
        | lst ds =>
          cases Option.some.inj hx
          show vf 4 μ k = _
          unfold vf
          rw [e]
          rfl
        | _ => cases hx
  | _ => cases hx
theorem zgy {neg : Bool} {x : D} {xs : List D} (hx : seqL μ x = some xs) : @Rp _ (fEq neg x (.lst []) μ) Q X = Q (.bl (if neg = true then !xs.isEmpty else xs.isEmpty)) μ := by
  unfold fEq
  simp only [hx, seqL_lst]
  cases xs with
  | nil =>
    rw [if_pos rfl]
    unfold zfb
    rw [zaa1 hx, show D.view μ (.lst []) = some (.list []) from rfl]
    have : SeqAt.shaped (.list []) = true := by decide
    simp only [this]
    cases neg <;> rfl
  | cons a as =>
    rw [if_neg (by simp)]
    cases neg <;> rfl
theorem f_list {b : Bool} {x : D} {xs : List D} (hx : seqL μ x = some xs) : @Rp _ (fList b [x] μ) Q X = @Rp _ (newL b xs μ) Q X := by
  unfold fList; simp [hx]
theorem zep {k : Nat} {ds : List D} {y : D} (h : μ[k]? = some (some (.lst ds))) : @Rp _ (zbc (.own k) [y] μ) Q X = (ds.length < sizeLine ∧ Q .non (μ.set k (some (.lst (ds ++ [y]))))) := by
  unfold zbc
  rw [zgo h]
  by_cases hl : ds.length < sizeLine <;> simp [hl]
theorem f_pop {k : Nat} {ds : List D} {i : Int} (h : μ[k]? = some (some (.lst ds))) (h0 : 0 ≤ i) (h1 : i < ds.length) (hb : ds.length ≤ sizeLine) (q : ∀ y, ds[i.toNat]? = some y → Q y (μ.set k (some (.lst (ds.eraseIdx i.toNat))))) : @Rp _ (zlk (.own k) [.int i] μ) Q X := by
  have hl : i.toNat < ds.length := by omega
  have e1 : seqIndex? i ds.length = some i.toNat := by
    unfold seqIndex?
    have n0 : ¬ i < 0 := by omega
    simp [n0, h0, h1]
  have z : sizeLine < 2 ^ 62 := by decide
  have e63 : (2:Int) ^ 63 = 9223372036854775808 := by decide
  have e62 : (2:Nat) ^ 62 = 4611686018427387904 := by decide
  unfold zlk
  rw [zgo h]
  dsimp only
  rw [if_pos ⟨by omega, by omega⟩, e1]
  dsimp only
  rw [List.getElem?_eq_getElem hl]
  exact q _ (List.getElem?_eq_getElem hl)
end
end Pl
namespace Pl
open PySem PySem.Spec L2 Mi
def zw6 : MS := (mRet (mLst true (mCons (mCb fMax2 (mCons (mC (.int 0)) (mCons (mOp (fI2 fun i j => .int (i - j)) (mVar 0) (mOp (fI2c Cs.CPowW fun i j => .int (i ^ j.toNat)) (mC (.int 10)) (mC (.int 18)))) mNil))) (mCons (mOp (fAdd false) (mVar 0) (mOp (fMul false) (mC (.int 977)) (mVar 1))) (mCons (mC (.int 0)) mNil)))))
def zq6 : List D → Store → Res D := mFn 2 2 zw6
def zaau : MS := (mSeq (mIfS (mB (mOp (fI2 fun i j => .bl (decide (j < i))) (mOp fIx (mVar 0) (mC (.int 0))) (mC (.int 0)))) (mSeq (mSet 2 (mOp (fI2c (fun _ j => j ≠ 0) fun i j => .int (i.fmod j)) (mOp fIx (mVar 0) (mC (.int 0))) (mVar 1)))
  (mSeq (mAsg (mOp (fI2c CDivN fun i j => .int (i.fdiv j)) (mOp fIx (mVar 0) (mC (.int 0))) (mVar 1)) (zjo (mVar 0) (mC (.int 0))))
  (mRet (mVar 2)))) mNext)
  (mSeq (mAsg (mOp (fAdd false) (mOp fIx (mVar 0) (mC (.int 2))) (mC (.int 1))) (zjo (mVar 0) (mC (.int 2))))
  (mSeq (mSet 2 (mOp (fAdd false) (mOp (fI2c (fun _ j => j ≠ 0) fun i j => .int (i.fmod j)) (mOp fIx (mVar 0) (mC (.int 1))) (mC (.int 2147483629))) (mOp (fMul false) (mC (.int 104729)) (mOp fIx (mVar 0) (mC (.int 2))))))
  (mSeq (mSet 2 (mOp (fMul false) (mVar 2) (mOp (fAdd false) (mOp (fAdd false) (mOp (fI2c (fun _ j => j ≠ 0) fun i j => .int (i.fmod j)) (mOp fIx (mVar 0) (mC (.int 1))) (mC (.int 2147483587))) (mOp (fMul false) (mOp (fMul false) (mC (.int 7919)) (mOp fIx (mVar 0) (mC (.int 2)))) (mOp fIx (mVar 0) (mC (.int 2))))) (mC (.int 11)))))
  (mRet (mOp (fI2c (fun _ j => j ≠ 0) fun i j => .int (i.fmod j)) (mOp (fI2c CDivN fun i j => .int (i.fdiv j)) (mOp (fI2c (fun _ j => j ≠ 0) fun i j => .int (i.fmod j)) (mOp (fI2c Cs.CPowW fun i j => .int (i ^ j.toNat)) (mVar 2) (mC (.int 3))) (mC (.int 2147483647))) (mC (.int 11))) (mVar 1)))))))
def zlb : List D → Store → Res D := mFn 3 2 zaau
def zaat : MS := (mRet (mOp fIx (mVar 1) (mCall zlb (mCons (mVar 0) (mCons (mCb fLen (mCons (mVar 1) mNil)) mNil)))))
def zth : List D → Store → Res D := mFn 2 2 zaat
def zqo : MS := (mSeq (mPar 2 3 (mCons (mCb (fList true) (mCons (mVar 1) mNil)) (mCons (mLst true mNil) mNil)))
  (mSeq (zjq (mB (mOp (fEq true) (mVar 2) (mLst false mNil))) (mDrop (mBm "list" zbc (mVar 3) (mCons (mBm "list" zlk (mVar 2) (mCons (mCall zlb (mCons (mVar 0) (mCons (mCb fLen (mCons (mVar 2) mNil)) mNil))) mNil)) mNil))))
  (mFrz 3 (mRet (mVar 3)))))
def zl7 : List D → Store → Res D := mFn 4 2 zqo
def St (μ : Store) (s c : Nat) : Prop := ∃ a b z : Int, μ[s]? = some (some (.lst [.int a, .int b, .int z])) ∧ 0 ≤ z ∧ z ≤ c
structure Fr (s : Nat) (μ μ' : Store) : Prop where
  len : μ.length ≤ μ'.length
  at_ : ∀ n, n < μ.length → n ≠ s → μ'[n]? = μ[n]?
section
variable {Q : D → Store → Prop} {X : Exc → Store → Prop} {P : Post} {ρ : Mi.Env} {μ μ' μ'' : Store} {s c n : Nat}
theorem St.lt (h : St μ s c) : s < μ.length := by
  obtain ⟨a, b, z, e, _⟩ := h
  exact (List.getElem?_eq_some_iff.mp e).1
theorem St.le (h : St μ s c) {d : Nat} (l : c ≤ d) : St μ s d := by
  obtain ⟨a, b, z, e, h0, h1⟩ := h
  exact ⟨a, b, z, e, h0, by omega⟩
theorem Fr.refl : Fr s μ μ := ⟨Nat.le_refl _, fun _ _ _ => rfl⟩
theorem Fr.trans (h : Fr s μ μ') (k : Fr s μ' μ'') : Fr s μ μ'' := ⟨Nat.le_trans h.len k.len, fun n l ne => (k.at_ n (Nat.lt_of_lt_of_le l h.len) ne).trans (h.at_ n l ne)⟩
theorem Fr.set {x : Option Cell} : Fr s μ (μ.set s x) := ⟨by simp, fun n l ne => by rw [List.getElem?_set_ne (Ne.symm ne)]⟩
theorem Fr.new {x : Option Cell} : Fr s μ (μ ++ [x]) := ⟨by simp, fun n l ne => by rw [List.getElem?_append_left l]⟩
theorem Fr.put {k : Nat} {x : Option Cell} (h : Fr s μ μ') (l : μ.length ≤ k) : Fr s μ (μ'.set k x) := ⟨by rw [List.length_set]; exact h.len, fun n l2 ne => by rw [List.getElem?_set_ne (by omega)]; exact h.at_ n l2 ne⟩
theorem St.new {x : Option Cell} (h : St μ s c) : St (μ ++ [x]) s c := by
  have l := h.lt
  obtain ⟨a, b, z, e, h0, h1⟩ := h
  exact ⟨a, b, z, by rw [List.getElem?_append_left l]; exact e, h0, h1⟩
theorem St.put {k : Nat} {x : Option Cell} (h : St μ s c) (ne : k ≠ s) : St (μ.set k x) s c := by
  obtain ⟨a, b, z, e, h0, h1⟩ := h
  exact ⟨a, b, z, by rw [List.getElem?_set_ne ne]; exact e, h0, h1⟩
theorem zack {cell turn : Int} (h0 : 0 ≤ turn) (h1 : turn < 1000) (k : ∀ x y : Int, Q (.own μ.length) (μ ++ [some (.lst [.int x, .int y, .int 0])])) : @Rp _ (zq6 [.int cell, .int turn] μ) Q X := by
  simp only [zq6, zw6, zao, rp_fn, rs_ret, rp_lst, rp_cons, rp_cb, rp_op, rp_var, rp_c, rp_nil, f_i2, f_i2c, f_max, f_addI, f_mulI, rp_newL]
  simp
  refine ⟨by unfold Cs.CPowW; decide +kernel, Cs.zk5 (a := 10) (b := 10) (by decide) (by omega) (by decide) (by decide) (by decide), by decide, ?_⟩
  exact k _ _
theorem zf2 {n : Int} (h : St μ s c) (hc : c < 1000000) (h0 : 0 < n) (h1 : n < 1073741824) (k : ∀ (r : Int) μ', 0 ≤ r → r < n → St μ' s (c + 1) → Fr s μ μ' → Q (.int r) μ') : @Rp _ (zlb [.own s, .int n] μ) Q X := by
  have hl := h.lt
  obtain ⟨x, y, z, hs, z0, z1⟩ := h
  have set1 : ∀ v : Option Cell, (μ.set s v)[s]? = some v := fun v => by simp [hl]
  have hs2 := set1 (some (.lst [.int x, .int y, .int (z + 1)]))
  have f1 := Cs.zjc (a := y) (b := 2147483629) (by decide)
  have f2 := Cs.zjc (a := y) (b := 2147483587) (by decide)
  have hz2 : (z + 1).natAbs < 2 ^ 20 := by
    have : (2:Nat) ^ 20 = 1048576 := by decide
    omega
  have m1 : CMulW 104729 (z + 1) := Cs.zk5 (a := 17) (b := 20) (by decide) hz2 (by decide) (by decide) (by decide)
  have m2 : CMulW 7919 (z + 1) := Cs.zk5 (a := 13) (b := 20) (by decide) hz2 (by decide) (by decide) (by decide)
  have b2 : (7919 * (z + 1)).natAbs < 2 ^ 33 := wide_lt (a := 13) (b := 20) (by decide) hz2
  have m3 : CMulW (7919 * (z + 1)) (z + 1) := Cs.zk5 (a := 33) (b := 20) b2 hz2 (by decide) (by decide) (by decide)
  have b3 : (7919 * (z + 1) * (z + 1)).natAbs < 2 ^ 53 := wide_lt (a := 33) (b := 20) b2 hz2
  have b1 : (104729 * (z + 1)).natAbs < 2 ^ 37 := wide_lt (a := 17) (b := 20) (by decide) hz2
  have e37 : (2:Nat) ^ 37 = 137438953472 := by decide
  have e53 : (2:Nat) ^ 53 = 9007199254740992 := by decide
  have u1 : (y.fmod 2147483629 + 104729 * (z + 1)).natAbs < 2 ^ 38 := by
    have e38 : (2:Nat) ^ 38 = 274877906944 := by decide
    omega
  have u2 : (y.fmod 2147483587 + 7919 * (z + 1) * (z + 1) + 11).natAbs < 2 ^ 54 := by
    have e54 : (2:Nat) ^ 54 = 18014398509481984 := by decide
    omega
  have m4 : CMulW (y.fmod 2147483629 + 104729 * (z + 1)) (y.fmod 2147483587 + 7919 * (z + 1) * (z + 1) + 11) := Cs.zk5 (a := 38) (b := 54) u1 u2 (by decide) (by decide) (by decide)
  have u3 : ((y.fmod 2147483629 + 104729 * (z + 1)) * (y.fmod 2147483587 + 7919 * (z + 1) * (z + 1) + 11)).natAbs < 2 ^ 92 := wide_lt (a := 38) (b := 54) u1 u2
  have p1 : Cs.CPowW ((y.fmod 2147483629 + 104729 * (z + 1)) * (y.fmod 2147483587 + 7919 * (z + 1) * (z + 1) + 11)) 3 := by
    refine ⟨by decide, ?_⟩
    have l := PySem.Flt.log2_lt_of (by decide) u3
    have e27 : (2:Int) ^ 27 = 134217728 := by decide
    omega
  have d1 : CDivN x n := ⟨by omega, by omega⟩
  have d2 : ∀ v : Int, CDivN v 11 := fun v => ⟨by decide, by decide⟩
  have n0 : n ≠ 0 := by omega
  have e2 : ∀ v, [D.int x, D.int y, D.int z].set (Int.toNat 2) v = [D.int x, D.int y, v] := fun _ => rfl
  have S1 := zdm hs
  have S2 := zdm hs2
  simp only [zlb, zaau, zao, rp_fn, rs_ret, rs_seq, rs_if, rs_set, rs_asg, rs_next, rp_B, rp_op, rp_var, rp_c, f_i2, f_i2c, f_addI, f_mulI, rg_subL, f_ixL S1, zgo hs, List.map, List.length, List.replicate, List.cons_append, List.nil_append, List.getElem?_cons_zero, List.getElem?_cons_succ, List.set_cons_zero, List.set_cons_succ, atI_0, atI_1, atI_2, Nat.reduceAdd, Nat.reduceSub, Nat.sub_self, ixN_nat (n := 3) (i := 0) (by decide) (by decide), ixN_nat (n := 3) (i := 2) (by decide) (by decide), true_and]
  by_cases hx : 0 < x
  · simp only [hx, decide_true, if_true, n0, ne_eq, not_false_eq_true, true_and, d1]
    refine k _ _ (Cs.zjc h0).1 (Cs.zjc h0).2 ⟨_, y, z, set1 _, z0, by omega⟩ .set
  · simp only [hx, decide_false, Bool.false_eq_true, if_false, e2, f_ixL S2, atI_0, atI_1, atI_2, f_i2c, f_addI, f_mulI, ne_eq, m1, m2, m3, m4, p1, n0, d2, not_false_eq_true, true_and, List.getElem?_cons_zero, List.getElem?_cons_succ, List.set_cons_zero, List.set_cons_succ]
    refine ⟨by decide, by decide, by decide, ?_⟩
    exact k _ _ (Cs.zjc h0).1 (Cs.zjc h0).2 ⟨x, y, z + 1, hs2, by omega, by omega⟩ .set
theorem zkz {x : D} {xs : List D} (h : St μ s c) (hc : c < 1000000) (hx : ∀ μ', Fr s μ μ' → seqL μ' x = some xs) (h0 : 0 < xs.length) (h1 : xs.length < 1073741824) (k : ∀ d μ', d ∈ xs → St μ' s (c + 1) → Fr s μ μ' → Q d μ') : @Rp _ (zth [.own s, x] μ) Q X := by
  have e1 : ∀ Q, @Rp _ (fLen [x] μ) Q X = Q (.int xs.length) μ := fun Q => zqc (hx μ .refl)
  simp only [zth, zaat, zao, rp_fn, rs_ret, rp_op, rp_var, rp_call, rp_cons, rp_nil, rp_cb, e1, List.map, List.length, List.replicate, List.cons_append, List.nil_append, List.getElem?_cons_zero, List.getElem?_cons_succ, Nat.reduceAdd, Nat.reduceSub, Nat.sub_self, true_and]
  refine zf2 h hc (by omega) (by omega) fun r μ' r0 r1 st fr => ?_
  obtain ⟨d, e, hd⟩ := atI_nat (xs := xs) r0 r1
  rw [f_ixL (hx μ' fr), e]
  exact k d μ' hd st fr
theorem zabn {α : Type} {xs : List α} {i : Nat} {y : α} (h : xs[i]? = some y) : (y :: xs.eraseIdx i).Perm xs := by
  induction xs generalizing i with
  | nil => simp at h
  | cons a as ih =>
    cases i with
    | zero => cases Option.some.inj h; exact .refl _
    | succ i => exact (List.Perm.swap _ _ _).trans ((ih h).cons a)
theorem zof {x : D} {xs : List D} (h : St μ s c) (hc : c + xs.length ≤ 1000000) (hx : seqL μ x = some xs) (k : ∀ ys μ', ys.Perm xs → St μ' s (c + xs.length) → Fr s μ μ' → Q (.lst ys) μ') : @Rp _ (zl7 [.own s, x] μ) Q X := by
  have hl := h.lt
  have zl : 1000000 < sizeLine := by decide
  simp only [zl7, zqo, zao, rp_fn, rs_seq, rs_par, rp_cons, rp_nil, rp_cb, rp_var, rp_lst, List.map, List.length, List.replicate, List.cons_append, List.nil_append, List.getElem?_cons_zero, List.getElem?_cons_succ, List.set_cons_zero, List.set_cons_succ, Nat.reduceAdd, Nat.reduceSub, Nat.sub_self, true_and, f_list hx, rp_newL, if_true, List.length_append]
  refine ⟨by omega, ?_⟩
  refine zx2 (fun m ρ μ' => ρ = [some (.own s), some x, some (.own μ.length), some (.own (μ.length + 1))] ∧ m ≤ xs.length ∧ St μ' s (c + (xs.length - m)) ∧ Fr s μ μ' ∧ μ.length + 2 ≤ μ'.length ∧
    ∃ l f : List D, l.length = m ∧ (f ++ l).Perm xs ∧ μ'[μ.length]? = some (some (.lst l)) ∧ μ'[μ.length + 1]? = some (some (.lst f))) xs.length ⟨rfl, Nat.le_refl _, (h.new.new).le (by omega), Fr.trans .new .new, by simp, xs, [], rfl, .refl _, by simp, by simp⟩ ?_
  rintro m ρ μ1 ⟨rfl, hm, st, fr, len, l, f, el, pm, e1, e2⟩
  have pl := pm.length_eq
  simp only [List.length_append] at pl
  simp only [rp_B, rp_op, rp_var, rp_lst, rp_nil, rp_newL, List.getElem?_cons_zero, List.getElem?_cons_succ, zgy (zdm e1), List.length_nil, Nat.zero_le, true_and, if_false, Bool.false_eq_true, if_true]
  cases l with
  | nil =>
    simp only [List.isEmpty_nil, Bool.not_true, Bool.false_eq_true, if_false, rs_frz, List.getElem?_cons_zero, List.getElem?_cons_succ, e2, frzC, rs_ret, rp_var, List.set_cons_zero, List.set_cons_succ]
    refine ⟨by omega, ?_⟩
    subst el
    refine k _ _ (by simpa using pm) (st.put (by omega)) (fr.put (by omega))
  | cons a as =>
    subst el
    simp only [List.isEmpty_cons, Bool.not_false, if_true, rs_drop, rp_bm, rp_var, rp_call, rp_cons, rp_nil, rp_cb, List.getElem?_cons_zero, List.getElem?_cons_succ, zcj e1, zcj e2, zqc (zdm e1), true_and]
    refine ⟨as.length, rfl, ?_⟩
    simp only [List.length_cons] at hm pl
    refine zf2 st (by simp only [List.length_cons]; omega) (by simp only [List.length_cons]; omega) (by simp only [List.length_cons]; omega) fun r μ2 r0 r1 st2 fr2 => ?_
    have g1 := (fr2.at_ _ (Nat.lt_of_lt_of_le (by omega) len) (by omega : μ.length ≠ s)).trans e1
    have g2 := (fr2.at_ (μ.length + 1) (by omega) (by omega)).trans e2
    refine f_pop g1 r0 r1 (by simp only [List.length_cons]; omega) fun y hy => ?_
    have g3 : (μ2.set μ.length (some (.lst ((a :: as).eraseIdx r.toNat))))[μ.length + 1]? = some (some (.lst f)) := by rw [List.getElem?_set_ne (by omega)]; exact g2
    have l2 := fr2.len
    rw [zep g3]
    have ry : r.toNat < (a :: as).length := by simp only [List.length_cons] at r1 ⊢; omega
    have el : ((a :: as).eraseIdx r.toNat).length = as.length := by rw [List.length_eraseIdx, if_pos ry]; rfl
    refine ⟨by omega, by omega, ((st2.put (by omega)).put (by omega)).le (by simp only [List.length_cons]; omega), ((fr.trans fr2).put (by omega)).put (by omega), by simp only [List.length_set]; omega, _, f ++ [y], el, ?_, ?_, ?_⟩
    · rw [List.append_assoc]
      exact ((zabn hy).append_left f).trans pm
    · rw [List.getElem?_set_ne (by omega), List.getElem?_set_self (by omega)]
    · rw [List.getElem?_set_self (by simp only [List.length_set]; omega)]
end
end Pl
namespace Pl
open PySem PySem.Spec L2 Mi
def zb4 : MS := (mRet (mAndV (mUn (fIsS (.ty "int")) (mVar 0)) (mAndV (mNotV (mUn (fIsS (.ty "bool")) (mVar 0))) (zeg (fI2 fun i j => .bl (decide (i ≤ j))) (fI2 fun i j => .bl (decide (i ≤ j))) (mC (.int 0)) (mVar 0) (mC (.int 999))))))
def zaz : List D → Store → Res D := mFn 1 1 zb4
def zbm : MS := (mRet (mAndV (mUn (fIsL [(.ty "list"), (.ty "tuple")]) (mVar 0)) (mCb (fAll false) (mCons (mLc false (miAny (mVar 0)) (zbk 1) mYes (mCall zaz (mCons (mVar 1) mNil)) [1]) mNil))))
def zau : List D → Store → Res D := mFn 2 1 zbm
def zb0 : MS := (mRet (mDc false (miAny (mCb (ze0 false) (mCons (mVar 0) mNil))) (zbk 1) mYes (mVar 1) (mDGet (mVar 0) (mVar 1)) [1]))
def za5 : List D → Store → Res D := mFn 2 1 zb0
def zdf : MS := (mRet (mAndV (mUn (fIsS (.ty "str")) (mVar 0)) (mAndV (zeg fLt (fI2 fun i j => .bl (decide (i ≤ j))) (mC (.int 0)) (mCb fLen (mCons (mVar 0) mNil)) (mC (.int 6))) (mCb (fAll false) (mCons (mLc false (miAny (mVar 0)) (zbk 1) mYes (zeg fLeS fLeS (mC (.str "a")) (mVar 1) (mC (.str "z"))) [1]) mNil)))))
def zbv : List D → Store → Res D := mFn 2 1 zdf
def zbw : MS := (mRet (mAndV (mUn (fIsS (.ty "dict")) (mVar 0)) (mCb (fAll false) (mCons (mLcK false 0 (zbk 1) mYes (mAndV (mCall zbv (mCons (mVar 1) mNil)) (mCall zaz (mCons (mDGet (mVar 0) (mVar 1)) mNil))) [1]) mNil))))
def za1 : List D → Store → Res D := mFn 2 1 zbw
def dat : D → Bool
  | .non => true
  | .bl _ => true
  | .int _ => true
  | .str _ => true
  | .lst _ => true
  | .tup _ => true
  | .dct _ _ => true
  | _ => false
def zz3 : D → Bool
  | .bl _ => true
  | .int _ => true
  | _ => false
def isBlD : D → Bool
  | .bl _ => true
  | _ => false
def zha : D → Bool
  | .str _ => true
  | _ => false
def zju : D → Bool
  | .lst _ => true
  | .tup _ => true
  | _ => false
def zty : D → Bool
  | .dct _ _ => true
  | _ => false
section
variable {Q : D → Store → Prop} {X : Exc → Store → Prop} {P : Post} {ρ : Mi.Env} {μ μ' μ'' : Store} {s c n : Nat} {d : D}
theorem zafc (h : dat d = true) : fIsS (.ty "int") d μ = .ok (.bl (zz3 d)) μ := by cases d <;> first | rfl | cases h
theorem is_bl (h : dat d = true) : fIsS (.ty "bool") d μ = .ok (.bl (isBlD d)) μ := by cases d <;> first | rfl | cases h
theorem is_str (h : dat d = true) : fIsS (.ty "str") d μ = .ok (.bl (zha d)) μ := by cases d <;> first | rfl | cases h
theorem zafe (h : dat d = true) : fIsS (.ty "dict") d μ = .ok (.bl (zty d)) μ := by cases d <;> first | rfl | cases h
theorem zfl (h : dat d = true) : fIsL [.ty "list", .ty "tuple"] d μ = .ok (.bl (zju d)) μ := by cases d <;> first | rfl | cases h
theorem ok_of {α : Type} {r : Res α} {a : α} (h : @Rp _ r (fun b μ' => b = a ∧ μ' = μ) fun _ _ => False) : r = .ok a μ := by
  obtain ⟨b, μ', e, rfl, rfl⟩ := zpj h
  exact e
def isVal : D → Bool
  | .int i => decide (0 ≤ i) && decide (i ≤ 999)
  | _ => false
theorem value_eq (h : dat d = true) : zaz [d] μ = .ok (.bl (isVal d)) μ := ok_of (by
  have e1 := zafc (μ := μ) h
  have e2 := is_bl (μ := μ) h
  simp [zaz, zb4, zao, e1, e2]
  cases d <;> simp [zz3, isBlD, isVal] at h ⊢
  rename_i i
  by_cases h0 : 0 ≤ i <;> simp [h0] <;> omega)
theorem f_ltI {i j : Int} : @Rp _ (fLt (.int i) (.int j) μ) Q X = Q (.bl (decide (i < j))) μ := by
  have e : fLt (.int i) (.int j) μ = .ok (.bl (decide (i < j))) μ := by
    unfold fLt
    rw [show D.view μ (.int i) = some (.int i) from rfl, show D.view μ (.int j) = some (.int j) from rfl]
    dsimp only
    rw [if_pos (by refine ⟨rfl, rfl, rfl, ?_, ?_⟩; exact (fun z => by cases z); exact Nat.zero_le _)]
    rw [PySem.W.dataLt_int]
  rw [e]; rfl
theorem zuq : ∀ bs : List Bool, allB (bs.map D.bl) = some bs
  | [] => rfl
  | b :: bs => by show (allB (bs.map D.bl)).map _ = _; rw [zuq bs]; rfl
theorem f_all {bs : List Bool} : @Rp _ (fAll false [.lst (bs.map D.bl)] μ) Q X = Q (.bl (bs.all id)) μ := by
  unfold fAll
  simp [zuq]
theorem zaap {z : Str} : (chars z).length = z.length := by unfold chars; rw [List.length_map]; rfl
@[simp] theorem any_str {z : Str} : zdn μ (.str z) = some (chars z, []) := rfl
@[simp] theorem any_lst {ds : List D} : zdn μ (.lst ds) = some (ds, []) := rfl
@[simp] theorem any_tup {ds : List D} : zdn μ (.tup ds) = some (ds, []) := rfl
theorem zw7 {k : Nat} {ds : List D} (h : μ[k]? = some (some (.lst ds))) : zdn μ (.own k) = some (ds, [k]) := by
  unfold zdn
  rw [zdm h]; rfl
def lowC (c : Nat) : Bool := decide (97 ≤ c) && decide (c ≤ 122)
def lowD : D → Bool
  | .str z => z.cps.toList.all lowC
  | _ => false
def isName : D → Bool
  | .str z => Cs.zah z
  | _ => false
@[simp] theorem f_leS {i j : Str} : @Rp _ (fLeS (.str i) (.str j) μ) Q X = Q (.bl (!decide (j.cps.toList < i.cps.toList))) μ := rfl
theorem zae9 (a b : Nat) : ([a] < [b]) ↔ a < b := by
  show List.Lex (· < ·) [a] [b] ↔ _
  constructor
  · intro h
    cases h with
    | rel h => exact h
    | cons h => cases h
  · exact .rel
theorem zaao {z : Str} (f : D → D) (g : Nat → D) (h : ∀ k, f (.str ⟨#[k]⟩) = g k) : (chars z).map f = z.cps.toList.map g := by
  unfold chars
  rw [List.map_map]
  exact List.map_congr_left fun k _ => h k
theorem zzr {k : Nat} : (!decide ([k] < (Str.cps "a").toList)) = decide (97 ≤ k) ∧ (!decide ((Str.cps "z").toList < [k])) = decide (k ≤ 122) := by
  have e1 : (Str.cps "a").toList = [97] := by decide +kernel
  have e2 : (Str.cps "z").toList = [122] := by decide +kernel
  rw [e1, e2]
  simp only [zae9]
  constructor
  · by_cases h : 97 ≤ k <;> simp [h]
    omega
  · by_cases h : k ≤ 122 <;> simp [h]
    omega
theorem ztm {k : Nat} : lowD (.str ⟨#[k]⟩) = lowC k := by simp [lowD]
def fitS : D → Prop
  | .str z => z.length ≤ sizeLine
  | _ => True
theorem zvx (h : dat d = true) (hf : fitS d) : zbv [d] μ = .ok (.bl (isName d)) μ := ok_of (by
  have e1 := is_str (μ := μ) h
  simp [zbv, zdf, zao, e1]
  cases d with
  | str z =>
    have hz : z.length ≤ sizeLine := hf
    simp only [zha, zacd hz, f_ltI]
    by_cases h0 : 0 < z.length
    · have h0' : (0 : Int) < z.length := by omega
      by_cases h6 : z.length ≤ 6
      · have h6' : (z.length : Int) ≤ 6 := by omega
        simp only [h0', h6', decide_true, f_i2, any_str]
        rw [zv8 (fun _ => true) (fun d => .bl (lowD d)) (by rw [zaap]; exact hz) fun d hd => ?_]
        · rw [rp_ok, List.filter_eq_self.mpr (fun _ _ => rfl), zaao (fun d => D.bl (lowD d)) (fun k => D.bl (lowC k)) fun k => by rw [ztm], show (z.cps.toList.map fun k => D.bl (lowC k)) = (z.cps.toList.map lowC).map D.bl by rw [List.map_map]; rfl]
          simp only [rp_newL, Bool.false_eq_true, if_false, f_all, isName, Cs.zah, h0, h6, decide_true, Bool.true_and, Cs.isWord, List.all_map, and_true]
          rfl
        · obtain ⟨k, hk, rfl⟩ := List.mem_map.mp hd
          refine ⟨_, rfl, rfl, fun _ => ok_of ?_⟩
          simp [zbk, wipeD]
          have q := (zzr (k := k)).2
          rw [zzr.1, ztm]
          by_cases h97 : 97 ≤ k
          · simp only [h97, decide_true, lowC, Bool.true_and]
            rw [← q, Bool.not_not]
          · simp [h97, lowC]
      · have h6' : ¬ (z.length : Int) ≤ 6 := by omega
        simp [h0', h6', h0, h6, isName, Cs.zah]
    · have h0' : ¬ (0 : Int) < z.length := by omega
      simp [h0, h0', isName, Cs.zah]
  | _ => simp [zha, isName])
def znl : D → Bool
  | .lst ds => ds.all isVal
  | .tup ds => ds.all isVal
  | _ => false
theorem values_eq {ds : List D} (h : dat d = true) (hs : ∀ ds, d = .lst ds ∨ d = .tup ds → ds.length ≤ sizeLine ∧ ∀ e ∈ ds, dat e = true) : zau [d] μ = .ok (.bl (znl d)) μ := ok_of (by
  have e1 := zfl (μ := μ) h
  simp [zau, zbm, zao, e1]
  have run : ∀ ds : List D, ds.length ≤ sizeLine → (∀ e ∈ ds, dat e = true) → ∀ x : D, @Rp _ (lcA [] μ (zbk 1) mYes (mCall zaz (mCons (mVar 1) mNil)) (wipeD [some x, none] [1]) ds [] μ) (fun xs μ_1 => @Rp _ (fAll false [D.lst xs] μ_1) (fun b μ' => b = D.bl (ds.all isVal) ∧ μ' = μ) fun x x_1 => False) fun x x_1 => False := fun ds hl hd x => by
    refine zyi (fun d => .bl (isVal d)) hl (fun d hm => ⟨_, rfl, ok_of (by simp [wipeD, value_eq (hd d hm)])⟩) ?_
    rw [show (ds.map fun d => D.bl (isVal d)) = (ds.map isVal).map D.bl by rw [List.map_map]; rfl, f_all, List.all_map]
    exact ⟨rfl, rfl⟩
  cases d with
  | lst ds => obtain ⟨h1, h2⟩ := hs ds (.inl rfl); simpa [zju, znl] using run ds h1 h2 _
  | tup ds => obtain ⟨h1, h2⟩ := hs ds (.inr rfl); simpa [zju, znl] using run ds h1 h2 _
  | _ => simp [zju, znl])
end
end Pl
namespace Pl
open PySem PySem.Spec L2 Mi
def leS (a b : Str) : Bool := !PySem.Spec.ltCps b.cps.toList a.cps.toList
theorem zle {a b : Str} : leS a b = true ↔ a.cps.toList ≤ b.cps.toList := by
  unfold leS
  rw [PyProof.Rows.ltCps_eq]
  show (!decide (b.cps.toList < a.cps.toList)) = true ↔ ¬ (b.cps.toList < a.cps.toList)
  simp
theorem zoq (ss : List Str) : Cs.zlw ss (sortS ss) := by
  have ex : ∃ ys, Cs.zlw ss ys := by
    refine ⟨ss.mergeSort leS, List.mergeSort_perm ss leS, PyProof.Rows.sortedS_of_pairwise _ ?_⟩
    have p := List.pairwise_mergeSort (le := leS) (fun a b c h1 h2 => zle.mpr (List.le_trans (zle.mp h1) (zle.mp h2))) (fun a b => by
      rw [Bool.or_eq_true, zle, zle]
      exact List.le_total _ _) ss
    refine p.imp fun {a b} h => ?_
    unfold leS at h
    simpa using h
  obtain ⟨ys, h⟩ := ex
  rw [ze4 h]
  exact h
theorem zbr {ss : List Str} : (sortS ss).Perm ss := (zoq ss).1
section
variable {Q : D → Store → Prop} {X : Exc → Store → Prop} {P : Post} {ρ : Mi.Env} {μ μ' μ0 : Store} {s c n : Nat} {d : D} {L : List Key × List D → Store → Prop}
theorem zacw {b : Bool} {i : Nat} {g : D → Mi.Env → Option Mi.Env} {t : MT} {el : ME} {vs : List Nat} {ks : List Key} {ds : List D} (h : ρ[i]? = some (some (.dct ks ds)))
    (r : @Rp _ (lcA [] μ g t el (wipeD ρ vs) (ks.map keyDD) [] μ) (fun xs μ => @Rp _ (newL b xs μ) Q fun _ _ => False) fun _ _ => False) : @Rp _ (mLcK b i g t el vs ρ μ) Q X := by
  unfold mLcK mLock
  rw [h]
  dsimp only
  rw [← rp_bind] at r
  obtain ⟨x, μ', e, q⟩ := zpj r
  rw [e]
  exact q
theorem zacv {i k : Nat} {g : D → Mi.Env → Option Mi.Env} {t : MT} {el : ME} {vs : List Nat} {ks : List Key} {ds xs : List D} (h : ρ[i]? = some (some (.own k))) (hk : μ[k]? = some (some (.dct ks ds)))
    (r : lcA [] (μ.set k (some (.lck ks ds))) g t el (wipeD ρ vs) (ks.map keyDD) [] (μ.set k (some (.lck ks ds))) = .ok xs (μ.set k (some (.lck ks ds)))) (q : Q (.lst xs) μ) : @Rp _ (mLcK false i g t el vs ρ μ) Q X := by
  have hl : k < μ.length := (List.getElem?_eq_some_iff.mp hk).1
  unfold mLcK mLock
  rw [h]
  dsimp only
  rw [hk]
  dsimp only
  rw [r]
  simp only [Res.bind, newL, Bool.false_eq_true, if_false]
  rw [List.getElem?_set_self hl]
  dsimp only
  rw [List.set_set, show μ.set k (some (.dct ks ds)) = μ from by
    have e2 : μ[k]'hl = some (.dct ks ds) := (List.getElem?_eq_some_iff.mp hk).2
    rw [← e2]; exact List.set_getElem_self hl]
  exact q
structure DcOk (ks : List Key) (ds : List D) : Prop where
  len : ks.length = ds.length
  nd : ks.Nodup
  short : ks.length ≤ sizeLine
  dat : ∀ e ∈ ds, dat e = true
  fit : ∀ z, Sum.inr z ∈ ks → z.length ≤ sizeLine
def zdi : Key → Bool
  | .inr z => Cs.zah z
  | _ => false
def isTab : D → Bool
  | .dct ks ds => ks.all zdi && ds.all isVal
  | _ => false
theorem zxw {k : Key} : isName (keyDD k) = zdi k := by cases k <;> rfl
theorem zkb {ks : List Key} {ds : List D} (h : ks.length = ds.length) {k : Key} (hk : k ∈ ks) : ∃ d, lookK k ks ds = some d ∧ d ∈ ds := by
  induction ks generalizing ds with
  | nil => cases hk
  | cons a as ih =>
    cases ds with
    | nil => simp at h
    | cons e es =>
      unfold lookK
      by_cases q : a = k
      · rw [if_pos q]; exact ⟨e, rfl, List.mem_cons_self⟩
      · rw [if_neg q]
        obtain ⟨d, h1, h2⟩ := ih (by simpa using h) ((List.mem_cons.mp hk).resolve_left fun z => q z.symm)
        exact ⟨d, h1, List.mem_cons_of_mem _ h2⟩
theorem zzs {β : Type} (f : D → β) (z : β) {ks : List Key} {ds : List D} (h : ks.length = ds.length) (nd : ks.Nodup) : ks.map (fun k => match lookK k ks ds with | some d => f d | none => z) = ds.map f := by
  induction ks generalizing ds with
  | nil => cases ds <;> simp at h ⊢
  | cons a as ih =>
    cases ds with
    | nil => simp at h
    | cons e es =>
      have nd' := List.nodup_cons.mp nd
      rw [List.map_cons, List.map_cons]
      congr 1
      · simp [lookK]
      · rw [← ih (by simpa using h) nd'.2]
        refine List.map_congr_left fun k hk => ?_
        have : a ≠ k := fun q => nd'.1 (q ▸ hk)
        simp [lookK, this]
theorem zad6 {k : Key} : dat (keyDD k) = true := by cases k <;> rfl
theorem zrn {ks : List Key} {ds : List D} {x : D} (g : DcOk ks ds) (hx : dctOf μ x = some (ks, ds)) :
    lcA [] μ (zbk 1) mYes (mAndV (mCall zbv (mCons (mVar 1) mNil)) (mCall zaz (mCons (mDGet (mVar 0) (mVar 1)) mNil))) (wipeD [some x, none] [1]) (ks.map keyDD) [] μ
      = .ok (((ks.map fun k => zdi k && (match lookK k ks ds with | some d => isVal d | none => false))).map D.bl) μ := by
  have key : ∀ k ∈ ks, (mAndV (mCall zbv (mCons (mVar 1) mNil)) (mCall zaz (mCons (mDGet (mVar 0) (mVar 1)) mNil)) : ME) [some x, some (keyDD k)] μ = .ok (.bl (zdi k && (match lookK k ks ds with | some d => isVal d | none => false))) μ := fun k hk => ok_of (by
    have fit : fitS (keyDD k) := by cases k with | inl _ => trivial | inr z => exact g.fit z hk
    obtain ⟨d, h1, h2⟩ := zkb g.len hk
    have ko : keyOf (keyDD k) = some k := by cases k <;> rfl
    simp [zvx zad6 fit, hx, ko, h1, value_eq (g.dat d h2), zxw]
    cases zdi k <;> simp)
  rw [zzx (fun d => match keyOf d with | some k => D.bl (zdi k && (match lookK k ks ds with | some d => isVal d | none => false)) | none => .non) (by rw [List.length_map]; exact g.short) fun d hd => ?_]
  · rw [List.map_map, List.map_map]
    congr 1
    refine List.map_congr_left fun k _ => ?_
    cases k <;> rfl
  · obtain ⟨k, hk, rfl⟩ := List.mem_map.mp hd
    refine ⟨_, rfl, ?_⟩
    have := key k hk
    have ko : keyOf (keyDD k) = some k := by cases k <;> rfl
    rw [ko]
    exact this
theorem zva {ks : List Key} {ds : List D} (g : DcOk ks ds) : (ks.map fun k => zdi k && (match lookK k ks ds with | some d => isVal d | none => false)).all id = isTab (.dct ks ds) := by
  have e := zzs isVal false g.len g.nd
  show _ = (ks.all zdi && ds.all isVal)
  rw [List.all_map, Bool.eq_iff_iff, Bool.and_eq_true, List.all_eq_true, List.all_eq_true, List.all_eq_true]
  constructor
  · intro h
    refine ⟨fun k hk => (Bool.and_eq_true_iff.mp (h k hk)).1, fun d hd => ?_⟩
    have : isVal d ∈ ds.map isVal := List.mem_map_of_mem hd
    rw [← e] at this
    obtain ⟨k, hk, q⟩ := List.mem_map.mp this
    exact q ▸ (Bool.and_eq_true_iff.mp (h k hk)).2
  · rintro ⟨h1, h2⟩ k hk
    obtain ⟨d, q1, q2⟩ := zkb g.len hk
    simp [h1 k hk, q1, h2 d q2]
theorem table_eq (h : dat d = true) (hd : ∀ ks ds, d = .dct ks ds → DcOk ks ds) : za1 [d] μ = .ok (.bl (isTab d)) μ := ok_of (by
  have e1 := zafe (μ := μ) h
  cases d with
  | dct ks ds =>
    have g := hd ks ds rfl
    simp [za1, zbw, zao, e1, zty]
    refine zacw rfl ?_
    rw [zrn g rfl]
    simp only [rp_ok, rp_newL, Bool.false_eq_true, if_false, f_all, zva g]
    constructor <;> trivial
  | _ => simp [za1, zbw, zao, e1, zty, isTab])
theorem zaaj {k : Nat} {ks : List Key} {ds : List D} (h : μ[k]? = some (some (.lck ks ds))) : dctOf μ (.own k) = some (ks, ds) := by unfold dctOf; simp [h]
theorem zadn {k : Nat} {ks : List Key} {ds : List D} (h : μ[k]? = some (some (.dct ks ds))) : fIsS (.ty "dict") (.own k) μ = .ok (.bl true) μ := by
  unfold fIsS zfk tnD
  simp only [h]
  rfl
theorem zro {k : Nat} {ks : List Key} {ds : List D} (hk : μ[k]? = some (some (.dct ks ds))) (g : DcOk ks ds) : za1 [.own k] μ = .ok (.bl (isTab (.dct ks ds))) μ := ok_of (by
  have hl : k < μ.length := (List.getElem?_eq_some_iff.mp hk).1
  simp [za1, zbw, zao, zadn hk]
  refine zacv rfl hk (zrn g (zaaj (List.getElem?_set_self hl))) ?_
  simp only [f_all, zva g]
  constructor <;> trivial)
@[simp] theorem rp_dc {b : Bool} {i : MI} {g : D → Mi.Env → Option Mi.Env} {t : MT} {ek ev : ME} {vs : List Nat} : @Rp _ (mDc b i g t ek ev vs ρ μ) Q X = @Rp _ (i ρ μ) (fun s μ => @Rp _ (dcA s.w μ g t ek ev (wipeD ρ vs) s.items [] [] μ) (fun p μ => @Rp _ (newK b p.1 p.2 μ) Q X) X) X := by
  unfold mDc; simp only [rp_bind]
theorem zj7 {ks : List Key} {k : Key} (h : k ∉ ks) : putKK ks k = ks ++ [k] := by unfold putKK; rw [if_neg h]
theorem zj6 {α : Type} {ks : List Key} {k : Key} {z : α} {ds : List α} (h : k ∉ ks) (hl : ks.length = ds.length) : putKV k z ks ds = ds ++ [z] := by
  induction ks generalizing ds with
  | nil => cases ds <;> simp [putKV] at hl ⊢
  | cons a as ih =>
    cases ds with
    | nil => simp at hl
    | cons e es =>
      unfold putKV
      have h1 : a ≠ k := fun q => h (q ▸ List.mem_cons_self)
      rw [if_neg h1, ih (fun q => h (List.mem_cons_of_mem _ q)) (by simpa using hl)]
      rfl
theorem zj2 {w : List Nat} : watch w μ μ := fun _ _ => rfl
theorem dc_go {w : List Nat} {g : D → Mi.Env → Option Mi.Env} {ek ev : ME} (fk : D → Key) (fv : D → D) : ∀ (ds : List D) (ks : List Key) (vs : List D), (∀ d ∈ ds, ∃ ρ2 y, g d ρ = some ρ2 ∧ ek ρ2 μ = .ok y μ ∧ keyOf y = some (fk d) ∧ ev ρ2 μ = .ok (fv d) μ) → ks.length = vs.length → (ks ++ ds.map fk).Nodup → ks.length + ds.length ≤ sizeLine →
    dcA w μ g mYes ek ev ρ ds ks vs μ = .ok (ks ++ ds.map fk, vs ++ ds.map fv) μ
  | [], ks, vs, _, _, _, _ => by
    unfold dcA
    rw [if_pos (zj2)]
    simp
  | d :: ds, ks, vs, h, hl, nd, hz => by
    obtain ⟨ρ2, y, h1, h2, h3, h4⟩ := h d List.mem_cons_self
    have nk : fk d ∉ ks := fun q => by
      have := (List.nodup_append.mp nd).2.2 _ q _ (by rw [List.map_cons]; exact List.mem_cons_self)
      exact this rfl
    simp only [List.length_cons] at hz
    unfold dcA
    rw [if_pos zj2, h1]
    dsimp only [mYes]
    rw [h2]
    dsimp only
    rw [h4]
    dsimp only
    rw [h3]
    dsimp only
    rw [if_pos (by omega), zj7 nk, zj6 nk hl, dc_go fk fv ds _ _ (fun e he => h e (List.mem_cons_of_mem _ he)) (by simp [hl]) (by simpa using nd) (by simp; omega)]
    simp
theorem zaep {w : List Nat} {g : D → Mi.Env → Option Mi.Env} {ek ev : ME} {ds : List D} (fk : D → Key) (fv : D → D) (step : ∀ d ∈ ds, ∃ ρ2 y, g d ρ = some ρ2 ∧ ek ρ2 μ = .ok y μ ∧ keyOf y = some (fk d) ∧ ev ρ2 μ = .ok (fv d) μ) (nd : (ds.map fk).Nodup) (hz : ds.length ≤ sizeLine) (k : L (ds.map fk, ds.map fv) μ) : @Rp _ (dcA w μ g mYes ek ev ρ ds [] [] μ) L X := by
  rw [dc_go fk fv ds [] [] step rfl (by simpa using nd) (by simpa using hz)]
  simpa using k
def lookO (k : Key) (ks : List Key) (ds : List D) : D := (lookK k ks ds).getD .non
def ascK (ss : List Str) : List Key := (sortS ss).map Sum.inr
def ascV (ss : List Str) (ds : List D) : List D := (sortS ss).map fun z => lookO (.inr z) (ss.map Sum.inr) ds
theorem zr1 : ∀ ss : List Str, keysS (ss.map Sum.inr) = some ss
  | [] => rfl
  | s :: ss => by show (keysS (ss.map Sum.inr)).map _ = _; rw [zr1 ss]; rfl
theorem zadv {b : Bool} {x : D} {ss : List Str} {ds : List D} (h1 : seqL μ x = none) (h2 : seqT x = none) (h3 : dctOf μ x = some (ss.map Sum.inr, ds)) (hl : ss.length < 64) : @Rp _ (ze0 b [x] μ) Q X = @Rp _ (newL b ((sortS ss).map D.str) μ) Q X := by
  unfold ze0
  simp [h1, h2, h3, zr1, hl]
theorem zmz : ∀ ss : List Str, strsD (ss.map D.str) = some ss
  | [] => rfl
  | s :: ss => by show (strsD (ss.map D.str)).map _ = _; rw [zmz ss]; rfl
theorem zadu {b : Bool} {x : D} {ss : List Str} (h1 : seqL μ x = some (ss.map D.str)) (hl : ss.length < 64) : @Rp _ (ze0 b [x] μ) Q X = @Rp _ (newL b ((sortS ss).map D.str) μ) Q X := by
  unfold ze0
  simp [h1, zmz, hl]
theorem zlq {x : D} {ss : List Str} {ds : List D} (h1 : seqL μ x = none) (h2 : seqT x = none) (h3 : dctOf μ x = some (ss.map Sum.inr, ds)) (hl : ss.length < 64) (nd : ss.Nodup) (hd : ss.length = ds.length) : za5 [x] μ = .ok (.dct (ascK ss) (ascV ss ds)) μ := ok_of (by
  have zl : 64 ≤ sizeLine := by decide
  have pl := (zbr (ss := ss)).length_eq
  simp [za5, zb0, zao, zadv h1 h2 h3 hl]
  refine zaep (fun d => (keyOf d).getD (.inl 0)) (fun d => match keyOf d with | some k => lookO k (ss.map Sum.inr) ds | none => .non) (fun d hd2 => ?_) ?_ (by rw [List.length_map]; omega) ?_
  · obtain ⟨z, hz, rfl⟩ := List.mem_map.mp hd2
    obtain ⟨d, q1, q2⟩ := zkb (ks := ss.map Sum.inr) (ds := ds) (k := .inr z) (by simpa using hd) (List.mem_map_of_mem (zbr.mem_iff.mp hz))
    refine ⟨_, .str z, rfl, rfl, rfl, ok_of ?_⟩
    simp [wipeD, h3, q1, lookO]
  · rw [List.map_map]
    exact List.Pairwise.map _ (fun a b ne q => ne (by simpa using q)) (zbr.nodup_iff.mpr nd)
  · simp only [List.map_map]
    exact ⟨⟨rfl, rfl⟩, trivial⟩)
end
end Pl
namespace Pl
open PySem PySem.Spec L2 Mi
def keyGd : Key → Bool
  | .inr z => decide (z.length ≤ 20) && PyData.strOk z
  | .inl _ => false
mutual
def gd : D → Bool
  | .non => true
  | .bl _ => true
  | .int i => decide (i.natAbs < 1000000)
  | .str z => keyGd (.inr z)
  | .lst ds => gds ds
  | .tup ds => gds ds
  | .dct ks ds => decide (ks.length = ds.length) && decide (ks.length ≤ 3) && decide ks.Nodup && ks.all keyGd && gds ds
  | _ => false
def gds : List D → Bool
  | [] => true
  | d :: ds => gd d && gds ds
end
mutual
def wt : D → Nat
  | .lst ds => wts ds
  | .tup ds => wts ds
  | .dct _ ds => wts ds + 22 * ds.length
  | _ => 20
def wts : List D → Nat
  | [] => 0
  | d :: ds => wt d + 1 + wts ds
end
mutual
def nest : D → Nat
  | .lst ds => nests ds + 1
  | .tup ds => nests ds + 1
  | .dct _ ds => nests ds + 1
  | _ => 0
def nests : List D → Nat
  | [] => 0
  | d :: ds => max (nest d) (nests ds)
end
theorem zn9 : ∀ {ds : List D}, gds ds = true ↔ ∀ d ∈ ds, gd d = true
  | [] => by simp [gds]
  | d :: ds => by
    rw [gds, Bool.and_eq_true, zn9 (ds := ds)]
    simp
structure Shows (d : D) (p : PyData) : Prop where
  s : p.showable = true
  l : PyData.leavesShort 60 p = true
  w : p.weight ≤ wt d
  n : p.depth ≤ nest d
inductive ShA : List D → List PyData → Prop
  | nil : ShA [] []
  | cons {d : D} {p : PyData} {ds : List D} {ps : List PyData} : Shows d p → ShA ds ps → ShA (d :: ds) (p :: ps)
theorem ShA.all : ∀ {ds : List D} {ps : List PyData}, ShA ds ps → PyData.showableAll ps = true ∧ PyData.leavesShortAll 60 ps = true ∧ PyData.weightAll ps ≤ wts ds ∧ PyData.depthAll ps ≤ nests ds
  | _, _, .nil => by simp [PyData.showableAll, PyData.leavesShortAll, PyData.weightAll, PyData.depthAll]
  | _, _, .cons h t => by
    obtain ⟨a, b, c, e⟩ := t.all
    have hw := h.w
    have hn := h.n
    refine ⟨by simp only [PyData.showableAll, h.s, a, Bool.and_self], by simp only [PyData.leavesShortAll, h.l, b, Bool.and_self], ?_, ?_⟩
    · simp only [PyData.weightAll, wts]; omega
    · simp only [PyData.depthAll, nests]; omega
theorem zif {k : Key} (h : keyGd k = true) : (Cs.keyD k).showable = true ∧ PyData.leavesShort 60 (Cs.keyD k) = true ∧ (Cs.keyD k).weight ≤ 20 ∧ (Cs.keyD k).depth = 0 := by
  cases k with
  | inl i => cases h
  | inr z =>
    unfold keyGd at h
    rw [Bool.and_eq_true, decide_eq_true_eq] at h
    refine ⟨rfl, ?_, h.1, rfl⟩
    rw [Cs.keyD, PyData.leavesShort, List.all_eq_true]
    intro c hc
    have q := h.2
    unfold PyData.strOk at q
    rw [Array.all_eq_true'] at q
    have q2 := q c (by simpa using hc)
    exact decide_eq_true (Nat.lt_trans (of_decide_eq_true q2) (by decide))
theorem ShA.kv : ∀ {ks : List Key} {ds : List D} {ps : List PyData}, ks.length = ds.length → ks.all keyGd = true → ShA ds ps →
    PyData.showableKv (Cs.dctD ks ps) = true ∧ PyData.leavesShortKv 60 (Cs.dctD ks ps) = true ∧ PyData.weightKv (Cs.dctD ks ps) ≤ wts ds + 22 * ds.length ∧ PyData.depthKv (Cs.dctD ks ps) ≤ nests ds
  | [], ds, ps, hl, _, _ => by
    refine ⟨by simp [Cs.dctD, PyData.showableKv], by simp [Cs.dctD, PyData.leavesShortKv], by simp [Cs.dctD, PyData.weightKv], by simp [Cs.dctD, PyData.depthKv]⟩
  | k :: ks, [], ps, hl, _, _ => by simp at hl
  | k :: ks, d :: ds, _, hl, hk, .cons (p := p) (ps := ps) h t => by
    rw [List.all_cons, Bool.and_eq_true] at hk
    obtain ⟨a, b, c, e⟩ := ShA.kv (by simpa using hl) hk.2 t
    obtain ⟨a2, b2, c2, e2⟩ := zif hk.1
    have hw := h.w
    have hn := h.n
    have ed : Cs.dctD (k :: ks) (p :: ps) = (Cs.keyD k, p) :: Cs.dctD ks ps := rfl
    rw [ed]
    refine ⟨by simp only [PyData.showableKv, h.s, a, a2, Bool.and_self], by simp only [PyData.leavesShortKv, h.l, b, b2, Bool.and_self], ?_, ?_⟩
    · simp only [PyData.weightKv, wts, List.length_cons]; omega
    · simp only [PyData.depthKv, nests, e2]; omega
theorem zm0 {i : Int} (h : i.natAbs < 1000000) : Shows (.int i) (.int i) := by
  have hl : i.natAbs.log2 < 20 := by
    by_cases c : i.natAbs = 0
    · rw [c]; decide
    · exact (Nat.log2_lt c).mpr (Nat.lt_of_lt_of_le h (by decide))
  refine ⟨by simp only [PyData.showable]; exact decide_eq_true (by omega), ?_, ?_, by rw [PyData.depth]; exact Nat.zero_le _⟩
  · simp only [PyData.leavesShort]
    exact decide_eq_true (Nat.le_trans (PyData.shown_int_le (Nat.lt_trans h (by decide))) (by decide))
  · simp only [PyData.weight, wt]
    split <;> omega
mutual
theorem zl9 : ∀ {d : D}, gd d = true → ∃ p, (∀ f, d.pdW f = some p) ∧ Shows d p
  | .non, _ => ⟨.none, fun _ => rfl, rfl, rfl, Nat.zero_le _, Nat.le_refl _⟩
  | .bl b, _ => ⟨.bool b, fun _ => rfl, rfl, rfl, Nat.zero_le _, Nat.le_refl _⟩
  | .int i, h => ⟨.int i, fun _ => rfl, zm0 (by unfold gd at h; exact of_decide_eq_true h)⟩
  | .str z, h => by
    unfold gd at h
    obtain ⟨a, b, c, e⟩ := zif h
    exact ⟨.str z, fun _ => rfl, a, b, c, Nat.le_of_eq e⟩
  | .lst ds, h => by
    unfold gd at h
    obtain ⟨ps, e, k⟩ := zei h
    obtain ⟨a, b, c, n⟩ := k.all
    refine ⟨.list ps, fun f => by unfold D.pdW; rw [e f]; rfl, by simpa [PyData.showable] using a, by simpa [PyData.leavesShort] using b, by simpa [PyData.weight, wt] using c, by simpa [PyData.depth, nest] using n⟩
  | .tup ds, h => by
    unfold gd at h
    obtain ⟨ps, e, k⟩ := zei h
    obtain ⟨a, b, c, n⟩ := k.all
    refine ⟨.tuple ps, fun f => by unfold D.pdW; rw [e f]; rfl, by simpa [PyData.showable] using a, by simpa [PyData.leavesShort] using b, by simpa [PyData.weight, wt] using c, by simpa [PyData.depth, nest] using n⟩
  | .dct ks ds, h => by
    unfold gd at h
    simp only [Bool.and_eq_true, decide_eq_true_eq] at h
    obtain ⟨ps, e, k⟩ := zei h.2
    obtain ⟨a, b, c, n⟩ := k.kv h.1.1.1.1 h.1.2
    refine ⟨.dict (Cs.dctD ks ps), fun f => by unfold D.pdW; rw [e f]; rfl, by simpa [PyData.showable] using a, by simpa [PyData.leavesShort] using b, by simpa [PyData.weight, wt] using c, by simpa [PyData.depth, nest] using n⟩
theorem zei : ∀ {ds : List D}, gds ds = true → ∃ ps, (∀ f, pdsW f ds = some ps) ∧ ShA ds ps
  | [], _ => ⟨[], fun _ => rfl, .nil⟩
  | d :: ds, h => by
    unfold gds at h
    rw [Bool.and_eq_true] at h
    obtain ⟨p, e1, h1⟩ := zl9 h.1
    obtain ⟨ps, e2, h2⟩ := zei h.2
    exact ⟨p :: ps, fun f => by unfold pdsW; rw [e1 f, e2 f], .cons h1 h2⟩
end
section
variable {Q : D → Store → Prop} {X : Exc → Store → Prop} {μ : Store} {d : D}
end
end Pl
namespace Pl
open PySem PySem.Spec L2 Mi
section
variable {Q : D → Store → Prop} {X : Exc → Store → Prop} {μ : Store} {d : D}
theorem f_eqS {neg : Bool} {a b : Str} (ha : PyData.strOk a = true) (hb : PyData.strOk b = true) : @Rp _ (fEq neg (.str a) (.str b) μ) Q X = Q (.bl (if neg = true then !(a == b) else a == b)) μ := by
  have e : fEq neg (.str a) (.str b) μ = .ok (.bl (if neg = true then !(a == b) else a == b)) μ := by
    unfold fEq eqOne
    rfl
  rw [e]; rfl
@[simp] theorem f_eqSS {neg : Bool} {a b : Str} : @Rp _ (fEq neg (.str a) (.str b) μ) Q X = Q (.bl (if neg = true then !(a == b) else a == b)) μ := rfl
@[simp] theorem f_eqI {neg : Bool} {a b : Int} : @Rp _ (fEq neg (.int a) (.int b) μ) Q X = Q (.bl (if neg = true then !(a == b) else a == b)) μ := by
  have e : fEq neg (.int a) (.int b) μ = .ok (.bl (if neg = true then !(a == b) else a == b)) μ := by
    unfold fEq eqOne zfb
    rw [show D.view μ (.int a) = some (.int a) from rfl, show D.view μ (.int b) = some (.int b) from rfl]
    have sh : ∀ z : Int, SeqAt.shaped (.int z) = true := fun z => by
      unfold SeqAt.shaped PyData.canLay0
      rfl
    simp only [seqL_int, sh a, sh b, and_self, if_true, PyData.eqv]
  rw [e]; rfl
@[simp] theorem f_eqB {neg : Bool} {a b : Bool} : @Rp _ (fEq neg (.bl a) (.bl b) μ) Q X = Q (.bl (if neg = true then !(a == b) else a == b)) μ := by
  cases a <;> cases b <;> cases neg <;> rfl
theorem f_inT {neg : Bool} {x : D} {xs : List D} (hs : ∀ z, x = .str z → True) (hx : flatD x = true) (h : xs.all flatD = true) : @Rp _ (fIn neg x (.tup xs) μ) Q X = Q (.bl (if neg = true then !inF x xs else inF x xs)) μ := by
  have e : fIn neg x (.tup xs) μ = .ok (.bl (if neg = true then !inF x xs else inF x xs)) μ := by
    unfold fIn
    split
    · rename_i e1; cases e1
    · simp only [seqL_tup, seqT_tup, hx, h, and_self, if_true]
  rw [e]; rfl
theorem f_inL {neg : Bool} {x y : D} {xs : List D} (hy : seqL μ y = some xs) (hx : flatD x = true) (h : xs.all flatD = true) : @Rp _ (fIn neg x y μ) Q X = Q (.bl (if neg = true then !inF x xs else inF x xs)) μ := by
  have e : fIn neg x y μ = .ok (.bl (if neg = true then !inF x xs else inF x xs)) μ := by
    unfold fIn
    split
    · cases hy
    · simp only [hy, hx, h, and_self, if_true]
  rw [e]; rfl
@[simp] theorem f_isN {neg : Bool} : @Rp _ (fIsN neg d .non μ) Q X = Q (.bl (if neg = true then !zdc d else zdc d)) μ := rfl
@[simp] theorem inF_nil {x : D} : inF x [] = false := rfl
@[simp] theorem inF_cons {x y : D} {ys : List D} : inF x (y :: ys) = (eqF y x || inF x ys) := rfl
@[simp] theorem eqF_str {a b : Str} : eqF (.str a) (.str b) = (a == b) := rfl
@[simp] theorem eqF_int {a b : Int} : eqF (.int a) (.int b) = (a == b) := rfl
@[simp] theorem f_inTS {neg : Bool} {w a b : Str} : @Rp _ (fIn neg (.str w) (.tup [.str a, .str b]) μ) Q X = Q (.bl (if neg = true then !(a == w || b == w) else (a == w || b == w))) μ := by
  rw [f_inT (fun _ _ => trivial) rfl rfl]
  simp
@[simp] theorem f_inLS {neg : Bool} {w a b : Str} : @Rp _ (fIn neg (.str w) (.lst [.str a, .str b]) μ) Q X = Q (.bl (if neg = true then !(a == w || b == w) else (a == w || b == w))) μ := by
  rw [f_inL rfl rfl rfl]
  simp
end
def enumF : Nat → List D → List D
  | _, [] => []
  | i, d :: ds => .tup [.int (i : Nat), d] :: enumF (i + 1) ds
theorem zr6 : ∀ (i j : Nat) (ds : List D), (enumF i ds)[j]? = (ds[j]?).map fun d => .tup [.int ((i + j : Nat) : Int), d]
  | _, _, [] => by simp [enumF]
  | i, 0, d :: ds => rfl
  | i, j + 1, d :: ds => by
    rw [enumF, List.getElem?_cons_succ, zr6 (i + 1) j ds, List.getElem?_cons_succ, show i + 1 + j = i + (j + 1) by omega]
theorem zue {ds : List D} : enumD ds = enumF 0 ds := by
  refine List.ext_getElem? fun j => ?_
  rw [zr6, Nat.zero_add]
  unfold enumD
  rw [List.getElem?_map]
  by_cases h : j < ds.length
  · rw [List.getElem?_range h, List.getElem?_eq_getElem h]
    simp [List.getD, h]
  · rw [List.getElem?_eq_none (by simp; omega), List.getElem?_eq_none (by omega)]
    rfl
section
variable {P : Post} {ρ : Mi.Env} {μ μ0 : Store} {n : Nat}
theorem zrd {g : MG} {body : MS} {w : List Nat} (I : List D → Mi.Env → Store → Prop) (all : List D) (hw : ∀ pre ρ μ, I pre ρ μ → watch w μ0 μ)
    (step : ∀ pre d post ρ μ, all = pre ++ d :: post → I pre ρ μ → @Rp _ (g (.tup [.int pre.length, d]) ρ μ) (fun ρ μ => @RpS (body n ρ μ) ⟨I (pre ++ [d]), P.R, P.N, I (pre ++ [d]), P.X⟩) P.X) (fin : ∀ ρ μ, I all ρ μ → P.N ρ μ) :
    ∀ (ds pre : List D) (ρ : Mi.Env) (μ : Store), all = pre ++ ds → I pre ρ μ → @RpS (forS w μ0 g body n (enumF pre.length ds) ρ μ) P
  | [], pre, ρ, μ, e, h => by
    unfold enumF forS
    rw [if_pos (hw _ _ _ h)]
    rw [List.append_nil] at e
    exact fin ρ μ (e ▸ h)
  | d :: ds, pre, ρ, μ, e, h => by
    unfold enumF forS
    rw [if_pos (hw _ _ _ h)]
    have s := step pre d ds ρ μ e h
    have e' : all = (pre ++ [d]) ++ ds := by rw [e]; simp
    have el : pre.length + 1 = (pre ++ [d]).length := by simp
    cases eg : g (.tup [.int pre.length, d]) ρ μ with
    | bad => rw [eg] at s; exact s
    | exc x μ1 => rw [eg] at s; exact s
    | ok ρ1 μ1 =>
      rw [eg] at s
      dsimp only
      cases eb : body n ρ1 μ1 with
      | nx ρ2 μ2 => rw [rp_ok, eb] at s; dsimp only; rw [el]; exact zrd I all hw step fin ds _ ρ2 μ2 e' s
      | ct ρ2 μ2 => rw [rp_ok, eb] at s; dsimp only; rw [el]; exact zrd I all hw step fin ds _ ρ2 μ2 e' s
      | bk ρ2 μ2 => rw [rp_ok, eb] at s; exact s
      | rt d2 μ2 => rw [rp_ok, eb] at s; exact s
      | exc x μ2 => rw [rp_ok, eb] at s; exact s
      | bad => rw [rp_ok, eb] at s; exact s
theorem zace {g : MG} {body : MS} {w : List Nat} {ds : List D} (I : List D → Mi.Env → Store → Prop) (h0 : I [] ρ μ) (hw : ∀ pre ρ μ, I pre ρ μ → watch w μ0 μ)
    (step : ∀ pre d post ρ μ, ds = pre ++ d :: post → I pre ρ μ → @Rp _ (g (.tup [.int pre.length, d]) ρ μ) (fun ρ μ => @RpS (body n ρ μ) ⟨I (pre ++ [d]), P.R, P.N, I (pre ++ [d]), P.X⟩) P.X) (fin : ∀ ρ μ, I ds ρ μ → P.N ρ μ) :
    @RpS (forS w μ0 g body n (enumD ds) ρ μ) P := by
  rw [zue]
  exact zrd I ds hw step fin ds [] ρ μ rfl h0
def Ext (μ μ' : Store) : Prop := ∃ t, μ' = μ ++ t
theorem Ext.trans {μ' μ'' : Store} (h : Ext μ μ') (k : Ext μ' μ'') : Ext μ μ'' := by
  obtain ⟨t, rfl⟩ := h
  obtain ⟨u, rfl⟩ := k
  exact ⟨t ++ u, by simp⟩
theorem Ext.new {x : Option Cell} : Ext μ (μ ++ [x]) := ⟨[x], rfl⟩
theorem Ext.at_ {μ' : Store} (h : Ext μ μ') {k : Nat} {x : Option Cell} (e : μ[k]? = some x) : μ'[k]? = some x := by
  obtain ⟨t, rfl⟩ := h
  rw [List.getElem?_append_left (List.getElem?_eq_some_iff.mp e).1]
  exact e
theorem Ext.put {μ' : Store} (h : Ext μ μ') {k : Nat} {x : Option Cell} (l : μ.length ≤ k) : Ext μ (μ'.set k x) := by
  obtain ⟨t, rfl⟩ := h
  exact ⟨t.set (k - μ.length) x, by rw [List.set_append_right _ _ l]⟩
theorem Ext.len {μ' : Store} (h : Ext μ μ') : μ.length ≤ μ'.length := by
  obtain ⟨t, rfl⟩ := h
  simp
end
end Pl
namespace K05
open PySem PySem.Spec L2 Mi Pl
theorem zdw : K05.zaz = Pl.zaz := rfl
theorem zcn : K05.zau = Pl.zau := rfl
theorem zem : K05.zbv = Pl.zbv := rfl
theorem zdx : K05.za1 = Pl.za1 := rfl
theorem zc7 : K05.za5 = Pl.za5 := rfl
inductive PK where
  | val (v : D) | star (xs : List D) | name (z : Str) (v : D) | dbl (ks : List Key) (ds : List D) | bad
def elems : D → Option (List D)
  | .lst ds => some ds
  | .tup ds => some ds
  | _ => none
def cls2 (w : Str) (x : D) : PK :=
  if w = "value" then (if isVal x = true then .val x else .bad)
  else if w = "star" then (match elems x with
    | some xs => if xs.all isVal = true then .star xs else .bad
    | none => .bad)
  else if w = "double" then (match x with
    | .dct ks ds => if isTab (.dct ks ds) = true then .dbl ks ds else .bad
    | _ => .bad)
  else .bad
def cls3 (w : Str) (x v : D) : PK := match x with
  | .str z => if w = "name" ∧ Cs.zah z = true ∧ isVal v = true then .name z v else .bad
  | _ => .bad
def clsL : List D → PK
  | [.str w, x] => cls2 w x
  | [.str w, x, v] => cls3 w x v
  | _ => .bad
def cls (d : D) : PK := match elems d with
  | some ds => clsL ds
  | none => .bad
def unK : List Key → List Str
  | [] => []
  | .inr z :: ks => z :: unK ks
  | .inl _ :: ks => unK ks
def zal : PK → D
  | .val v => .tup [.str "value", v]
  | .star xs => .tup [.str "star", .tup xs]
  | .name z v => .tup [.str "name", .str z, v]
  | .dbl ks ds => .tup [.str "double", .dct (ascK (unK ks)) (ascV (unK ks) ds)]
  | .bad => .non
def wordD : PK → D
  | .val _ => .str "value"
  | .star _ => .str "star"
  | .name _ _ => .str "name"
  | .dbl _ _ => .str "double"
  | .bad => .non
theorem zz6 {d : D} (h : gd d = true) : dat d = true := by cases d <;> first | rfl | (unfold gd at h; cases h)
theorem gd_dc {ks : List Key} {ds : List D} (h : gd (.dct ks ds) = true) : DcOk ks ds ∧ ks.length ≤ 3 ∧ ks.all keyGd = true ∧ gds ds = true := by
  unfold gd at h
  simp only [Bool.and_eq_true, decide_eq_true_eq] at h
  obtain ⟨⟨⟨⟨h1, h2⟩, h3⟩, h4⟩, h5⟩ := h
  refine ⟨⟨h1, h3, ?_, fun e he => zz6 (zn9.mp h5 e he), fun z hz => ?_⟩, h2, h4, h5⟩
  · have : 3 ≤ sizeLine := by decide
    omega
  · have q := List.all_eq_true.mp h4 _ hz
    unfold keyGd at q
    simp only [Bool.and_eq_true, decide_eq_true_eq] at q
    have : 20 ≤ sizeLine := by decide
    omega
theorem zn1 : ∀ {ks : List Key}, ks.all keyGd = true → (unK ks).map Sum.inr = ks
  | [], _ => rfl
  | .inr z :: ks, h => by
    rw [List.all_cons, Bool.and_eq_true] at h
    show Sum.inr z :: (unK ks).map Sum.inr = _
    rw [zn1 h.2]
  | .inl _ :: ks, h => by
    rw [List.all_cons, Bool.and_eq_true] at h
    cases h.1
section
variable {Q : D → Store → Prop} {X : Exc → Store → Prop} {P : Post} {ρ : Mi.Env} {μ : Store} {d : D} {ds : List D} {G : Mi.Env → Store → Prop}
theorem zdp (h : elems d = some ds) : @Rp _ (fLen [d] μ) Q X = Q (.int ds.length) μ := by
  cases d <;> first | (cases h; simp) | cases h
theorem ix_el {i : Int} (h : elems d = some ds) : @Rp _ (fIx d (.int i) μ) Q X = (match atI ds i with | some d => Q d μ | none => False) := by
  cases d <;> first | (cases h; first | exact f_ixLst | exact f_ixTup) | cases h
theorem zfi (h : elems d = some ds) : zju d = true := by
  cases d <;> first | rfl | cases h
theorem zeu {g : MGs} {x : D} {xs : List D} (h : elems d = some (x :: xs)) : @Rp _ (zng g d ρ μ) G X = @Rp _ (g [x, .lst xs] ρ μ) G X := by
  cases d <;> first | (cases h; rfl) | cases h
theorem ne1 : ("star" : Str) ≠ "value" := by decide +kernel
theorem ne2 : ("double" : Str) ≠ "value" := by decide +kernel
theorem ne3 : ("double" : Str) ≠ "star" := by decide +kernel
theorem ne4 : ("name" : Str) ≠ "value" := by decide +kernel
theorem ne5 : ("name" : Str) ≠ "star" := by decide +kernel
theorem ne6 : ("name" : Str) ≠ "double" := by decide +kernel
theorem okw : PyData.strOk "value" = true ∧ PyData.strOk "star" = true ∧ PyData.strOk "double" = true ∧ PyData.strOk "name" = true := by decide +kernel
theorem s123 : 1 ≤ sizeLine ∧ 2 ≤ sizeLine ∧ 3 ≤ sizeLine := by decide
theorem zaek {x : D} (h : gd x = true) : Pl.za1 [x] μ = .ok (.bl (isTab x)) μ := table_eq (zz6 h) fun ks ds e => by subst e; exact (gd_dc h).1
end
end K05
namespace K05
open PySem PySem.Spec L2 Mi Pl
section
variable {Q : D → Store → Prop} {X : Exc → Store → Prop} {P : Post} {ρ : Mi.Env} {μ : Store} {d : D} {ds : List D} {G : Mi.Env → Store → Prop}
end
end K05
namespace K05
open PySem PySem.Spec L2 Mi Pl
section
variable {Q : D → Store → Prop} {X : Exc → Store → Prop} {P : Post} {ρ : Mi.Env} {μ : Store} {d : D} {ds : List D} {G : Mi.Env → Store → Prop}
end
end K05
namespace K05
open PySem PySem.Spec L2 Mi Pl
def rk : PK → Nat
  | .name _ _ => 1
  | .dbl _ _ => 2
  | _ => 0
def zbl : PK → Nat
  | .val _ => 0
  | .star _ => 1
  | _ => 2
def isBad : PK → Bool
  | .bad => true
  | _ => false
def fb : Nat → Nat → List PK → Option Nat
  | _, _, [] => none
  | r, i, k :: ks => if isBad k = true ∨ zbl k < r then some i else fb (max r (rk k)) (i + 1) ks
def rkL : List PK → Nat
  | [] => 0
  | k :: ks => max (rk k) (rkL ks)
theorem zd1 : ∀ (a b : List PK), rkL (a ++ b) = max (rkL a) (rkL b)
  | [], b => by simp [rkL]
  | k :: a, b => by simp only [List.cons_append, rkL, zd1 a b]; omega
section
variable {Q : D → Store → Prop} {X : Exc → Store → Prop} {P : Post} {ρ : Mi.Env} {μ : Store} {d : D} {ds : List D} {G : Mi.Env → Store → Prop}
theorem lookL (k : PK) (h : isBad k = false) : ∃ w, wordD k = .str w ∧ lookS zfq w = some ((zbl k : Nat) : Int) ∧ lookS zgt w = some ((rk k : Nat) : Int) := by
  cases k with
  | val v => exact ⟨_, rfl, by show _ = some (0 : Int); decide +kernel, by show _ = some (0 : Int); decide +kernel⟩
  | star v => exact ⟨_, rfl, by show _ = some (1 : Int); decide +kernel, by show _ = some (0 : Int); decide +kernel⟩
  | name z v => exact ⟨_, rfl, by show _ = some (2 : Int); decide +kernel, by show _ = some (1 : Int); decide +kernel⟩
  | dbl z v => exact ⟨_, rfl, by show _ = some (2 : Int); decide +kernel, by show _ = some (2 : Int); decide +kernel⟩
  | bad => cases h
theorem zg2 (k : PK) (h : isBad k = false) : ∃ r, zal k = .tup (wordD k :: r) := by
  cases k with
  | bad => cases h
  | _ => exact ⟨_, rfl⟩
theorem zlp (k : PK) : zdc (zal k) = isBad k ∧ zdc (wordD k) = isBad k := by cases k <;> exact ⟨rfl, rfl⟩
theorem zj5 {C : String} {f : Str} {a : MA} {n : Nat} : @RpS (zey C f a n ρ μ) P = @Rp _ (a ρ μ) (fun ds μ => match ds with
  | [d] => P.X ⟨C, [f], [d]⟩ μ
  | _ => False) P.X := by
  unfold zey; rw [rs_st]; congr 1; funext ds μ; rcases ds with _ | ⟨x, _ | ⟨y, r⟩⟩ <;> rfl
theorem f_ixW {tab : List (Str × Int)} {w : Str} {i : Int} (h : lookS tab w = some i) : @Rp _ (fIxW tab (.str w) μ) Q X = Q (.int i) μ := by
  unfold fIxW; simp [h]
end
end K05
namespace K05
open PySem PySem.Spec L2 Mi Pl
section
variable {Q : D → Store → Prop} {X : Exc → Store → Prop} {P : Post} {ρ : Mi.Env} {μ : Store} {d : D} {ds : List D} {G : Mi.Env → Store → Prop}
end
end K05
namespace Pl
open PySem PySem.Spec L2 Mi
section
variable {α : Type} {P : Post} {ρ : Mi.Env} {μ μ0 : Store} {n : Nat}
theorem zd9 {g : MG} {body : MS} {w : List Nat} {l : List α} (f : α → D) (I : List α → Mi.Env → Store → Prop) (h0 : I [] ρ μ) (hw : ∀ pre ρ μ, I pre ρ μ → watch w μ0 μ)
    (step : ∀ pre a post ρ μ, l = pre ++ a :: post → I pre ρ μ → @Rp _ (g (f a) ρ μ) (fun ρ μ => @RpS (body n ρ μ) ⟨I (pre ++ [a]), P.R, P.N, I (pre ++ [a]), P.X⟩) P.X) (fin : ∀ ρ μ, I l ρ μ → P.N ρ μ) :
    @RpS (forS w μ0 g body n (l.map f) ρ μ) P := by
  have go : ∀ (r pre : List α) (ρ : Mi.Env) (μ : Store), l = pre ++ r → I pre ρ μ → @RpS (forS w μ0 g body n (r.map f) ρ μ) P := by
    intro r
    induction r with
    | nil =>
      intro pre ρ μ e h
      rw [List.map_nil]
      unfold forS
      rw [if_pos (hw _ _ _ h)]
      rw [List.append_nil] at e
      exact fin ρ μ (e ▸ h)
    | cons a r ih =>
      intro pre ρ μ e h
      rw [List.map_cons]
      unfold forS
      rw [if_pos (hw _ _ _ h)]
      have s := step pre a r ρ μ e h
      have e' : l = (pre ++ [a]) ++ r := by rw [e]; simp
      cases eg : g (f a) ρ μ with
      | bad => rw [eg] at s; exact s
      | exc x μ1 => rw [eg] at s; exact s
      | ok ρ1 μ1 =>
        rw [eg] at s
        dsimp only
        cases eb : body n ρ1 μ1 with
        | nx ρ2 μ2 => rw [rp_ok, eb] at s; exact ih _ ρ2 μ2 e' s
        | ct ρ2 μ2 => rw [rp_ok, eb] at s; exact ih _ ρ2 μ2 e' s
        | bk ρ2 μ2 => rw [rp_ok, eb] at s; exact s
        | rt d2 μ2 => rw [rp_ok, eb] at s; exact s
        | exc x μ2 => rw [rp_ok, eb] at s; exact s
        | bad => rw [rp_ok, eb] at s; exact s
  exact go l [] ρ μ rfl h0
theorem zo2 {z : Str} : ∀ {s : List Str}, inF (.str z) (s.map D.str) = decide (z ∈ s)
  | [] => by simp
  | a :: s => by
    rw [List.map_cons, inF_cons, zo2, eqF_str, Bool.eq_iff_iff]
    simp only [Bool.or_eq_true, beq_iff_eq, decide_eq_true_eq, List.mem_cons]
    constructor
    · rintro (q | q)
      · exact .inl q.symm
      · exact .inr q
    · rintro (q | q)
      · exact .inl q.symm
      · exact .inr q
theorem zmy : ∀ {s : List Str}, (s.map D.str).all flatD = true
  | [] => rfl
  | _ :: s => by rw [List.map_cons, List.all_cons, zmy]; rfl
end
end Pl
namespace K05
open PySem PySem.Spec L2 Mi Pl
def zae : PK → List Str
  | .name z _ => [z]
  | .dbl ks _ => sortS (unK ks)
  | _ => []
def fr : List Str → List Str → Option Str
  | _, [] => none
  | s, z :: zs => if z ∈ s then some z else fr (s ++ [z]) zs
section
variable {Q : D → Store → Prop} {X : Exc → Store → Prop} {P : Post} {ρ : Mi.Env} {μ : Store} {d : D} {ds : List D} {G : Mi.Env → Store → Prop}
theorem zwv {b : Bool} {x : D} {ks : List Key} {ds : List D} (h1 : seqL μ x = none) (h2 : seqT x = none) (h3 : dctOf μ x = some (ks, ds)) : @Rp _ (fList b [x] μ) Q X = @Rp _ (newL b (ks.map keyDD) μ) Q X := by
  unfold fList; simp [h1, h2, h3]
theorem zabw (k : PK) (hb : isBad k = false) : zdv [zal k] μ = .ok (.lst ((zae k).map D.str)) μ := ok_of (by
  obtain ⟨o1, o2, o3, o4⟩ := okw
  have n1 := ne1; have n2 := ne2; have n3 := ne3; have n4 := ne4; have n5 := ne5; have n6 := ne6
  obtain ⟨s1, s2, s3⟩ := s123
  have s0 : 0 ≤ sizeLine := Nat.zero_le _
  have bs : ∀ a b : Str, a ≠ b → (a == b) = false := fun a b h => by simpa using h
  cases k with
  | bad => cases hb
  | val v => simp [zdv, zco, zao, zal, zae, f_eqS o1 o4, f_eqS o1 o3, n4.symm, n2.symm, s1]
  | star v => simp [zdv, zco, zao, zal, zae, f_eqS o2 o4, f_eqS o2 o3, n5.symm, n3.symm, s1]
  | name z v => simp [zdv, zco, zao, zal, zae, f_eqS o4 o4, s1]
  | dbl ks ds =>
    have e : (ascK (unK ks)).map keyDD = (sortS (unK ks)).map D.str := by
      unfold ascK
      rw [List.map_map]
      rfl
    simp [zdv, zco, zao, zal, zae, f_eqS o3 o4, f_eqS o3 o3, n6.symm, s1]
    rw [zwv rfl rfl rfl, e]
    simp)
theorem zrc {s : List Str} {z : Str} {zs : List Str} : fr s (z :: zs) = if z ∈ s then some z else fr (s ++ [z]) zs := rfl
def repeated (z : Str) : Exc := ⟨"Repeated", ["name"], [.str z]⟩
theorem zaca {ks : List PK} (hb : ∀ k ∈ ks, isBad k = false) (hl : (ks.flatMap zae).length ≤ 1000000) (hx : ∀ z, fr [] (ks.flatMap zae) = some z → ∀ μ', Ext μ μ' → X (repeated z) μ') (hq : fr [] (ks.flatMap zae) = none → ∀ v μ', Ext μ μ' → Q v μ') :
    @Rp _ (zd8 [.lst (ks.map zal)] μ) Q X := by
  have s0 : 0 ≤ sizeLine := Nat.zero_le _
  have sl : 1000000 < sizeLine := by decide
  have e3 : ∀ s : List Str, (μ ++ [some (Cell.lst (s.map D.str))])[μ.length]? = some (some (Cell.lst (s.map D.str))) := fun s => by simp
  simp only [zd8, zcs, zao, rp_fn, rs_seq, rs_set, rp_lst, rp_nil, rp_newL, rs_for, ri_any, rp_var, List.map, List.length, List.replicate, List.cons_append, List.nil_append, List.getElem?_cons_zero, List.getElem?_cons_succ, List.set_cons_zero, List.set_cons_succ, if_true, any_lst, true_and, s0]
  refine zd9 zal (fun pre ρ μ' => (∃ x o2 o3, ρ = [some x, some (.own μ.length), o2, o3]) ∧ μ' = μ ++ [some (.lst ((pre.flatMap zae).map D.str))] ∧ ∀ post, ks = pre ++ post → fr [] (ks.flatMap zae) = fr (pre.flatMap zae) (post.flatMap zae)) ⟨⟨_, _, _, rfl⟩, rfl, fun post e => by rw [e]; rfl⟩ (fun _ _ _ _ => Pl.zbo) ?_ ?_
  · rintro pre k post ρ μ1 e ⟨⟨x, o2, o3, rfl⟩, rfl, hf⟩
    have kb := hb k (by rw [e]; simp)
    have hf2 := hf _ e
    have tot : (pre.flatMap zae).length + (zae k).length ≤ 1000000 := by
      rw [e] at hl
      simp only [List.flatMap_append, List.flatMap_cons, List.length_append] at hl
      omega
    simp only [rg_name, rs_for, ri_any, rp_call, rp_cons, rp_nil, rp_var, List.getElem?_cons_zero, List.getElem?_cons_succ, List.set_cons_zero, List.set_cons_succ, zabw k kb, rp_ok, any_lst]
    refine zd9 D.str (fun ip ρ μ' => (∃ x o2 o3, ρ = [some x, some (.own μ.length), o2, o3]) ∧ μ' = μ ++ [some (.lst ((pre.flatMap zae ++ ip).map D.str))] ∧ ∀ iq, zae k = ip ++ iq → fr [] (ks.flatMap zae) = fr (pre.flatMap zae ++ ip) (iq ++ post.flatMap zae)) ⟨⟨_, _, _, rfl⟩, by simp, fun iq e => by rw [hf2, List.flatMap_cons, e]; simp⟩ (fun _ _ _ _ => Pl.zbo) ?_ ?_
    · rintro ip z iq ρ μ1 e2 ⟨⟨x, o2, o3, rfl⟩, rfl, hg⟩
      have hg2 := hg _ e2
      rw [List.cons_append, zrc] at hg2
      have li : ip.length ≤ (zae k).length := by rw [e2]; simp
      have inn : ∀ (Q : D → Store → Prop) (X : Exc → Store → Prop), @Rp _ (fIn false (.str z) (.own μ.length) (μ ++ [some (Cell.lst ((pre.flatMap zae ++ ip).map D.str))])) Q X = Q (.bl (decide (z ∈ pre.flatMap zae ++ ip))) (μ ++ [some (Cell.lst ((pre.flatMap zae ++ ip).map D.str))]) := fun Q X => by
        rw [f_inL (zdm (e3 _)) rfl zmy, zo2]; rfl
      simp only [rg_name, rs_seq, rs_if, rp_B, rp_op, rp_var, List.getElem?_cons_zero, List.getElem?_cons_succ, List.set_cons_zero, List.set_cons_succ, inn, zj5, rp_cons, rp_nil, rs_next, rs_drop, rp_bm, zcj (e3 _), zep (e3 _), true_and]
      by_cases hz : z ∈ pre.flatMap zae ++ ip
      · rw [if_pos hz] at hg2
        rw [if_pos (decide_eq_true hz)]
        exact hx z hg2 _ .new
      · rw [if_neg hz] at hg2
        rw [if_neg (by simpa using hz)]
        refine ⟨by simp only [List.length_map, List.length_append]; omega, ⟨_, _, _, rfl⟩, by simp, fun iq2 e4 => ?_⟩
        have : iq = iq2 := by
          rw [e2] at e4
          simpa using e4
        rw [hg2, this, List.append_assoc]
    · rintro ρ μ1 ⟨⟨x, o2, o3, rfl⟩, rfl, hg⟩
      refine ⟨⟨_, _, _, rfl⟩, by simp, fun post2 e4 => ?_⟩
      have hg2 := hg [] (by simp)
      have : post = post2 := by
        rw [e] at e4
        simpa using e4
      rw [hg2, this]
      simp
  · rintro ρ μ1 ⟨⟨x, o2, o3, rfl⟩, rfl, hf⟩
    have hf2 := hf [] (by simp)
    simp only [rs_frz, rs_ret, rp_var, List.getElem?_cons_zero, List.getElem?_cons_succ, List.set_cons_zero, List.set_cons_succ, e3, frzC]
    exact ⟨Nat.le_refl _, hq hf2 _ _ (Ext.new.put (Nat.le_refl _))⟩
end
end K05
namespace K05
open PySem PySem.Spec L2 Mi Pl
section
variable {Q : D → Store → Prop} {X : Exc → Store → Prop} {P : Post} {ρ : Mi.Env} {μ : Store} {d : D} {ds : List D} {G : Mi.Env → Store → Prop}
def optS : Option Str → D
  | some z => .str z
  | none => .non
theorem zaa4 {S all : List Str} {k : PK} {rest : List Str} {x : D} {o2 o3 o4 : Option D} {R : D → Store → Prop} {X : Exc → Store → Prop} {N B C : Mi.Env → Store → Prop} (hl : S.length + (zae k).length ≤ 1000000) (hf : fr [] all = fr S (zae k ++ rest))
    (hR : ∀ (z : Str) (s : List Str), fr [] all = some z → R (.str z) (μ ++ [some (.lst (s.map D.str))]))
    (hN : ∀ o, fr [] all = fr (S ++ zae k) rest → N [some x, some (.own μ.length), o2, o3, o] (μ ++ [some (.lst ((S ++ zae k).map D.str))])) (n : Nat) :
    @RpS (forS [] (μ ++ [some (.lst (S.map D.str))]) (zam 4) (mSeq (mIfS (mB (mOp (fIn false) (mVar 4) (mVar 1))) (mRet (mVar 4)) mNext)
      (mDrop (mBm "list" zbc (mVar 1) (mCons (mVar 4) mNil)))) n ((zae k).map D.str) [some x, some (.own μ.length), o2, o3, o4] (μ ++ [some (.lst (S.map D.str))])) ⟨N, R, B, C, X⟩ := by
  have sl : 1000000 < sizeLine := by decide
  have e3 : ∀ s : List Str, (μ ++ [some (Cell.lst (s.map D.str))])[μ.length]? = some (some (Cell.lst (s.map D.str))) := fun s => by simp
  refine zd9 D.str (fun ip ρ μ' => (∃ o, ρ = [some x, some (.own μ.length), o2, o3, o]) ∧ μ' = μ ++ [some (.lst ((S ++ ip).map D.str))] ∧ ∀ iq, zae k = ip ++ iq → fr [] all = fr (S ++ ip) (iq ++ rest)) ⟨⟨_, rfl⟩, by simp, fun iq e => by rw [hf, e]; simp⟩ (fun _ _ _ _ => Pl.zbo) ?_ ?_
  · rintro ip z iq ρ μ1 e2 ⟨⟨o, rfl⟩, rfl, hg⟩
    have hg2 := hg _ e2
    rw [List.cons_append, zrc] at hg2
    have li : ip.length ≤ (zae k).length := by rw [e2]; simp
    have inn : ∀ (Q : D → Store → Prop) (X : Exc → Store → Prop), @Rp _ (fIn false (.str z) (.own μ.length) (μ ++ [some (Cell.lst ((S ++ ip).map D.str))])) Q X = Q (.bl (decide (z ∈ S ++ ip))) (μ ++ [some (Cell.lst ((S ++ ip).map D.str))]) := fun Q X => by
      rw [f_inL (zdm (e3 _)) rfl zmy, zo2]; rfl
    simp only [rg_name, rs_seq, rs_if, rp_B, rp_op, rp_var, List.getElem?_cons_zero, List.getElem?_cons_succ, List.set_cons_zero, List.set_cons_succ, inn, rs_ret, rp_cons, rp_nil, rs_next, rs_drop, rp_bm, zcj (e3 _), zep (e3 _), true_and]
    by_cases hz : z ∈ S ++ ip
    · rw [if_pos hz] at hg2
      rw [if_pos (decide_eq_true hz)]
      exact hR z _ hg2
    · rw [if_neg hz] at hg2
      rw [if_neg (by simpa using hz)]
      refine ⟨by simp only [List.length_map, List.length_append]; omega, ⟨_, rfl⟩, by simp, fun iq2 e4 => ?_⟩
      have : iq = iq2 := by
        rw [e2] at e4
        simpa using e4
      rw [hg2, this, List.append_assoc]
  · rintro ρ μ1 ⟨⟨o, rfl⟩, rfl, hg⟩
    have hg2 := hg [] (by simp)
    exact hN o (by simpa using hg2)
end
end K05
namespace Pl
open PySem PySem.Spec L2 Mi
section
variable {α : Type} {Q : D → Store → Prop} {X : Exc → Store → Prop} {P : Post} {ρ : Mi.Env} {μ μ0 : Store} {n : Nat} {G : Mi.Env → Store → Prop}
@[simp] theorem rs_putF {cs : List String} {f : Str} {o a : ME} : @RpS (mPutF cs f o a n ρ μ) P = @Rp _ (a ρ μ) (fun z μ => @Rp _ (o ρ μ) (fun x μ => match ownO μ x with
  | some (k, C, ks, ds) => (cs.contains C = true ∧ ks.length < 1000) ∧ P.N ρ (μ.set k (some (.obj C (putFK f ks) (putFV f z ks ds))))
  | none => False) P.X) P.X := by
  unfold mPutF
  rw [rs_st]; congr 1; funext z μ; rw [rs_st]; congr 1; funext x μ
  cases ownO μ x with
  | none => rfl
  | some p =>
    obtain ⟨k, C, ks, ds⟩ := p
    dsimp only
    by_cases h : cs.contains C = true ∧ ks.length < 1000
    · rw [if_pos h]; simp only [rs_nx, h, true_and, and_self]
    · rw [if_neg h]; exact propext ⟨False.elim, fun z => h z.1⟩
theorem zjl {k : Nat} {C : String} {ks : List Str} {ds : List D} (h : μ[k]? = some (some (.obj C ks ds))) : ownO μ (.own k) = some (k, C, ks, ds) := by unfold ownO; simp [h]
theorem zy2 {k : Nat} {C : String} {ks : List Str} {ds : List D} (h : μ[k]? = some (some (.obj C ks ds))) : objOf μ (.own k) = some (C, ks, ds) := by unfold objOf; simp [h]
@[simp] theorem objOf_obj {C : String} {ks : List Str} {ds : List D} : objOf μ (.obj C ks ds) = some (C, ks, ds) := rfl
theorem zabc {C : String} {m : List D → Store → Res D} {ds : List D} (h : @Rp _ (m (.own μ.length :: ds) (μ ++ [some (.obj C [] [])])) (fun d μ' => d = .non ∧ ∃ x d', μ'[μ.length]? = some (some x) ∧ frzC x = some d' ∧ Q d' (μ'.set μ.length none)) X) : @Rp _ (mkObj true C m ds μ) Q X := by
  unfold mkObj
  cases e : m (.own μ.length :: ds) (μ ++ [some (.obj C [] [])]) with
  | bad => rw [e] at h; exact h
  | exc x μ' => rw [e] at h; exact h
  | ok d μ' =>
    rw [e] at h
    obtain ⟨rfl, x, d', h1, h2, h3⟩ := h
    dsimp only
    rw [if_pos rfl, h1]
    dsimp only
    rw [h2]
    exact h3
theorem zsu {C : String} {m : List D → Store → Res D} {ds : List D} (h : @Rp _ (m (.own μ.length :: ds) (μ ++ [some (.obj C [] [])])) (fun d μ' => d = .non ∧ Q (.own μ.length) μ') X) : @Rp _ (mkObj false C m ds μ) Q X := by
  unfold mkObj
  cases e : m (.own μ.length :: ds) (μ ++ [some (.obj C [] [])]) with
  | bad => rw [e] at h; exact h
  | exc x μ' => rw [e] at h; exact h
  | ok d μ' =>
    rw [e] at h
    obtain ⟨rfl, h3⟩ := h
    exact h3
@[simp] theorem rp_make {z : Bool} {C : String} {m : List D → Store → Res D} {a : MA} : @Rp _ (mMake z C m a ρ μ) Q X = @Rp _ (a ρ μ) (fun ds μ => @Rp _ (mkObj z C m ds μ) Q X) X := by simp [mMake]
@[simp] theorem rp_cmeth {C : String} {m : List D → Store → Res D} {a : MA} : @Rp _ (zg6 C m a ρ μ) Q X = @Rp _ (a ρ μ) (fun ds μ => @Rp _ (m (.cls C :: ds) μ) Q X) X := by simp [zg6]
@[simp] theorem rp_initSK {m : List D → Store → Res D} {x : D} {rest : List D} : @Rp _ (zfy m (x :: rest) μ) Q X = (rest.length ≤ sizeLine ∧ @Rp _ (m [x, .tup rest, .dct [] []] μ) Q X) := by
  unfold zfy; dsimp only; by_cases h : rest.length ≤ sizeLine <;> simp [h]
@[simp] theorem rp_initS {m : List D → Store → Res D} {x : D} {rest : List D} : @Rp _ (zzl m (x :: rest) μ) Q X = (rest.length ≤ sizeLine ∧ @Rp _ (m [x, .tup rest] μ) Q X) := by
  unfold zzl; dsimp only; by_cases h : rest.length ≤ sizeLine <;> simp [h]
theorem zsv {z : Bool} {i : Nat} {C : String} {m : List D → Store → Res D} {a : ME} (h : ρ[i]? = some (some (.cls C))) : @Rp _ (zld z i C m a ρ μ) Q X = @Rp _ (a ρ μ) (fun x μ => match (match seqL μ x with
      | some ds => some ds
      | none => seqT x) with
    | some ds => @Rp _ (mkObj z C m ds μ) Q X
    | none => False) X := by
  unfold zld
  rw [h]
  dsimp only
  rw [if_pos rfl, rp_bind]
  congr 1; funext x μ
  cases seqL μ x with
  | some ds => rfl
  | none => dsimp only; cases seqT x <;> rfl
@[simp] theorem rp_fld {cs : List String} {f : Str} {a : ME} : @Rp _ (mFld cs f a ρ μ) Q X = @Rp _ (a ρ μ) (fun x μ => match objOf μ x with
  | some (C, ks, ds) => cs.contains C = true ∧ (match lookF f ks ds with
    | some d => Q d μ
    | none => False)
  | none => False) X := by
  unfold mFld
  rw [rp_bind]; congr 1; funext x μ
  cases objOf μ x with
  | none => rfl
  | some p =>
    obtain ⟨C, ks, ds⟩ := p
    dsimp only
    by_cases h : cs.contains C = true
    · rw [if_pos h]; simp only [h, true_and]; cases lookF f ks ds <;> rfl
    · rw [if_neg h]; exact propext ⟨False.elim, fun z => h z.1⟩
@[simp] theorem rp_fldX {cs : List String} {f : Str} {a : ME} : @Rp _ (mFldX cs f a ρ μ) Q X = @Rp _ (a ρ μ) (fun x μ => match x with
  | .exc C ks ds => cs.contains C = true ∧ (match lookF f ks ds with
    | some d => Q d μ
    | none => False)
  | _ => False) X := by
  unfold mFldX
  rw [rp_bind]; congr 1; funext x μ
  cases x with
  | exc C ks ds =>
    dsimp only
    by_cases h : cs.contains C = true
    · rw [if_pos h]; simp only [h, true_and]; cases lookF f ks ds <;> rfl
    · rw [if_neg h]; exact propext ⟨False.elim, fun z => h z.1⟩
  | _ => rfl
@[simp] theorem rp_prop {C : String} {m : List D → Store → Res D} {o : ME} : @Rp _ (mProp C m o ρ μ) Q X = @Rp _ (o ρ μ) (fun x μ => match objOf μ x with
  | some (C', _, _) => C' = C ∧ @Rp _ (m [x] μ) Q X
  | none => False) X := by
  unfold mProp
  rw [rp_bind]; congr 1; funext x μ
  cases objOf μ x with
  | none => rfl
  | some p =>
    obtain ⟨C', ks, ds⟩ := p
    dsimp only
    by_cases h : C' = C <;> simp [h]
@[simp] theorem rp_meth {C : String} {f : Str} {m : List D → Store → Res D} {o : ME} {a : MA} : @Rp _ (mMeth C f m o a ρ μ) Q X = @Rp _ (o ρ μ) (fun x μ => match objOf μ x with
  | some (C', ks, _) => (C' = C ∧ f ∉ ks) ∧ @Rp _ (a ρ μ) (fun ds μ => @Rp _ (m (x :: ds) μ) Q X) X
  | none => False) X := by
  unfold mMeth
  rw [rp_bind]; congr 1; funext x μ
  cases objOf μ x with
  | none => rfl
  | some p =>
    obtain ⟨C', ks, ds⟩ := p
    dsimp only
    by_cases h : C' = C ∧ f ∉ ks
    · rw [if_pos h, rp_bind]; simp only [h, true_and, not_false_eq_true, and_self]
    · rw [if_neg h]; simp only [rp_bad, h, false_and]
@[simp] theorem rs_raise {C : String} : @RpS (zlc C n ρ μ) P = P.X ⟨C, [], []⟩ μ := rfl
theorem zsw {a : MA} {m : List D → Store → Res D} : @Rp _ (mArgs a m ρ μ) Q X = @Rp _ (a ρ μ) (fun ds μ => @Rp _ (m ds μ) Q X) (fun _ _ => False) := by
  unfold mArgs; cases a ρ μ <;> rfl
theorem zqv {T : String} {i k : Nat} {r : Res D} {nx : D → Store → ResS} : @RpS (tryR T i k r nx ρ) P = @Rp _ r (fun d μ => @RpS (nx d μ) P) (fun x μ => if isaC x.C T = true then P.N ((ρ.set k (some (.exc x.C x.ks x.ds))).set i none) μ else P.X x μ) := by
  unfold tryR
  cases r with
  | ok d μ => rfl
  | exc x μ => dsimp only; by_cases h : isaC x.C T = true <;> simp [h]
  | bad => rfl
@[simp] theorem rs_tryA {T : String} {i k j : Nat} {a : MA} {m : List D → Store → Res D} : @RpS (mTryA T i k j (mArgs a m) n ρ μ) P = (i < ρ.length ∧ @Rp _ (a ρ μ) (fun ds μ => @Rp _ (m ds μ) (fun d μ => P.N (ρ.set j (some d)) μ) (fun x μ => if isaC x.C T = true then P.N ((ρ.set k (some (.exc x.C x.ks x.ds))).set i none) μ else P.X x μ)) (fun _ _ => False)) := by
  unfold mTryA
  by_cases h : i < ρ.length
  · rw [if_pos h, zqv, zsw]; simp only [h, true_and, rs_nx]
  · rw [if_neg h]; simp only [rs_bad, h, false_and]
@[simp] theorem rs_tryD {T : String} {i k : Nat} {a : MA} {m : List D → Store → Res D} : @RpS (mTryD T i k (mArgs a m) n ρ μ) P = (i < ρ.length ∧ @Rp _ (a ρ μ) (fun ds μ => @Rp _ (m ds μ) (fun _ μ => P.N ρ μ) (fun x μ => if isaC x.C T = true then P.N ((ρ.set k (some (.exc x.C x.ks x.ds))).set i none) μ else P.X x μ)) (fun _ _ => False)) := by
  unfold mTryD
  by_cases h : i < ρ.length
  · rw [if_pos h, zqv, zsw]; simp only [h, true_and, rs_nx]
  · rw [if_neg h]; simp only [rs_bad, h, false_and]
@[simp] theorem rg_subK {o i : ME} {z : D} : @Rp _ (zk8 o i z ρ μ) G X = @Rp _ (o ρ μ) (fun x μ => @Rp _ (i ρ μ) (fun y μ => match ownK μ x, keyOf y with
  | some (n, ks, ds), some k => ks.length < sizeLine ∧ G ρ (μ.set n (some (.dct (putKK ks k) (putKV k z ks ds))))
  | _, _ => False) X) X := by
  unfold zk8; simp only [rp_bind]; congr 1; funext x μ; congr 1; funext y μ
  cases ownK μ x with
  | none => rfl
  | some p =>
    obtain ⟨m, ks, ds⟩ := p
    cases keyOf y with
    | none => rfl
    | some k => dsimp only; by_cases h : ks.length < sizeLine <;> simp [h]
theorem zo6 {k : Nat} {ds es : List D} {y : D} (h : μ[k]? = some (some (.lst ds))) (hy : (match ownL μ y with
      | some (_, es) => some es
      | none => seqT y) = some es) : @Rp _ (zgz (.own k) [y] μ) Q X = (ds.length + es.length ≤ sizeLine ∧ Q .non (μ.set k (some (.lst (ds ++ es))))) := by
  have e : zgz (.own k) [y] μ = if ds.length + es.length ≤ sizeLine then .ok .non (μ.set k (some (.lst (ds ++ es)))) else .bad := by
    unfold zgz
    rw [zgo h]
    dsimp only
    cases e1 : ownL μ y with
    | none => rw [e1] at hy; dsimp only at hy ⊢; rw [hy]
    | some p => rw [e1] at hy; dsimp only at hy ⊢; cases hy; rfl
  rw [e]
  by_cases hl : ds.length + es.length ≤ sizeLine <;> simp [hl]
theorem f_upd {k : Nat} {ks ks2 : List Key} {ds ds2 : List D} (h : μ[k]? = some (some (.dct ks ds))) : @Rp _ (fUpd (.own k) [.dct ks2 ds2] μ) Q X = (ks.length + ks2.length ≤ sizeLine ∧ Q .non (μ.set k (some (.dct (zbd ks ds (ks2.zip ds2)).1 (zbd ks ds (ks2.zip ds2)).2)))) := by
  unfold fUpd
  rw [zht h]
  dsimp only
  by_cases hl : ks.length + ks2.length ≤ sizeLine <;> simp [hl]
theorem zj9 : ∀ {ps : List (Key × D)} {ks : List Key} {ds : List D}, ks.length = ds.length → (ks ++ ps.map (·.1)).Nodup → zbd ks ds ps = (ks ++ ps.map (·.1), ds ++ ps.map (·.2))
  | [], ks, ds, _, _ => by simp [zbd]
  | (k, d) :: ps, ks, ds, hl, nd => by
    have nk : k ∉ ks := fun q => by
      have := (List.nodup_append.mp nd).2.2 _ q k (by simp)
      exact this rfl
    unfold zbd
    rw [zj7 nk, zj6 nk hl, zj9 (by simp [hl]) (by simpa using nd)]
    simp
end
end Pl
namespace K05
open PySem PySem.Spec L2 Mi Pl
section
variable {Q : D → Store → Prop} {X : Exc → Store → Prop} {P : Post} {ρ : Mi.Env} {μ : Store} {d : D} {ds : List D}
def valsP : PK → List D
  | .val v => [v]
  | .star xs => xs
  | _ => []
def kvP : PK → List (Key × D)
  | .name z v => [(.inr z, v)]
  | .dbl ks ds => (ascK (unK ks)).zip (ascV (unK ks) ds)
  | _ => []
def GoodK : PK → Prop
  | .val v => isVal v = true
  | .star xs => xs.all isVal = true
  | .name z v => Cs.zah z = true ∧ isVal v = true
  | .dbl ks ds => isTab (.dct ks ds) = true ∧ ks.all keyGd = true ∧ ks.length = ds.length ∧ ks.Nodup ∧ ks.length ≤ 3
  | .bad => False
theorem GoodK.nb {k : PK} (h : GoodK k) : isBad k = false := by cases k <;> first | rfl | exact h.elim
theorem zx3 {ks : List PK} (hb : ∀ k ∈ ks, isBad k = false) (hl : (ks.flatMap valsP).length ≤ 1000000) (hq : ∀ μ', Ext μ μ' → Q (.lst (ks.flatMap valsP)) μ') : @Rp _ (zd3 [.lst (ks.map zal)] μ) Q X := by
  obtain ⟨o1, o2, o3, o4⟩ := okw
  have n1 := ne1; have n2 := ne2; have n3 := ne3; have n4 := ne4; have n5 := ne5; have n6 := ne6
  have s0 : 0 ≤ sizeLine := Nat.zero_le _
  have sl : 1000000 < sizeLine := by decide
  have bs : ∀ a b : Str, a ≠ b → (a == b) = false := fun a b h => by simpa using h
  have e3 : ∀ s : List D, (μ ++ [some (Cell.lst s)])[μ.length]? = some (some (Cell.lst s)) := fun s => by simp
  simp only [zd3, zcg, zao, rp_fn, rs_seq, rs_set, rp_lst, rp_nil, rp_newL, rs_for, ri_any, rp_var, List.map, List.length, List.replicate, List.cons_append, List.nil_append, List.getElem?_cons_zero, List.getElem?_cons_succ, List.set_cons_zero, List.set_cons_succ, if_true, any_lst, true_and, s0]
  refine zd9 zal (fun pre ρ μ' => (∃ x o2, ρ = [some x, some (.own μ.length), o2]) ∧ μ' = μ ++ [some (.lst (pre.flatMap valsP))]) ⟨⟨_, _, rfl⟩, rfl⟩ (fun _ _ _ _ => Pl.zbo) ?_ ?_
  · rintro pre k post ρ μ1 e ⟨⟨x, o2', rfl⟩, rfl⟩
    have kb := hb k (by rw [e]; simp)
    have tot : (pre.flatMap valsP).length + (valsP k).length ≤ 1000000 := by
      rw [e] at hl
      simp only [List.flatMap_append, List.flatMap_cons, List.length_append] at hl
      omega
    cases k with
    | bad => cases kb
    | val v =>
      simp [zal, f_eqS o1 o1, zcj (e3 _), zep (e3 _)]
      simp [valsP] at tot ⊢
      omega
    | star xs =>
      simp [zal, f_eqS o2 o1, f_eqS o2 o2, bs _ _ ne1, zcj (e3 _), zo6 (e3 _) (y := .tup xs) (es := xs) rfl]
      simp [valsP] at tot ⊢
      omega
    | name z v => simp [zal, f_eqS o4 o1, f_eqS o4 o2, bs _ _ ne4, bs _ _ ne5, valsP]
    | dbl ks ds => simp [zal, f_eqS o3 o1, f_eqS o3 o2, bs _ _ ne2, bs _ _ ne3, valsP]
  · rintro ρ μ1 ⟨⟨x, o2', rfl⟩, rfl⟩
    simp only [rs_frz, rs_ret, rp_var, List.getElem?_cons_zero, List.getElem?_cons_succ, List.set_cons_zero, List.set_cons_succ, e3, frzC]
    exact ⟨Nat.le_refl _, hq _ (Ext.new.put (Nat.le_refl _))⟩
theorem zacl {ss : List Str} {ds : List D} : (ascV ss ds).length = (ascK ss).length := by unfold ascV ascK; simp
theorem ztr {k : PK} : (kvP k).map (·.1) = (zae k).map Sum.inr := by
  cases k with
  | dbl ks ds =>
    show ((ascK (unK ks)).zip (ascV (unK ks) ds)).map (·.1) = _
    rw [show ((ascK (unK ks)).zip (ascV (unK ks) ds)).map (·.1) = ascK (unK ks) from List.map_fst_zip (Nat.le_of_eq zacl.symm)]
    rfl
  | _ => rfl
theorem zab9 {k : PK} (h : GoodK k) : ∀ p ∈ kvP k, isVal p.2 = true := by
  cases k with
  | name z v =>
    intro p hp
    rw [List.mem_singleton.mp hp]
    exact h.2
  | dbl ks ds =>
    obtain ⟨h1, hk, hl, nd, _⟩ := h
    intro p hp
    have h2 : p.2 ∈ ascV (unK ks) ds := (List.of_mem_zip (show (p.1, p.2) ∈ (ascK (unK ks)).zip (ascV (unK ks) ds) from hp)).2
    obtain ⟨z, hz, e⟩ := List.mem_map.mp h2
    have hz2 : z ∈ unK ks := zbr.mem_iff.mp hz
    rw [zn1 hk] at e
    have zk : Sum.inr z ∈ ks := by rw [← zn1 hk]; exact List.mem_map_of_mem hz2
    obtain ⟨dd, q1, q2⟩ := zkb hl zk
    rw [← e]
    unfold lookO
    rw [q1]
    have : ds.all isVal = true := by
      unfold isTab at h1
      exact (Bool.and_eq_true_iff.mp h1).2
    exact List.all_eq_true.mp this dd q2
  | _ => intro p hp; cases hp
theorem ztc {k : PK} (h : GoodK k) : ∀ z ∈ zae k, Cs.zah z = true := by
  cases k with
  | name z v =>
    intro p hp
    rw [List.mem_singleton.mp hp]
    exact h.1
  | dbl ks ds =>
    obtain ⟨h1, hk, hl, nd, _⟩ := h
    intro z hz
    have hz2 : z ∈ unK ks := zbr.mem_iff.mp hz
    have zk : Sum.inr z ∈ ks := by rw [← zn1 hk]; exact List.mem_map_of_mem hz2
    unfold isTab at h1
    exact List.all_eq_true.mp (Bool.and_eq_true_iff.mp h1).1 _ zk
  | _ => intro p hp; cases hp
theorem zacq {k : PK} (h : GoodK k) : ∀ v ∈ valsP k, isVal v = true := by
  cases k with
  | val v =>
    intro p hp
    rw [List.mem_singleton.mp hp]
    exact h
  | star xs => exact List.all_eq_true.mp h
  | _ => intro p hp; cases hp
theorem zmb : ∀ {l s : List Str}, fr s l = none → l.Nodup ∧ ∀ z ∈ l, z ∉ s
  | [], s, _ => ⟨.nil, fun z m => by cases m⟩
  | z :: l, s, h => by
    rw [zrc] at h
    by_cases c : z ∈ s
    · rw [if_pos c] at h; cases h
    · rw [if_neg c] at h
      obtain ⟨h1, h2⟩ := zmb h
      refine ⟨List.nodup_cons.mpr ⟨fun m => h2 z m (by simp), h1⟩, fun w m => ?_⟩
      rcases List.mem_cons.mp m with rfl | m
      · exact c
      · exact fun q => h2 w m (by simp [q])
theorem zkx {v : D} (h : isVal v = true) : dat v = true := by cases v <;> first | rfl | cases h
theorem zrb {k : Nat} {vs : List D} (hk : μ[k]? = some (some (.obj "Call" [] []))) (hv : vs.all isVal = true) (hl : vs.length ≤ sizeLine) (hq : Q .non (μ.set k (some (.obj "Call" ["kept_given", "kept_named"] [.tup vs, .dct [] []])))) : @Rp _ (zcc [.own k, .tup vs, .dct [] []] μ) Q X := by
  have hkl : k < μ.length := (List.getElem?_eq_some_iff.mp hk).1
  have e1 : ∀ μ, Pl.zau [.tup vs] μ = .ok (.bl true) μ := fun μ => by
    rw [values_eq (d := .tup vs) (ds := []) rfl fun ds e => ⟨by rcases e with e | e <;> cases e; exact hl, fun x hx => by rcases e with e | e <;> cases e; exact zkx (List.all_eq_true.mp hv x hx)⟩]
    show Res.ok (D.bl (vs.all isVal)) μ = _
    rw [hv]
  have e2 : ∀ μ, Pl.za1 [.dct [] []] μ = .ok (.bl true) μ := fun μ => zaek rfl
  have e3 : ∀ μ, Pl.za5 [.dct [] []] μ = .ok (.dct [] []) μ := fun μ => by
    have := zlq (μ := μ) (x := .dct [] []) (ss := []) (ds := []) rfl rfl rfl (by decide) .nil rfl
    rw [this]
    have e : sortS [] = [] := ze4 ⟨.refl _, by decide⟩
    unfold ascK ascV
    rw [e]; rfl
  have f1 : putFK "kept_given" [] = (["kept_given"] : List Str) := rfl
  have f2 : putFV "kept_given" (D.tup vs) [] [] = [.tup vs] := rfl
  have ne : ("kept_given" : Str) ≠ "kept_named" := by decide +kernel
  have f3 : putFK "kept_named" ["kept_given"] = (["kept_given", "kept_named"] : List Str) := by simp [putFK, ne]
  have f4 : putFV "kept_named" (D.dct [] []) ["kept_given"] [.tup vs] = [.tup vs, .dct [] []] := by simp [putFV, ne]
  have hk2 : (μ.set k (some (Cell.obj "Call" ["kept_given"] [.tup vs])))[k]? = some (some (Cell.obj "Call" ["kept_given"] [.tup vs])) := List.getElem?_set_self hkl
  simp [zcc, zfc, zao, zdw, zcn, zem, zdx, zc7, e1, e2, e3, zjl hk, f1, f2]
  rw [zjl hk2]
  simpa [f3, f4] using hq
def callD (vs : List D) (ss : List Str) (ds : List D) : D := .obj "Call" ["kept_given", "kept_named"] [.tup vs, .dct (ascK ss) (ascV ss ds)]
theorem of_rp {k : Nat} {vs ds : List D} {ss : List Str} (hk : μ[k]? = some (some (.dct (ss.map Sum.inr) ds))) (hv : vs.all isVal = true) (hl : vs.length ≤ sizeLine) (hs : ss.all Cs.zah = true) (hd : ds.all isVal = true) (sd : ss.length = ds.length) (nd : ss.Nodup) (h64 : ss.length < 64) (hq : ∀ μ', Ext μ μ' → Q (callD vs ss ds) μ') : @Rp _ (zbq [.cls "Call", .lst vs, .own k] μ) Q X := by
  have hkl : k < μ.length := (List.getElem?_eq_some_iff.mp hk).1
  have zl : 64 ≤ sizeLine := by decide
  have e1 : ∀ μ, Pl.zau [.lst vs] μ = .ok (.bl true) μ := fun μ => by
    rw [values_eq (d := .lst vs) (ds := []) rfl fun ds e => ⟨by rcases e with e | e <;> cases e; exact hl, fun x hx => by rcases e with e | e <;> cases e; exact zkx (List.all_eq_true.mp hv x hx)⟩]
    show Res.ok (D.bl (vs.all isVal)) μ = _
    rw [hv]
  have dc : DcOk (ss.map Sum.inr) ds := ⟨by simpa using sd, List.Pairwise.map _ (fun a b ne q => ne (by simpa using q)) nd, by rw [List.length_map]; omega, fun e he => zkx (List.all_eq_true.mp hd e he), fun z hz => by
    obtain ⟨w, hw, e⟩ := List.mem_map.mp hz
    cases e
    have := List.all_eq_true.mp hs _ hw
    unfold Cs.zah at this
    simp only [Bool.and_eq_true, decide_eq_true_eq] at this
    omega⟩
  have e2 : Pl.za1 [.own k] μ = .ok (.bl true) μ := by
    rw [zro hk dc]
    have : isTab (.dct (ss.map Sum.inr) ds) = true := by
      show ((ss.map Sum.inr).all zdi && ds.all isVal) = true
      rw [hd, List.all_map, Bool.and_true]
      exact hs
    rw [this]
  simp [zbq, zen, zao, zdw, zcn, zem, zdx, zc7, e1, e2]
  rw [zsv rfl]
  simp
  refine zsu ?_
  have ko : (μ ++ [some (Cell.obj "Call" [] [])])[μ.length]? = some (some (Cell.obj "Call" [] [])) := by simp
  rw [rp_initSK]
  refine ⟨hl, zrb ko hv hl ?_⟩
  have eo : ((μ ++ [some (Cell.obj "Call" [] [])]).set μ.length (some (.obj "Call" ["kept_given", "kept_named"] [.tup vs, .dct [] []]))) = μ ++ [some (.obj "Call" ["kept_given", "kept_named"] [.tup vs, .dct [] []])] := by simp
  rw [eo]
  refine ⟨rfl, ?_⟩
  have hk3 : (μ ++ [some (Cell.obj "Call" ["kept_given", "kept_named"] [.tup vs, .dct [] []])])[k]? = some (some (.dct (ss.map Sum.inr) ds)) := by rw [List.getElem?_append_left hkl]; exact hk
  have e3 : Pl.za5 [.own k] (μ ++ [some (Cell.obj "Call" ["kept_given", "kept_named"] [.tup vs, .dct [] []])]) = .ok (.dct (ascK ss) (ascV ss ds)) _ := zlq (by unfold seqL; simp [hk3]) rfl (zaai hk3) h64 nd sd
  have ko2 : (μ ++ [some (Cell.obj "Call" ["kept_given", "kept_named"] [.tup vs, .dct [] []])])[μ.length]? = some (some (Cell.obj "Call" ["kept_given", "kept_named"] [.tup vs, .dct [] []])) := by simp
  have ne : ("kept_given" : Str) ≠ "kept_named" := by decide +kernel
  have f3 : putFK "kept_named" ["kept_given", "kept_named"] = (["kept_given", "kept_named"] : List Str) := by simp [putFK, ne]
  have f4 : putFV "kept_named" (D.dct (ascK ss) (ascV ss ds)) ["kept_given", "kept_named"] [.tup vs, .dct [] []] = [.tup vs, .dct (ascK ss) (ascV ss ds)] := by simp [putFV, ne]
  simp [e3, zjl ko2, f3, f4, frzC]
  exact hq _ .new
end
end K05
namespace K05
open PySem PySem.Spec L2 Mi Pl
section
variable {Q : D → Store → Prop} {X : Exc → Store → Prop} {P : Post} {ρ : Mi.Env} {μ : Store} {d : D} {ds : List D}
theorem flat_keys : ∀ {ks : List PK}, (ks.flatMap kvP).map (·.1) = (ks.flatMap zae).map Sum.inr
  | [] => rfl
  | k :: ks => by
    rw [List.flatMap_cons, List.flatMap_cons, List.map_append, List.map_append, ztr, flat_keys]
end
end K05
namespace Pl
open PySem PySem.Spec L2 Mi
section
variable {α : Type} {Q : D → Store → Prop} {X : Exc → Store → Prop} {P : Post} {ρ : Mi.Env} {μ μ0 : Store} {n : Nat} {G : Mi.Env → Store → Prop} {ds : List D} {i j : Int}
theorem zuf {α : Type} {l : List α} {a : Nat} : l.drop (min a l.length) = l.drop a := by
  by_cases h : a ≤ l.length
  · rw [Nat.min_eq_left h]
  · rw [Nat.min_eq_right (by omega), List.drop_of_length_le (Nat.le_refl _), List.drop_of_length_le (by omega)]
theorem zqh (h : 0 ≤ i) : cutD ds none (some i) = ds.take i.toNat := by
  have n0 : ¬ i < 0 := by omega
  unfold cutD HT.sIx
  simp only [n0, if_false, List.drop_zero, Nat.sub_zero]
  rw [List.take_eq_take_iff]; omega
theorem zafr (h : 0 ≤ i) : cutD ds (some i) none = ds.drop i.toNat := by
  have n0 : ¬ i < 0 := by omega
  unfold cutD HT.sIx
  simp only [n0, if_false]
  rw [zuf, List.take_of_length_le (by rw [List.length_drop]; omega)]
theorem zaci (h : 0 ≤ i) (h2 : 0 ≤ j) : cutD ds (some i) (some j) = (ds.drop i.toNat).take (j.toNat - i.toNat) := by
  have n0 : ¬ i < 0 := by omega
  have n1 : ¬ j < 0 := by omega
  unfold cutD HT.sIx
  simp only [n0, n1, if_false]
  rw [zuf, List.take_eq_take_iff, List.length_drop]; omega
theorem zad7 : cutD ds none none = ds := by
  unfold cutD HT.sIx
  simp
theorem f_slL {b : Bool} {x : D} {lo hi : Option Int} (hx : seqL μ x = some ds) : @Rp _ (fSl b x lo hi μ) Q X = @Rp _ (newL b (cutD ds lo hi) μ) Q X := by
  have e : fSl b x lo hi μ = newL b (cutD ds lo hi) μ := by
    unfold fSl
    split
    · cases hx
    · cases hx
    · rw [hx]
  rw [e]
@[simp] theorem f_slLst {b : Bool} {lo hi : Option Int} : @Rp _ (fSl b (.lst ds) lo hi μ) Q X = @Rp _ (newL b (cutD ds lo hi) μ) Q X := f_slL rfl
@[simp] theorem f_slTup {b : Bool} {lo hi : Option Int} : @Rp _ (fSl b (.tup ds) lo hi μ) Q X = Q (.tup (cutD ds lo hi)) μ := rfl
theorem zj8 {ps : List (Key × D)} (nd : (ps.map (·.1)).Nodup) : zbd [] [] ps = (ps.map (·.1), ps.map (·.2)) := by
  have := zj9 (ks := []) (ds := []) (ps := ps) rfl (by simpa using nd)
  simpa using this
@[simp] theorem rp_disp1 {z : Str} {a : ME} : @Rp _ (mDisp false [((mC (.str z)), a)] ρ μ) Q X = @Rp _ (a ρ μ) (fun d μ => Q (.dct [.inr z] [d]) μ) X := by
  simp only [mDisp, zg5, rp_bind, rp_c, rp_ok]
  congr 1
  funext d μ
  have e : zg3 [(D.str z, d)] = some [(Sum.inr z, d)] := rfl
  rw [e]
  dsimp only
  rw [zj8 (by simp)]
  rfl
theorem zabd {a b : ME} : @Rp _ (mDisp false [(a, b)] ρ μ) Q X = @Rp _ (a ρ μ) (fun x μ => @Rp _ (b ρ μ) (fun y μ => match keyOf x with
  | some k => Q (.dct [k] [y]) μ
  | none => False) X) X := by
  simp only [mDisp, zg5, rp_bind, rp_ok]
  congr 1
  funext x μ
  congr 1
  funext y μ
  unfold zg3
  cases keyOf x with
  | none => rfl
  | some k =>
    have e : zg3 [] = some [] := rfl
    rw [e]
    dsimp only
    rw [zj8 (by simp)]
    rfl
theorem zrx {β : Type} (fk : β → Key) (fv : β → D) : ∀ l : List β, pairsOf (l.map fun b => .tup [keyDD (fk b), fv b]) = some (l.map fun b => (fk b, fv b))
  | [] => rfl
  | b :: l => by
    have ko : keyOf (keyDD (fk b)) = some (fk b) := by cases fk b <;> rfl
    rw [List.map_cons, List.map_cons]
    unfold pairsOf
    rw [zrx fk fv l]
    show (keyOf (keyDD (fk b))).map _ = _
    rw [ko]; rfl
theorem zadw {b : Bool} {x : D} {β : Type} (fk : β → Key) (fv : β → D) {l : List β} (hx : seqL μ x = some (l.map fun b => .tup [keyDD (fk b), fv b])) (nd : (l.map fk).Nodup) : @Rp _ (zll b [x] μ) Q X = @Rp _ (newK b (l.map fk) (l.map fv) μ) Q X := by
  unfold zll
  simp only [hx, Option.bind_some, zrx]
  rw [zj8 (by rw [List.map_map]; exact nd)]
  simp only [List.map_map]
  rfl
theorem zafk {b : Bool} {k : Nat} (h : μ[k]? = some (some (.lst ds))) : @Rp _ (fMul b (.own k) (.int i) μ) Q X = ((-(2 ^ 63) ≤ i ∧ i < 2 ^ 63 ∧ ds.length * i.toNat ≤ sizeLine) ∧ @Rp _ (newL b (List.replicate i.toNat ds).flatten μ) Q X) := by
  have e : fMul b (.own k) (.int i) μ = if -(2 ^ 63) ≤ i ∧ i < 2 ^ 63 ∧ ds.length * i.toNat ≤ sizeLine then newL b (List.replicate i.toNat ds).flatten μ else .bad := by
    unfold fMul
    dsimp only
    rw [zgo h]
  rw [e]
  by_cases hl : -(2 ^ 63) ≤ i ∧ i < 2 ^ 63 ∧ ds.length * i.toNat ≤ sizeLine <;> simp [hl]
theorem ze3 {n : Nat} : zce 0 n = (List.range n).map fun i => D.int (i : Nat) := by
  unfold zce
  refine List.map_congr_left fun k _ => ?_
  rw [Int.zero_add]
end
end Pl
namespace Pl
open PySem PySem.Spec L2 Mi
section
variable {α : Type} {Q : D → Store → Prop} {X : Exc → Store → Prop} {P : Post} {ρ : Mi.Env} {μ μ0 : Store} {n : Nat}
@[simp] theorem rp_lam {m : (Store → Res D) → Store → Res D} {el : ME} : @Rp _ (mLam m el ρ μ) Q X = @Rp _ (m (fun μ' => el ρ μ') μ) Q X := rfl
@[simp] theorem rp_lamC {w : Store → Res D} : @Rp _ (mLamC w ρ μ) Q X = @Rp _ (w μ) Q X := rfl
theorem zaeo {N : Nat} {body : MS} : @Rp _ (mFnL N body μ) Q X = @RpS (body μ.length (List.replicate N none) μ) ⟨fun _ μ => Q .non μ, Q, fun _ _ => False, fun _ _ => False, fun _ _ => False⟩ := by
  unfold mFnL
  cases body μ.length (List.replicate N none) μ <;> rfl
@[simp] theorem rp_rg1 {t b : Bool} {a : ME} : @Rp _ (mRg1 t b a ρ μ) Q X = @Rp _ (a ρ μ) (fun x μ => match x with
  | .int j => @Rp _ (fRg t b 0 j μ) Q X
  | _ => False) X := by
  unfold mRg1
  rw [rp_bind]; congr 1; funext x μ
  cases x <;> rfl
@[simp] theorem rp_rg2 {t b : Bool} {a a' : ME} : @Rp _ (mRg2 t b a a' ρ μ) Q X = @Rp _ (a ρ μ) (fun x μ => @Rp _ (a' ρ μ) (fun y μ => match x, y with
  | .int i, .int j => @Rp _ (fRg t b i j μ) Q X
  | _, _ => False) X) X := by
  unfold mRg2
  rw [rp_bind]; congr 1; funext x μ
  rw [rp_bind]; congr 1; funext y μ
  cases x <;> cases y <;> rfl
theorem f_rgL {b : Bool} {i j : Int} (h : RgOk i j) : @Rp _ (fRg false b i j μ) Q X = @Rp _ (newL b (zce i (j - i).toNat) μ) Q X := by
  unfold fRg; rw [if_pos h, if_neg (by decide)]
@[simp] theorem rp_makeK {z : Bool} {C : String} {m : List D → Store → Res D} {i k : Nat} {a b : MA} : @Rp _ (zzj z C m i k a b ρ μ) Q X = @Rp _ (a ρ μ) (fun xs μ => @Rp _ (b ρ μ) (fun ys μ => (xs.length = i ∧ ys.length = k) ∧ @Rp _ (mkObj z C m (xs ++ ys) μ) Q X) X) X := by
  unfold zzj
  rw [rp_bind]; congr 1; funext xs μ
  rw [rp_bind]; congr 1; funext ys μ
  by_cases h : xs.length = i ∧ ys.length = k
  · rw [if_pos h]; exact propext ⟨fun z => ⟨h, z⟩, fun z => z.2⟩
  · rw [if_neg h]; exact propext ⟨False.elim, fun z => h z.1⟩
@[simp] theorem f_intI {i : Int} : @Rp _ (fInt [.int i] μ) Q X = Q (.int i) μ := rfl
@[simp] theorem f_intB {k : Bool} : @Rp _ (fInt [.bl k] μ) Q X = Q (.int (if k = true then 1 else 0)) μ := rfl
@[simp] theorem rp_callO {C : String} {m : List D → Store → Res D} {o : ME} {a : MA} : @Rp _ (zzo C m o a ρ μ) Q X = @Rp _ (o ρ μ) (fun x μ => match x with
  | .obj C' ks ds => C' = C ∧ @Rp _ (a ρ μ) (fun as μ => @Rp _ (m (.obj C' ks ds :: as) μ) Q X) X
  | _ => False) X := by
  unfold zzo
  rw [rp_bind]; congr 1; funext x μ
  cases x with
  | obj C' ks ds =>
    dsimp only
    by_cases h : C' = C
    · rw [if_pos h, rp_bind]; exact propext ⟨fun z => ⟨h, z⟩, fun z => z.2⟩
    · rw [if_neg h]; exact propext ⟨False.elim, fun z => h z.1⟩
  | _ => rfl
theorem zaen {r : Res D} : @Rp _ (noX r) Q X = @Rp _ r Q (fun _ _ => False) := by
  cases r <;> rfl
@[simp] theorem rp_propN {C : String} {m : List D → Store → Res D} {o : ME} : @Rp _ (zp0 C m o ρ μ) Q X = @Rp _ (o ρ μ) (fun x μ => match objOf μ x with
  | some (C', _, _) => C' = C ∧ @Rp _ (m [x] μ) Q (fun _ _ => False)
  | none => False) X := by
  unfold zp0
  rw [rp_prop]; congr 1; funext x μ
  cases objOf μ x with
  | none => rfl
  | some p =>
    obtain ⟨C', ks, ds⟩ := p
    dsimp only
    rw [zaen]
@[simp] theorem rs_par3 {i j k : Nat} {a : MA} : @RpS (mPar3 i j k a n ρ μ) P = @Rp _ (a ρ μ) (fun ds μ => match ds with
  | [x, y, z] => P.N (((ρ.set i (some x)).set j (some y)).set k (some z)) μ
  | _ => False) P.X := by
  unfold mPar3
  rw [rs_st]; congr 1; funext ds μ
  match ds with
  | [] | [_] | [_, _] | [_, _, _] | _ :: _ :: _ :: _ :: _ => rfl
end
end Pl
namespace Pl
open PySem PySem.Spec L2 Mi
section
variable {Q : D → Store → Prop} {X : Exc → Store → Prop} {μ : Store}
theorem znx {x : Option Cell} : (μ ++ [x])[μ.length]? = some x := by simp
end
end Pl
namespace Pl
open PySem PySem.Spec L2 Mi
section
variable {α : Type} {Q : D → Store → Prop} {X : Exc → Store → Prop} {P : Post} {ρ : Mi.Env} {μ μ0 μ1 : Store} {n : Nat} {L : List D → Store → Prop}
theorem ztn {g : D → Mi.Env → Option Mi.Env} {t : MT} {el : ME} {w : List Nat} {f : α → D} (p : α → Bool) (h : α → D) : ∀ (l : List α) (acc : List D), acc.length + l.length ≤ sizeLine →
    (∀ a ∈ l, ∃ ρ2, g (f a) ρ = some ρ2 ∧ t ρ2 μ = .ok (p a) μ ∧ (p a = true → el ρ2 μ = .ok (h a) μ)) → lcA w μ g t el ρ (l.map f) acc μ = .ok (acc ++ (l.filter p).map h) μ
  | [], acc, _, _ => by
    rw [List.map_nil]; unfold lcA
    rw [if_pos zj2]; simp
  | a :: l, acc, hz, st => by
    obtain ⟨ρ2, h1, h2, h3⟩ := st a List.mem_cons_self
    simp only [List.length_cons] at hz
    rw [List.map_cons]; unfold lcA
    rw [if_pos zj2, h1]
    dsimp only
    rw [h2]
    cases hp : p a with
    | false =>
      dsimp only
      rw [ztn p h l acc (by omega) (fun b hb => st b (List.mem_cons_of_mem _ hb))]
      simp [hp]
    | true =>
      dsimp only
      rw [h3 hp]
      dsimp only
      rw [if_pos (by omega), ztn p h l (acc ++ [h a]) (by simp; omega) (fun b hb => st b (List.mem_cons_of_mem _ hb))]
      simp [hp]
theorem zyh {g : D → Mi.Env → Option Mi.Env} {t : MT} {el : ME} {w : List Nat} {f : α → D} {l : List α} (p : α → Bool) (h : α → D) (hz : l.length ≤ sizeLine)
    (st : ∀ a ∈ l, ∃ ρ2, g (f a) ρ = some ρ2 ∧ t ρ2 μ = .ok (p a) μ ∧ (p a = true → el ρ2 μ = .ok (h a) μ)) (k : L ((l.filter p).map h) μ) : @Rp _ (lcA w μ g t el ρ (l.map f) [] μ) L X := by
  rw [ztn p h l [] (by simpa using hz) st]; exact k
theorem zve {g : D → Mi.Env → Option Mi.Env} {el : ME} {w : List Nat} {f : α → D} {l : List α} (h : α → D) (hz : l.length ≤ sizeLine)
    (st : ∀ a ∈ l, ∃ ρ2, g (f a) ρ = some ρ2 ∧ el ρ2 μ = .ok (h a) μ) (k : L (l.map h) μ) : @Rp _ (lcA w μ g mYes el ρ (l.map f) [] μ) L X := by
  refine zyh (fun _ => true) h hz (fun a ha => ?_) (by rw [List.filter_eq_self.mpr fun _ _ => rfl]; exact k)
  obtain ⟨ρ2, h1, h2⟩ := st a ha
  exact ⟨ρ2, h1, rfl, fun _ => h2⟩
@[simp] theorem rp_din {neg : Bool} {i o : ME} : @Rp _ (mDIn neg i o ρ μ) Q X = @Rp _ (i ρ μ) (fun y μ => @Rp _ (o ρ μ) (fun x μ => match dctOf μ x, keyOf y with
  | some (ks, ds), some k => Q (.bl (if neg = true then !(lookK k ks ds).isSome else (lookK k ks ds).isSome)) μ
  | _, _ => False) X) X := by
  unfold mDIn
  rw [rp_bind]; congr 1; funext y μ
  rw [rp_bind]; congr 1; funext x μ
  cases dctOf μ x with
  | none => rfl
  | some p => cases keyOf y <;> rfl
@[simp] theorem tyM_app {l : List D} : tyM (μ ++ [some (.lst l)]) (.own μ.length) = some "list" := zcj znx
@[simp] theorem seqL_app {l : List D} : seqL (μ ++ [some (.lst l)]) (.own μ.length) = some l := zdm znx
theorem zzz {N k : Nat} {body : MS} {m : List D → Store → Res D} (hm : m = mFn N 1 (mSeq (mFor (zgc (mCons (mSl false (mOrT (mVar 0) (mLst false (mCons (mC (.int 5)) mNil))) znf (zgb (mC (.int k)))) mNil)) (mgTup 2 (zbp (zam 1) (zbp (zam 2) mgNil))) body) (mRet (mC (.bl true)))))
    (hk : 0 < k) (hN : 3 ≤ N)
    (step : ∀ (ρ : Mi.Env) (μ : Store) (t : Nat) (x : Int), t < k → ρ.length = N → ρ[1]? = some (some (.int t)) → ρ[2]? = some (some (.int x)) → @RpS (body 0 ρ μ) ⟨fun ρ _ => ρ.length = N, fun d _ => d = .bl true, fun ρ _ => ρ.length = N, fun ρ _ => ρ.length = N, fun _ _ => False⟩) :
    ∀ ns : List Int, ns.length ≤ 63 → ∃ μ, m [.lst (ns.map D.int)] [] = .ok (.bl true) μ := fun ns hns => by
  have run : @Rp _ (m [.lst (ns.map D.int)] []) (fun d _ => d = .bl true) fun _ _ => False := by
    rw [hm, rp_fn]
    refine ⟨rfl, ?_⟩
    have hl : (zao N [.lst (ns.map D.int)]).length = N := by simp [zao]; omega
    have h0 : (zao N [.lst (ns.map D.int)])[0]? = some (some (.lst (ns.map D.int))) := rfl
    generalize zao N [.lst (ns.map D.int)] = ρ at hl h0
    have go : ∀ xs : List Int, xs.length ≤ k → @RpS (forS [] ([] : Store) (mgTup 2 (zbp (zam 1) (zbp (zam 2) mgNil))) body 0 (enumD (xs.map D.int)) ρ []) ⟨fun ρ μ => True, fun d _ => d = .bl true, fun _ _ => False, fun _ _ => False, fun _ _ => False⟩ := by
      intro xs hx
      refine zace (fun pre ρ μ' => ρ.length = N) hl (fun _ _ _ _ => Pl.zbo) ?_ (fun _ _ _ => trivial)
      intro pre d post ρ μ1 e hρ
      have pl : pre.length < k := by
        have := congrArg List.length e
        rw [List.length_map, List.length_append, List.length_cons] at this
        omega
      obtain ⟨x, hx, rfl⟩ : ∃ x, x ∈ xs ∧ D.int x = d := List.mem_map.mp (by rw [e]; simp)
      simp only [zyk, rg_cons, rg_name, rg_nil, List.length_cons, List.length_nil, true_and]
      refine zqw (step _ μ1 pre.length x pl (by simp [hρ]) ?_ ?_) (fun _ _ h => h) (fun _ _ h => h) (fun _ _ _ => trivial) (fun _ _ h => h) (fun _ _ h => h)
      · rw [List.getElem?_set_ne (by decide), List.getElem?_set_self (by omega)]
      · rw [List.getElem?_set_self (by simp; omega)]
    have cl : ∀ ds, (D.lst ds).cell = [] := fun _ => rfl
    have z : 0 < sizeLine := by decide
    simp only [rs_seq, rs_for, ri_enum, rp_cons, rp_nil, rp_sl, rp_orT, rp_moN, rp_moS, rp_var, rp_c, rp_lst, rp_newL, h0, List.length_cons, List.length_nil, Bool.false_eq_true, if_false]
    have fin : ∀ xs : List Int, xs.length ≤ k → @RpS (forS [] ([] : Store) (mgTup 2 (zbp (zam 1) (zbp (zam 2) mgNil))) body 0 (enumD (xs.map D.int)) ρ []) ⟨fun ρ μ => @RpS (mRet (mC (.bl true)) 0 ρ μ) ⟨fun _ μ => D.non = .bl true, fun d _ => d = .bl true, fun _ _ => False, fun _ _ => False, fun _ _ => False⟩, fun d _ => d = .bl true, fun _ _ => False, fun _ _ => False, fun _ _ => False⟩ := fun xs hx =>
      zqw (go xs hx) (fun _ _ _ => by simp) (fun _ _ h => h) (fun _ _ h => h) (fun _ _ h => h) (fun _ _ h => h)
    cases ns with
    | nil =>
      have t : truD ([] : Store) (.lst (([] : List Int).map D.int)) = some false := rfl
      rw [t]
      dsimp only
      refine ⟨by omega, ?_⟩
      rw [f_slLst]
      simp only [rp_newL, Bool.false_eq_true, if_false, seqL_lst, cl, zqh (Int.natCast_nonneg k), Int.toNat_natCast]
      refine zqw ((fin [5] (by simp only [List.length_cons, List.length_nil]; omega)) |> fun h => ?_) (fun _ _ h => h) (fun _ _ h => h) (fun _ _ h => h) (fun _ _ h => h) (fun _ _ h => h)
      rw [List.take_of_length_le (by simp only [List.length_map, List.length_cons, List.length_nil]; omega)]
      exact h
    | cons n ns =>
      have t : truD ([] : Store) (.lst ((n :: ns).map D.int)) = some true := rfl
      rw [t]
      dsimp only
      rw [f_slLst]
      simp only [rp_newL, Bool.false_eq_true, if_false, seqL_lst, cl, zqh (Int.natCast_nonneg k), Int.toNat_natCast]
      rw [← List.map_take]
      exact fin _ (by rw [List.length_take]; exact Nat.min_le_left _ _)
  obtain ⟨d, μ, e, rfl⟩ := zpj run
  exact ⟨μ, e⟩
@[simp] theorem sz_1 : (1 ≤ sizeLine) = True := eq_true (by decide)
@[simp] theorem sz_2 : (2 ≤ sizeLine) = True := eq_true (by decide)
@[simp] theorem sz_3 : (3 ≤ sizeLine) = True := eq_true (by decide)
@[simp] theorem sz_4 : (4 ≤ sizeLine) = True := eq_true (by decide)
@[simp] theorem sz_5 : (5 ≤ sizeLine) = True := eq_true (by decide)
@[simp] theorem sz_6 : (6 ≤ sizeLine) = True := eq_true (by decide)
@[simp] theorem sz_7 : (7 ≤ sizeLine) = True := eq_true (by decide)
@[simp] theorem sz_8 : (8 ≤ sizeLine) = True := eq_true (by decide)
@[simp] theorem sz_9 : (9 ≤ sizeLine) = True := eq_true (by decide)
@[simp] theorem sz_10 : (10 ≤ sizeLine) = True := eq_true (by decide)
@[simp] theorem sz_11 : (11 ≤ sizeLine) = True := eq_true (by decide)
@[simp] theorem sz_12 : (12 ≤ sizeLine) = True := eq_true (by decide)
@[simp] theorem sz_13 : (13 ≤ sizeLine) = True := eq_true (by decide)
@[simp] theorem sz_14 : (14 ≤ sizeLine) = True := eq_true (by decide)
@[simp] theorem sz_15 : (15 ≤ sizeLine) = True := eq_true (by decide)
@[simp] theorem sz_16 : (16 ≤ sizeLine) = True := eq_true (by decide)
@[simp] theorem sz_17 : (17 ≤ sizeLine) = True := eq_true (by decide)
@[simp] theorem sz_18 : (18 ≤ sizeLine) = True := eq_true (by decide)
@[simp] theorem sz_19 : (19 ≤ sizeLine) = True := eq_true (by decide)
@[simp] theorem sz_20 : (20 ≤ sizeLine) = True := eq_true (by decide)
@[simp] theorem nn_non  : zdc  .non = true := rfl
@[simp] theorem nn_int {i : Int} : zdc (.int i) = false := rfl
@[simp] theorem nn_str {z : Str} : zdc (.str z) = false := rfl
@[simp] theorem nn_bl {z : Bool} : zdc (.bl z) = false := rfl
@[simp] theorem nn_lst {z : List D} : zdc (.lst z) = false := rfl
@[simp] theorem nn_tup {z : List D} : zdc (.tup z) = false := rfl
@[simp] theorem nn_dct {k : List Key} {z : List D} : zdc (.dct k z) = false := rfl
@[simp] theorem nn_obj {C : String} {k : List Str} {z : List D} : zdc (.obj C k z) = false := rfl
@[simp] theorem nn_exc {C : String} {k : List Str} {z : List D} : zdc (.exc C k z) = false := rfl
@[simp] theorem nn_own {k : Nat} : zdc (.own k) = false := rfl
@[simp] theorem f_lenT {xs : List D} : @Rp _ (fLen [.tup xs] μ) Q X = Q (.int xs.length) μ := rfl
@[simp] theorem cell_lst {ds : List D} : (D.lst ds).cell = [] := rfl
@[simp] theorem cell_tup {ds : List D} : (D.tup ds).cell = [] := rfl
theorem map_inj {α β : Type} {f : α → β} (hf : ∀ x y, f x = f y → x = y) : ∀ {a b : List α}, a.map f = b.map f → a = b
  | [], [], _ => rfl
  | [], _ :: _, h => by simp at h
  | _ :: _, [], h => by simp at h
  | x :: a, y :: b, h => by
    simp only [List.map_cons, List.cons.injEq] at h
    rw [hf _ _ h.1, map_inj hf h.2]
theorem zac9 {a b : String} (h : Str.ofString a = Str.ofString b) : a = b := by
  rw [Str.ofString_eq_toList, Str.ofString_eq_toList] at h
  have h1 : a.toList.map Char.toNat = b.toList.map Char.toNat := by
    have := congrArg (fun s : Str => s.cps.toList) h
    simpa using this
  have h2 : a.toList = b.toList := map_inj (fun x y e => Char.toNat_inj.mp e) h1
  exact String.toList_inj.mp h2
@[simp] theorem ofS_eq {a b : String} : (Str.ofString a = Str.ofString b) = (a = b) := propext ⟨zac9, fun e => by rw [e]⟩
@[simp] theorem ofS_beq {a b : String} : (Str.ofString a == Str.ofString b) = decide (a = b) := by
  rw [Bool.eq_iff_iff]; simp
@[simp] theorem f_eqNilL {neg : Bool} {xs : List D} : @Rp _ (fEq neg (.lst xs) (.lst []) μ) Q X = Q (.bl (if neg = true then !xs.isEmpty else xs.isEmpty)) μ := zgy rfl
theorem rs_go {a b : MS} (h : ∀ N : Mi.Env → Store → Prop, (∀ ρ μ, @RpS (b n ρ μ) P → N ρ μ) → @RpS (a n ρ μ) ⟨N, P.R, P.B, P.C, P.X⟩) : @RpS (mSeq a b n ρ μ) P := by
  rw [rs_seq]; exact h _ (fun _ _ h => h)
theorem zm4 {N P' : Nat} {body : MS} {ds : List D} (hl : ds.length = P') (h : @RpS (body μ.length (zao N ds) μ) ⟨fun _ μ => Q .non μ, Q, fun _ _ => False, fun _ _ => False, X⟩) : @Rp _ (mFn N P' body ds μ) Q X := by
  rw [rp_fn]; exact ⟨hl, h⟩
@[simp] theorem atI_3 {α : Type} {x y z w : α} {xs : List α} : atI (x :: y :: z :: w :: xs) 3 = some w := by
  unfold atI ixN
  rw [if_pos (by decide), if_pos (by simp only [List.length_cons]; omega)]; rfl
@[simp] theorem atI_4 {α : Type} {x y z w v : α} {xs : List α} : atI (x :: y :: z :: w :: v :: xs) 4 = some v := by
  unfold atI ixN
  rw [if_pos (by decide), if_pos (by simp only [List.length_cons]; omega)]; rfl
@[simp] theorem cut_hiN {ds : List D} {k : Nat} : cutD ds none (some (k : Int)) = ds.take k := by rw [zqh (Int.natCast_nonneg _), Int.toNat_natCast]
@[simp] theorem cut_loN {ds : List D} {k : Nat} : cutD ds (some (k : Int)) none = ds.drop k := by rw [zafr (Int.natCast_nonneg _), Int.toNat_natCast]
@[simp] theorem cut_allN {ds : List D} : cutD ds none none = ds := zad7
@[simp] theorem atI_natN {xs : List D} {k : Nat} : atI xs (k : Int) = xs[k]? := by
  unfold atI ixN
  by_cases h : k < xs.length
  · rw [if_pos (Int.natCast_nonneg _), if_pos (by omega)]; simp
  · rw [if_pos (Int.natCast_nonneg _), if_neg (by omega), List.getElem?_eq_none (by omega)]; rfl
@[simp] theorem ownK_app {ks : List Key} {ds : List D} : ownK (μ ++ [some (.dct ks ds)]) (.own μ.length) = some (μ.length, ks, ds) := zht znx
theorem zy3 {ss : List Str} (h : ss.Nodup) : (ss.map (Sum.inr : Str → Key)).Nodup := List.Pairwise.map _ (fun a b ne q => ne (by simpa using q)) h
@[simp] theorem f_tupleT {xs : List D} : @Rp _ (fTuple [.tup xs] μ) Q X = Q (.tup xs) μ := rfl
@[simp] theorem f_tupleL {xs : List D} : @Rp _ (fTuple [.lst xs] μ) Q X = Q (.tup xs) μ := rfl
@[simp] theorem f_tupleD {ks : List Key} {xs : List D} : @Rp _ (fTuple [.dct ks xs] μ) Q X = Q (.tup (ks.map keyDD)) μ := rfl
@[simp] theorem tyM_lstD {xs : List D} : tyM μ (.lst xs) = some "list" := rfl
@[simp] theorem tyM_strD {z : Str} : tyM μ (.str z) = some "str" := rfl
@[simp] theorem f_listT {b : Bool} {xs : List D} : @Rp _ (fList b [.tup xs] μ) Q X = @Rp _ (newL b xs μ) Q X := rfl
@[simp] theorem f_listL {b : Bool} {xs : List D} : @Rp _ (fList b [.lst xs] μ) Q X = @Rp _ (newL b xs μ) Q X := rfl
@[simp] theorem f_ltII {i j : Int} : @Rp _ (fLt (.int i) (.int j) μ) Q X = Q (.bl (decide (i < j))) μ := f_ltI
@[simp] theorem atI_neg1 {xs : List D} : atI xs (-1) = xs.getLast? := by
  unfold atI ixN
  rw [if_neg (by decide)]
  cases h : xs.length with
  | zero =>
    have : xs = [] := List.length_eq_zero_iff.mp h
    subst this; rfl
  | succ n =>
    rw [if_pos (by omega), List.getLast?_eq_getElem?, h]
    show xs[((n + 1 : Nat) + (-1) : Int).toNat]? = _
    congr 1
    omega
theorem zt7 {g : MG} {body : MS} {l : List α} (f : α → D) (I : List α → Mi.Env → Store → Prop) (h0 : I [] ρ μ)
    (step : ∀ pre a post ρ μ, l = pre ++ a :: post → I pre ρ μ → @Rp _ (g (.tup [.int pre.length, f a]) ρ μ) (fun ρ μ => @RpS (body n ρ μ) ⟨I (pre ++ [a]), P.R, P.N, I (pre ++ [a]), P.X⟩) P.X) (fin : ∀ ρ μ, I l ρ μ → P.N ρ μ) :
    @RpS (forS [] μ0 g body n (enumD (l.map f)) ρ μ) P := by
  have go : ∀ (r pre : List α) (ρ : Mi.Env) (μ : Store), l = pre ++ r → I pre ρ μ → @RpS (forS [] μ0 g body n (enumF pre.length (r.map f)) ρ μ) P := by
    intro r
    induction r with
    | nil =>
      intro pre ρ μ e h
      rw [List.map_nil]
      unfold enumF forS
      rw [if_pos Pl.zbo]
      rw [List.append_nil] at e
      exact fin ρ μ (e ▸ h)
    | cons a r ih =>
      intro pre ρ μ e h
      rw [List.map_cons]
      unfold enumF forS
      rw [if_pos Pl.zbo]
      have s := step pre a r ρ μ e h
      have e' : l = (pre ++ [a]) ++ r := by rw [e]; simp
      have el : pre.length + 1 = (pre ++ [a]).length := by simp
      cases eg : g (.tup [.int pre.length, f a]) ρ μ with
      | bad => rw [eg] at s; exact s
      | exc x μ1 => rw [eg] at s; exact s
      | ok ρ1 μ1 =>
        rw [eg] at s
        dsimp only
        cases eb : body n ρ1 μ1 with
        | nx ρ2 μ2 => rw [rp_ok, eb] at s; dsimp only; rw [el]; exact ih _ ρ2 μ2 e' s
        | ct ρ2 μ2 => rw [rp_ok, eb] at s; dsimp only; rw [el]; exact ih _ ρ2 μ2 e' s
        | bk ρ2 μ2 => rw [rp_ok, eb] at s; exact s
        | rt d2 μ2 => rw [rp_ok, eb] at s; exact s
        | exc x μ2 => rw [rp_ok, eb] at s; exact s
        | bad => rw [rp_ok, eb] at s; exact s
  rw [zue]
  exact go l [] ρ μ rfl h0
@[simp] theorem f_inTS3 {neg : Bool} {w a b c : Str} : @Rp _ (fIn neg (.str w) (.tup [.str a, .str b, .str c]) μ) Q X = Q (.bl (if neg = true then !(a == w || (b == w || c == w)) else (a == w || (b == w || c == w)))) μ := by
  rw [f_inT (fun _ _ => trivial) rfl rfl]
  simp
@[simp] theorem ownO_app {C : String} {ks : List Str} {ds : List D} : ownO (μ ++ [some (.obj C ks ds)]) (.own μ.length) = some (μ.length, C, ks, ds) := zjl znx
@[simp] theorem objOf_app {C : String} {ks : List Str} {ds : List D} : objOf (μ ++ [some (.obj C ks ds)]) (.own μ.length) = some (C, ks, ds) := zy2 znx
@[simp] theorem f_inTI2 {neg : Bool} {w a b : Int} : @Rp _ (fIn neg (.int w) (.tup [.int a, .int b]) μ) Q X = Q (.bl (if neg = true then !(a == w || b == w) else (a == w || b == w))) μ := by
  rw [f_inT (fun _ _ => trivial) rfl rfl]
  simp
theorem f_ixW {tab : List (Str × Int)} {z : Str} {i : Int} (h : lookS tab z = some i) : @Rp _ (fIxW tab (.str z) μ) Q X = Q (.int i) μ := by
  unfold fIxW
  dsimp only
  rw [h]; rfl
end
end Pl
namespace Pl
open PySem PySem.Spec L2 Mi
section
variable {α : Type} {Q : D → Store → Prop} {X : Exc → Store → Prop} {P : Post} {ρ : Mi.Env} {μ μ0 μ1 : Store} {n : Nat}
@[simp] theorem f_addTT {b : Bool} {xs ys : List D} : @Rp _ (fAdd b (.tup xs) (.tup ys) μ) Q X = (xs.length + ys.length ≤ sizeLine ∧ Q (.tup (xs ++ ys)) μ) := by
  unfold fAdd
  by_cases h : xs.length + ys.length ≤ sizeLine <;> simp [h]
@[simp] theorem zj5 {C : String} {f : Str} {a : MA} : @RpS (zey C f a n ρ μ) P = @Rp _ (a ρ μ) (fun ds μ => match ds with
  | [d] => P.X ⟨C, [f], [d]⟩ μ
  | _ => False) P.X := by
  unfold zey
  rw [rs_st]; congr 1; funext ds μ
  match ds with
  | [] | [_] | _ :: _ :: _ => rfl
theorem Fr.keep {s f : Nat} {μ μ' : Store} {x : Option Cell} (h : Fr s μ μ') (e : μ[f]? = some x) (ne : f ≠ s) : μ'[f]? = some x := (h.at_ f (List.getElem?_eq_some_iff.mp e).1 ne).trans e
end
end Pl
namespace Pl
open PySem PySem.Spec L2 Mi
section
variable {α : Type} {Q : D → Store → Prop} {X : Exc → Store → Prop} {P : Post} {ρ : Mi.Env} {n : Nat} {μ : Store}
@[simp] theorem rp_dget2 {o i z : ME} : @Rp _ (zzm o i z ρ μ) Q X = @Rp _ (o ρ μ) (fun x μ => (dctOf μ x).isSome = true ∧ @Rp _ (i ρ μ) (fun y μ => @Rp _ (z ρ μ) (fun u μ => match dctOf μ x, keyOf y with
    | some (ks, ds), some k => Q ((lookK k ks ds).getD u) μ
    | _, _ => False) X) X) X := by
  unfold zzm
  simp only [rp_bind]
  congr 1; funext x μ
  cases e : dctOf μ x with
  | none => simp
  | some kd =>
    simp only [rp_bind, Option.isSome_some, true_and]
    congr 1; funext y μ; congr 1; funext u μ
    rcases dctOf μ x with _ | ⟨ks, ds⟩ <;> rcases keyOf y with _ | k <;> simp
@[simp] theorem rp_callK {m k : Nat} {ix : List Nat} {f : List D → Store → Res D} {a b : MA} : @Rp _ (zp2 m k ix f a b ρ μ) Q X = @Rp _ (a ρ μ) (fun xs μ => @Rp _ (b ρ μ) (fun ys μ => (xs.length = m ∧ ys.length = k) ∧ @Rp _ (f (ix.filterMap ((xs ++ ys)[·]?)) μ) Q X) X) X := by
  unfold zp2
  simp only [rp_bind]
  congr 1; funext xs μ; congr 1; funext ys μ
  split
  · rename_i h; simp only [h, true_and, and_self]
  · rename_i h; simp only [h, false_and, rp_bad]
@[simp] theorem f_count {is : List Int} {k : Int} : @Rp _ (zww (.lst (is.map .int)) [.int k] μ) Q X = Q (.int (is.count k : Nat)) μ := by
  have : (seqL μ (.lst (is.map D.int))).bind intsD = some is := by
    show intsD (is.map D.int) = some is
    induction is with
    | nil => rfl
    | cons i is ih => rw [List.map_cons, intsD, ih]; rfl
  unfold zww
  rw [this]; rfl
end
end Pl
namespace Pl
open PySem PySem.Spec L2 Mi
mutual
def gq (k : Nat) : D → Bool
  | .non => true
  | .bl _ => true
  | .int _ => true
  | .str z => decide (z.length ≤ k) && z.cps.toList.all fun c => decide (c < 128)
  | .lst ds => decide (ds.length ≤ k) && gqs k ds
  | .tup ds => decide (ds.length ≤ k) && gqs k ds
  | .dct ks ds => ks.isEmpty && ds.isEmpty
  | _ => false
def gqs (k : Nat) : List D → Bool
  | [] => true
  | d :: ds => gq k d && gqs k ds
end
section
variable {Q : D → Store → Prop} {X : Exc → Store → Prop} {P : Post} {ρ : Mi.Env} {μ : Store} {d : D} {ds es : List D} {k : Nat}
mutual
theorem zadt {k j : Nat} (h : k ≤ j) : ∀ {d : D}, gq k d = true → gq j d = true
  | .non, _ => rfl
  | .bl _, _ => rfl
  | .int _, _ => rfl
  | .str z, e => by
    unfold gq at e ⊢
    rw [Bool.and_eq_true, decide_eq_true_eq] at e ⊢
    exact ⟨Nat.le_trans e.1 h, e.2⟩
  | .lst ds, e => by
    unfold gq at e ⊢
    rw [Bool.and_eq_true, decide_eq_true_eq] at e ⊢
    exact ⟨Nat.le_trans e.1 h, zo3 h e.2⟩
  | .tup ds, e => by
    unfold gq at e ⊢
    rw [Bool.and_eq_true, decide_eq_true_eq] at e ⊢
    exact ⟨Nat.le_trans e.1 h, zo3 h e.2⟩
  | .dct ks ds, e => e
theorem zo3 {k j : Nat} (h : k ≤ j) : ∀ {ds : List D}, gqs k ds = true → gqs j ds = true
  | [], _ => rfl
  | d :: ds, e => by
    unfold gqs at e ⊢
    rw [Bool.and_eq_true] at e ⊢
    exact ⟨zadt h e.1, zo3 h e.2⟩
end
def ltS (a b : Str) : Bool := decide (a.cps.toList < b.cps.toList)
@[simp] theorem f_ltS {a b : Str} : @Rp _ (fLt (.str a) (.str b) μ) Q X = Q (.bl (ltS a b)) μ := by
  have e : fLt (.str a) (.str b) μ = .ok (.bl (ltS a b)) μ := by
    unfold fLt
    rw [show D.view μ (.str a) = some (.str a) from rfl, show D.view μ (.str b) = some (.str b) from rfl]
    dsimp only
    rw [if_pos (by refine ⟨rfl, rfl, ?_, ?_, ?_⟩; simp only [PySem.W.alike]; exact (fun z => by cases z); exact Nat.zero_le _)]
    rw [PySem.W.dataLt_str]; rfl
  rw [e]; rfl
def ascS : List Str → Bool
  | [] => true
  | a :: r => (match r with | [] => true | b :: _ => ltS a b) && ascS r
def areS (ss : List Str) : Bool := ss.all Cs.zah && ascS ss
@[simp] theorem rp_revA {b : Bool} {a : ME} : @Rp _ (mRevA b a ρ μ) Q' X = @Rp _ (a ρ μ) (fun x μ => match x with
  | .tup ds => Q' (.tup ds.reverse) μ
  | x => match seqL μ x with
    | some ds => @Rp _ (newL b ds.reverse μ) Q' X
    | none => False) X := by
  unfold mRevA; rw [rp_bind]; congr 1; funext x μ; cases x <;> first | rfl | (simp only []; cases seqL μ _ <;> rfl)
@[simp] theorem rp_zip {a b : ME} {L : Src → Store → Prop} : @Rp _ (miZip a b ρ μ) L X = @Rp _ (a ρ μ) (fun x μ => @Rp _ (b ρ μ) (fun y μ => match zipS μ x y with
  | some s => L s μ
  | none => False) X) X := by
  unfold miZip
  simp only [rp_bind]
  congr 1; funext x μ; congr 1; funext y μ
  cases zipS μ x y <;> rfl
@[simp] theorem zipS_tup : zipS μ (.tup ds) (.tup es) = some ⟨zipD ds es, []⟩ := rfl
@[simp] theorem zipS_lst : zipS μ (.lst ds) (.lst es) = some ⟨zipD ds es, []⟩ := rfl
def zy5 : D → List Str
  | .tup ds => (strsD ds).getD []
  | _ => []
@[simp] theorem namesD_tup {ss : List Str} : zy5 (.tup (ss.map D.str)) = ss := by simp [zy5, zmz]
def zaeq (a b : List Str) (o : Bool) : Bool := a.all fun n => decide (n ∈ b) != o
end
end Pl
namespace Pl
open PySem PySem.Spec L2 Mi
mutual
theorem zs4 {f : Nat → Option PyData} : ∀ {d : D} {p : PyData}, d.pd = some p → d.pdW f = some p
  | .non, _, e => e
  | .bl _, _, e => e
  | .int _, _, e => e
  | .str _, _, e => e
  | .lst ds, p, e => by
    unfold D.pd at e
    unfold D.pdW
    cases q : pds ds with
    | none => rw [q] at e; cases e
    | some ps => rw [q] at e; rw [zl3 q]; exact e
  | .tup ds, p, e => by
    unfold D.pd at e
    unfold D.pdW
    cases q : pds ds with
    | none => rw [q] at e; cases e
    | some ps => rw [q] at e; rw [zl3 q]; exact e
  | .dct ks ds, p, e => by
    unfold D.pd at e
    unfold D.pdW
    cases q : pds ds with
    | none => rw [q] at e; cases e
    | some ps => rw [q] at e; rw [zl3 q]; exact e
  | .ty _, _, e => by cases e
  | .obj _ _ _, _, e => by cases e
  | .exc _ _ _, _, e => by cases e
  | .cls _, _, e => by cases e
  | .own _, _, e => by cases e
theorem zl3 {f : Nat → Option PyData} : ∀ {ds : List D} {ps : List PyData}, pds ds = some ps → pdsW f ds = some ps
  | [], _, e => e
  | d :: ds, ps, e => by
    unfold pds at e
    unfold pdsW
    split at e
    · rename_i p q h1 h2
      rw [zs4 h1, zl3 h2]
      exact e
    · cases e
end
theorem zqz : ∀ {ds : List D} {ps : List PyData}, pds ds = some ps → ps.length = ds.length
  | [], _, e => by cases Option.some.inj e; rfl
  | d :: ds, ps, e => by
    unfold pds at e
    split at e
    · rename_i p q h1 h2
      cases Option.some.inj e
      simp [zqz h2]
    · cases e
theorem zqe : ∀ {ps qs : List PyData}, ps.length ≠ qs.length → PyData.eqvAll ps qs = false
  | [], [], h => absurd rfl h
  | [], _ :: _, _ => rfl
  | _ :: _, [], _ => rfl
  | p :: ps, q :: qs, h => by
    rw [PyData.eqvAll, zqe (by simpa using h), Bool.and_false]
section
variable {Q : D → Store → Prop} {X : Exc → Store → Prop} {μ : Store} {x y : D} {p q : PyData}
theorem zaab {neg : Bool} (hx : x.pd = some p) (hy : y.pd = some q) (sp : SeqAt.shaped p = true) (sq : SeqAt.shaped q = true) : zfb neg x y μ = .ok (.bl (if neg = true then !PyData.eqv p q else PyData.eqv p q)) μ := by
  unfold zfb D.view
  rw [zs4 hx, zs4 hy]
  dsimp only
  rw [if_pos ⟨sp, sq⟩]
theorem zafl {neg : Bool} (hx : x.pd = some p) (hy : y.pd = some q) (sp : SeqAt.shaped p = true) (sq : SeqAt.shaped q = true) : @Rp _ (fEq neg x y μ) Q X = Q (.bl (if neg = true then !PyData.eqv p q else PyData.eqv p q)) μ := by
  have e : fEq neg x y μ = .ok (.bl (if neg = true then !PyData.eqv p q else PyData.eqv p q)) μ := by
    have key := zaab (neg := neg) (μ := μ) hx hy sp sq
    unfold fEq
    split
    · rename_i xs ys e1 e2
      split
      · exact key
      · rename_i hn
        cases x with
        | lst ds0 =>
          cases y with
          | lst es0 =>
            obtain rfl : ds0 = xs := Option.some.inj e1
            obtain rfl : es0 = ys := Option.some.inj e2
            unfold D.pd at hx hy
            cases q1 : pds ds0 with
            | none => rw [q1] at hx; cases hx
            | some ps =>
              cases q2 : pds es0 with
              | none => rw [q2] at hy; cases hy
              | some qs =>
                rw [q1] at hx
                rw [q2] at hy
                cases Option.some.inj hx
                cases Option.some.inj hy
                rw [PyData.eqv, zqe (by rw [zqz q1, zqz q2]; exact hn)]
                cases neg <;> rfl
          | own _ => cases hy
          | _ => cases e2
        | own _ => cases hx
        | _ => cases e1
    · unfold eqOne
      split
      · cases Option.some.inj hx
        cases Option.some.inj hy
        simp only [PyData.eqv]
      · exact key
  rw [e]; rfl
end
def zyb (z : Str) : Prop := ∀ c ∈ z.cps.toList, c < 128
theorem zya {z : Str} (h : zyb z) : PyData.strOk z = true := by
  unfold PyData.strOk
  rw [← Array.all_toList, List.all_eq_true]
  intro c hc
  have := h c hc
  simp only [decide_eq_true_eq]
  omega
theorem zabx {z : Str} (h : Cs.zah z = true) : zyb z := fun c hc => by
  unfold Cs.zah at h
  simp only [Bool.and_eq_true] at h
  have h2 := h.2
  unfold Cs.isWord at h2
  have := (List.all_eq_true.mp h2) c hc
  simp only [Bool.and_eq_true, decide_eq_true_eq] at this
  omega
abbrev SRow := Option (List Str × List Str × Bool)
def rowV : SRow → Bool
  | none => true
  | some (a, b, o) => areS a && (areS b && zaeq a b o)
section
variable {Q : D → Store → Prop} {X : Exc → Store → Prop} {μ : Store}
end
end Pl
namespace Pl
open PySem PySem.Spec L2 Mi
def zct : List SRow → List SRow
  | a :: b :: r => if a == b then zct (b :: r) else a :: b :: r
  | l => l
theorem zkl {a b : SRow} {r : List SRow} (h : a = b) : zct (a :: b :: r) = zct (b :: r) := by
  conv => lhs; unfold zct
  rw [if_pos (by rw [h]; exact beq_self_eq_true _)]
theorem zh3 {a b : SRow} {r : List SRow} (h : a ≠ b) : zct (a :: b :: r) = a :: b :: r := by
  conv => lhs; unfold zct
  rw [if_neg (by simpa using h)]
def zd5 (rs : List SRow) : List SRow := (zct rs.reverse).reverse
theorem zpe : ∀ {l : List SRow} {r : SRow}, r ∈ zct l → r ∈ l
  | [], _, h => h
  | [a], _, h => h
  | a :: b :: l, r, h => by
    unfold zct at h
    split at h
    · exact List.mem_cons_of_mem _ (zpe h)
    · exact h
theorem zxk {rs : List SRow} {r : SRow} (h : r ∈ zd5 rs) : r ∈ rs := by
  unfold zd5 at h
  exact List.mem_reverse.mp (zpe (List.mem_reverse.mp h))
theorem zj4 : ∀ {l : List SRow}, l ≠ [] → zct l ≠ []
  | [], h => absurd rfl h
  | [a], _ => fun z => by cases z
  | a :: b :: l, _ => by
    unfold zct
    split
    · exact zj4 fun z => by cases z
    · exact fun z => by cases z
theorem zrr {rs : List SRow} (h : rs ≠ []) : zd5 rs ≠ [] := fun z => zj4 (l := rs.reverse) (fun e => h (by simpa using e)) (by simpa [zd5] using z)
section
variable {Q : D → Store → Prop} {X : Exc → Store → Prop} {P : Post} {ρ : Mi.Env} {μ μ0 : Store} {n k : Nat} {x : D} {ds : List D}
structure SeqIn (x : D) (ds : List D) (w : List Nat) (μ : Store) : Prop where
  isl : ∀ t, fIsL [.ty "list", .ty "tuple"] x (μ ++ t) = .ok (.bl true) (μ ++ t)
  len : ∀ t, fLen [x] (μ ++ t) = .ok (.int ds.length) (μ ++ t)
  en : ∀ t, (seqL (μ ++ t) x = some ds ∧ w = x.cell) ∨ (seqL (μ ++ t) x = none ∧ seqT x = some ds ∧ w = [])
  lt : ∀ j ∈ w, j < μ.length
theorem SeqIn.lst : SeqIn (.lst ds) ds [] μ := ⟨fun _ => rfl, fun _ => rfl, fun _ => .inl ⟨rfl, rfl⟩, fun _ h => by cases h⟩
theorem SeqIn.tup : SeqIn (.tup ds) ds [] μ := ⟨fun _ => rfl, fun _ => rfl, fun _ => .inr ⟨rfl, rfl, rfl⟩, fun _ h => by cases h⟩
theorem SeqIn.own {j : Nat} (h : μ[j]? = some (some (.lst ds))) : SeqIn (.own j) ds [j] μ := by
  have lt := (List.getElem?_eq_some_iff.mp h).1
  have e : ∀ t, (μ ++ t)[j]? = some (some (.lst ds)) := fun t => by rw [List.getElem?_append_left lt]; exact h
  refine ⟨fun t => ?_, fun t => ?_, fun t => .inl ⟨zdm (e t), rfl⟩, fun i hi => by rw [List.mem_singleton.mp hi]; exact lt⟩
  · have q : tnD (μ ++ t) (.own j) = some (.b "list") := by unfold tnD; simp [e t, tnC]
    unfold fIsL zfk
    rw [q]; rfl
  · exact ok_of (by rw [zqc (zdm (e t))]; exact ⟨rfl, rfl⟩)
theorem SeqIn.fl {w : List Nat} (h : SeqIn x ds w μ) (t : Store) {b : Bool} : @Rp _ (fList b [x] (μ ++ t)) Q X = @Rp _ (newL b ds (μ ++ t)) Q X := by
  rcases h.en t with ⟨e, _⟩ | ⟨e1, e2, _⟩
  · exact f_list e
  · unfold fList; simp [e1, e2]
end
end Pl
namespace Pl
open PySem PySem.Spec L2 Mi
def rowAt (rs : List SRow) (c : Nat) : SRow := rs.getD (min c (rs.length - 1)) none
def acc : SRow → List Str → Bool
  | none, _ => false
  | some (a, b, o), ns => (a.all fun n => decide (n ∈ ns)) && ns.all fun n => decide (n ∈ b) != o
theorem zyj {rs : List SRow} {c : Nat} (h : rs ≠ []) : rowAt rs c ∈ rs := by
  unfold rowAt
  have : 0 < rs.length := List.length_pos_iff.mpr h
  rw [List.getD_eq_getElem?_getD, List.getElem?_eq_getElem (by omega)]
  exact List.getElem_mem _
section
variable {Q : D → Store → Prop} {X : Exc → Store → Prop} {P : Post} {ρ : Mi.Env} {μ μ0 : Store} {n k : Nat} {x d : D} {ds : List D} {rs ss : List SRow} {r : SRow} {ns : List Str}
@[simp] theorem look_own {d : D} : lookF (Str.ofString "own_rows") [Str.ofString "own_rows"] [d] = some d := by unfold lookF; rw [if_pos rfl]
end
end Pl
namespace Pl
open PySem PySem.Spec L2 Mi
theorem zadj {a b : Str} : ltS a b = true ↔ a.cps.toList < b.cps.toList := by unfold ltS; rw [decide_eq_true_eq]
theorem zadi {a : Str} : ltS a a = false := by
  unfold ltS
  exact decide_eq_false (List.lt_irrefl _)
theorem zzq {a b c : Str} (h : ltS a b = true) (k : ltS b c = true) : ltS a c = true := by
  rw [zadj] at *
  exact List.lt_trans h k
theorem zaav : ∀ {ss : List Str}, ascS ss = true ↔ ss.Pairwise fun a b => ltS a b = true
  | [] => by simp [ascS]
  | [a] => by simp [ascS]
  | a :: b :: r => by
    have ih := zaav (ss := b :: r)
    show (ltS a b && ascS (b :: r)) = true ↔ _
    rw [Bool.and_eq_true, ih, List.pairwise_cons (a := a)]
    constructor
    · rintro ⟨h1, h2⟩
      refine ⟨fun c hc => ?_, h2⟩
      rcases List.mem_cons.mp hc with rfl | hc
      · exact h1
      · exact zzq h1 ((List.pairwise_cons.mp h2).1 c hc)
    · rintro ⟨h1, h2⟩
      exact ⟨h1 b List.mem_cons_self, h2⟩
theorem zsa {ss : List Str} (h : ascS ss = true) : ss.Nodup := (zaav.mp h).imp fun {a b} h e => by
  rw [e, zadi] at h; cases h
section
variable {Q : D → Store → Prop} {X : Exc → Store → Prop} {P : Post} {ρ : Mi.Env} {μ μ0 : Store} {n k : Nat} {x d : D} {ds : List D} {rs ss : List SRow} {r : SRow} {ns : List Str}
@[simp] theorem rp_sortSet {b : Bool} {a : ME} : @Rp _ (zti b a ρ μ) Q X = @Rp _ (a ρ μ) (fun x μ => match (seqA μ x).bind strsD with
  | some ss => (ss.length < 64 ∨ ((SetT.ddS ss).length < 64 ∧ ss.length ≤ 1000)) ∧ @Rp _ (newL b ((sortS (SetT.ddS ss)).map .str) μ) Q X
  | none => False) X := by
  unfold zti; rw [rp_bind]; congr 1; funext x μ
  cases (seqA μ x).bind strsD with
  | none => rfl
  | some ss => dsimp only; by_cases h : ss.length < 64 ∨ ((SetT.ddS ss).length < 64 ∧ ss.length ≤ 1000) <;> simp [h]
@[simp] theorem seqA_tup : seqA μ (.tup ds) = some ds := rfl
@[simp] theorem seqA_lst : seqA μ (.lst ds) = some ds := rfl
end
end Pl
namespace Pl
open PySem PySem.Spec L2 Mi
section
variable {Q : D → Store → Prop} {X : Exc → Store → Prop} {P : Post} {ρ : Mi.Env} {μ μ0 : Store} {n k c s : Nat} {x d : D} {ds : List D} {L : List D → Store → Prop}
theorem znc {α : Type} [DecidableEq α] : ∀ {a b : List α}, a.Nodup → (∀ z ∈ a, z ∈ b) → a.length ≤ b.length
  | [], _, _, _ => Nat.zero_le _
  | x :: a, b, hn, h => by
    have hx : x ∈ b := h x (List.mem_cons_self ..)
    obtain ⟨h1, h2⟩ := List.nodup_cons.mp hn
    have := znc (a := a) (b := b.erase x) h2 fun z hz => (List.mem_erase_of_ne (by rintro rfl; exact h1 hz)).mpr (h z (List.mem_cons_of_mem _ hz))
    rw [List.length_erase_of_mem hx] at this
    have : 0 < b.length := List.length_pos_of_mem hx
    rw [List.length_cons]
    omega
theorem zup {ss : List Str} : areS ss = true ↔ (∀ z ∈ ss, Cs.zah z = true) ∧ ascS ss = true := by
  unfold areS
  rw [Bool.and_eq_true, List.all_eq_true]
def rowG (ns : List Str) (r : SRow) : Prop := rowV r = true ∧ ∀ a b o, r = some (a, b, o) → (∀ z ∈ a, z ∈ ns) ∧ ∀ z ∈ b, z ∈ ns
theorem zabf {ns : List Str} {r : SRow} (h : rowG ns r) {a b : List Str} {o : Bool} (e : r = some (a, b, o)) : a.length ≤ ns.length ∧ b.length ≤ ns.length := by
  obtain ⟨h1, h2⟩ := h
  subst e
  have h3 := h2 _ _ _ rfl
  unfold rowV at h1
  simp only [Bool.and_eq_true] at h1
  exact ⟨znc (zsa (zup.mp h1.1).2) h3.1, znc (zsa (zup.mp h1.2.1).2) h3.2⟩
end
end Pl
namespace Pl
open PySem PySem.Spec L2 Mi
theorem zog : ∀ l : List SRow, zct (zct l) = zct l
  | [] => rfl
  | [a] => rfl
  | a :: b :: l => by
    by_cases h : a = b
    · rw [zkl h]; exact zog (b :: l)
    · rw [zh3 h, zh3 h]
theorem zuv (rs : List SRow) : zd5 (zd5 rs) = zd5 rs := by
  unfold zd5
  rw [List.reverse_reverse, zog]
theorem zpd : ∀ {l : List SRow} {r : SRow}, r ∈ l → r ∈ zct l
  | [], _, h => h
  | [a], _, h => h
  | a :: b :: l, r, h => by
    by_cases e : a = b
    · rw [zkl e]
      refine zpd (l := b :: l) ?_
      rcases List.mem_cons.mp h with rfl | h
      · rw [e]; exact List.mem_cons_self
      · exact h
    · rw [zh3 e]; exact h
theorem zpf : ∀ {l : List SRow}, (zct l).length ≤ l.length
  | [] => Nat.le_refl _
  | [a] => Nat.le_refl _
  | a :: b :: l => by
    by_cases e : a = b
    · rw [zkl e]; have := zpf (l := b :: l); simp only [List.length_cons] at this ⊢; omega
    · rw [zh3 e]; exact Nat.le_refl _
theorem zxl {rs : List SRow} : (zd5 rs).length ≤ rs.length := by
  unfold zd5
  rw [List.length_reverse]
  have := zpf (l := rs.reverse)
  rwa [List.length_reverse] at this
section
variable {Q : D → Store → Prop} {X : Exc → Store → Prop} {P : Post} {ρ : Mi.Env} {μ μ0 : Store} {n k c s : Nat} {x d : D} {ds : List D} {rs ss : List SRow} {r : SRow} {ns : List Str}
end
end Pl
namespace Pl
open PySem PySem.Spec L2 Mi
end Pl
namespace Pl
open PySem PySem.Spec L2 Mi
section
variable {Q : D → Store → Prop} {X : Exc → Store → Prop} {P : Post} {ρ : Mi.Env} {n : Nat} {μ : Store}
@[simp] theorem rp_dictZip {b : Bool} {a : MA} : @Rp _ (ztl b a ρ μ) Q X = @Rp _ (a ρ μ) (fun ds μ => @Rp _ (zaaa b ds μ) Q X) X := by
  unfold ztl; rw [rp_bind]
end
end Pl
namespace Pl
open PySem PySem.Spec L2 Mi
section
variable {Q : D → Store → Prop} {X : Exc → Store → Prop} {P : Post} {ρ : Mi.Env} {μ μ' μ'' : Store} {s c n : Nat}
end
end Pl
namespace Pl
open PySem PySem.Spec L2 Mi
section
variable {α : Type} {Q : D → Store → Prop} {X : Exc → Store → Prop} {P : Post} {ρ : Mi.Env} {μ μ0 : Store} {n : Nat} {G : Mi.Env → Store → Prop} {L : List D → Store → Prop}
@[simp] theorem rp_lc2 {b : Bool} {i : MI} {g : D → Mi.Env → Option Mi.Env} {t : MT} {i1 : MI} {g1 : D → Mi.Env → Option Mi.Env} {t1 : MT} {el : ME} {vs vs1 : List Nat} : @Rp _ (mLc2 b i g t i1 g1 t1 el vs vs1 ρ μ) Q X = @Rp _ (i ρ μ) (fun s μ => @Rp _ (lcB s.w μ g t i1 g1 t1 el vs1 (wipeD ρ vs) s.items [] μ) (fun xs μ => @Rp _ (newL b xs μ) Q X) X) X := by
  unfold mLc2; simp only [rp_bind]
@[simp] theorem rg_attr {cs : List String} {f : Str} {o : ME} {z : D} : @Rp _ (zzc cs f o z ρ μ) G X = @Rp _ (o ρ μ) (fun x μ => match ownO μ x with
  | some (k, C, ks, ds) => (cs.contains C = true ∧ ks.length < 1000) ∧ G ρ (μ.set k (some (.obj C (putFK f ks) (putFV f z ks ds))))
  | none => False) X := by
  unfold zzc
  rw [rp_bind]; congr 1; funext x μ
  cases ownO μ x with
  | none => rfl
  | some p =>
    obtain ⟨k, C, ks, ds⟩ := p
    dsimp only
    by_cases h : cs.contains C = true ∧ ks.length < 1000
    · rw [if_pos h]; simp only [rp_ok, h, true_and, and_self]
    · rw [if_neg h]; exact propext ⟨False.elim, fun z => h z.1⟩
@[simp] theorem f_isB {neg i j : Bool} : @Rp _ (fIsB neg (.bl i) (.bl j) μ) Q X = Q (.bl (if neg = true then !decide (i = j) else decide (i = j))) μ := rfl
end
end Pl
namespace Pl
open PySem PySem.Spec L2 Mi
section
variable {α : Type} {Q : D → Store → Prop} {X : Exc → Store → Prop} {P : Post} {ρ : Mi.Env} {μ μ0 : Store} {n : Nat} {S : Src → Store → Prop}
@[simp] theorem rp_items {a : ME} : @Rp _ (zzk a ρ μ) Q X = @Rp _ (a ρ μ) (fun x μ => match dctOf μ x with
  | some (ks, ds) => Q (.lst ((ks.zip ds).map fun p => .tup [keyDD p.1, p.2])) μ
  | none => False) X := by
  unfold zzk
  rw [rp_bind]; congr 1; funext x μ
  cases dctOf μ x with
  | none => rfl
  | some p => rfl
@[simp] theorem ri_revR {a : ME} : @Rp _ (zzb a ρ μ) S X = @Rp _ (a ρ μ) (fun d μ => match d with
  | .int j => (0 ≤ j ∧ j < 2 ^ 62) ∧ S ⟨zvd j.toNat, []⟩ μ
  | _ => False) X := by
  unfold zzb; rw [rp_bind]; congr 1; funext d μ
  cases d with
  | int j => dsimp only; by_cases h : 0 ≤ j ∧ j < 2 ^ 62 <;> simp [h]
  | _ => rfl
end
end Pl
namespace Pl
open PySem PySem.Spec L2 Mi
section
variable {Q : D → Store → Prop} {X : Exc → Store → Prop} {P : Post} {ρ : Mi.Env} {μ μ0 : Store} {n : Nat}
@[simp] theorem rp_methKw {C : String} {f : Str} {ks : List Str} {m : List D → Store → Res D} {o : ME} {a b : MA} : @Rp _ (zv7 C f ks m o a b ρ μ) Q X = @Rp _ (o ρ μ) (fun x μ => match objOf μ x with
    | some (C', fs, _) => (C' = C ∧ f ∉ fs) ∧ @Rp _ (a ρ μ) (fun ds μ => @Rp _ (b ρ μ) (fun zs μ => @Rp _ (zzi ks m (x :: ds) zs μ) Q X) X) X
    | none => False) X := by
  unfold zv7
  rw [rp_bind]; congr 1; funext x μ
  cases objOf μ x with
  | none => rfl
  | some p =>
    obtain ⟨C', fs, ds⟩ := p
    dsimp only
    by_cases h : C' = C ∧ f ∉ fs
    · rw [if_pos h, rp_bind]
      simp only [h, not_false_eq_true, and_self, true_and]
      congr 1; funext ds μ
      rw [rp_bind]
    · rw [if_neg h]; exact propext ⟨False.elim, fun z => h z.1⟩
end
end Pl
namespace Pl
open PySem PySem.Spec L2 Mi
section
variable {Q : D → Store → Prop} {X : Exc → Store → Prop} {P : Post} {ρ : Mi.Env} {μ μ0 : Store} {n : Nat} {d : D} {ds es : List D} {a : ME}
@[simp] theorem rs_raiseF2 {C : String} {f1 f2 : Str} {m : MA} : @RpS (ztk C f1 f2 m n ρ μ) P = @Rp _ (m ρ μ) (fun ds μ => match ds with
  | [d1, d2] => P.X ⟨C, [f2, f1], [d2, d1]⟩ μ
  | _ => False) P.X := by
  unfold ztk
  cases m ρ μ with
  | ok ds μ' =>
    match ds with
    | [] => rfl
    | [_] => rfl
    | [_, _] => rfl
    | _ :: _ :: _ :: _ => rfl
  | exc x μ' => rfl
  | bad => rfl
@[simp] theorem rp_callL {m : List D → Store → Res D} : @Rp _ (zzp m a ρ μ) Q X = @Rp _ (a ρ μ) (fun x μ' => match (match seqL μ' x with
    | some ds => some ds
    | none => seqT x) with
  | some ds => @Rp _ (m ds μ') Q X
  | none => False) X := by
  unfold zzp
  cases a ρ μ with
  | ok x μ' =>
    show @Rp _ (match (match seqL μ' x with
    | some ds => some ds
    | none => seqT x) with
      | some ds => m ds μ'
      | none => Res.bad) Q X = (match (match seqL μ' x with
    | some ds => some ds
    | none => seqT x) with
      | some ds => @Rp _ (m ds μ') Q X
      | none => False)
    split <;> rfl
  | exc x μ' => rfl
  | bad => rfl
@[simp] theorem ri_revT {Q : Src → Store → Prop} : @Rp _ (zza a ρ μ) Q X = @Rp _ (a ρ μ) (fun x μ' => match x with
  | .tup ds => Q ⟨ds.reverse, []⟩ μ'
  | _ => False) X := by
  unfold zza
  cases a ρ μ with
  | ok x μ' => cases x <;> rfl
  | exc x μ' => rfl
  | bad => rfl
end
end Pl
namespace Pl
open PySem PySem.Spec L2 Mi
section
variable {Q : D → Store → Prop} {X : Exc → Store → Prop} {P : Post} {ρ : Mi.Env} {μ : Store} {n : Nat}
@[simp] theorem rs_ifB {t : MT} {a b : MS} : @RpS (mIfB t a b n ρ μ) P = @Rp _ (t ρ μ) (fun k μ => if k = true then @RpS (a n ρ μ) P else @RpS (b n ρ μ) P) (fun _ _ => False) := by
  unfold mIfB
  cases t ρ μ with
  | bad => rfl
  | exc x μ1 => rfl
  | ok k μ1 => cases k <;> rfl
@[simp] theorem rp_lst1 {m : ME} : @Rp _ (mLst1 m ρ μ) Q X = @Rp _ (m ρ μ) (fun d μ => @Rp _ (newL false [d] μ) Q X) X := by
  unfold mLst1; simp only [rp_bind]
@[simp] theorem f_inTab {neg : Bool} {tab : List (Str × Int)} {x : Str} : @Rp _ (zafn neg tab (.str x) μ) Q X = Q (.bl (if neg = true then !(lookS tab x).isSome else (lookS tab x).isSome)) μ := rfl
@[simp] theorem rp_dget1 {o i : ME} : @Rp _ (zzn o i ρ μ) Q X = @Rp _ (o ρ μ) (fun x μ => (dctOf μ x).isSome = true ∧ @Rp _ (i ρ μ) (fun y μ => match dctOf μ x, keyOf y with
    | some (ks, ds), some k => Q ((lookK k ks ds).getD .non) μ
    | _, _ => False) X) X := by
  unfold zzn
  simp only [rp_bind]
  congr 1
  funext x μ
  cases dctOf μ x with
  | none => simp [Rp]
  | some kd =>
    simp only [Option.isSome_some, true_and, rp_bind]
    congr 1
    funext y μ'
    cases h1 : dctOf μ' x with
    | none => rfl
    | some kd => cases h2 : keyOf y <;> rfl
end
end Pl
namespace Pl
open PySem PySem.Spec L2 Mi
section
variable {α : Type} {Q : D → Store → Prop} {X : Exc → Store → Prop} {P : Post} {ρ : Mi.Env} {μ μ0 μ1 : Store} {n : Nat} {L : List D → Store → Prop}
@[simp] theorem rp_lcX {b : Bool} {i : MI} {g : D → Mi.Env → Option Mi.Env} {t : MT} {el : ME} {vs : List Nat} : @Rp _ (mLcX b i g t el vs ρ μ) Q X = @Rp _ (i ρ μ) (fun s μ => @Rp _ (lcX s.w μ g t el (wipeD ρ vs) s.items [] μ) (fun xs μ => @Rp _ (newL b xs μ) Q X) X) X := by
  unfold mLcX; simp only [rp_bind]
end
end Pl
namespace Pl
open PySem PySem.Spec L2 Mi
section
variable {ρ : Mi.Env} {μ : Store} {G : Mi.Env → Store → Prop} {X : Exc → Store → Prop}
@[simp] theorem rg_sq {n : Nat} {g : MGs} {d : D} : @Rp _ (mgSq n g d ρ μ) G X = (match d with
    | .tup ds => ds.length = n ∧ @Rp _ (g ds ρ μ) G X
    | .lst ds => ds.length = n ∧ @Rp _ (g ds ρ μ) G X
    | _ => False) := by
  cases d with
  | tup ds =>
    unfold mgSq
    by_cases h : ds.length = n
    · simp [h]
    · simp [h, Rp]
  | lst ds =>
    unfold mgSq
    by_cases h : ds.length = n
    · simp [h]
    · simp [h, Rp]
  | _ => rfl
end
end Pl
namespace K04
open PySem PySem.Spec L2 Mi Pl
open K05 (elems cls zal wordD unK isBad rk zbl fb rkL zd1 lookL zg2 zlp zae valsP kvP GoodK fr repeated callD zfi zdp ix_el zeu ne1 ne2 ne3 ne4 ne5 ne6 okw s123)
theorem zqf : K04.zbh = K05.zbh := rfl
theorem zad1 : K04.zgq = K05.zgq := rfl
theorem e_of : K04.zbq = K05.zbq := rfl
inductive Tg where
  | v (i : Int) | sf | so (k : Nat) (is : List Int) | n (z : Str) (i : Int) | dd (k : Nat) (zs : List Str) (is : List Int)
def tgL : Tg → List D
  | .v i => [.str "value", .int i]
  | .sf => [.str "star", .tup [.int 1, .int 2]]
  | .so k _ => [.str "star", .own k]
  | .n z i => [.str "name", .str z, .int i]
  | .dd k _ _ => [.str "double", .own k]
def tgD (b : Bool) (t : Tg) : D := if b = true then .lst (tgL t) else .tup (tgL t)
def TgAt (μ : Store) : Tg → Prop
  | .so k is => μ[k]? = some (some (.lst (is.map .int)))
  | .dd k zs is => μ[k]? = some (some (.dct (zs.map Sum.inr) (is.map .int)))
  | _ => True
def val (i : Int) : Prop := 0 ≤ i ∧ i ≤ 999
def TgOk : Tg → Prop
  | .v i => val i
  | .sf => True
  | .so _ is => is.length ≤ 10 ∧ ∀ i ∈ is, val i
  | .n z i => Cs.zah z = true ∧ val i
  | .dd _ zs is => zs.length = is.length ∧ zs.length ≤ 3 ∧ zs.Nodup ∧ (∀ z ∈ zs, Cs.zah z = true) ∧ ∀ i ∈ is, val i
def pk : Tg → K05.PK
  | .v i => .val (.int i)
  | .sf => .star [.int 1, .int 2]
  | .so _ is => .star (is.map .int)
  | .n z i => .name z (.int i)
  | .dd _ zs is => .dbl (zs.map Sum.inr) (is.map .int)
section
variable {Q : D → Store → Prop} {X : Exc → Store → Prop} {P : Post} {ρ : Mi.Env} {μ : Store} {d : D} {ds : List D} {t : Tg} {b : Bool} {i : Int} {is : List Int} {zs : List Str} {k : Nat} {z : Str}
theorem zhw (h : val i) : isVal (.int i) = true := by
  unfold isVal
  simp [h.1, h.2]
theorem ze9 (h : ∀ i ∈ is, val i) : (is.map D.int).all isVal = true := by
  rw [List.all_map]
  exact List.all_eq_true.mpr fun i hi => zhw (h i hi)
theorem tn_l (hk : μ[k]? = some (some (.lst ds))) : tnD μ (.own k) = some (.b "list") := by unfold tnD; simp [hk]; rfl
theorem tn_d {ks : List Key} (hk : μ[k]? = some (some (.dct ks ds))) : tnD μ (.own k) = some (.b "dict") := by unfold tnD; simp [hk]; rfl
theorem zadk (hk : μ[k]? = some (some (.lst ds))) : fIsL [.ty "list", .ty "tuple"] (.own k) μ = .ok (.bl true) μ := by
  have h1 := tn_l hk
  unfold fIsL zfk
  rw [h1]
  rfl
theorem zw7 (hk : μ[k]? = some (some (.lst ds))) : zdn μ (.own k) = some (ds, [k]) := by
  unfold zdn
  rw [zdm hk]
  rfl
theorem zxg (hk : μ[k]? = some (some (.lst ds))) (hl : ds.length ≤ sizeLine) (hd : ∀ e ∈ ds, dat e = true) : Pl.zau [.own k] μ = .ok (.bl (ds.all isVal)) μ := ok_of (by
  simp [Pl.zau, Pl.zbm, zao, zadk hk, zw7 hk]
  refine zyi (fun d => .bl (isVal d)) hl (fun d hm => ⟨_, rfl, ok_of (by simp [wipeD, value_eq (hd d hm)])⟩) ?_
  rw [show (ds.map fun d => D.bl (isVal d)) = (ds.map isVal).map D.bl by rw [List.map_map]; rfl, f_all, List.all_map]
  exact ⟨rfl, rfl⟩)
theorem zni : elems (tgD b t) = some (tgL t) := by cases b <;> rfl
theorem zafq : dat (tgD b t) = true := by cases b <;> rfl
theorem zgs : ∀ {zs : List Str}, unK (zs.map Sum.inr) = zs
  | [] => rfl
  | z :: zs => by
    show z :: unK (zs.map Sum.inr) = _
    rw [zgs]
theorem zaak (ok : TgOk (.dd k zs is)) : DcOk (zs.map Sum.inr) (is.map D.int) := by
  obtain ⟨h1, h2, h3, h4, h5⟩ := ok
  have zl : 3 ≤ sizeLine := by decide
  refine ⟨by simpa using h1, List.Pairwise.map _ (fun a b ne q => ne (by simpa using q)) h3, by rw [List.length_map]; omega, fun e he => ?_, fun z hz => ?_⟩
  · obtain ⟨i, hi, rfl⟩ := List.mem_map.mp he
    rfl
  · obtain ⟨w, hw, e⟩ := List.mem_map.mp hz
    cases e
    have := h4 z hw
    unfold Cs.zah at this
    simp only [Bool.and_eq_true, decide_eq_true_eq] at this
    have : 6 ≤ sizeLine := by decide
    omega
theorem zu9 (ok : TgOk (.dd k zs is)) : isTab (.dct (zs.map Sum.inr) (is.map D.int)) = true := by
  obtain ⟨h1, h2, h3, h4, h5⟩ := ok
  show ((zs.map Sum.inr).all zdi && (is.map D.int).all isVal) = true
  rw [ze9 h5, List.all_map, Bool.and_true]
  exact List.all_eq_true.mpr fun z hz => h4 z hz
theorem piece_value {v : D} (he : elems d = some [.str "value", v]) (hd : dat d = true) (hv : Pl.zaz [v] μ = .ok (.bl true) μ) : K05.za4 [d, .bl false] μ = .ok (.tup [.str "value", v]) μ := by
  have key : ∀ w : Str, w = "value" → elems d = some [.str w, v] → @Rp _ (K05.za4 [d, .bl false] μ) (fun rr μ' => rr = (.tup [.str "value", v]) ∧ μ' = μ) fun _ _ => False := fun w ew he => by
    obtain ⟨s1, s2, s3⟩ := s123
    obtain ⟨o1, o2, o3, o4⟩ := okw
    have hw : PyData.strOk w = true := by rw [ew]; exact o1
    have n1 := ne1; have n2 := ne2; have n3 := ne3; have n4 := ne4; have n5 := ne5; have n6 := ne6
    simp [K05.za4, K05.zb3, zao, K05.zdw, K05.zcn, K05.zem, K05.zdx, K05.zc7, zfl hd, zfi he, zdp he, ix_el he, is_str (d := .str w) rfl, zha, zeu he, zgy, f_eqS hw o1, f_eqS hw o2, f_eqS hw o3, f_eqS hw o4, s1, s2, s3]
    subst ew
    simp [n1, n2, n3, n4, n5, n6, n1.symm, n2.symm, n3.symm, n4.symm, n5.symm, n6.symm, hv]
  exact ok_of (key _ rfl he)
theorem zvm (he : elems d = some (tgL (Tg.v i))) (hd : dat d = true) (h : TgAt μ (Tg.v i)) (ok : TgOk (Tg.v i)) : K05.za4 [d, .bl false] μ = .ok (zal (pk (Tg.v i))) μ :=
  piece_value he hd (by rw [value_eq (d := .int i) rfl, zhw ok])
theorem zacr (h : μ[k]? = some (some (.lst ds))) : fTuple [.own k] μ = .ok (.tup ds) μ := by
  unfold fTuple
  simp [zdm h]
theorem zaa3 (h : μ[k]? = some (some (.lst (is.map D.int)))) (l : is.length ≤ sizeLine) (hv : ∀ i ∈ is, val i) : Pl.zau [.own k] μ = .ok (.bl true) μ := by
  rw [zxg h (by rw [List.length_map]; exact l) (fun e he => by obtain ⟨i, _, rfl⟩ := List.mem_map.mp he; rfl), ze9 hv]
theorem zl2 {x : D} {xs : List D} (he : elems d = some [.str "star", x]) (hd : dat d = true) (hv : Pl.zau [x] μ = .ok (.bl true) μ) (ht : fTuple [x] μ = .ok (.tup xs) μ) : K05.za4 [d, .bl false] μ = .ok (.tup [.str "star", .tup xs]) μ := by
  have key : ∀ w : Str, w = "star" → elems d = some [.str w, x] → @Rp _ (K05.za4 [d, .bl false] μ) (fun rr μ' => rr = (.tup [.str "star", .tup xs]) ∧ μ' = μ) fun _ _ => False := fun w ew he => by
    obtain ⟨s1, s2, s3⟩ := s123
    obtain ⟨o1, o2, o3, o4⟩ := okw
    have hw : PyData.strOk w = true := by rw [ew]; exact o2
    have n1 := ne1; have n2 := ne2; have n3 := ne3; have n4 := ne4; have n5 := ne5; have n6 := ne6
    simp [K05.za4, K05.zb3, zao, K05.zdw, K05.zcn, K05.zem, K05.zdx, K05.zc7, zfl hd, zfi he, zdp he, ix_el he, is_str (d := .str w) rfl, zha, zeu he, zgy, f_eqS hw o1, f_eqS hw o2, f_eqS hw o3, f_eqS hw o4, s1, s2, s3]
    subst ew
    simp [n1, n2, n3, n4, n5, n6, n1.symm, n2.symm, n3.symm, n4.symm, n5.symm, n6.symm, hv, ht]
  exact ok_of (key _ rfl he)
theorem zabk (he : elems d = some (tgL Tg.sf)) (hd : dat d = true) (h : TgAt μ Tg.sf) (ok : TgOk Tg.sf) : K05.za4 [d, .bl false] μ = .ok (zal (pk Tg.sf)) μ := by
  obtain ⟨s1, s2, s3⟩ := s123
  exact zl2 he hd (by rw [values_eq (d := .tup [.int 1, .int 2]) (ds := []) rfl (fun ds e => by rcases e with e | e <;> cases e; exact ⟨s2, fun e he => by simp at he; rcases he with rfl | rfl <;> rfl⟩)]; rfl) rfl
theorem zabj (he : elems d = some (tgL (Tg.so k is))) (hd : dat d = true) (h : TgAt μ (Tg.so k is)) (ok : TgOk (Tg.so k is)) : K05.za4 [d, .bl false] μ = .ok (zal (pk (Tg.so k is))) μ := by
  have zl : 10 ≤ sizeLine := by decide
  have l10 : is.length ≤ 10 := ok.1
  exact zl2 he hd (zaa3 h (by omega) ok.2) (zacr h)
theorem piece_nm {x v : D} (he : elems d = some [.str "name", x, v]) (hd : dat d = true) (hx : Pl.zbv [x] μ = .ok (.bl true) μ) (hv : Pl.zaz [v] μ = .ok (.bl true) μ) : K05.za4 [d, .bl false] μ = .ok (.tup [.str "name", x, v]) μ := by
  have key : ∀ w : Str, w = "name" → elems d = some [.str w, x, v] → @Rp _ (K05.za4 [d, .bl false] μ) (fun rr μ' => rr = (.tup [.str "name", x, v]) ∧ μ' = μ) fun _ _ => False := fun w ew he => by
    obtain ⟨s1, s2, s3⟩ := s123
    obtain ⟨o1, o2, o3, o4⟩ := okw
    have hw : PyData.strOk w = true := by rw [ew]; exact o4
    have n1 := ne1; have n2 := ne2; have n3 := ne3; have n4 := ne4; have n5 := ne5; have n6 := ne6
    simp [K05.za4, K05.zb3, zao, K05.zdw, K05.zcn, K05.zem, K05.zdx, K05.zc7, zfl hd, zfi he, zdp he, ix_el he, is_str (d := .str w) rfl, zha, zeu he, zgy, f_eqS hw o1, f_eqS hw o2, f_eqS hw o3, f_eqS hw o4, s1, s2, s3]
    subst ew
    simp [n1, n2, n3, n4, n5, n6, n1.symm, n2.symm, n3.symm, n4.symm, n5.symm, n6.symm, hx, hv]
  exact ok_of (key _ rfl he)
theorem zvn (he : elems d = some (tgL (Tg.n z i))) (hd : dat d = true) (h : TgAt μ (Tg.n z i)) (ok : TgOk (Tg.n z i)) : K05.za4 [d, .bl false] μ = .ok (zal (pk (Tg.n z i))) μ := by
  have ft : fitS (.str z) := by
    have := ok.1
    unfold Cs.zah at this
    simp only [Bool.and_eq_true, decide_eq_true_eq] at this
    have : 6 ≤ sizeLine := by decide
    show z.length ≤ sizeLine
    omega
  have ne : Pl.zbv [.str z] μ = .ok (.bl true) μ := by
    rw [zvx rfl ft]
    show Res.ok (D.bl (Cs.zah z)) μ = _
    rw [ok.1]
  exact piece_nm he hd ne (by rw [value_eq (d := .int i) rfl, zhw ok.2])
theorem piece_double {x y : D} (he : elems d = some [.str "double", x]) (hd : dat d = true) (ht : Pl.za1 [x] μ = .ok (.bl true) μ) (ha : Pl.za5 [x] μ = .ok y μ) : K05.za4 [d, .bl false] μ = .ok (.tup [.str "double", y]) μ := by
  have key : ∀ w : Str, w = "double" → elems d = some [.str w, x] → @Rp _ (K05.za4 [d, .bl false] μ) (fun rr μ' => rr = (.tup [.str "double", y]) ∧ μ' = μ) fun _ _ => False := fun w ew he => by
    obtain ⟨s1, s2, s3⟩ := s123
    obtain ⟨o1, o2, o3, o4⟩ := okw
    have hw : PyData.strOk w = true := by rw [ew]; exact o3
    have n1 := ne1; have n2 := ne2; have n3 := ne3; have n4 := ne4; have n5 := ne5; have n6 := ne6
    simp [K05.za4, K05.zb3, zao, K05.zdw, K05.zcn, K05.zem, K05.zdx, K05.zc7, zfl hd, zfi he, zdp he, ix_el he, is_str (d := .str w) rfl, zha, zeu he, zgy, f_eqS hw o1, f_eqS hw o2, f_eqS hw o3, f_eqS hw o4, s1, s2, s3]
    subst ew
    simp [n1, n2, n3, n4, n5, n6, n1.symm, n2.symm, n3.symm, n4.symm, n5.symm, n6.symm, ht, ha]
  exact ok_of (key _ rfl he)
theorem zabl (he : elems d = some (tgL (Tg.dd k zs is))) (hd : dat d = true) (h : TgAt μ (Tg.dd k zs is)) (ok : TgOk (Tg.dd k zs is)) : K05.za4 [d, .bl false] μ = .ok (zal (pk (Tg.dd k zs is))) μ := by
  have hk : μ[k]? = some (some (.dct (zs.map Sum.inr) (is.map D.int))) := h
  have l3 : zs.length ≤ 3 := ok.2.1
  have te := zro h (zaak ok)
  rw [zu9 ok] at te
  have ae := zlq (μ := μ) (x := .own k) (ss := zs) (ds := is.map D.int) (by unfold seqL; simp [hk]) rfl (by unfold dctOf; simp [hk]) (by omega) ok.2.2.1 (by rw [List.length_map]; exact ok.1)
  rw [piece_double he hd te ae]
  show Res.ok (D.tup [.str "double", .dct (ascK zs) (ascV zs (is.map D.int))]) μ = Res.ok (D.tup [.str "double", .dct (ascK (unK (zs.map Sum.inr))) (ascV (unK (zs.map Sum.inr)) (is.map D.int))]) μ
  rw [zgs]
theorem zys (h : TgAt μ t) (ok : TgOk t) : K05.za4 [tgD b t, .bl false] μ = .ok (zal (pk t)) μ := by
  have he := zni (b := b) (t := t)
  have hd := zafq (b := b) (t := t)
  cases t with
  | v i => exact zvm he hd h ok
  | sf => exact zabk he hd h ok
  | so k is => exact zabj he hd h ok
  | n z i => exact zvn he hd h ok
  | dd k zs is => exact zabl he hd h ok
end
end K04
namespace K04
open PySem PySem.Spec L2 Mi Pl
open K05 (elems cls zal wordD unK isBad rk zbl fb rkL zd1 lookL zg2 zlp zae valsP kvP GoodK fr repeated callD zfi zdp ix_el zeu ne1 ne2 ne3 ne4 ne5 ne6 okw s123)
section
variable {Q : D → Store → Prop} {X : Exc → Store → Prop} {P : Post} {ρ : Mi.Env} {μ : Store} {d x : D} {ds : List D} {t : Tg} {b bb : Bool} {ts : List Tg} {ks : List K05.PK}
def boxD (b : Bool) (ds : List D) : D := if b = true then .tup ds else .lst ds
theorem zqd {μ' : Store} (h : Ext μ μ') (a : TgAt μ t) : TgAt μ' t := by
  cases t with
  | so k is => exact h.at_ a
  | dd k zs is => exact h.at_ a
  | _ => trivial
theorem fb_at : ∀ {a c : List K05.PK} {k : K05.PK} {r i : Nat}, fb r i (a ++ k :: c) = none → ¬ (isBad k = true ∨ zbl k < max r (rkL a))
  | [], c, k, r, i, h => by
    rw [List.nil_append, fb] at h
    split at h
    · cases h
    · rename_i hh
      have e0 : max r (rkL []) = r := by simp [rkL]
      rw [e0]
      exact hh
  | k' :: a, c, k, r, i, h => by
    rw [List.cons_append, fb] at h
    split at h
    · cases h
    · have := fb_at h
      rw [show max r (rkL (k' :: a)) = max (max r (rk k')) (rkL a) by simp only [rkL]; omega]
      exact this
theorem zxo (hat : ∀ t ∈ ts, TgAt μ t) (hok : ∀ t ∈ ts, TgOk t) (ho : fb 0 0 (ts.map pk) = none) (hl : ts.length ≤ 1000) (hq : ∀ μ', Ext μ μ' → Q (.lst ((ts.map pk).map zal)) μ') :
    @Rp _ (K05.zc6 [boxD bb (ts.map (tgD b)), .bl false] μ) Q X := by
  have sl : 1000 < sizeLine := by decide
  cases bb
  all_goals
    simp [boxD, K05.zc6, K05.zc8, zao, zfl (d := .lst (ts.map (tgD b))) rfl, zfl (d := .tup (ts.map (tgD b))) rfl, zju]
    refine zt7 (tgD b) (fun pre ρ μ' => (∃ d0 o4 o5 o6, ρ = [some d0, some (.bl false), some (.own μ.length), some (.int (rkL (pre.map pk))), o4, o5, o6]) ∧ μ' = μ ++ [some (.lst (pre.map (zal ∘ pk)))]) ⟨⟨_, _, _, _, rfl⟩, rfl⟩ ?_ ?_
    · rintro pre t post ρ μ1 e ⟨⟨d0, o4, o5, o6, rfl⟩, rfl⟩
      have tm : t ∈ ts := by rw [e]; simp
      have nf : ¬ (isBad (pk t) = true ∨ zbl (pk t) < rkL (pre.map pk)) := by
        have := ho
        rw [e, List.map_append, List.map_cons] at this
        have := fb_at this
        simpa using this
      have hb' : isBad (pk t) = false := by
        cases hh : isBad (pk t) with
        | false => rfl
        | true => exact absurd (.inl hh) nf
      have hl' : ¬ zbl (pk t) < rkL (pre.map pk) := fun q => nf (.inr q)
      obtain ⟨r, hr⟩ := zg2 (pk t) hb'
      obtain ⟨w, hw, l1, l2⟩ := lookL (pk t) hb'
      have pl : pre.length ≤ ts.length := by rw [e]; simp
      have e3 : (μ ++ [some (Cell.lst (pre.map (zal ∘ pk)))])[μ.length]? = some (some (Cell.lst (pre.map (zal ∘ pk)))) := by simp
      have po := zys (b := b) (zqd Ext.new (hat t tm) : TgAt (μ ++ [some (Cell.lst (pre.map (zal ∘ pk)))]) t) (hok t tm)
      simp [po, K05.zj5, (zlp (pk t)).1, hb', hr, hw, K05.f_ixW l1, K05.f_ixW l2, hl']
      rw [zep e3]
      simp
      refine ⟨by omega, ?_⟩
      rw [zd1]
      simp only [rkL]
      split <;> omega
    · rintro ρ μ1 ⟨⟨d0, o4, o5, o6, rfl⟩, rfl⟩
      simp [frzC]
      have := hq _ (Ext.new (x := none))
      rw [List.map_map] at this
      exact this
structure Gk (k : K05.PK) : Prop where
  nb : isBad k = false
  nm : ∀ z ∈ zae k, Cs.zah z = true
  kv : ∀ p ∈ kvP k, isVal p.2 = true
  vl : ∀ v ∈ valsP k, isVal v = true
theorem gk_of {k : K05.PK} (h : GoodK k) : Gk k := ⟨h.nb, K05.ztc h, K05.zab9 h, K05.zacq h⟩
theorem znm (pc : ∀ {Q : D → Store → Prop} {X : Exc → Store → Prop}, (∀ μ', Ext μ μ' → Q (.lst (ks.map zal)) μ') → @Rp _ (K05.zc6 [x, .bl false] μ) Q X) (gk : ∀ k ∈ ks, Gk k) (h64 : (ks.flatMap zae).length < 64) (hvl : (ks.flatMap valsP).length ≤ 1000000)
    (hx2 : ∀ z, fr [] (ks.flatMap zae) = some z → ∀ μ', Ext μ μ' → X (repeated z) μ')
    (hq : fr [] (ks.flatMap zae) = none → ∀ μ', Ext μ μ' → Q (callD (ks.flatMap valsP) (ks.flatMap zae) ((ks.flatMap kvP).map (·.2))) μ') :
    @Rp _ (K05.zbh [x] μ) Q X := by
  have n1 := ne1; have n2 := ne2; have n3 := ne3; have n4 := ne4; have n5 := ne5; have n6 := ne6
  have bs : ∀ a b : Str, a ≠ b → (a == b) = false := fun a b h => by simpa using h
  have zl : 1000000 < sizeLine := by decide
  simp only [K05.zbh, K05.zcp, zao, rp_fn, rs_seq, rs_par, rp_cons, rp_nil, rp_call, rp_var, rp_c, rp_dnew, rp_newK, List.map, List.length, List.replicate, List.cons_append, List.nil_append, List.getElem?_cons_zero, List.getElem?_cons_succ, if_true, true_and, Nat.reduceSub, Nat.sub_self, Nat.reduceAdd]
  refine pc fun μ1 x1 => ?_
  have nb : ∀ k ∈ ks, isBad k = false := fun k hk => (gk k hk).nb
  simp only [rs_drop, rp_call, rp_cons, rp_nil, rp_var, List.getElem?_cons_zero, List.getElem?_cons_succ, List.set_cons_zero, List.set_cons_succ]
  refine K05.zaca nb (by omega) (fun z hz μ2 x2 => hx2 z hz μ2 (x1.trans (Ext.new.trans x2))) fun hf v μ2 x2 => ?_
  have nd := (K05.zmb hf).1
  have hk2 : μ2[μ1.length]? = some (some (.dct [] [])) := x2.at_ (by simp)
  have x12 := x1.trans (Ext.new.trans x2)
  have lk := x1.len
  simp only [rs_for, ri_any, rp_var, List.getElem?_cons_zero, List.getElem?_cons_succ, any_lst]
  refine zd9 zal (fun pre ρ μ' => (∃ o3, ρ = [some x, some (.lst (ks.map zal)), some (.own μ1.length), o3]) ∧ Ext μ μ' ∧ μ'[μ1.length]? = some (some (.dct ((pre.flatMap zae).map Sum.inr) ((pre.flatMap kvP).map (·.2))))) ⟨⟨_, rfl⟩, x12, hk2⟩ (fun _ _ _ _ => Pl.zbo) ?_ ?_
  · rintro pre k post ρ μ3 e ⟨⟨o3, rfl⟩, x3, hk3⟩
    have km : k ∈ ks := by rw [e]; simp
    have kg := gk k km
    have hk3l : μ1.length < μ3.length := (List.getElem?_eq_some_iff.mp hk3).1
    have tot : (pre.flatMap zae).length + (zae k).length ≤ 64 := by
      rw [e] at h64
      simp only [List.flatMap_append, List.flatMap_cons, List.length_append] at h64
      omega
    have ndk : ((pre.flatMap zae).map Sum.inr ++ (zae k).map Sum.inr : List Key).Nodup := by
      rw [e] at nd
      simp only [List.flatMap_append, List.flatMap_cons, ← List.append_assoc] at nd
      have := (List.nodup_append.mp nd).1
      rw [← List.map_append]
      exact List.Pairwise.map _ (fun a b ne q => ne (by simpa using q)) this
    have ll : ((pre.flatMap zae).map Sum.inr : List Key).length = ((pre.flatMap kvP).map (·.2)).length := by
      have := congrArg List.length (K05.flat_keys (ks := pre))
      simp only [List.length_map] at this ⊢
      exact this.symm
    cases k with
    | bad => have := kg.nb; cases this
    | val v => simp [zal, bs _ _ ne4.symm, bs _ _ ne2.symm, zae, kvP, x3, hk3]
    | star xs => simp [zal, bs _ _ ne5.symm, bs _ _ ne3.symm, zae, kvP, x3, hk3]
    | name z v =>
      have nk : (Sum.inr z : Key) ∉ ((pre.flatMap zae).map Sum.inr : List Key) := fun q => (List.nodup_append.mp ndk).2.2 _ q (Sum.inr z) (by simp [zae]) rfl
      simp [zal, zht hk3, zj7 nk, zj6 nk ll, -List.length_flatMap]
      refine ⟨by omega, x3.put lk, ?_⟩
      rw [List.getElem?_set_self hk3l]
      simp [zae, kvP]
    | dbl ks es =>
      have ek := K05.ztr (k := .dbl ks es)
      simp only [kvP] at ek
      have mn := zj9 (ps := (ascK (unK ks)).zip (ascV (unK ks) es)) ll (by rw [ek]; exact ndk)
      simp [zal, bs _ _ ne6.symm, zly hk3, f_upd hk3, -List.length_flatMap]
      have l1 : (ascK (unK ks)).length = (zae (.dbl ks es)).length := by unfold ascK zae; simp
      refine ⟨?_, x3.put lk, ?_⟩
      · rw [l1]; omega
      · rw [List.getElem?_set_self hk3l, mn, ek]
        simp [zae, kvP]
  · rintro ρ μ3 ⟨⟨o3, rfl⟩, x3, hk3⟩
    simp only [rs_ret, rp_cmeth, rp_cons, rp_nil, rp_call, rp_var, List.getElem?_cons_zero, List.getElem?_cons_succ]
    refine K05.zx3 nb (by omega) fun μ4 x4 => ?_
    refine K05.of_rp (x4.at_ hk3) ?_ (by omega) ?_ ?_ ?_ nd h64 fun μ5 x5 => ?_
    · rw [List.all_eq_true]
      intro v hv
      obtain ⟨k, hk, hv⟩ := List.mem_flatMap.mp hv
      exact (gk k hk).vl v hv
    · rw [List.all_eq_true]
      intro v hv
      obtain ⟨k, hk, hv⟩ := List.mem_flatMap.mp hv
      exact (gk k hk).nm v hv
    · rw [List.all_eq_true]
      intro v hv
      obtain ⟨p, hp, rfl⟩ := List.mem_map.mp hv
      obtain ⟨k, hk, hp⟩ := List.mem_flatMap.mp hp
      exact (gk k hk).kv p hp
    · have := congrArg List.length (K05.flat_keys (ks := ks))
      simp only [List.length_map] at this ⊢
      exact this.symm
    · exact hq hf μ5 (x3.trans (x4.trans x5))
end
end K04
namespace K04
open PySem PySem.Spec L2 Mi Pl
open K05 (elems cls zal wordD unK isBad rk zbl fb rkL zae valsP kvP GoodK fr repeated callD zfi zdp ix_el zeu ne1 ne2 ne3 ne4 ne5 ne6 okw s123)
section
variable {Q : D → Store → Prop} {X : Exc → Store → Prop} {P : Post} {ρ : Mi.Env} {μ : Store} {d x : D} {ds : List D} {t : Tg} {b bb : Bool} {ts : List Tg} {ks : List K05.PK}
theorem zx6 (hat : ∀ t ∈ ts, TgAt μ t) (hok : ∀ t ∈ ts, TgOk t) (hl : ((ts.map pk).flatMap zae).length ≤ 1000000) (hq : ∀ μ', Ext μ μ' → Q (K05.optS (fr [] ((ts.map pk).flatMap zae))) μ') :
    @Rp _ (K05.zgq [.lst (ts.map (tgD b))] μ) Q X := by
  obtain ⟨o1, o2, o3, o4⟩ := okw
  have n1 := ne1; have n2 := ne2; have n3 := ne3; have n4 := ne4; have n5 := ne5; have n6 := ne6
  obtain ⟨s1, s2, s3⟩ := s123
  have s0 : 0 ≤ sizeLine := Nat.zero_le _
  have bs : ∀ a b : Str, a ≠ b → (a == b) = false := fun a b h => by simpa using h
  simp only [K05.zgq, K05.zfo, zao, rp_fn, rs_seq, rs_set, rp_lst, rp_nil, rp_newL, rs_for, ri_any, rp_var, List.map, List.length, List.replicate, List.cons_append, List.nil_append, List.getElem?_cons_zero, List.getElem?_cons_succ, List.set_cons_zero, List.set_cons_succ, if_true, any_lst, true_and, s0]
  refine zd9 (tgD b) (fun pre ρ μ' => (∃ x o2 o3 o4, ρ = [some x, some (.own μ.length), o2, o3, o4]) ∧ μ' = μ ++ [some (.lst (((pre.map pk).flatMap zae).map D.str))] ∧ ∀ post, ts = pre ++ post → fr [] ((ts.map pk).flatMap zae) = fr ((pre.map pk).flatMap zae) ((post.map pk).flatMap zae)) ⟨⟨_, _, _, _, rfl⟩, rfl, fun post e => by rw [e]; rfl⟩ (fun _ _ _ _ => Pl.zbo) ?_ ?_
  · rintro pre t post ρ μ1 e ⟨⟨x, p2, p3, p4, rfl⟩, rfl, hf⟩
    have dm : t ∈ ts := by rw [e]; simp
    have ok := hok t dm
    have at0 := hat t dm
    have he0 := zni (b := b) (t := t)
    generalize tgD b t = d at he0 ⊢
    have hf2 := hf _ e
    rw [List.map_cons, List.flatMap_cons] at hf2
    have tot : ((pre.map pk).flatMap zae).length + (zae (pk t)).length ≤ 1000000 := by
      rw [e] at hl
      simp only [List.map_append, List.map_cons, List.flatMap_append, List.flatMap_cons, List.length_append] at hl
      omega
    have fin : ∀ (o : Option D) (N B C : Mi.Env → Store → Prop), (∀ o4, fr [] ((ts.map pk).flatMap zae) = fr ((pre.map pk).flatMap zae ++ zae (pk t)) ((post.map pk).flatMap zae) → N [some x, some (.own μ.length), some d, some (.lst ((zae (pk t)).map D.str)), o4] (μ ++ [some (.lst (((pre.map pk).flatMap zae ++ zae (pk t)).map D.str))])) →
        @RpS (forS [] (μ ++ [some (.lst (((pre.map pk).flatMap zae).map D.str))]) (zam 4) (mSeq (mIfS (mB (mOp (fIn false) (mVar 4) (mVar 1))) (mRet (mVar 4)) mNext)
          (mDrop (mBm "list" zbc (mVar 1) (mCons (mVar 4) mNil)))) μ.length ((zae (pk t)).map D.str) [some x, some (.own μ.length), some d, some (.lst ((zae (pk t)).map D.str)), o] (μ ++ [some (.lst (((pre.map pk).flatMap zae).map D.str))])) ⟨N, Q, B, C, X⟩ := fun o N B C hN =>
      K05.zaa4 tot hf2 (fun z s e5 => by
        have := hq _ (Ext.new (x := some (.lst (s.map D.str))))
        rw [e5] at this
        exact this) (fun o h => hN o h) _
    have done : ∀ o4 : Option D, fr [] ((ts.map pk).flatMap zae) = fr ((pre.map pk).flatMap zae ++ zae (pk t)) ((post.map pk).flatMap zae) → (∃ x' o2 o3 o4', [some x, some (D.own μ.length), some d, some (D.lst ((zae (pk t)).map D.str)), o4] = [some x', some (D.own μ.length), o2, o3, o4']) ∧ μ ++ [some (Cell.lst (((pre.map pk).flatMap zae ++ zae (pk t)).map D.str))] = μ ++ [some (Cell.lst ((((pre ++ [t]).map pk).flatMap zae).map D.str))] ∧ ∀ post2, ts = pre ++ [t] ++ post2 → fr [] ((ts.map pk).flatMap zae) = fr (((pre ++ [t]).map pk).flatMap zae) ((post2.map pk).flatMap zae) := fun o4 h => by
      refine ⟨⟨_, _, _, _, rfl⟩, by simp, fun post2 e4 => ?_⟩
      have : post = post2 := by
        rw [e] at e4
        simpa using e4
      rw [h, this]
      simp
    cases t with
    | v i =>
      have he : elems d = some [.str "value", .int i] := he0
      simp only [rg_name, rs_seq, rs_set, rp_if, rp_B, rp_op, rp_var, rp_c, ix_el he, zdp he, atI_0, atI_1, f_eqS o1 o4, f_eqS o1 o3, bs _ _ n4.symm, bs _ _ n2.symm, rs_if, rp_and, rp_lst, rp_nil, rp_cons, rp_cb, rp_newL, Bool.false_eq_true, if_false, if_true, beq_self_eq_true, rs_next, rs_for, ri_any, List.length_nil, List.length_cons, s0, s1, true_and, List.getElem?_cons_zero, List.getElem?_cons_succ, List.set_cons_zero, List.set_cons_succ, any_lst, Nat.zero_add]
      refine fin _ _ _ _ fun o4 h => ?_
      exact done o4 h
    | sf =>
      have he : elems d = some [.str "star", .tup [.int 1, .int 2]] := he0
      simp only [rg_name, rs_seq, rs_set, rp_if, rp_B, rp_op, rp_var, rp_c, ix_el he, zdp he, atI_0, atI_1, f_eqS o2 o4, f_eqS o2 o3, bs _ _ n5.symm, bs _ _ n3.symm, rs_if, rp_and, rp_lst, rp_nil, rp_cons, rp_cb, rp_newL, Bool.false_eq_true, if_false, if_true, beq_self_eq_true, rs_next, rs_for, ri_any, List.length_nil, List.length_cons, s0, s1, true_and, List.getElem?_cons_zero, List.getElem?_cons_succ, List.set_cons_zero, List.set_cons_succ, any_lst, Nat.zero_add]
      refine fin _ _ _ _ fun o4 h => ?_
      exact done o4 h
    | so k is =>
      have he : elems d = some [.str "star", .own k] := he0
      simp only [rg_name, rs_seq, rs_set, rp_if, rp_B, rp_op, rp_var, rp_c, ix_el he, zdp he, atI_0, atI_1, f_eqS o2 o4, f_eqS o2 o3, bs _ _ n5.symm, bs _ _ n3.symm, rs_if, rp_and, rp_lst, rp_nil, rp_cons, rp_cb, rp_newL, Bool.false_eq_true, if_false, if_true, beq_self_eq_true, rs_next, rs_for, ri_any, List.length_nil, List.length_cons, s0, s1, true_and, List.getElem?_cons_zero, List.getElem?_cons_succ, List.set_cons_zero, List.set_cons_succ, any_lst, Nat.zero_add]
      refine fin _ _ _ _ fun o4 h => ?_
      exact done o4 h
    | n z i =>
      have he : elems d = some [.str "name", .str z, .int i] := he0
      simp only [rg_name, rs_seq, rs_set, rp_if, rp_B, rp_op, rp_var, rp_c, ix_el he, zdp he, atI_0, atI_1, f_eqS o4 o4, f_eqS o4 o3, bs _ _ n6, rs_if, rp_and, rp_lst, rp_nil, rp_cons, rp_cb, rp_newL, Bool.false_eq_true, if_false, if_true, beq_self_eq_true, rs_next, rs_for, ri_any, List.length_nil, List.length_cons, s0, s1, true_and, List.getElem?_cons_zero, List.getElem?_cons_succ, List.set_cons_zero, List.set_cons_succ, any_lst, Nat.zero_add]
      refine fin _ _ _ _ fun o4 h => ?_
      exact done o4 h
    | dd k zs is =>
      have he : elems d = some [.str "double", .own k] := he0
      have hk : ∀ y, (μ ++ [y])[k]? = some (some (.dct (zs.map Sum.inr) (is.map D.int))) := fun y => (Ext.new : Ext μ (μ ++ [y])).at_ at0
      have l3 : zs.length ≤ 3 := ok.2.1
      have sk : (zs.map Sum.inr).map keyDD = zs.map D.str := by rw [List.map_map]; rfl
      have lk : ∀ {Q : D → Store → Prop} {X : Exc → Store → Prop} {y : Option Cell}, @Rp _ (fList false [.own k] (μ ++ [y])) Q X = Q (.lst (zs.map D.str)) (μ ++ [y]) := fun {Q X y} => by
        rw [K05.zwv (ks := zs.map Sum.inr) (ds := is.map D.int) (by unfold seqL; simp [hk]) rfl (by unfold dctOf; simp [hk]), sk]
        simp
      simp only [rg_name, rs_seq, rs_set, rp_if, rp_B, rp_op, rp_var, rp_c, ix_el he, zdp he, atI_0, atI_1, f_eqS o3 o4, f_eqS o3 o3, bs _ _ n6.symm, f_eqI, lk, rs_if, rp_and, rp_lst, rp_nil, rp_cons, rp_cb, rp_newL, Bool.false_eq_true, if_false, if_true, beq_self_eq_true, rs_next, rs_for, ri_any, List.length_nil, List.length_cons, s0, s1, true_and, List.getElem?_cons_zero, List.getElem?_cons_succ, List.set_cons_zero, List.set_cons_succ, any_lst, Nat.zero_add]
      rw [zadu (ss := zs) rfl (by omega)]
      simp only [rp_newL, Bool.false_eq_true, if_false, List.getElem?_cons_zero, List.getElem?_cons_succ, List.set_cons_zero, List.set_cons_succ, any_lst]
      have en : zae (pk (.dd k zs is)) = sortS zs := by
        show sortS (unK (zs.map Sum.inr)) = sortS zs
        rw [zgs]
      rw [← en]
      refine fin _ _ _ _ fun o4 h => ?_
      exact done o4 h
  · rintro ρ μ1 ⟨⟨x, p2, p3, p4, rfl⟩, rfl, hf⟩
    have hf2 := hf [] (by simp)
    have := hq _ (Ext.new (x := some (.lst (((ts.map pk).flatMap zae).map D.str))))
    rw [hf2] at this
    simpa [fr, K05.optS] using this
end
end K04
namespace K04
open PySem PySem.Spec L2 Mi Pl
open K05 (elems cls zal wordD unK isBad rk zbl fb rkL zae valsP kvP GoodK fr repeated callD zfi zdp ix_el zeu ne1 ne2 ne3 ne4 ne5 ne6 okw s123)
section
variable {Q : D → Store → Prop} {X : Exc → Store → Prop} {P : Post} {ρ : Mi.Env} {μ : Store} {d x : D} {ds es : List D} {t : Tg} {b bb : Bool} {ts : List Tg} {k : Nat} {keys ks2 : List Key}
def vS : Tg → List Int
  | .v i => [i]
  | .sf => [1, 2]
  | .so _ is => is
  | _ => []
def kS : Tg → List (Str × Int)
  | .n z i => [(z, i)]
  | .dd _ zs is => zs.zip is
  | _ => []
def sums (μ : Store) (ts : List Tg) : Store := μ ++ [some (.lst ((ts.flatMap vS).map .int)), some (.dct ((ts.flatMap kS).map fun p => Sum.inr p.1) ((ts.flatMap kS).map fun p => D.int p.2))]
theorem at0 {ts : List Tg} : (sums μ ts)[μ.length]? = some (some (.lst ((ts.flatMap vS).map .int))) := by simp [sums]
theorem at1 {ts : List Tg} : (sums μ ts)[μ.length + 1]? = some (some (.dct ((ts.flatMap kS).map fun p => Sum.inr p.1) ((ts.flatMap kS).map fun p => D.int p.2))) := by simp [sums]
theorem zua : Ext μ (sums μ ts) := ⟨_, rfl⟩
theorem set0 {x : Option Cell} : (sums μ ts).set μ.length x = μ ++ [x, some (.dct ((ts.flatMap kS).map fun p => Sum.inr p.1) ((ts.flatMap kS).map fun p => D.int p.2))] := by simp [sums]
theorem set1 {x : Option Cell} : (sums μ ts).set (μ.length + 1) x = μ ++ [some (.lst ((ts.flatMap vS).map .int)), x] := by
  unfold sums
  rw [List.set_append_right _ _ (by omega)]
  simp
theorem zafj {j : Nat} {ks : List Key} (h : μ[k]? = some (some (.dct ks ds))) (h2 : μ[j]? = some (some (.dct ks2 es))) (ne : j ≠ k) : @Rp _ (fUpd (.own k) [.own j] μ) Q X = (ks.length + ks2.length ≤ sizeLine ∧ Q .non (μ.set k (some (.dct (zbd ks ds (ks2.zip es)).1 (zbd ks ds (ks2.zip es)).2)))) := by
  unfold fUpd
  rw [zht h]
  simp only [h2, ne, if_false]
  by_cases c : ks.length + ks2.length ≤ sizeLine
  · simp [c]
  · simp [c]
theorem zact (hat : ∀ t ∈ ts, TgAt μ t) (hok : ∀ t ∈ ts, TgOk t) (nd : ((ts.flatMap kS).map (·.1)).Nodup) (hl : ts.length ≤ 200) (hv : (ts.flatMap vS).length ≤ 2000) (hk : (ts.flatMap kS).length ≤ 600)
    (hq : ∀ μ', Ext μ μ' → Q (.tup [.lst ((ts.flatMap vS).map .int), .dct ((ts.flatMap kS).map fun p => Sum.inr p.1) ((ts.flatMap kS).map fun p => D.int p.2)]) μ') :
    @Rp _ (zq7 [.lst (ts.map (tgD b))] μ) Q X := by
  have zl : 10000 ≤ sizeLine := by decide
  obtain ⟨o1, o2, o3, o4⟩ := okw
  have n1 := ne1; have n2 := ne2; have n3 := ne3; have n4 := ne4; have n5 := ne5; have n6 := ne6
  refine zm4 rfl ?_
  simp only [zje, zao]
  refine rs_go fun N1 hN1 => ?_
  simp
  refine hN1 _ _ (rs_go fun N2 hN2 => ?_)
  rw [rs_for]
  simp
  refine zd9 (tgD b) (fun pre ρ μ' => (∃ x o3, ρ = [some x, some (.own μ.length), some (.own (μ.length + 1)), o3]) ∧ μ' = sums μ pre) ⟨⟨_, _, rfl⟩, by simp [sums]⟩ (fun _ _ _ _ => Pl.zbo) ?_ ?_
  · rintro pre t post ρ μ1 e ⟨⟨x, o3, rfl⟩, rfl⟩
    have tm : t ∈ ts := by rw [e]; simp
    have ok := hok t tm
    have at_t := hat t tm
    have he0 := zni (b := b) (t := t)
    generalize tgD b t = d at he0 ⊢
    have lv : (pre.flatMap vS).length + (vS t).length ≤ 2000 := by
      rw [e] at hv
      simp only [List.flatMap_append, List.flatMap_cons, List.length_append] at hv
      omega
    have lk : (pre.flatMap kS).length + (kS t).length ≤ 600 := by
      rw [e] at hk
      simp only [List.flatMap_append, List.flatMap_cons, List.length_append] at hk
      omega
    have ndk : (((pre.flatMap kS).map fun p => (Sum.inr p.1 : Key)) ++ ((kS t).map fun p => (Sum.inr p.1 : Key))).Nodup := by
      rw [e] at nd
      simp only [List.flatMap_append, List.flatMap_cons, ← List.append_assoc, List.map_append] at nd
      have := (List.nodup_append.mp nd).1
      have h2 : ((List.map (·.1) (pre.flatMap kS) ++ List.map (·.1) (kS t)).map (Sum.inr : Str → Key)).Nodup := List.Pairwise.map _ (fun a b ne q => ne (by simpa using q)) this
      simpa [List.map_map, Function.comp_def] using h2
    have app : ∀ {u v : List Tg}, (u ++ v).flatMap vS = u.flatMap vS ++ v.flatMap vS ∧ (u ++ v).flatMap kS = u.flatMap kS ++ v.flatMap kS := fun {u v} => ⟨List.flatMap_append, List.flatMap_append⟩
    cases t with
    | v i =>
      have he : elems d = some [.str "value", .int i] := he0
      simp only [rg_name]
      refine rs_go fun N3 hN3 => ?_
      simp [ix_el he, zcj at0]
      rw [zep at0, set0]
      have lv' : (pre.flatMap vS).length + 1 ≤ 2000 := lv
      refine ⟨by rw [List.length_map]; omega, hN3 _ _ (rs_go fun N4 hN4 => ?_)⟩
      simp [ix_el he, n1.symm]
      refine hN4 _ _ (rs_go fun N5 hN5 => ?_)
      simp [ix_el he, n4.symm]
      refine hN5 _ _ ?_
      simp [ix_el he, n2.symm, sums, vS, kS]
    | sf =>
      have he : elems d = some [.str "star", .tup [.int 1, .int 2]] := he0
      simp only [rg_name]
      refine rs_go fun N3 hN3 => ?_
      simp [ix_el he, n1]
      refine hN3 _ _ (rs_go fun N4 hN4 => ?_)
      simp [ix_el he, zcj at0]
      rw [zo6 at0 (es := [.int 1, .int 2]) rfl, set0]
      have lv' : (pre.flatMap vS).length + 2 ≤ 2000 := lv
      refine ⟨by rw [List.length_map]; show _ + 2 ≤ _; omega, hN4 _ _ (rs_go fun N5 hN5 => ?_)⟩
      simp [ix_el he, n5.symm]
      refine hN5 _ _ ?_
      simp [ix_el he, n3.symm, sums, vS, kS]
    | so k is =>
      have he : elems d = some [.str "star", .own k] := he0
      have hk' : (sums μ pre)[k]? = some (some (.lst (is.map D.int))) := zua.at_ at_t
      have l10 : is.length ≤ 10 := ok.1
      simp only [rg_name]
      refine rs_go fun N3 hN3 => ?_
      simp [ix_el he, n1]
      refine hN3 _ _ (rs_go fun N4 hN4 => ?_)
      simp [ix_el he, zcj at0]
      rw [zo6 at0 (es := is.map D.int) (by rw [zgo hk']), set0]
      have lv' : (pre.flatMap vS).length + is.length ≤ 2000 := lv
      refine ⟨by rw [List.length_map, List.length_map]; omega, hN4 _ _ (rs_go fun N5 hN5 => ?_)⟩
      simp [ix_el he, n5.symm]
      refine hN5 _ _ ?_
      simp [ix_el he, n3.symm, sums, vS, kS]
    | n z i =>
      have he : elems d = some [.str "name", .str z, .int i] := he0
      have nk : (Sum.inr z : Key) ∉ ((pre.flatMap kS).map fun p => (Sum.inr p.1 : Key)) := fun q => (List.nodup_append.mp ndk).2.2 _ q (Sum.inr z) (by simp [kS]) rfl
      simp only [rg_name]
      refine rs_go fun N3 hN3 => ?_
      simp [ix_el he, n4]
      refine hN3 _ _ (rs_go fun N4 hN4 => ?_)
      simp [ix_el he, n5]
      refine hN4 _ _ (rs_go fun N5 hN5 => ?_)
      simp only [rs_if, rp_B, rp_op, rp_var, rp_c, rs_asg, rg_subK]
      have ll : ((pre.flatMap kS).map fun p => (Sum.inr p.1 : Key)).length = ((pre.flatMap kS).map fun p => D.int p.2).length := by rw [List.length_map, List.length_map]
      simp [ix_el he, zht at1, Mi.keyOf, zj7 nk, zj6 nk ll, -List.length_flatMap]
      have lk' : (pre.flatMap kS).length + 1 ≤ 600 := lk
      refine ⟨by omega, hN5 _ _ ?_⟩
      rw [set1]
      simp [ix_el he, n6, sums, vS, kS]
    | dd k zs is =>
      have he : elems d = some [.str "double", .own k] := he0
      have hk' : (sums μ pre)[k]? = some (some (.dct (zs.map Sum.inr) (is.map D.int))) := zua.at_ at_t
      have l3 : zs.length ≤ 3 := ok.2.1
      simp only [rg_name]
      refine rs_go fun N3 hN3 => ?_
      simp [ix_el he, n2]
      refine hN3 _ _ (rs_go fun N4 hN4 => ?_)
      simp [ix_el he, n3]
      refine hN4 _ _ (rs_go fun N5 hN5 => ?_)
      simp [ix_el he, n6.symm]
      refine hN5 _ _ ?_
      simp [ix_el he, zly at1]
      have kl : k < μ.length := (List.getElem?_eq_some_iff.mp at_t).1
      have ll : ((pre.flatMap kS).map fun p => (Sum.inr p.1 : Key)).length = ((pre.flatMap kS).map fun p => D.int p.2).length := by rw [List.length_map, List.length_map]
      have ez : (zs.map Sum.inr : List Key).zip (is.map D.int) = (zs.zip is).map fun p => ((Sum.inr p.1 : Key), D.int p.2) := by rw [List.zip_map]; rfl
      have e1 : ((zs.map Sum.inr : List Key).zip (is.map D.int)).map (·.1) = (zs.zip is).map fun p => (Sum.inr p.1 : Key) := by rw [ez, List.map_map]; rfl
      have e2 : ((zs.map Sum.inr : List Key).zip (is.map D.int)).map (·.2) = (zs.zip is).map fun p => D.int p.2 := by rw [ez, List.map_map]; rfl
      have mn := zj9 (ps := (zs.map Sum.inr : List Key).zip (is.map D.int)) ll (by rw [e1]; exact ndk)
      rw [zafj at1 hk' (by omega), mn, e1, e2, set1]
      refine ⟨by rw [List.length_map, List.length_map]; have := lk; omega, ?_⟩
      simp [sums, vS, kS]
  · rintro ρ μ1 ⟨⟨x, o3, rfl⟩, rfl⟩
    refine hN2 _ _ ?_
    have e0 : (μ ++ [some (Cell.lst ((ts.flatMap vS).map .int)), none])[μ.length]? = some (some (.lst ((ts.flatMap vS).map .int))) := by simp
    simp [at1, frzC, set1]
    exact hq _ ⟨[none, none], rfl⟩
end
end K04
namespace K04
open PySem PySem.Spec L2 Mi Pl
open K05 (elems cls zal wordD unK isBad rk zbl fb rkL zae valsP kvP GoodK fr repeated callD okw s123)
section
variable {Q : D → Store → Prop} {X : Exc → Store → Prop} {P : Post} {ρ : Mi.Env} {μ : Store} {d x : D} {ds es : List D} {t : Tg} {b bb : Bool} {ts : List Tg} {k : Nat}
theorem ztb {vs ds : List D} {ss : List Str} (hv : vs.all isVal = true) (hl : vs.length ≤ sizeLine) (hs : ss.all Cs.zah = true) (hd : ds.all isVal = true) (sd : ss.length = ds.length) (nd : ss.Nodup) (h64 : ss.length < 64) (hq : ∀ μ', Ext μ μ' → Q (callD vs ss ds) μ') : @Rp _ (K05.zbq [.cls "Call", .lst vs, .dct (ss.map Sum.inr) ds] μ) Q X := by
  have zl : 64 ≤ sizeLine := by decide
  have e1 : ∀ μ, Pl.zau [.lst vs] μ = .ok (.bl true) μ := fun μ => by
    rw [values_eq (d := .lst vs) (ds := []) rfl fun ds e => ⟨by rcases e with e | e <;> cases e; exact hl, fun x hx => by rcases e with e | e <;> cases e; exact K05.zkx (List.all_eq_true.mp hv x hx)⟩]
    show Res.ok (D.bl (vs.all isVal)) μ = _
    rw [hv]
  have dc : DcOk (ss.map Sum.inr) ds := ⟨by simpa using sd, List.Pairwise.map _ (fun a b ne q => ne (by simpa using q)) nd, by rw [List.length_map]; omega, fun e he => K05.zkx (List.all_eq_true.mp hd e he), fun z hz => by
    obtain ⟨w, hw, e⟩ := List.mem_map.mp hz
    cases e
    have := List.all_eq_true.mp hs _ hw
    unfold Cs.zah at this
    simp only [Bool.and_eq_true, decide_eq_true_eq] at this
    omega⟩
  have e2 : Pl.za1 [.dct (ss.map Sum.inr) ds] μ = .ok (.bl true) μ := by
    rw [table_eq rfl fun ks' ds' e => by cases e; exact dc]
    have : isTab (.dct (ss.map Sum.inr) ds) = true := by
      show ((ss.map Sum.inr).all zdi && ds.all isVal) = true
      rw [hd, List.all_map, Bool.and_true]
      exact hs
    rw [this]
  simp [K05.zbq, K05.zen, zao, K05.zdw, K05.zcn, K05.zem, K05.zdx, K05.zc7, e1, e2]
  rw [zsv rfl]
  simp
  refine zsu ?_
  have ko : (μ ++ [some (Cell.obj "Call" [] [])])[μ.length]? = some (some (Cell.obj "Call" [] [])) := by simp
  rw [rp_initSK]
  refine ⟨hl, K05.zrb ko hv hl ?_⟩
  have eo : ((μ ++ [some (Cell.obj "Call" [] [])]).set μ.length (some (.obj "Call" ["kept_given", "kept_named"] [.tup vs, .dct [] []]))) = μ ++ [some (.obj "Call" ["kept_given", "kept_named"] [.tup vs, .dct [] []])] := by simp
  rw [eo]
  refine ⟨rfl, ?_⟩
  have e3 : Pl.za5 [.dct (ss.map Sum.inr) ds] (μ ++ [some (Cell.obj "Call" ["kept_given", "kept_named"] [.tup vs, .dct [] []])]) = .ok (.dct (ascK ss) (ascV ss ds)) _ := zlq rfl rfl rfl h64 nd sd
  have ko2 : (μ ++ [some (Cell.obj "Call" ["kept_given", "kept_named"] [.tup vs, .dct [] []])])[μ.length]? = some (some (Cell.obj "Call" ["kept_given", "kept_named"] [.tup vs, .dct [] []])) := by simp
  have ne : ("kept_given" : Str) ≠ "kept_named" := by decide +kernel
  have f3 : putFK "kept_named" ["kept_given", "kept_named"] = (["kept_given", "kept_named"] : List Str) := by simp [putFK, ne]
  have f4 : putFV "kept_named" (D.dct (ascK ss) (ascV ss ds)) ["kept_given", "kept_named"] [.tup vs, .dct [] []] = [.tup vs, .dct (ascK ss) (ascV ss ds)] := by simp [putFV, ne]
  simp [e3, zjl ko2, f3, f4, frzC]
  exact hq _ .new
theorem zye {a c : List Str} (h : a.Perm c) : sortS a = sortS c := ze4 ⟨(zoq c).1.trans h.symm, (zoq c).2⟩
theorem zka : ∀ {ps : List (Str × D)} {z : Str} {d : D}, (ps.map (·.1)).Nodup → (z, d) ∈ ps → lookK (.inr z) (ps.map fun p => Sum.inr p.1) (ps.map (·.2)) = some d
  | [], _, _, _, h => by cases h
  | (y, e) :: ps, z, d, nd, h => by
    rw [List.map_cons, List.map_cons]
    unfold lookK
    rw [List.map_cons] at nd
    rcases List.mem_cons.mp h with h | h
    · cases h
      rw [if_pos rfl]
    · have ne : y ≠ z := fun q => (List.nodup_cons.mp nd).1 (by rw [q]; exact List.mem_map.mpr ⟨_, h, rfl⟩)
      rw [if_neg fun q => ne (Sum.inr.inj q)]
      exact zka (List.nodup_cons.mp nd).2 h
theorem zuo {ps qs : List (Str × D)} (h : ps.Perm qs) (nd : (ps.map (·.1)).Nodup) : ascK (ps.map (·.1)) = ascK (qs.map (·.1)) ∧ ascV (ps.map (·.1)) (ps.map (·.2)) = ascV (qs.map (·.1)) (qs.map (·.2)) := by
  have hs := zye (h.map (·.1))
  have nq : (qs.map (·.1)).Nodup := (h.map (·.1)).nodup_iff.mp nd
  constructor
  · unfold ascK
    rw [hs]
  · unfold ascV
    rw [hs]
    refine List.map_congr_left fun z hz => ?_
    replace hz := zbr.mem_iff.mp hz
    obtain ⟨⟨y, d⟩, hm, rfl⟩ := List.mem_map.mp hz
    unfold lookO
    have e1 := zka nq hm
    have e2 := zka nd (h.mem_iff.mpr hm)
    rw [List.map_map, List.map_map]
    rw [show lookK (Sum.inr (y, d).1) (List.map (Sum.inr ∘ fun x => x.1) ps) (ps.map (·.2)) = some d from e2, show lookK (Sum.inr (y, d).1) (List.map (Sum.inr ∘ fun x => x.1) qs) (qs.map (·.2)) = some d from e1]
end
end K04
namespace K04
open PySem PySem.Spec L2 Mi Pl
open K05 (elems cls zal wordD unK isBad rk zbl fb rkL zae valsP kvP GoodK fr repeated callD okw s123)
section
variable {Q : D → Store → Prop} {X : Exc → Store → Prop} {μ : Store} {d x : D} {ds es : List D} {t : Tg} {b bb : Bool} {ts : List Tg} {k : Nat} {zs : List Str} {is : List Int}
def kQ : Tg → List (Str × D)
  | .n z i => [(z, .int i)]
  | .dd _ zs is => (sortS zs).map fun z => (z, lookO (.inr z) (zs.map Sum.inr) (is.map D.int))
  | _ => []
def kD (t : Tg) : List (Str × D) := (kS t).map fun p => (p.1, D.int p.2)
theorem zip_look (nd : zs.Nodup) (hl : zs.length = is.length) : (zs.map fun z => (z, lookO (.inr z) (zs.map Sum.inr) (is.map D.int))) = (zs.zip is).map fun p => (p.1, D.int p.2) := by
  have e1 : (zs.zip is).map (·.1) = zs := List.map_fst_zip (Nat.le_of_eq hl)
  have e2 : (zs.zip is).map (·.2) = is := List.map_snd_zip (Nat.le_of_eq hl.symm)
  have l1 : ((zs.zip is).map fun p => (p.1, D.int p.2)).map (·.1) = zs := by rw [List.map_map]; exact e1
  have l2 : ((zs.zip is).map fun p => (p.1, D.int p.2)).map (·.2) = is.map D.int := by
    rw [List.map_map]
    conv => rhs; rw [← e2, List.map_map]
    rfl
  have l3 : ((zs.zip is).map fun p => (p.1, D.int p.2)).map (fun p => (Sum.inr p.1 : Key)) = zs.map Sum.inr := by
    conv => rhs; rw [← l1, List.map_map]
    rfl
  have e3 : zs.map (fun z => (z, lookO (.inr z) (zs.map Sum.inr) (is.map D.int))) = (zs.zip is).map fun p => (p.1, lookO (.inr p.1) (zs.map Sum.inr) (is.map D.int)) := by
    conv => lhs; arg 2; rw [← e1]
    rw [List.map_map]
    rfl
  rw [e3]
  refine List.map_congr_left fun p hp => ?_
  have := zka (ps := (zs.zip is).map fun p => (p.1, D.int p.2)) (z := p.1) (d := D.int p.2) (by rw [l1]; exact nd) (List.mem_map.mpr ⟨p, hp, rfl⟩)
  rw [l3, l2] at this
  unfold lookO
  rw [this]
  rfl
theorem zaet (ok : TgOk t) : (kQ t).Perm (kD t) := by
  cases t with
  | dd k zs is =>
    obtain ⟨h1, h2, h3, h4, h5⟩ := ok
    show ((sortS zs).map _).Perm ((zs.zip is).map _)
    rw [← zip_look h3 h1]
    exact (zbr (ss := zs)).map _
  | n z i => exact .refl _
  | _ => exact .refl _
theorem zacx : (kQ t).map (·.1) = zae (pk t) := by
  cases t with
  | dd k zs is =>
    show ((sortS zs).map _).map _ = sortS (unK (zs.map Sum.inr))
    rw [zgs, List.map_map]
    exact List.map_id _
  | _ => rfl
theorem zaes : (kQ t).map (·.2) = (kvP (pk t)).map (·.2) := by
  cases t with
  | dd k zs is =>
    show ((sortS zs).map _).map _ = ((ascK (unK (zs.map Sum.inr))).zip (ascV (unK (zs.map Sum.inr)) (is.map D.int))).map (·.2)
    rw [zgs, List.map_snd_zip (by unfold ascK ascV; simp), List.map_map]
    rfl
  | _ => rfl
theorem zaef : (vS t).map D.int = valsP (pk t) := by cases t <;> rfl
theorem zin : ∀ {ts : List Tg}, (ts.flatMap kQ).map (·.1) = (ts.map pk).flatMap zae
  | [] => rfl
  | t :: ts => by rw [List.flatMap_cons, List.map_append, zin, List.map_cons, List.flatMap_cons, zacx]
theorem zw8 : ∀ {ts : List Tg}, (ts.flatMap kQ).map (·.2) = ((ts.map pk).flatMap kvP).map (·.2)
  | [] => rfl
  | t :: ts => by rw [List.flatMap_cons, List.map_append, zw8, List.map_cons, List.flatMap_cons, List.map_append, zaes]
theorem zo9 : ∀ {ts : List Tg}, (ts.flatMap vS).map D.int = (ts.map pk).flatMap valsP
  | [] => rfl
  | t :: ts => by rw [List.flatMap_cons, List.map_append, zo9, List.map_cons, List.flatMap_cons, zaef]
theorem zpa : ∀ {ts : List Tg}, (∀ t ∈ ts, TgOk t) → (ts.flatMap kQ).Perm ((ts.flatMap kS).map fun p => (p.1, D.int p.2))
  | [], _ => .refl _
  | t :: ts, h => by
    rw [List.flatMap_cons, List.flatMap_cons, List.map_append]
    exact (zaet (h t List.mem_cons_self)).append (zpa fun u hu => h u (List.mem_cons_of_mem _ hu))
theorem zix (h : ∀ t ∈ ts, TgOk t) : ((ts.map pk).flatMap zae).Perm ((ts.flatMap kS).map (·.1)) := by
  have := (zpa h).map (·.1)
  rw [zin, List.map_map] at this
  exact this
theorem zaar (h : ∀ t ∈ ts, TgOk t) (nd : ((ts.map pk).flatMap zae).Nodup) : callD ((ts.map pk).flatMap valsP) ((ts.map pk).flatMap zae) (((ts.map pk).flatMap kvP).map (·.2)) = callD ((ts.flatMap vS).map .int) ((ts.flatMap kS).map (·.1)) ((ts.flatMap kS).map fun p => .int p.2) := by
  obtain ⟨e1, e2⟩ := zuo (zpa h) (by rw [zin]; exact nd)
  rw [zin, zw8] at e2
  rw [zin] at e1
  rw [List.map_map] at e1
  rw [List.map_map, List.map_map] at e2
  unfold callD
  rw [← zo9]
  rw [e1, e2]
  rfl
end
end K04
namespace K04
open PySem PySem.Spec L2 Mi Pl
open K05 (elems cls zal wordD unK isBad rk zbl fb rkL zd1 lookL zg2 zlp zae valsP kvP GoodK fr repeated callD zfi zdp ix_el zeu ne1 ne2 ne3 ne4 ne5 ne6 okw s123)
section
variable {Q : D → Store → Prop} {X : Exc → Store → Prop} {P : Post} {ρ : Mi.Env} {μ : Store} {d x : D} {ds : List D} {t : Tg} {b bb : Bool} {ts : List Tg} {ks : List K05.PK} {vs is : List Int} {zs : List Str}
theorem zpl {α : Type} {f : α → D} {pf : α → K05.PK} {ts : List α} (hpo : ∀ t ∈ ts, ∀ μ', Ext μ μ' → K05.za4 [f t, .bl false] μ' = .ok (zal (pf t)) μ') (ho : fb 0 0 (ts.map pf) = none) (hl : ts.length ≤ 1000) (hq : ∀ μ', Ext μ μ' → Q (.lst ((ts.map pf).map zal)) μ') :
    @Rp _ (K05.zc6 [boxD bb (ts.map f), .bl false] μ) Q X := by
  have sl : 1000 < sizeLine := by decide
  cases bb
  all_goals
    simp [boxD, K05.zc6, K05.zc8, zao, zfl (d := .lst (ts.map f)) rfl, zfl (d := .tup (ts.map f)) rfl, zju]
    refine zt7 f (fun pre ρ μ' => (∃ d0 o4 o5 o6, ρ = [some d0, some (.bl false), some (.own μ.length), some (.int (rkL (pre.map pf))), o4, o5, o6]) ∧ μ' = μ ++ [some (.lst (pre.map (zal ∘ pf)))]) ⟨⟨_, _, _, _, rfl⟩, rfl⟩ ?_ ?_
    · rintro pre t post ρ μ1 e ⟨⟨d0, o4, o5, o6, rfl⟩, rfl⟩
      have tm : t ∈ ts := by rw [e]; simp
      have nf : ¬ (isBad (pf t) = true ∨ zbl (pf t) < rkL (pre.map pf)) := by
        have := ho
        rw [e, List.map_append, List.map_cons] at this
        have := fb_at this
        simpa using this
      have hb' : isBad (pf t) = false := by
        cases hh : isBad (pf t) with
        | false => rfl
        | true => exact absurd (.inl hh) nf
      have hl' : ¬ zbl (pf t) < rkL (pre.map pf) := fun q => nf (.inr q)
      obtain ⟨r, hr⟩ := zg2 (pf t) hb'
      obtain ⟨w, hw, l1, l2⟩ := lookL (pf t) hb'
      have pl : pre.length ≤ ts.length := by rw [e]; simp
      have e3 : (μ ++ [some (Cell.lst (pre.map (zal ∘ pf)))])[μ.length]? = some (some (Cell.lst (pre.map (zal ∘ pf)))) := by simp
      have po := hpo t tm (μ ++ [some (Cell.lst (pre.map (zal ∘ pf)))]) Ext.new
      simp [po, K05.zj5, (zlp (pf t)).1, hb', hr, hw, K05.f_ixW l1, K05.f_ixW l2, hl']
      rw [zep e3]
      simp
      refine ⟨by omega, ?_⟩
      rw [zd1]
      simp only [rkL]
      split <;> omega
    · rintro ρ μ1 ⟨⟨d0, o4, o5, o6, rfl⟩, rfl⟩
      simp [frzC]
      have := hq _ (Ext.new (x := none))
      rw [List.map_map] at this
      exact this
theorem zafa {z : Str} (h : Cs.zah z = true) : keyGd (.inr z) = true := by
  have h' := h
  unfold Cs.zah at h'
  simp only [Bool.and_eq_true, decide_eq_true_eq] at h'
  show (decide (z.length ≤ 20) && PyData.strOk z) = true
  rw [zya (zabx h), decide_eq_true (by omega)]
  rfl
theorem zwj (ok : TgOk t) : GoodK (pk t) := by
  cases t with
  | v i => exact zhw ok
  | sf => rfl
  | so k is => exact ze9 ok.2
  | n z i => exact ⟨ok.1, zhw ok.2⟩
  | dd k zs is =>
    have dc := zaak ok
    obtain ⟨h1, h2, h3, h4, h5⟩ := ok
    refine ⟨zu9 (k := k) ⟨h1, h2, h3, h4, h5⟩, ?_, dc.len, dc.nd, by rw [List.length_map]; exact h2⟩
    rw [List.all_map]
    exact List.all_eq_true.mpr fun z hz => zafa (h4 z hz)
theorem zt2 (hat : ∀ t ∈ ts, TgAt μ t) (hok : ∀ t ∈ ts, TgOk t) (ho : fb 0 0 (ts.map pk) = none) (hl : ts.length ≤ 1000) (h64 : ((ts.map pk).flatMap zae).length < 64) (hvl : ((ts.map pk).flatMap valsP).length ≤ 1000000)
    (hx : ∀ z, fr [] ((ts.map pk).flatMap zae) = some z → ∀ μ', Ext μ μ' → X (repeated z) μ')
    (hq : fr [] ((ts.map pk).flatMap zae) = none → ∀ μ', Ext μ μ' → Q (callD ((ts.flatMap vS).map .int) ((ts.flatMap kS).map (·.1)) ((ts.flatMap kS).map fun p => .int p.2)) μ') :
    @Rp _ (K05.zbh [boxD bb (ts.map (tgD b))] μ) Q X := by
  refine znm (ks := ts.map pk) (fun h => zxo hat hok ho hl h) (fun k hk => ?_) h64 hvl hx fun hf μ' e => ?_
  · obtain ⟨t, ht, rfl⟩ := List.mem_map.mp hk
    exact gk_of (zwj (hok t ht))
  · rw [zaar hok (K05.zmb hf).1]
    exact hq hf μ' e
theorem zm7 {xs : List Key} {ys : List D} (he : elems d = some [.str "double", x]) (hd : dat d = true) (hv : Pl.za1 [x] μ = .ok (.bl true) μ) (ht : Pl.za5 [x] μ = .ok (.dct xs ys) μ) : K05.za4 [d, .bl false] μ = .ok (.tup [.str "double", .dct xs ys]) μ := ok_of (by
  obtain ⟨s1, s2, s3⟩ := s123
  have n1 := ne1; have n2 := ne2; have n3 := ne3; have n4 := ne4; have n5 := ne5; have n6 := ne6
  simp [K05.za4, K05.zb3, zao, K05.zdw, K05.zcn, K05.zem, K05.zdx, K05.zc7, zfl hd, zfi he, zdp he, ix_el he, is_str (d := .str "double") rfl, zha, zeu he, zgy, s1, s2, s3, n1.symm, n2.symm, n3.symm, n4.symm, n5.symm, n6.symm, n1, n2, n3, n4, n5, n6, hv, ht])
theorem fr_nd : ∀ {l s : List Str}, l.Nodup → (∀ z ∈ l, z ∉ s) → fr s l = none
  | [], _, _, _ => rfl
  | z :: l, s, nd, h => by
    unfold fr
    rw [if_neg (h z List.mem_cons_self)]
    refine fr_nd (List.nodup_cons.mp nd).2 fun y hy q => ?_
    rcases List.mem_append.mp q with q | q
    · exact h y (List.mem_cons_of_mem _ hy) q
    · exact (List.nodup_cons.mp nd).1 (by rw [← List.mem_singleton.mp q]; exact hy)
theorem zacb (hv : ∀ i ∈ vs, val i) (hz : ∀ z ∈ zs, Cs.zah z = true) (hi : ∀ i ∈ is, val i) (hl : zs.length = is.length) (nd : zs.Nodup) (h64 : zs.length < 64) (hvl : vs.length ≤ 1000)
    (hq : ∀ μ', Ext μ μ' → Q (callD (vs.map .int) zs (is.map .int)) μ') : @Rp _ (K05.zbh [.lst [.tup [.str "star", .lst (vs.map .int)], .tup [.str "double", .dct (zs.map Sum.inr) (is.map .int)]]] μ) Q X := by
  have zl : 1000 ≤ sizeLine := by decide
  have dc : DcOk (zs.map Sum.inr) (is.map D.int) := by
    refine ⟨by simpa using hl, List.Pairwise.map _ (fun a b ne q => ne (by simpa using q)) nd, by rw [List.length_map]; omega, fun e he => ?_, fun z hz' => ?_⟩
    · obtain ⟨i, _, rfl⟩ := List.mem_map.mp he
      rfl
    · obtain ⟨w, hw, e⟩ := List.mem_map.mp hz'
      cases e
      have := hz z hw
      unfold Cs.zah at this
      simp only [Bool.and_eq_true, decide_eq_true_eq] at this
      omega
  have tt : isTab (.dct (zs.map Sum.inr) (is.map D.int)) = true := by
    show ((zs.map Sum.inr).all zdi && (is.map D.int).all isVal) = true
    rw [ze9 hi, List.all_map, Bool.and_true]
    exact List.all_eq_true.mpr fun z h => hz z h
  have sn : (sortS zs).Nodup := zbr.nodup_iff.mpr nd
  have zk := zip_look nd hl
  have mem : ∀ z ∈ zs, ∃ i ∈ is, lookO (.inr z) (zs.map Sum.inr) (is.map D.int) = .int i := fun z h => by
    have h1 : (z, lookO (.inr z) (zs.map Sum.inr) (is.map D.int)) ∈ zs.map fun z => (z, lookO (.inr z) (zs.map Sum.inr) (is.map D.int)) := List.mem_map.mpr ⟨z, h, rfl⟩
    rw [zk] at h1
    obtain ⟨p, hp, e⟩ := List.mem_map.mp h1
    refine ⟨p.2, (List.of_mem_zip (show (p.1, p.2) ∈ zs.zip is from hp)).2, ?_⟩
    exact (Prod.mk.inj e).2.symm
  have en : zae (.dbl (zs.map Sum.inr) (is.map D.int)) = sortS zs := by
    show sortS (unK (zs.map Sum.inr)) = _
    rw [zgs]
  have ek : (kvP (.dbl (zs.map Sum.inr) (is.map D.int))).map (·.2) = (sortS zs).map fun z => lookO (.inr z) (zs.map Sum.inr) (is.map D.int) := by
    show ((ascK (unK (zs.map Sum.inr))).zip (ascV (unK (zs.map Sum.inr)) (is.map D.int))).map (·.2) = _
    rw [zgs, List.map_snd_zip (by unfold ascK ascV; simp)]
    rfl
  refine znm (ks := [.star (vs.map .int), .dbl (zs.map Sum.inr) (is.map .int)]) (fun {Q X} h => zpl (bb := false) (f := fun b : Bool => if b = true then D.tup [.str "star", .lst (vs.map .int)] else .tup [.str "double", .dct (zs.map Sum.inr) (is.map .int)]) (pf := fun b : Bool => if b = true then K05.PK.star (vs.map .int) else .dbl (zs.map Sum.inr) (is.map .int)) (ts := [true, false]) (fun b _ μ' _ => ?_) (by simp [fb, isBad, zbl, rk]) (by simp) h) (fun k hk => ?_) ?_ ?_ (fun z hf => ?_) fun hf μ' e => ?_
  · cases b with
    | true =>
      refine zl2 (d := .tup [.str "star", .lst (vs.map .int)]) (xs := vs.map .int) rfl rfl ?_ rfl
      rw [values_eq (d := .lst (vs.map .int)) (ds := []) rfl fun ds e => ⟨by rcases e with e | e <;> cases e; rw [List.length_map]; omega, fun x hx => by
        rcases e with e | e <;> cases e
        obtain ⟨i, _, rfl⟩ := List.mem_map.mp hx
        rfl⟩]
      show Res.ok (D.bl ((vs.map D.int).all isVal)) μ' = _
      rw [ze9 hv]
    | false =>
      have te := table_eq (μ := μ') (d := .dct (zs.map Sum.inr) (is.map .int)) rfl fun ks' ds' e => by cases e; exact dc
      rw [tt] at te
      have ae := zlq (μ := μ') (x := .dct (zs.map Sum.inr) (is.map .int)) (ss := zs) (ds := is.map D.int) rfl rfl rfl h64 nd (by rw [List.length_map]; exact hl)
      have := zm7 (d := .tup [.str "double", .dct (zs.map Sum.inr) (is.map .int)]) rfl rfl te ae
      show _ = Res.ok (D.tup [.str "double", .dct (ascK (unK (zs.map Sum.inr))) (ascV (unK (zs.map Sum.inr)) (is.map D.int))]) μ'
      rw [zgs]
      exact this
  · simp only [List.mem_cons, List.not_mem_nil, or_false] at hk
    rcases hk with rfl | rfl
    · exact gk_of (ze9 hv)
    · refine ⟨rfl, fun z h => ?_, fun p hp => ?_, fun v h => by cases h⟩
      · rw [en] at h
        exact hz z (zbr.mem_iff.mp h)
      · have h1 : p.2 ∈ (kvP (.dbl (zs.map Sum.inr) (is.map D.int))).map (·.2) := List.mem_map.mpr ⟨p, hp, rfl⟩
        rw [ek] at h1
        obtain ⟨z, h2, e⟩ := List.mem_map.mp h1
        obtain ⟨i, h3, e2⟩ := mem z (zbr.mem_iff.mp h2)
        rw [← e, e2]
        exact zhw (hi i h3)
  · show ([] ++ (zae (.dbl (zs.map Sum.inr) (is.map D.int)) ++ [])).length < 64
    rw [en, List.nil_append, List.append_nil, zbr.length_eq]
    exact h64
  · show ((vs.map D.int) ++ ([] ++ [])).length ≤ 1000000
    simp
    omega
  · have : fr [] (sortS zs) = some z := by
      have h1 : fr [] ([] ++ (zae (.dbl (zs.map Sum.inr) (is.map D.int)) ++ [])) = some z := hf
      rw [en, List.nil_append, List.append_nil] at h1
      exact h1
    rw [fr_nd sn fun _ _ h => by cases h] at this
    cases this
  · obtain ⟨a1, a2⟩ := zuo (ps := (sortS zs).map fun z => (z, lookO (.inr z) (zs.map Sum.inr) (is.map D.int))) (qs := zs.map fun z => (z, lookO (.inr z) (zs.map Sum.inr) (is.map D.int))) ((zbr (ss := zs)).map _) (by rw [List.map_map]; show ((sortS zs).map id).Nodup; rw [List.map_id]; exact sn)
    have p1 : ((sortS zs).map fun z => (z, lookO (.inr z) (zs.map Sum.inr) (is.map D.int))).map (·.1) = sortS zs := by
      rw [List.map_map]
      exact List.map_id _
    have p2 : ((sortS zs).map fun z => (z, lookO (.inr z) (zs.map Sum.inr) (is.map D.int))).map (·.2) = (sortS zs).map fun z => lookO (.inr z) (zs.map Sum.inr) (is.map D.int) := by
      rw [List.map_map]
      rfl
    have q1 : (zs.map fun z => (z, lookO (.inr z) (zs.map Sum.inr) (is.map D.int))).map (·.1) = zs := by
      rw [List.map_map]
      exact List.map_id _
    have q2 : (zs.map fun z => (z, lookO (.inr z) (zs.map Sum.inr) (is.map D.int))).map (·.2) = is.map D.int := by
      rw [zk, List.map_map]
      conv => rhs; rw [← List.map_snd_zip (l₁ := zs) (l₂ := is) (Nat.le_of_eq hl.symm), List.map_map]
      rfl
    rw [p1, q1] at a1
    rw [p1, p2, q1, q2] at a2
    have := hq μ' e
    show Q (callD (vs.map D.int ++ ([] ++ [])) ([] ++ (zae (.dbl (zs.map Sum.inr) (is.map D.int)) ++ [])) (([] ++ (kvP (.dbl (zs.map Sum.inr) (is.map D.int)) ++ [])).map fun p : Key × D => p.2)) μ'
    simp only [List.append_nil, List.nil_append]
    rw [en, ek]
    unfold callD at this ⊢
    rw [a1, a2]
    exact this
end
end K04
namespace K04
open PySem PySem.Spec L2 Mi Pl
open K05 (elems cls zal wordD unK isBad rk zbl fb rkL zae valsP kvP GoodK fr repeated callD okw s123)
section
variable {Q : D → Store → Prop} {X : Exc → Store → Prop} {μ : Store} {d x : D} {ds es : List D} {t : Tg} {b bb : Bool} {ts : List Tg} {k : Nat} {zs : List Str} {is : List Int} {f : Nat → Option PyData}
def vwL : Tg → List D
  | .v i => [.str "value", .int i]
  | .sf => [.str "star", .tup [.int 1, .int 2]]
  | .so _ is => [.str "star", .lst (is.map .int)]
  | .n z i => [.str "name", .str z, .int i]
  | .dd _ zs is => [.str "double", .dct (zs.map Sum.inr) (is.map .int)]
def vwD (b : Bool) (t : Tg) : D := if b = true then .lst (vwL t) else .tup (vwL t)
theorem zk2 : ∀ {is : List Int}, pdsW f (is.map D.int) = some (is.map PyData.int)
  | [] => rfl
  | i :: is => by
    rw [List.map_cons, List.map_cons]
    unfold pdsW
    rw [zk2]
    rfl
theorem pds2 {g : Nat → Option PyData} {a c : D} {p q : PyData} (h1 : D.pdW g a = some p) (h2 : D.pdW g c = some q) : pdsW g [a, c] = some [p, q] := by
  simp only [pdsW, h1, h2]
theorem zaeu (n : Nat) (h : TgAt μ t) : pdsW (vf (n + 1) μ) (tgL t) = pdsW f (vwL t) := by
  cases t with
  | so k is =>
    have hk : μ[k]? = some (some (.lst (is.map D.int))) := h
    have e1 : D.pdW (vf (n + 1) μ) (.own k) = some (.list (is.map PyData.int)) := by
      show vf (n + 1) μ k = _
      unfold vf
      rw [hk]
      show (pdsW (vf n μ) (is.map D.int)).map PyData.list = _
      rw [zk2]
      rfl
    have e2 : D.pdW f (.lst (is.map D.int)) = some (.list (is.map PyData.int)) := by
      unfold D.pdW
      rw [zk2]
      rfl
    show pdsW _ [.str "star", .own k] = pdsW f [.str "star", .lst (is.map .int)]
    rw [pds2 (p := .str "star") rfl e1, pds2 (p := .str "star") rfl e2]
  | dd k zs is =>
    have hk : μ[k]? = some (some (.dct (zs.map Sum.inr) (is.map D.int))) := h
    have e1 : D.pdW (vf (n + 1) μ) (.own k) = some (.dict (Cs.dctD (zs.map Sum.inr) (is.map PyData.int))) := by
      show vf (n + 1) μ k = _
      unfold vf
      rw [hk]
      show (pdsW (vf n μ) (is.map D.int)).map (fun ps => PyData.dict (Cs.dctD (zs.map Sum.inr) ps)) = _
      rw [zk2]
      rfl
    have e2 : D.pdW f (.dct (zs.map Sum.inr) (is.map D.int)) = some (.dict (Cs.dctD (zs.map Sum.inr) (is.map PyData.int))) := by
      unfold D.pdW
      rw [zk2]
      rfl
    show pdsW _ [.str "double", .own k] = pdsW f [.str "double", .dct (zs.map Sum.inr) (is.map .int)]
    rw [pds2 (p := .str "double") rfl e1, pds2 (p := .str "double") rfl e2]
  | v i => rfl
  | sf => rfl
  | n z i => rfl
theorem pd_tg (n : Nat) (h : TgAt μ t) : D.pdW (vf (n + 1) μ) (tgD b t) = D.pdW f (vwD b t) := by
  have e := zaeu (f := f) n h
  cases b with
  | true =>
    show D.pdW _ (.lst (tgL t)) = D.pdW f (.lst (vwL t))
    unfold D.pdW
    rw [e]
  | false =>
    show D.pdW _ (.tup (tgL t)) = D.pdW f (.tup (vwL t))
    unfold D.pdW
    rw [e]
theorem zyw (n : Nat) : ∀ {ts : List Tg}, (∀ t ∈ ts, TgAt μ t) → pdsW (vf (n + 1) μ) (ts.map (tgD b)) = pdsW f (ts.map (vwD b))
  | [], _ => rfl
  | t :: ts, h => by
    rw [List.map_cons, List.map_cons]
    unfold pdsW
    rw [pd_tg n (h t List.mem_cons_self), zyw n fun u hu => h u (List.mem_cons_of_mem _ hu)]
theorem repr_own (hg : gd (.lst (ts.map (vwD b))) = true) (hw : wt (.lst (ts.map (vwD b))) ≤ 250000) (hn : nest (.lst (ts.map (vwD b))) ≤ 64) : ∃ z, ∀ μ, (∀ t ∈ ts, TgAt μ t) → fRepr [.lst (ts.map (tgD b))] μ = .ok (.str z) μ := by
  obtain ⟨p, e2, s⟩ := zl9 hg
  refine ⟨p.shown, fun μ hat => ?_⟩
  have fits : p.shown.length ≤ sizeLine := by
    have := PyData.shown_le 60 (by decide) p s.l
    have := s.w
    have e : sizeLine = 16777216 := by decide
    omega
  have ev : (D.lst (ts.map (tgD b))).view μ = some p := by
    have := e2 (vf 4 μ)
    unfold D.view
    unfold D.pdW at this ⊢
    rw [zyw (f := vf 4 μ) 3 hat]
    exact this
  unfold fRepr
  dsimp only
  rw [ev]
  dsimp only
  rw [if_pos ⟨s.s, fits, Nat.le_trans s.n hn⟩]
end
end K04
namespace K07
open PySem PySem.Spec L2 Mi
def zd0 : MS := (mRet (mAndV (mUn (fIsS (.cls "Call")) (mVar 1)) (mAndV (mOp (fEq false) (mFld ["Call"] "kept_given" (mVar 0)) (mFld ["Call"] "kept_given" (mVar 1))) (mOp fEqX (mFld ["Call"] "kept_named" (mVar 0)) (mFld ["Call"] "kept_named" (mVar 1))))))
def zaw : List D → Store → Res D := mFn 2 2 zd0
def zdg : MS := (mRet (mTup (mCons (mCb fLen (mCons (mFld ["Call"] "kept_given" (mVar 0)) mNil)) (mCons (mCb fTuple (mCons (mFld ["Call"] "kept_named" (mVar 0)) mNil)) mNil))))
def zdb : List D → Store → Res D := mFn 1 1 zdg
end K07
namespace K45
open PySem PySem.Spec L2 Mi
end K45
namespace K46
open PySem PySem.Spec L2 Mi
end K46
namespace K09
open PySem PySem.Spec L2 Mi
def zrp : List (Str × Int) := [("place", 0), ("either", 1), ("rest", 2), ("named", 3), ("others", 4)]
end K09
namespace K09
open PySem PySem.Spec L2 Mi Pl
structure Row where
  t : Str
  k : Str
  d : Option Int
  bars : List Str
def optD : Option Int → D
  | some i => .int i
  | none => .non
def isPl (r : Row) : Bool := ("place" : Str) == r.k || ("either" : Str) == r.k
def isKe (r : Row) : Bool := ("either" : Str) == r.k || ("named" : Str) == r.k
def plT (rows : List Row) : List Str := (rows.filter isPl).map (·.t)
def keT (rows : List Row) : List Str := (rows.filter isKe).map (·.t)
section
variable {Q : D → Store → Prop} {X : Exc → Store → Prop} {μ : Store} {rows : List Row}
def callD (gs : List Int) (ks : List Str) (vs : List Int) : D := .obj "Call" ["kept_given", "kept_named"] [.tup (gs.map .int), .dct (ks.map .inr) (vs.map .int)]
theorem zp7 {x y : D} : lookF "kept_given" ["kept_given", "kept_named"] [x, y] = some x := rfl
theorem zpv {x y : D} : lookF "kept_named" ["kept_given", "kept_named"] [x, y] = some y := rfl
def isReq (r : Row) : Bool := r.d.isNone && !(("rest" : Str) == r.k || ("others" : Str) == r.k)
end
end K09
namespace K09
open PySem PySem.Spec L2 Mi Pl
section
variable {Q : D → Store → Prop} {X : Exc → Store → Prop} {μ : Store} {rows : List Row}
def isOt (r : Row) : Bool := ("others" : Str) == r.k
def isRe (r : Row) : Bool := ("rest" : Str) == r.k
end
end K09
namespace K09
open PySem PySem.Spec L2 Mi Pl
section
variable {Q : D → Store → Prop} {X : Exc → Store → Prop} {μ : Store} {rows : List Row} {gs : List Int} {ks : List Str} {vs : List Int}
def otB (rows : List Row) : Option (List Str) := ((rows.filter isOt).map (·.bars)).head?
def ob1 (rows : List Row) (gs : List Int) (z : Str) : List D :=
  if z ∈ keT rows then (if z ∈ (plT rows).take gs.length then [.tup [.str "twice", .str z]] else [])
  else (match otB rows with
    | none => [.tup [.str "unknown", .str z]]
    | some bs => if z ∈ bs then [.tup [.str "unknown", .str z]] else [])
def ob2 (rows : List Row) (gs : List Int) : List D := if (plT rows).length < gs.length ∧ rows.any isRe = false then [.tup [.str "many", .int (plT rows).length, .int gs.length]] else []
def lackB (rows : List Row) (gs : List Int) (ks : List Str) (r : Row) : Bool := isReq r && decide (r.t ∉ (plT rows).take gs.length) && !(decide (r.t ∈ keT rows) && decide (r.t ∈ ks))
def lackD (r : Row) : D := .tup [.str "lacks", .str r.t]
def obs (rows : List Row) (gs : List Int) (ks : List Str) : List D := (sortS ks).flatMap (ob1 rows gs) ++ ob2 rows gs ++ ((rows.filter (lackB rows gs ks)).map lackD)
theorem zpt : objOf μ (callD gs ks vs) = some (("Call", [("kept_given" : Str), "kept_named"], [D.tup (gs.map .int), D.dct (ks.map .inr) (vs.map .int)]) : String × List Str × List D) := rfl
end
end K09
namespace K09
open PySem PySem.Spec L2 Mi Pl
section
variable {Q : D → Store → Prop} {X : Exc → Store → Prop} {μ : Store} {rows : List Row} {gs : List Int} {ks : List Str} {vs : List Int}
end
end K09
namespace K09
open PySem PySem.Spec L2 Mi Pl
section
variable {Q : D → Store → Prop} {X : Exc → Store → Prop} {μ : Store} {rows : List Row} {gs : List Int} {ks : List Str} {vs : List Int}
end
end K09
namespace K09
open PySem PySem.Spec L2 Mi Pl
section
variable {Q : D → Store → Prop} {X : Exc → Store → Prop} {μ : Store} {rows : List Row} {gs : List Int} {ks : List Str} {vs : List Int}
end
end K09
namespace K09
open PySem PySem.Spec L2 Mi Pl
section
variable {Q : D → Store → Prop} {X : Exc → Store → Prop} {μ : Store} {rows : List Row} {gs : List Int} {ks : List Str} {vs : List Int}
structure RowOk (r : Row) : Prop where
  nm : Cs.zah r.t = true
  kd : r.k = "place" ∨ r.k = "either" ∨ r.k = "rest" ∨ r.k = "named" ∨ r.k = "others"
  df : ∀ i, r.d = some i → (0 ≤ i ∧ i ≤ 999) ∧ (r.k = "place" ∨ r.k = "either" ∨ r.k = "named")
  bn : ∀ z ∈ r.bars, Cs.zah z = true
  bd : r.bars.Nodup
  bo : r.k ≠ "others" → r.bars = []
  bl : r.bars.length < 64
def rk (k : Str) : Int := (lookS zrp k).getD 0
def misO (a : Int) : Option Row → Bool
  | none => false
  | some l => decide (a < rk l.k) || (rk l.k == a && (a == 2 || a == 4))
def mis (r : Row) (bf : List Row) : Bool :=
  decide (r.t ∈ bf.map (·.t)) || misO (rk r.k) bf.getLast?
  || (if rk r.k < 2 ∧ isReq r = true then bf.any (fun o => !isReq o) else bf.any (fun o => isKe o && decide (o.t ∈ r.bars)))
end
end K09
namespace K09
open PySem PySem.Spec L2 Mi Pl
section
variable {Q : D → Store → Prop} {X : Exc → Store → Prop} {μ : Store} {rows : List Row} {gs : List Int} {ks : List Str} {vs : List Int}
def flt : List Row → List Row → Option Nat
  | _, [] => none
  | pre, r :: post => if mis r pre = true then some pre.length else flt (pre ++ [r]) post
end
end K09
namespace K09
open PySem PySem.Spec L2 Mi Pl
section
variable {Q : D → Store → Prop} {X : Exc → Store → Prop} {μ : Store} {rows : List Row} {gs : List Int} {ks : List Str} {vs : List Int}
def tvI : List Str → List Int → Str → Int
  | k :: ks, v :: vs, z => if k = z then v else tvI ks vs z
  | _, _, _ => 0
structure TabOk (ks : List Str) (vs : List Int) : Prop where
  len : ks.length = vs.length
  nd : ks.Nodup
  nm : ∀ z ∈ ks, Cs.zah z = true
  l64 : ks.length < 64
  vl : ∀ i ∈ vs, 0 ≤ i ∧ i ≤ 999
end
end K09
namespace Pl.Bg
open PySem PySem.Spec L2 Mi Pl
def keyGd : Key → Bool
  | .inr z => decide (z.length ≤ 20) && PyData.strOk z
  | .inl _ => false
mutual
def gd : D → Bool
  | .non => true
  | .bl _ => true
  | .int i => decide (i.natAbs < 1000000)
  | .str z => keyGd (.inr z)
  | .lst ds => gds ds
  | .tup ds => gds ds
  | .dct ks ds => decide (ks.length = ds.length) && decide (ks.length ≤ 1000) && decide ks.Nodup && ks.all keyGd && gds ds
  | _ => false
def gds : List D → Bool
  | [] => true
  | d :: ds => gd d && gds ds
end
mutual
def wt : D → Nat
  | .lst ds => wts ds
  | .tup ds => wts ds
  | .dct _ ds => wts ds + 22 * ds.length
  | _ => 20
def wts : List D → Nat
  | [] => 0
  | d :: ds => wt d + 1 + wts ds
end
mutual
def nest : D → Nat
  | .lst ds => nests ds + 1
  | .tup ds => nests ds + 1
  | .dct _ ds => nests ds + 1
  | _ => 0
def nests : List D → Nat
  | [] => 0
  | d :: ds => max (nest d) (nests ds)
end
structure Shows (d : D) (p : PyData) : Prop where
  s : p.showable = true
  l : PyData.leavesShort 60 p = true
  w : p.weight ≤ wt d
  n : p.depth ≤ nest d
inductive ShA : List D → List PyData → Prop
  | nil : ShA [] []
  | cons {d : D} {p : PyData} {ds : List D} {ps : List PyData} : Shows d p → ShA ds ps → ShA (d :: ds) (p :: ps)
theorem ShA.all : ∀ {ds : List D} {ps : List PyData}, ShA ds ps → PyData.showableAll ps = true ∧ PyData.leavesShortAll 60 ps = true ∧ PyData.weightAll ps ≤ wts ds ∧ PyData.depthAll ps ≤ nests ds
  | _, _, .nil => by simp [PyData.showableAll, PyData.leavesShortAll, PyData.weightAll, PyData.depthAll]
  | _, _, .cons h t => by
    obtain ⟨a, b, c, e⟩ := t.all
    have hw := h.w
    have hn := h.n
    refine ⟨by simp only [PyData.showableAll, h.s, a, Bool.and_self], by simp only [PyData.leavesShortAll, h.l, b, Bool.and_self], ?_, ?_⟩
    · simp only [PyData.weightAll, wts]; omega
    · simp only [PyData.depthAll, nests]; omega
theorem zif {k : Key} (h : keyGd k = true) : (Cs.keyD k).showable = true ∧ PyData.leavesShort 60 (Cs.keyD k) = true ∧ (Cs.keyD k).weight ≤ 20 ∧ (Cs.keyD k).depth = 0 := by
  cases k with
  | inl i => cases h
  | inr z =>
    unfold keyGd at h
    rw [Bool.and_eq_true, decide_eq_true_eq] at h
    refine ⟨rfl, ?_, h.1, rfl⟩
    rw [Cs.keyD, PyData.leavesShort, List.all_eq_true]
    intro c hc
    have q := h.2
    unfold PyData.strOk at q
    rw [Array.all_eq_true'] at q
    have q2 := q c (by simpa using hc)
    exact decide_eq_true (Nat.lt_trans (of_decide_eq_true q2) (by decide))
theorem ShA.kv : ∀ {ks : List Key} {ds : List D} {ps : List PyData}, ks.length = ds.length → ks.all keyGd = true → ShA ds ps →
    PyData.showableKv (Cs.dctD ks ps) = true ∧ PyData.leavesShortKv 60 (Cs.dctD ks ps) = true ∧ PyData.weightKv (Cs.dctD ks ps) ≤ wts ds + 22 * ds.length ∧ PyData.depthKv (Cs.dctD ks ps) ≤ nests ds
  | [], ds, ps, hl, _, _ => by
    refine ⟨by simp [Cs.dctD, PyData.showableKv], by simp [Cs.dctD, PyData.leavesShortKv], by simp [Cs.dctD, PyData.weightKv], by simp [Cs.dctD, PyData.depthKv]⟩
  | k :: ks, [], ps, hl, _, _ => by simp at hl
  | k :: ks, d :: ds, _, hl, hk, .cons (p := p) (ps := ps) h t => by
    rw [List.all_cons, Bool.and_eq_true] at hk
    obtain ⟨a, b, c, e⟩ := ShA.kv (by simpa using hl) hk.2 t
    obtain ⟨a2, b2, c2, e2⟩ := zif hk.1
    have hw := h.w
    have hn := h.n
    have ed : Cs.dctD (k :: ks) (p :: ps) = (Cs.keyD k, p) :: Cs.dctD ks ps := rfl
    rw [ed]
    refine ⟨by simp only [PyData.showableKv, h.s, a, a2, Bool.and_self], by simp only [PyData.leavesShortKv, h.l, b, b2, Bool.and_self], ?_, ?_⟩
    · simp only [PyData.weightKv, wts, List.length_cons]; omega
    · simp only [PyData.depthKv, nests, e2]; omega
theorem zm0 {i : Int} (h : i.natAbs < 1000000) : Shows (.int i) (.int i) := by
  have hl : i.natAbs.log2 < 20 := by
    by_cases c : i.natAbs = 0
    · rw [c]; decide
    · exact (Nat.log2_lt c).mpr (Nat.lt_of_lt_of_le h (by decide))
  refine ⟨by simp only [PyData.showable]; exact decide_eq_true (by omega), ?_, ?_, by rw [PyData.depth]; exact Nat.zero_le _⟩
  · simp only [PyData.leavesShort]
    exact decide_eq_true (Nat.le_trans (PyData.shown_int_le (Nat.lt_trans h (by decide))) (by decide))
  · simp only [PyData.weight, wt]
    split <;> omega
mutual
theorem zl9 : ∀ {d : D}, gd d = true → ∃ p, (∀ f, d.pdW f = some p) ∧ Shows d p
  | .non, _ => ⟨.none, fun _ => rfl, rfl, rfl, Nat.zero_le _, Nat.le_refl _⟩
  | .bl b, _ => ⟨.bool b, fun _ => rfl, rfl, rfl, Nat.zero_le _, Nat.le_refl _⟩
  | .int i, h => ⟨.int i, fun _ => rfl, zm0 (by unfold gd at h; exact of_decide_eq_true h)⟩
  | .str z, h => by
    unfold gd at h
    obtain ⟨a, b, c, e⟩ := zif h
    exact ⟨.str z, fun _ => rfl, a, b, c, Nat.le_of_eq e⟩
  | .lst ds, h => by
    unfold gd at h
    obtain ⟨ps, e, k⟩ := zei h
    obtain ⟨a, b, c, n⟩ := k.all
    refine ⟨.list ps, fun f => by unfold D.pdW; rw [e f]; rfl, by simpa [PyData.showable] using a, by simpa [PyData.leavesShort] using b, by simpa [PyData.weight, wt] using c, by simpa [PyData.depth, nest] using n⟩
  | .tup ds, h => by
    unfold gd at h
    obtain ⟨ps, e, k⟩ := zei h
    obtain ⟨a, b, c, n⟩ := k.all
    refine ⟨.tuple ps, fun f => by unfold D.pdW; rw [e f]; rfl, by simpa [PyData.showable] using a, by simpa [PyData.leavesShort] using b, by simpa [PyData.weight, wt] using c, by simpa [PyData.depth, nest] using n⟩
  | .dct ks ds, h => by
    unfold gd at h
    simp only [Bool.and_eq_true, decide_eq_true_eq] at h
    obtain ⟨ps, e, k⟩ := zei h.2
    obtain ⟨a, b, c, n⟩ := k.kv h.1.1.1.1 h.1.2
    refine ⟨.dict (Cs.dctD ks ps), fun f => by unfold D.pdW; rw [e f]; rfl, by simpa [PyData.showable] using a, by simpa [PyData.leavesShort] using b, by simpa [PyData.weight, wt] using c, by simpa [PyData.depth, nest] using n⟩
theorem zei : ∀ {ds : List D}, gds ds = true → ∃ ps, (∀ f, pdsW f ds = some ps) ∧ ShA ds ps
  | [], _ => ⟨[], fun _ => rfl, .nil⟩
  | d :: ds, h => by
    unfold gds at h
    rw [Bool.and_eq_true] at h
    obtain ⟨p, e1, h1⟩ := zl9 h.1
    obtain ⟨ps, e2, h2⟩ := zei h.2
    exact ⟨p :: ps, fun f => by unfold pdsW; rw [e1 f, e2 f], .cons h1 h2⟩
end
section
variable {Q : D → Store → Prop} {X : Exc → Store → Prop} {μ : Store} {d : D}
end
end Pl.Bg
namespace K09
open PySem PySem.Spec L2 Mi Pl
section
variable {Q : D → Store → Prop} {X : Exc → Store → Prop} {P : Post} {ρ : Mi.Env} {n : Nat} {μ μ' : Store} {rows : List Row} {gs : List Int} {ks : List Str} {vs : List Int}
theorem zvc {T : String} {i k j : Nat} {w : Store → Res D} : @RpS (mTryA T i k j (mLamC w) n ρ μ) P = (i < ρ.length ∧ @Rp _ (w μ) (fun d μ => P.N (ρ.set j (some d)) μ) (fun x μ => if isaC x.C T = true then P.N ((ρ.set k (some (.exc x.C x.ks x.ds))).set i none) μ else P.X x μ)) := by
  unfold mTryA
  by_cases h : i < ρ.length
  · rw [if_pos h, zqv]; simp only [h, true_and, rs_nx]; rfl
  · rw [if_neg h]; simp only [rs_bad, h, false_and]
theorem zado : fIsS (.cls "Call") (callD gs ks vs) μ = .ok (.bl true) μ := by
  unfold fIsS
  have : zfk μ (callD gs ks vs) = true := rfl
  rfl
end
end K09
namespace K09
open PySem PySem.Spec L2 Mi Pl
section
variable {Q : D → Store → Prop} {X : Exc → Store → Prop} {P : Post} {ρ : Mi.Env} {n : Nat} {μ μ' : Store} {rows : List Row} {gs : List Int} {ks : List Str} {vs : List Int}
theorem zxi {z : Str} (h : Cs.zah z = true) : PyData.strOk z = true := by
  unfold Cs.zah Cs.isWord at h
  simp only [Bool.and_eq_true, List.all_eq_true, decide_eq_true_eq] at h
  unfold PyData.strOk
  rw [Array.all_eq_true']
  intro c hc
  have := h.2 c (by simpa using hc)
  exact decide_eq_true (by omega)
structure zch (rows : List Row) : Prop where
  each : ∀ r ∈ rows, RowOk r
  fl : flt [] rows = none
  len : rows.length ≤ 10
  nt : (rows.map (·.t)).Nodup
end
end K09
namespace K09
open PySem PySem.Spec L2 Mi Pl
section
variable {Q : D → Store → Prop} {X : Exc → Store → Prop} {P : Post} {ρ : Mi.Env} {n : Nat} {μ μ' : Store} {rows : List Row} {gs : List Int} {ks : List Str} {vs : List Int}
end
end K09
namespace K09
open PySem PySem.Spec L2 Mi Pl
section
variable {Q : D → Store → Prop} {X : Exc → Store → Prop} {P : Post} {ρ : Mi.Env} {n s c : Nat} {μ μ' : Store} {rows : List Row} {pool : List Str}
def unS : D → Str
  | .str z => z
  | _ => ""
theorem zn2 : ∀ {ys : List D}, (∀ y ∈ ys, ∃ z, y = D.str z) → ys = (ys.map unS).map .str
  | [], _ => rfl
  | y :: ys, h => by
    obtain ⟨z, rfl⟩ := h y List.mem_cons_self
    rw [List.map_cons, List.map_cons, ← zn2 fun w m => h w (List.mem_cons_of_mem _ m)]; rfl
theorem zrw {ys : List D} {l : List Str} (h : ys.Perm (l.map .str)) : ∃ l' : List Str, l'.Perm l ∧ ys = l'.map .str := by
  refine ⟨ys.map unS, ?_, zn2 fun y hy => ?_⟩
  · have := h.map unS
    rw [List.map_map] at this
    have e : (unS ∘ D.str) = id := rfl
    rw [e, List.map_id] at this
    exact this
  · obtain ⟨z, _, e⟩ := List.mem_map.mp (h.mem_iff.mp hy)
    exact ⟨z, e.symm⟩
theorem zwt : ∀ {post pre : List Row} {r : Row}, flt pre post = none → mis r (pre ++ post) = false → flt pre (post ++ [r]) = none
  | [], pre, r, _, h => by
    rw [List.append_nil] at h
    simp [flt, h]
  | a :: post, pre, r, h1, h2 => by
    rw [List.cons_append, flt]
    rw [flt] at h1
    by_cases e : mis a pre = true
    · rw [if_pos e] at h1; cases h1
    · rw [if_neg e] at h1 ⊢
      exact zwt h1 (by simpa using h2)
theorem zt8 : ∀ {post pre : List Row} {r : Row}, flt pre (post ++ [r]) = none → flt pre post = none
  | [], pre, r, _ => rfl
  | a :: post, pre, r, h => by
    rw [List.cons_append, flt] at h
    rw [flt]
    by_cases e : mis a pre = true
    · rw [if_pos e] at h; cases h
    · rw [if_neg e] at h ⊢
      exact zt8 h
end
end K09
namespace K09
open PySem PySem.Spec L2 Mi Pl
section
variable {Q : D → Store → Prop} {X : Exc → Store → Prop} {P : Post} {ρ : Mi.Env} {n s c f : Nat} {μ μ' μ0 : Store} {rows : List Row} {pool titles : List Str}
end
end K09
namespace K09
open PySem PySem.Spec L2 Mi Pl
section
variable {Q : D → Store → Prop} {X : Exc → Store → Prop} {P : Post} {ρ : Mi.Env} {n s c f : Nat} {μ μ' μ0 : Store} {rows : List Row} {pool titles : List Str}
end
end K09
namespace K15
open PySem PySem.Spec L2 Mi
end K15
namespace K09
open PySem PySem.Spec L2 Mi Pl
section
variable {Q : D → Store → Prop} {X : Exc → Store → Prop} {μ : Store} {rows : List Row} {gs : List Int} {ks : List Str} {vs : List Int}
end
end K09
namespace K15
end K15
namespace Sg
open PySem PySem.Spec L2 Mi Pl
open K09 (plT keT isPl isKe isRe isOt isReq RowOk)
section
variable {Q : D → Store → Prop} {X : Exc → Store → Prop} {P : Post} {μ μ0 : Store} {n c : Nat} {rows : List K09.Row} {r : K09.Row} {ss need lim : List Str} {o : Bool}
end
end Sg
namespace Sg
open PySem PySem.Spec L2 Mi Pl
open K09 (plT keT isPl isKe isRe isOt isReq RowOk zch flt mis misO rk)
section
variable {n c : Nat} {rows pre post : List K09.Row} {r q : K09.Row} {S : List Str} {z : Str}
theorem zwr : ∀ {post pre : List K09.Row} {a : List K09.Row} {r : K09.Row} {b : List K09.Row}, flt pre post = none → post = a ++ r :: b → mis r (pre ++ a) = false
  | [], _, a, r, b, _, e => by cases a <;> cases e
  | x :: post, pre, a, r, b, h, e => by
    unfold flt at h
    by_cases hm : mis x pre = true
    · rw [if_pos hm] at h; cases h
    · rw [if_neg hm] at h
      cases a with
      | nil =>
        injection e with e1 e2
        subst e1
        rw [List.append_nil]
        simpa using hm
      | cons y a =>
        injection e with e1 e2
        subst e1
        have := zwr h e2
        rwa [List.append_assoc] at this
end
end Sg
namespace Sg
open PySem PySem.Spec L2 Mi Pl
open K09 (plT keT isPl isKe isRe isOt isReq RowOk zch flt mis misO rk)
section
variable {Q : D → Store → Prop} {X : Exc → Store → Prop} {P : Post} {μ μ0 : Store} {n c : Nat} {rows : List K09.Row} {r : K09.Row} {S ss need lim : List Str} {o : Bool}
end
end Sg
namespace Sg
open PySem PySem.Spec L2 Mi Pl
section
variable {Q : D → Store → Prop} {X : Exc → Store → Prop} {P : Post} {μ μ0 : Store} {n c : Nat} {one other : SRow} {need lim : List Str} {o : Bool}
def short (k : Nat) (r : SRow) : Prop := ∀ a b o, r = some (a, b, o) → a.length ≤ k ∧ b.length ≤ k
end
end Sg
namespace Sg
open PySem PySem.Spec L2 Mi Pl
section
variable {Q : D → Store → Prop} {X : Exc → Store → Prop} {P : Post} {μ μ0 : Store} {n c : Nat} {rs ss : List SRow}
structure RsOk (rs : List SRow) : Prop where
  ne : rs ≠ []
  len : rs.length ≤ 500
  v : ∀ r ∈ rs, Pl.rowV r = true
  s : ∀ r ∈ rs, short 31 r
end
end Sg
namespace Sg
open PySem PySem.Spec L2 Mi Pl
section
variable {c : Nat} {rs ss : List SRow} {r s : SRow} {S need lim : List Str} {o : Bool}
end
end Sg
namespace Sg
open PySem PySem.Spec L2 Mi Pl
section
variable {c : Nat} {rs ss : List SRow} {r s : SRow} {S T ns a b : List Str} {o : Bool} {z zz : Str}
theorem zj4 : ∀ {l : List SRow}, l ≠ [] → zct l ≠ []
  | [], h, _ => h rfl
  | x :: l, h, e => by
    have : x ∈ zct (x :: l) := zpd List.mem_cons_self
    rw [e] at this
    cases this
theorem zrr (h : rs ≠ []) : zd5 rs ≠ [] := fun e => by
  unfold zd5 at e
  exact zj4 (l := rs.reverse) (by simpa using h) (by simpa using e)
end
end Sg
namespace Sg
open PySem PySem.Spec L2 Mi Pl
section
variable {Q : D → Store → Prop} {X : Exc → Store → Prop} {P : Post} {ρ : Mi.Env} {μ μ0 : Store} {n c j : Nat} {A : List (List Str)} {ns : List Str} {zz : Str}
@[simp] theorem rp_sortLen {b : Bool} {a : ME} : @Rp _ (ztj b a ρ μ) Q X = @Rp _ (a ρ μ) (fun x μ => match (seqL μ x).bind tupsW with
  | some tss => @Rp _ (newL b ((tss.mergeSort leLen).map fun t => .tup (t.map .str)) μ) Q X
  | none => False) X := by
  unfold ztj
  rw [rp_bind]; congr 1; funext x μ
  cases (seqL μ x).bind tupsW <;> rfl
end
end Sg
namespace Sg
open PySem PySem.Spec L2 Mi Pl
open K09 (plT keT isPl isKe isRe isOt isReq RowOk zch)
section
variable {Q : D → Store → Prop} {X : Exc → Store → Prop} {P : Post} {μ μ0 : Store} {n c s j : Nat} {rows : List K09.Row} {ns need lim : List Str} {o : Bool} {rs ss : List SRow} {r : SRow}
structure Side (ns : List Str) (rs : List SRow) : Prop where
  ne : rs ≠ []
  len : rs.length ≤ 30
  g : ∀ r ∈ rs, rowG ns r
theorem Side.short (h : Side ns rs) : Side ns (zd5 rs) := ⟨zrr h.ne, Nat.le_trans zxl h.len, fun r hr => h.g r (zxk hr)⟩
theorem Side.ok (h : Side ns rs) (hn : ns.length ≤ 12) : RsOk rs := ⟨h.ne, by have := h.len; omega, fun r hr => (h.g r hr).1, fun r hr a b o e => by
  obtain ⟨l1, l2⟩ := zabf (h.g r hr) e
  omega⟩
theorem Side.at (h : Side ns rs) : rowG ns (rowAt rs c) := h.g _ (zyj h.ne)
end
end Sg
namespace Sg
open PySem PySem.Spec L2 Mi Pl
section
variable {Q : D → Store → Prop} {X : Exc → Store → Prop} {P : Post} {ρ : Mi.Env} {μ μ0 : Store} {n k c j : Nat} {rs ss : List SRow} {r s : SRow} {ns ms a b a' b' S : List Str} {o o' : Bool} {z zz : Str} {f : List D → Store → Res D}
end
end Sg
namespace Sg
open PySem PySem.Spec L2 Mi Pl
section
variable {r s : SRow} {ns a b a' b' S T : List Str} {o o' : Bool} {z y zz : Str} {k i : Nat}
end
end Sg
namespace Sg
open PySem PySem.Spec L2 Mi Pl
section
variable {r s : SRow} {ns N a b a' b' S T : List Str} {o o' : Bool} {z y zz : Str} {k i m : Nat}
end
end Sg
namespace Sg
open PySem PySem.Spec L2 Mi Pl
section
variable {Q : D → Store → Prop} {X : Exc → Store → Prop} {P : Post} {ρ : Mi.Env} {μ μ0 : Store} {n k c s m : Nat} {x d : D} {ds : List D} {rs ss : List SRow} {r : SRow} {ns : List Str}
def poolW : List Str := ["a", "b", "c", "d", "aa", "ab", "def", "call", "site", "rest", "more", "self", "zzzzzz"]
structure Names (ws : List Str) : Prop where
  len : ws.length ≤ 6
  nd : ws.Nodup
  nm : ∀ z ∈ ws, Cs.zah z = true
theorem zabh : poolW.all (fun z => Cs.zah z) = true ∧ poolW.Nodup ∧ poolW.length = 13 := by decide +kernel
theorem Names.of {ws : List Str} (h6 : ws.length ≤ 6) (nd : ws.Nodup) (h : ∀ z ∈ ws, z ∈ poolW) : Names ws := ⟨h6, nd, fun z hz => List.all_eq_true.mp zabh.1 z (h z hz)⟩
end
end Sg
namespace Sg
open PySem PySem.Spec L2 Mi Pl
section
variable {Q : D → Store → Prop} {X : Exc → Store → Prop} {P : Post} {ρ : Mi.Env} {μ μ0 : Store} {r s : SRow} {rs ss : List SRow} {ns N a b a' b' S T : List Str} {o o' : Bool} {z y zz : Str} {k i m c : Nat} {f : List D → Store → Res D}
end
end Sg
namespace Sg
open PySem PySem.Spec L2 Mi Pl
section
variable {Q : D → Store → Prop} {X : Exc → Store → Prop} {P : Post} {ρ : Mi.Env} {μ μ0 : Store} {r s : SRow} {rs ss : List SRow} {ns N a b a' b' S T ms ws : List Str} {o o' : Bool} {z y zz : Str} {k i m c n : Nat} {f : List D → Store → Res D}
end
end Sg
namespace Sg
open PySem PySem.Spec L2 Mi Pl
open K09 (plT keT isPl isKe isRe isOt isReq RowOk zch optD)
section
variable {Q : D → Store → Prop} {X : Exc → Store → Prop} {P : Post} {μ μ0 : Store} {n c : Nat} {rows : List K09.Row} {r : K09.Row} {ks F ss : List Str} {vals : List D} {z : Str}
end
end Sg
namespace Sg
open PySem PySem.Spec L2 Mi Pl
open K09 (plT keT isPl isKe isRe isOt isReq RowOk zch flt mis misO rk callD TabOk)
section
variable {Q : D → Store → Prop} {X : Exc → Store → Prop} {P : Post} {μ μ0 : Store} {n c s j : Nat} {rows : List K09.Row} {ns ms S : List Str} {zz : Str} {A : List (List Str)} {r : SRow} {gs : List Int} {ks : List Str}
end
end Sg
namespace Sg
open PySem PySem.Spec L2 Mi Pl
section
variable {Q : D → Store → Prop} {X : Exc → Store → Prop} {P : Post} {ρ : Mi.Env} {μ μ0 : Store} {r s : SRow} {rs ss ts : List SRow} {us ns N a b a' b' S T ms ws : List Str} {o o' : Bool} {z y zz : Str} {k i m c n : Nat}
structure Fine (us : List Str) (rs : List SRow) : Prop where
  side : Side us rs
  sh : zd5 rs = rs
theorem Fine.of (g : Side us rs) : Fine us (zd5 rs) := ⟨g.short, zuv rs⟩
end
end Sg
namespace K46
open PySem PySem.Spec L2 Mi Pl Sg
section
variable {Q : D → Store → Prop} {X : Exc → Store → Prop} {P : Post} {ρ : Mi.Env} {μ μ0 : Store} {n k c s m j : Nat} {x d : D} {ds : List D} {ns ws us N T S : List Str}
inductive Sp where
  | val (i : Int)
  | star
  | name (z : Str) (i : Int)
  | double
end
end K46
namespace K46
open PySem PySem.Spec L2 Mi Pl Sg
section
variable {Q : D → Store → Prop} {X : Exc → Store → Prop} {P : Post} {ρ : Mi.Env} {μ μ0 : Store} {n k c s m j : Nat} {x d : D} {ds : List D} {ns ws us N T S : List Str} {l : List Sp}
end
end K46
namespace Sg
open PySem PySem.Spec L2 Mi Pl
section
variable {Q : D → Store → Prop} {X : Exc → Store → Prop} {μ : Store} {r s : SRow} {rs ss : List SRow} {ns N K a b a' b' S T : List Str} {o o' : Bool} {z y zz : Str} {k i m c : Nat}
end
end Sg
namespace K46
open PySem PySem.Spec L2 Mi Pl Sg
section
variable {Q : D → Store → Prop} {X : Exc → Store → Prop} {P : Post} {ρ : Mi.Env} {μ μ0 : Store} {n k c s m j : Nat} {x d : D} {ds : List D} {ns ws us N K T S : List Str} {l : List Sp} {r : SRow} {rs ss : List SRow} {op : Bool}
end
end K46
namespace K46
open PySem PySem.Spec L2 Mi Pl Sg
section
variable {Q : D → Store → Prop} {X : Exc → Store → Prop} {P : Post} {ρ : Mi.Env} {μ μ0 : Store} {n k c s m j : Nat} {x d : D} {ds : List D} {ns ws us N K T S : List Str} {l : List Sp} {r : SRow} {rs ss : List SRow} {op : Bool}
end
end K46
namespace K46
open PySem PySem.Spec L2 Mi Pl Sg
section
variable {Q : D → Store → Prop} {X : Exc → Store → Prop} {P : Post} {ρ : Mi.Env} {μ μ0 : Store} {n k c s m j : Nat} {x d : D} {ds : List D} {ns ws us N K T S : List Str} {l : List Sp} {r : SRow} {rs ss : List SRow} {op : Bool}
end
end K46
namespace K46
open PySem PySem.Spec L2 Mi Pl Sg
section
variable {Q : D → Store → Prop} {X : Exc → Store → Prop} {P : Post} {ρ : Mi.Env} {μ μ0 : Store} {n k c s m j : Nat} {x d : D} {ds : List D} {ns ws us N K T S : List Str} {l : List Sp} {r : SRow} {rs ss : List SRow} {op star : Bool}
end
end K46
namespace K46
open PySem PySem.Spec L2 Mi Pl Sg
section
variable {Q : D → Store → Prop} {X : Exc → Store → Prop} {P : Post} {ρ : Mi.Env} {μ μ0 : Store} {n k c s m j : Nat} {x d : D} {ds : List D} {ns ws us N K T S : List Str} {l : List Sp} {r : SRow} {rs ss : List SRow} {op star : Bool}
end
end K46
namespace K46
open PySem PySem.Spec L2 Mi Pl Sg
section
variable {Q : D → Store → Prop} {X : Exc → Store → Prop} {P : Post} {ρ : Mi.Env} {μ μ0 : Store} {n k c s m j : Nat} {x d : D} {ds : List D} {ns ws us N K T S : List Str} {l : List Sp} {r : SRow} {rs ss : List SRow} {op star : Bool}
end
end K46
namespace K46
open PySem PySem.Spec L2 Mi Pl Sg
section
variable {Q : D → Store → Prop} {X : Exc → Store → Prop} {P : Post} {ρ : Mi.Env} {μ μ0 : Store} {n k c s m j : Nat} {x d : D} {ds : List D} {ns ws us N K T S : List Str} {l : List Sp} {r : SRow} {rs ss : List SRow} {op star : Bool}
end
end K46
namespace Sg
open PySem PySem.Spec L2 Mi Pl
open K09 (plT keT isPl isKe isRe isOt isReq RowOk zch)
def rowE (r : K09.Row) : D := .tup [.str r.k, .str r.t, K09.optD r.d, .lst (r.bars.map .str)]
section
variable {Q : D → Store → Prop} {X : Exc → Store → Prop} {P : Post} {μ μ0 : Store} {n c : Nat} {rows pre post : List K09.Row} {r q : K09.Row} {ks F ss S : List Str} {vals : List D} {z : Str}
theorem e1 {r : K09.Row} : @Rp _ (fIx (rowE r) (.int 1) μ) Q X = Q (.str r.t) μ := rfl
end
end Sg
namespace K48
open PySem PySem.Spec L2 Mi
end K48
namespace K48
open PySem PySem.Spec L2 Mi Pl
end K48
namespace K48
open PySem PySem.Spec L2 Mi Pl
open K09 (plT keT isPl isKe isRe isOt isReq RowOk zch flt mis misO rk callD TabOk)
section
variable {Q : D → Store → Prop} {X : Exc → Store → Prop} {P : Post} {ρ : Mi.Env} {μ μ0 : Store} {n c s : Nat} {rows : List K09.Row} {r : K09.Row} {ks F ss : List Str} {vals : List D} {z : Str} {gs vs : List Int}
end
end K48
namespace K45
open PySem PySem.Spec L2 Mi Pl Sg
open K09 (plT keT isPl isKe isRe isOt isReq RowOk zch flt mis misO rk zrp)
section
variable {Q : D → Store → Prop} {X : Exc → Store → Prop} {P : Post} {ρ : Mi.Env} {μ μ0 : Store} {n c s : Nat} {rows : List K09.Row} {r : K09.Row} {ks F ss : List Str} {vals : List D} {z : Str} {gs vs : List Int}
end
end K45
namespace Sg
open PySem PySem.Spec L2 Mi Pl
open K09 (plT keT isPl isKe isRe isOt isReq RowOk zch flt mis misO rk)
section
variable {n c : Nat} {rows pre post A B : List K09.Row} {r q a b : K09.Row} {S : List Str} {z : Str}
def Ahead (a b : K09.Row) : Prop := a.t ≠ b.t ∧ rk a.k ≤ rk b.k ∧ ¬ (rk a.k = rk b.k ∧ (rk b.k = 2 ∨ rk b.k = 4)) ∧ (rk b.k < 2 → isReq b = true → isReq a = true) ∧ (¬ (rk b.k < 2 ∧ isReq b = true) → isKe a = true → a.t ∉ b.bars)
theorem zab0 {x : Int} {l : K09.Row} : misO x (some l) = false ↔ rk l.k ≤ x ∧ ¬ (rk l.k = x ∧ (x = 2 ∨ x = 4)) := by
  unfold misO
  simp only [Bool.or_eq_false_iff, decide_eq_false_iff_not, Bool.and_eq_false_iff, beq_eq_false_iff_ne]
  constructor
  · rintro ⟨h1, h2⟩
    refine ⟨by omega, fun ⟨h3, h4⟩ => ?_⟩
    rcases h2 with h2 | ⟨h2, h5⟩
    · exact h2 h3
    · rcases h4 with h4 | h4
      · exact h2 h4
      · exact h5 h4
  · rintro ⟨h1, h2⟩
    refine ⟨by omega, ?_⟩
    by_cases e : rk l.k = x
    · exact .inr ⟨fun h => h2 ⟨e, .inl h⟩, fun h => h2 ⟨e, .inr h⟩⟩
    · exact .inl e
theorem zv2 (hp : pre.Pairwise Ahead) : mis r pre = false ↔ ∀ o ∈ pre, Ahead o r := by
  have last : misO (rk r.k) pre.getLast? = false ↔ ∀ o ∈ pre, rk o.k ≤ rk r.k ∧ ¬ (rk o.k = rk r.k ∧ (rk r.k = 2 ∨ rk r.k = 4)) := by
    rcases List.eq_nil_or_concat pre with rfl | ⟨l, x, rfl⟩
    · simp [misO]
    · rw [List.concat_eq_append, List.getLast?_concat, zab0]
      rw [List.concat_eq_append, List.pairwise_append] at hp
      constructor
      · intro h o ho
        rcases List.mem_append.mp ho with q | q
        · obtain ⟨_, h1, h2, _⟩ := hp.2.2 o q x (by simp)
          refine ⟨by omega, fun ⟨h3, h4⟩ => ?_⟩
          exact h2 ⟨by omega, by omega⟩
        · rw [List.mem_singleton.mp q]; exact h
      · exact fun h => h x (by simp)
  unfold mis
  rw [Bool.or_eq_false_iff, Bool.or_eq_false_iff, last, decide_eq_false_iff_not]
  by_cases e : rk r.k < 2 ∧ isReq r = true
  · rw [if_pos e]
    have : (pre.any fun o => !isReq o) = false ↔ ∀ o ∈ pre, isReq o = true := by
      rw [List.any_eq_false]
      simp
    rw [this]
    constructor
    · rintro ⟨⟨h1, h2⟩, h3⟩ o ho
      exact ⟨fun q => h1 (List.mem_map.mpr ⟨o, ho, q⟩), (h2 o ho).1, (h2 o ho).2, fun _ _ => h3 o ho, fun h => absurd e h⟩
    · intro h
      exact ⟨⟨fun q => by
        obtain ⟨o, ho, q⟩ := List.mem_map.mp q
        exact (h o ho).1 q, fun o ho => ⟨(h o ho).2.1, (h o ho).2.2.1⟩⟩, fun o ho => (h o ho).2.2.2.1 e.1 e.2⟩
  · rw [if_neg e]
    have : (pre.any fun o => isKe o && decide (o.t ∈ r.bars)) = false ↔ ∀ o ∈ pre, isKe o = true → o.t ∉ r.bars := by
      rw [List.any_eq_false]
      simp
    rw [this]
    constructor
    · rintro ⟨⟨h1, h2⟩, h3⟩ o ho
      exact ⟨fun q => h1 (List.mem_map.mpr ⟨o, ho, q⟩), (h2 o ho).1, (h2 o ho).2, fun a b => absurd ⟨a, b⟩ e, fun _ => h3 o ho⟩
    · intro h
      exact ⟨⟨fun q => by
        obtain ⟨o, ho, q⟩ := List.mem_map.mp q
        exact (h o ho).1 q, fun o ho => ⟨(h o ho).2.1, (h o ho).2.2.1⟩⟩, fun o ho => (h o ho).2.2.2.2 e⟩
theorem zacc : flt [] (rows ++ [r]) = none ↔ flt [] rows = none ∧ mis r rows = false := by
  constructor
  · intro h
    refine ⟨K09.zt8 h, ?_⟩
    have := zwr (a := rows) (b := []) h rfl
    simpa using this
  · rintro ⟨h1, h2⟩
    exact K09.zwt h1 (by simpa using h2)
theorem snoc_ind {α : Type} {P : List α → Prop} (h0 : P []) (hs : ∀ l x, P l → P (l ++ [x])) (l : List α) : P l := by
  have go : ∀ n (l : List α), l.length = n → P l := by
    intro n
    induction n with
    | zero => intro l e; rw [List.length_eq_zero_iff.mp e]; exact h0
    | succ n ih =>
      intro l e
      rcases List.eq_nil_or_concat l with rfl | ⟨l', x, rfl⟩
      · cases e
      · rw [List.concat_eq_append] at e ⊢
        exact hs l' x (ih l' (by simpa using e))
  exact go _ l rfl
theorem zws (rows : List K09.Row) : flt [] rows = none ↔ rows.Pairwise Ahead := by
  refine snoc_ind (P := fun rows => flt [] rows = none ↔ rows.Pairwise Ahead) (by simp [flt]) (fun l x ih => ?_) rows
  rw [zacc, ih, List.pairwise_append]
  constructor
  · rintro ⟨h1, h2⟩
    exact ⟨h1, by simp, fun o ho y hy => by rw [List.mem_singleton.mp hy]; exact (zv2 h1).mp h2 o ho⟩
  · rintro ⟨h1, _, h2⟩
    exact ⟨h1, (zv2 h1).mpr fun o ho => h2 o ho x (by simp)⟩
theorem zabe : zch rows ↔ (∀ r ∈ rows, RowOk r) ∧ rows.Pairwise Ahead ∧ rows.length ≤ 10 := by
  constructor
  · exact fun h => ⟨h.each, (zws rows).mp h.fl, h.len⟩
  · rintro ⟨h1, h2, h3⟩
    exact ⟨h1, (zws rows).mpr h2, h3, List.Pairwise.map _ (fun a b h => h.1) h2⟩
end
end Sg
namespace K45
open PySem PySem.Spec L2 Mi Pl Sg
open K09 (plT keT isPl isKe isRe isOt isReq RowOk zch flt mis misO rk)
section
variable {Q : D → Store → Prop} {X : Exc → Store → Prop} {P : Post} {ρ : Mi.Env} {μ μ0 : Store} {n c s f : Nat} {rows : List K09.Row} {r : K09.Row} {ks F ss us ts : List Str} {vals : List D} {z : Str} {m m' : Int}
structure Rws (us ts : List Str) (m : Int) (rows : List K09.Row) : Prop where
  each : ∀ r ∈ rows, RowOk r
  pw : rows.Pairwise Ahead
  tt : rows.map (·.t) = ts.take rows.length
  ln : rows.length ≤ ts.length
  rkm : ∀ r ∈ rows, rk r.k ≤ m
  inp : ∀ r ∈ rows, r.t ∈ us ∧ ∀ z ∈ r.bars, z ∈ us
theorem Rws.nil : Rws us ts m [] := ⟨fun r hr => (by cases hr), .nil, rfl, Nat.zero_le _, fun r hr => (by cases hr), fun r hr => (by cases hr)⟩
theorem Rws.ok (h : Rws us ts m rows) (hl : ts.length ≤ 10) : zch rows := zabe.mpr ⟨h.each, h.pw, by have := h.ln; omega⟩
end
end K45
namespace K45
open PySem PySem.Spec L2 Mi Pl Sg
open K09 (plT keT isPl isKe isRe isOt isReq RowOk zch flt mis misO rk)
section
variable {Q : D → Store → Prop} {X : Exc → Store → Prop} {P : Post} {ρ : Mi.Env} {μ μ0 : Store} {n c s f : Nat} {rows : List K09.Row} {r : K09.Row} {ks F ss us ts : List Str} {vals : List D} {z : Str} {m m' : Int}
end
end K45
namespace K45
open PySem PySem.Spec L2 Mi Pl Sg

open K09 (plT keT isPl isKe isRe isOt isReq RowOk zch flt mis misO rk)
section
variable {Q : D → Store → Prop} {X : Exc → Store → Prop} {P : Post} {ρ : Mi.Env} {μ μ0 : Store} {n k c s m j : Nat} {x d : D} {ds : List D} {ns ws us N K T S : List Str} {rows : List K09.Row} {op star : Bool}
end
end K45
namespace K09
open PySem PySem.Spec L2 Mi Pl
section
variable {μ : Store} {rows : List Row} {gs : List Int} {ks : List Str} {vs : List Int}
end
end K09
namespace K09
open PySem PySem.Spec L2 Mi Pl
section
variable {μ : Store} {rows : List Row} {gs : List Int} {ks T : List Str} {vs : List Int} {c : Nat}
end
end K09
namespace K09
open PySem PySem.Spec L2 Mi Pl
structure Bnd (rows : List Row) (gs : List Int) (ks : List Str) (vs : List Int) : Prop where
  ok : zch rows
  tab : TabOk ks vs
  gv : ∀ i ∈ gs, 0 ≤ i ∧ i ≤ 999
  gl : gs.length ≤ 50
  kl : ks.length ≤ 40
  nil : obs rows gs ks = []
section
variable {μ : Store} {rows : List Row} {gs : List Int} {ks T : List Str} {vs : List Int} {c : Nat}
structure Way (rows : List Row) (gs : List Int) (c : Nat) (T : List Str) : Prop where
  tk : ∀ t ∈ T, t ∈ keT rows
  rs : c < (plT rows).length → gs.drop (plT rows).length = []
variable (B : Bnd rows gs ks vs) (w : Way rows gs c T)
include B w
end
end K09
namespace K09
open PySem PySem.Spec L2 Mi Pl
section
variable {μ : Store} {rows : List Row} {gs gs' : List Int} {ks ks' T : List Str} {vs vs' : List Int} {c n : Nat}
theorem zpg {i : Int} : SeqAt.shaped (.int i) = true := by
  unfold SeqAt.shaped
  simp [PyData.canLay0, PyData.depth]
theorem zw3 {a b : Int} : deqF μ (n + 1) (.int a) (.int b) = some (a == b) := by
  show shapE μ (.int a) (.int b) = _
  unfold shapE
  rw [show D.view μ (.int a) = some (.int a) from rfl, show D.view μ (.int b) = some (.int b) from rfl]
  dsimp only
  rw [if_pos ⟨zpg, zpg⟩]
  simp [PyData.eqv]
theorem zkw : ∀ {is : List Int}, PyData.canLayAll0 (is.map PyData.int) = true
  | [] => rfl
  | i :: is => by rw [List.map_cons, PyData.canLayAll0, zkw]; rfl
theorem depth_ints : ∀ {is : List Int}, PyData.depthAll (is.map PyData.int) = 0
  | [] => rfl
  | i :: is => by rw [List.map_cons, PyData.depthAll, depth_ints]; rfl
theorem shaped_ints {is : List Int} : SeqAt.shaped (.tuple (is.map PyData.int)) = true := by
  unfold SeqAt.shaped
  simp [PyData.canLay0, zkw, PyData.depth, depth_ints]
theorem zr3 {F : D → D → Option Bool} {ls : List Key} {es : List D} : ∀ {ks : List Key} {ds : List D}, ks.length = ds.length → (∀ d ∈ ds, ∀ e ∈ es, ∃ b, F d e = some b) → ls.length = es.length → ∃ b, hitsD F ls es ks ds = some b
  | [], [], _, _, _ => ⟨true, rfl⟩
  | [], _ :: _, h, _, _ => by simp at h
  | _ :: _, [], h, _, _ => by simp at h
  | k :: ks, d :: ds, h, hF, hl => by
    unfold hitsD
    cases e1 : lookK k ls es with
    | none => exact ⟨false, rfl⟩
    | some e =>
      have me : e ∈ es := by
        clear hF h
        induction ls generalizing es with
        | nil => cases es <;> simp [lookK] at e1
        | cons a ls ih =>
          cases es with
          | nil => simp at hl
          | cons x es =>
            unfold lookK at e1
            by_cases q : a = k
            · rw [if_pos q] at e1; cases e1; exact List.mem_cons_self
            · rw [if_neg q] at e1
              exact List.mem_cons_of_mem _ (ih (by simpa using hl) e1)
      obtain ⟨b, hb⟩ := hF d List.mem_cons_self e me
      obtain ⟨z, hz⟩ := zr3 (F := F) (ls := ls) (es := es) (ks := ks) (ds := ds) (by simpa using h) (fun d hd => hF d (List.mem_cons_of_mem _ hd)) hl
      dsimp only
      rw [hb, hz]
      exact ⟨_, rfl⟩
theorem look_map {α : Type} {k : α → Key} {g : α → D} : ∀ {l : List α}, (l.map k).Nodup → ∀ {a : α}, a ∈ l → lookK (k a) (l.map k) (l.map g) = some (g a)
  | [], _, _, h => by cases h
  | b :: l, nd, a, h => by
    rw [List.map_cons, List.nodup_cons] at nd
    rw [List.map_cons, List.map_cons]
    unfold lookK
    rcases List.mem_cons.mp h with rfl | h
    · rw [if_pos rfl]
    · rw [if_neg (fun e => nd.1 (by rw [e]; exact List.mem_map_of_mem h))]
      exact look_map nd.2 h
theorem ztz {α : Type} {F : D → D → Option Bool} {k : α → Key} {f g : α → D} {q : α → Bool} {all : List α} (nd : (all.map k).Nodup) : ∀ {l : List α}, (∀ a ∈ l, a ∈ all ∧ F (f a) (g a) = some (q a)) → hitsD F (all.map k) (all.map g) (l.map k) (l.map f) = some (l.all q)
  | [], _ => rfl
  | a :: l, h => by
    rw [List.map_cons, List.map_cons]
    unfold hitsD
    rw [look_map nd (h a List.mem_cons_self).1]
    dsimp only
    rw [(h a List.mem_cons_self).2, ztz nd fun b hb => h b (List.mem_cons_of_mem _ hb)]
    rfl
theorem zacg {a b : List Str} {x y : List Int} (ha : a.length = x.length) (hb : b.length = y.length) (nd : a.Nodup) : ∃ k, deqF μ (n + 2) (.dct (a.map .inr) (x.map .int)) (.dct (b.map .inr) (y.map .int)) = some k ∧ (a = b → x = y → k = true) := by
  by_cases hl : a.length = b.length
  · have e : deqF μ (n + 2) (.dct (a.map .inr) (x.map .int)) (.dct (b.map .inr) (y.map .int)) = hitsD (deqF μ (n + 1)) (b.map .inr) (y.map .int) (a.map .inr) (x.map .int) := by
      show (if (a.map (Sum.inr : Str → Key)).length = (b.map (Sum.inr : Str → Key)).length then _ else _) = _
      rw [if_pos (by simpa using hl)]
    rw [e]
    obtain ⟨k, hk⟩ := zr3 (F := deqF μ (n + 1)) (ls := b.map .inr) (es := y.map .int) (ks := a.map .inr) (ds := x.map .int) (by simpa using ha) (fun d hd e he => by
      obtain ⟨i, _, rfl⟩ := List.mem_map.mp hd
      obtain ⟨j, _, rfl⟩ := List.mem_map.mp he
      exact ⟨_, zw3⟩) (by simpa using hb)
    refine ⟨k, hk, fun e1 e2 => ?_⟩
    subst e1 e2
    have e3 : (x.map D.int) = a.map fun z => D.int (tvI a x z) := by
      clear hk e hb hl
      induction a generalizing x with
      | nil => have : x = [] := List.length_eq_zero_iff.mp ha.symm; subst this; rfl
      | cons z a ih =>
        cases x with
        | nil => simp at ha
        | cons i x =>
          rw [List.nodup_cons] at nd
          rw [List.map_cons, List.map_cons, tvI, if_pos rfl, ih (by simpa using ha) nd.2]
          congr 1
          refine List.map_congr_left fun w hw => ?_
          rw [tvI, if_neg (fun e : z = w => nd.1 (e ▸ hw))]
    rw [e3] at hk
    rw [ztz (F := deqF μ (n + 1)) (k := Sum.inr) (q := fun _ => true) (zy3 nd) (fun z hz => ⟨hz, by rw [zw3]; simp⟩)] at hk
    have := Option.some.inj hk
    rw [← this]; simp
  · refine ⟨false, ?_, fun e => absurd (congrArg List.length e) hl⟩
    show (if (a.map (Sum.inr : Str → Key)).length = (b.map (Sum.inr : Str → Key)).length then _ else some false) = _
    rw [if_neg (by simpa using hl)]
end
end K09
namespace K09
open PySem PySem.Spec L2 Mi Pl
section
variable {Q : D → Store → Prop} {X : Exc → Store → Prop} {P : Post} {ρ : Mi.Env} {n : Nat} {μ μ' μ0 : Store} {rows : List Row} {gs : List Int} {ks T : List Str} {vs : List Int} {c a : Nat}
end
end K09
namespace K09
open PySem PySem.Spec L2 Mi Pl
section
variable {Q : D → Store → Prop} {X : Exc → Store → Prop} {P : Post} {ρ : Mi.Env} {n : Nat} {μ μ' μ0 : Store} {rows : List Row} {gs : List Int} {ks T : List Str} {vs : List Int} {c a : Nat}
end
end K09
namespace K09
open PySem PySem.Spec L2 Mi Pl
section
variable {Q : D → Store → Prop} {X : Exc → Store → Prop} {P : Post} {ρ : Mi.Env} {n : Nat} {μ μ' μ0 : Store} {rows : List Row} {gs : List Int} {ks T : List Str} {vs : List Int} {c a : Nat}
end
end K09
namespace K09
open PySem PySem.Spec L2 Mi Pl
section
variable {Q : D → Store → Prop} {X : Exc → Store → Prop} {P : Post} {ρ : Mi.Env} {n : Nat} {μ μ' μ0 : Store} {rows : List Row} {gs : List Int} {ks T : List Str} {vs : List Int} {c a : Nat}
end
end K09
namespace K09
open PySem PySem.Spec L2 Mi Pl
section
variable {Q : D → Store → Prop} {X : Exc → Store → Prop} {P : Post} {ρ : Mi.Env} {n s : Nat} {μ μ' μ0 : Store} {rows : List Row} {gs : List Int} {ks T : List Str} {vs : List Int} {c a : Nat}
end
end K09
namespace Sg
open PySem PySem.Spec L2 Mi Pl
open K09 (plT keT isPl isKe isRe isOt isReq RowOk zch)
section
variable {Q : D → Store → Prop} {X : Exc → Store → Prop} {P : Post} {μ μ0 : Store} {n c : Nat} {rows pre post : List K09.Row} {r q : K09.Row} {ks F ss S L : List Str} {vals gs vs : List D} {z : Str}
end
end Sg
namespace Sg
open PySem PySem.Spec L2 Mi Pl
open K09 (plT keT isPl isKe isRe isOt isReq RowOk zch TabOk tvI)
section
variable {Q : D → Store → Prop} {X : Exc → Store → Prop} {P : Post} {μ μ0 : Store} {n c : Nat} {rows : List K09.Row} {r : K09.Row} {ks : List Str} {gs vs : List Int} {z : Str}
end
end Sg
namespace K07
open PySem PySem.Spec L2 Mi Pl Sg
open K09 (plT keT isPl isKe isRe isOt isReq RowOk zch TabOk tvI callD)
section
variable {Q : D → Store → Prop} {X : Exc → Store → Prop} {P : Post} {ρ : Mi.Env} {μ μ0 : Store} {n k c s m j : Nat} {x d : D} {ds : List D} {ks us : List Str} {rows : List K09.Row} {gs vs : List Int}
end
end K07
namespace Sg
open PySem PySem.Spec L2 Mi Pl
open K05 (PK cls elems clsL cls2 cls3 zae valsP kvP unK fb isBad)
open K09 (tvI)
inductive Pq where
  | v (i : Int)
  | s (b : Bool) (l : List Int)
  | n (z : Str) (i : Int)
  | d (t : List (Str × Int))
section
variable {Q : D → Store → Prop} {X : Exc → Store → Prop} {μ : Store} {p : Pq} {L A B : List Pq} {ks : List Str} {vs : List Int} {f : Str → Int}
end
end Sg
namespace K07
open PySem PySem.Spec L2 Mi Pl Sg
open K09 (plT keT isPl isKe isRe isOt isReq RowOk zch TabOk tvI callD)
section
variable {Q : D → Store → Prop} {X : Exc → Store → Prop} {P : Post} {ρ : Mi.Env} {μ μ0 : Store} {n k c s m j f : Nat} {x d : D} {ds : List D} {ks us ns : List Str} {rows : List K09.Row} {gs vs : List Int}
structure zaax (us : List Str) (gs : List Int) (ks : List Str) (vs : List Int) : Prop where
  gl : gs.length ≤ 5
  gv : ∀ i ∈ gs, 0 ≤ i ∧ i ≤ 999
  sub : ks.Sublist us
  len : ks.length = vs.length
  vv : ∀ i ∈ vs, 0 ≤ i ∧ i ≤ 999
theorem zaax.tab (h : zaax us gs ks vs) (hN : Names us) : TabOk ks vs := ⟨h.len, hN.nd.sublist h.sub, fun z hz => hN.nm z (h.sub.subset hz), by have := h.sub.length_le; have := hN.len; omega, h.vv⟩
end
end K07
namespace K07
open PySem PySem.Spec L2 Mi Pl Sg
open K09 (plT keT isPl isKe isRe isOt isReq RowOk zch TabOk tvI callD)
section
variable {Q : D → Store → Prop} {X : Exc → Store → Prop} {P : Post} {ρ : Mi.Env} {μ μ0 : Store} {n k c s m j f : Nat} {x d : D} {ds : List D} {ks us ns : List Str} {rows : List K09.Row} {gs vs : List Int}
theorem f_eqX {x y : D} {b : Bool} (h : deqF μ 6 x y = some b) : @Rp _ (fEqX x y μ) Q X = Q (.bl b) μ := by
  unfold fEqX; rw [h]; rfl
theorem zach (h : ks.length = vs.length) (nd : ks.Nodup) : deqF μ 6 (.dct (ks.map Sum.inr) (vs.map .int)) (.dct (ks.map Sum.inr) (vs.map .int)) = some true := by
  obtain ⟨k, e, hk⟩ := K09.zacg (μ := μ) (n := 4) (a := ks) (b := ks) (x := vs) (y := vs) h h nd
  rw [e, hk rfl rfl]
theorem zs3 : ∀ {l : List Int}, pds (l.map D.int) = some (l.map PyData.int)
  | [] => rfl
  | i :: l => by
    rw [List.map_cons, List.map_cons]
    unfold pds
    rw [zs3]
    rfl
theorem zadz {l : List Int} : @Rp _ (fEq false (.tup (l.map .int)) (.tup (l.map .int)) μ) Q X = Q (.bl true) μ := by
  have e : D.pd (.tup (l.map D.int)) = some (.tuple (l.map .int)) := by
    unfold D.pd; rw [zs3]; rfl
  rw [zafl e e K09.shaped_ints K09.shaped_ints]
  rw [SeqAt.eqv_refl _ (by rw [PyData.canLay0]; exact K09.zkw)]
  rfl
theorem zwx (h : ks.length = vs.length) (nd : ks.Nodup) : zaw [callD gs ks vs, callD gs ks vs] μ = .ok (.bl true) μ := ok_of (by
  have is : fIsS (.cls "Call") (callD gs ks vs) μ = .ok (.bl true) μ := K09.zado
  simp [zaw, zd0, zao, is, K09.zpt, K09.zp7, K09.zpv, zadz]
  rw [f_eqX (zach h nd)]
  exact ⟨rfl, rfl⟩)
theorem zacu : zdb [callD gs ks vs] μ = .ok (.tup [.int gs.length, .tup (ks.map .str)]) μ := ok_of (by
  have e : (ks.map (Sum.inr : Str → Key)).map keyDD = ks.map .str := by rw [List.map_map]; rfl
  simp [zdb, zdg, zao, K09.zpt, K09.zp7, K09.zpv]
  exact fun z _ => rfl)
theorem zadb {ks : List Str} {vs : List Int} (h : ks.length = vs.length) (nd : ks.Nodup) : @Rp _ (fNeO "Call" zaw (callD gs ks vs) (callD gs ks vs) μ) Q X = Q (.bl false) μ := by
  have e : fNeO "Call" zaw (callD gs ks vs) (callD gs ks vs) μ = (zaw [callD gs ks vs, callD gs ks vs] μ).bind fun z μ => match z with
    | .bl b => .ok (.bl (!b)) μ
    | _ => .bad := by unfold fNeO; exact if_pos ⟨rfl, rfl⟩
  rw [e, zwx h nd]; rfl
end
end K07
namespace K04
open PySem PySem.Spec L2 Mi Pl
open K05 (elems cls zal wordD unK isBad rk zbl fb rkL zae valsP kvP GoodK fr repeated callD okw s123)
section
variable {Q : D → Store → Prop} {X : Exc → Store → Prop} {μ μ' : Store} {d x : D} {ds es : List D} {t : Tg} {b bb : Bool} {ts : List Tg} {k : Nat} {zs : List Str} {vs is : List Int} {z : Str}
theorem zafd {T C : String} {ks : List Str} (h : errs.contains C = true) : fIsS (.cls T) (.exc C ks ds) μ = .ok (.bl (isaC C T)) μ := by
  unfold fIsS zfk
  simp only [tnD, ztx, h]
  rfl
theorem zadm : isaC "Repeated" "CallError" = true ∧ isaC "Repeated" "BadPiece" = false ∧ isaC "Repeated" "Repeated" = true ∧ errs.contains "Repeated" = true := by decide +kernel
theorem len6 : ("twice " : Str).length = 6 := by decide +kernel
theorem zaa5 {w : Store → Res D} (h : @Rp _ (w μ) (fun d μ' => Q d μ') (fun e μ' => ∃ z, e = repeated z ∧ z.length ≤ 100 ∧ Q (.str ("twice " ++ z)) μ')) : @Rp _ (zn8 w μ) Q X := by
  obtain ⟨i5, i7, i8, i10⟩ := zadm
  have l2 := len6
  have sl : 1000 < sizeLine := by decide
  unfold zn8 mTold
  rw [zaeo]
  refine rs_go fun N hN => ?_
  simp
  refine hN _ _ (rs_go fun N2 hN2 => ?_)
  cases hw : w μ with
  | bad => rw [hw] at h; exact h.elim
  | ok d μ1 =>
    rw [hw] at h
    rw [K09.zvc, hw]
    simp
    refine hN2 _ _ ?_
    rw [zh0]
    refine rs_go fun N3 hN3 => ?_
    simp
    exact h
  | exc e μ1 =>
    rw [hw] at h
    obtain ⟨z, rfl, lz, q⟩ := h
    rw [K09.zvc, hw]
    simp [repeated]
    refine ⟨i5, hN2 _ _ ?_⟩
    rw [zh0]
    refine rs_go fun N3 hN3 => ?_
    simp
    refine hN3 _ _ ?_
    have e1 : lookF "name" ["name"] [D.str z] = some (.str z) := rfl
    simp [zafd i10, i7, i8, e1, l2]
    exact ⟨by omega, q⟩
theorem e_deq : K04.zaw = K07.zaw := rfl
theorem zad2 : K04.zdb = K07.zdb := rfl
theorem zmm (hl : zs.length = is.length) (nd : zs.Nodup) : ∃ vs', callD (vs.map .int) zs (is.map .int) = K09.callD vs (sortS zs) vs' ∧ (sortS zs).length = vs'.length := by
  have zk := zip_look nd hl
  have mem : ∀ z ∈ zs, ∃ i, lookO (.inr z) (zs.map Sum.inr) (is.map D.int) = .int i := fun z h => by
    have h1 : (z, lookO (.inr z) (zs.map Sum.inr) (is.map D.int)) ∈ zs.map fun z => (z, lookO (.inr z) (zs.map Sum.inr) (is.map D.int)) := List.mem_map.mpr ⟨z, h, rfl⟩
    rw [zk] at h1
    obtain ⟨p, hp, e⟩ := List.mem_map.mp h1
    exact ⟨p.2, (Prod.mk.inj e).2.symm⟩
  have ex : ∀ {l : List Str}, (∀ z ∈ l, z ∈ zs) → ∃ vs' : List Int, l.map (fun z => lookO (.inr z) (zs.map Sum.inr) (is.map D.int)) = vs'.map D.int := by
    intro l
    induction l with
    | nil => exact fun _ => ⟨[], rfl⟩
    | cons z l ih =>
      intro h
      obtain ⟨i, e⟩ := mem z (h z List.mem_cons_self)
      obtain ⟨vs', e2⟩ := ih fun y hy => h y (List.mem_cons_of_mem _ hy)
      exact ⟨i :: vs', by rw [List.map_cons, List.map_cons, e, e2]⟩
  obtain ⟨vs', e⟩ := ex (l := sortS zs) fun z h => zbr.mem_iff.mp h
  refine ⟨vs', ?_, by have := congrArg List.length e; simpa using this⟩
  unfold callD K09.callD ascK ascV
  rw [e]
theorem zn4 (hl : zs.length = is.length) (nd : zs.Nodup) : @Rp _ (fNeO "Call" zaw (callD (vs.map .int) zs (is.map .int)) (callD (vs.map .int) zs (is.map .int)) μ) Q X = Q (.bl false) μ := by
  obtain ⟨vs', e, l⟩ := zmm (vs := vs) hl nd
  rw [e, e_deq]
  exact K07.zadb l (zbr.nodup_iff.mpr nd)
theorem zady (hl : zs.length = is.length) (nd : zs.Nodup) : @Rp _ (fEqO "Call" zaw (callD (vs.map .int) zs (is.map .int)) (callD (vs.map .int) zs (is.map .int)) μ) Q X = Q (.bl true) μ := by
  obtain ⟨vs', e, l⟩ := zmm (vs := vs) hl nd
  rw [e, e_deq]
  have e1 : fEqO "Call" K07.zaw (K09.callD vs (sortS zs) vs') (K09.callD vs (sortS zs) vs') μ = .ok (.bl true) μ := by
    have q := K07.zwx (μ := μ) (gs := vs) l (zbr.nodup_iff.mpr nd)
    unfold fEqO
    have io : Mi.isObj "Call" (K09.callD vs (sortS zs) vs') = true := rfl
    have tn : tnD μ (K09.callD vs (sortS zs) vs') = some (.o "Call") := rfl
    have pl : zs1 (K09.callD vs (sortS zs) vs') = true := by
      show (!errs.contains "Call") = true
      decide
    rw [if_pos io, tn]
    dsimp only
    rw [if_pos pl, q]
  rw [e1]
  rfl
theorem zxm (hl : zs.length = is.length) (nd : zs.Nodup) : ∃ n, zdb [callD (vs.map .int) zs (is.map .int)] μ = .ok (.tup [.int vs.length, n]) μ := by
  obtain ⟨vs', e, l⟩ := zmm (vs := vs) hl nd
  rw [e, zad2]
  exact ⟨_, K07.zacu⟩
end
end K04
namespace K04
open PySem PySem.Spec L2 Mi Pl
open K05 (elems zal isBad zbl fb rkL zae valsP kvP fr repeated callD)
theorem zlm : K04.za3 = Pl.zlb := rfl
theorem znr : K04.zex = Pl.zth := rfl
section
variable {Q : D → Store → Prop} {X : Exc → Store → Prop} {P : Post} {ρ : Mi.Env} {μ μ' μ0 : Store} {d x : D} {ds es : List D} {t : Tg} {b bb : Bool} {ts : List Tg} {k s c n : Nat} {zs : List Str} {vs is : List Int} {z : Str}
theorem zfa (h : St μ s c) (e : Ext μ μ') : St μ' s c := by
  obtain ⟨a, b, z, h1, h2⟩ := h
  exact ⟨a, b, z, e.at_ h1, h2⟩
def Off (s : Nat) : Tg → Prop
  | .so k _ => k ≠ s
  | .dd k _ _ => k ≠ s
  | _ => True
structure Th (μ : Store) (s : Nat) (ts : List Tg) : Prop where
  at_ : ∀ t ∈ ts, TgAt μ t
  ok : ∀ t ∈ ts, TgOk t
  off : ∀ t ∈ ts, Off s t
  fb : K05.fb 0 0 (ts.map pk) = none
  len : ts.length ≤ 100
  nm : ((ts.map pk).flatMap zae).length < 64
  vl : (ts.flatMap vS).length ≤ 1000
  kl : (ts.flatMap kS).length ≤ 100
  gd : ∀ b, gd (.lst (ts.map (vwD b))) = true ∧ wt (.lst (ts.map (vwD b))) ≤ 250000 ∧ nest (.lst (ts.map (vwD b))) ≤ 64
theorem Th.fr (h : Th μ s ts) (f : Fr s μ μ') : Th μ' s ts := by
  refine ⟨fun t ht => ?_, h.ok, h.off, h.fb, h.len, h.nm, h.vl, h.kl, h.gd⟩
  have a := h.at_ t ht
  have o := h.off t ht
  cases t with
  | so k is => exact f.keep a o
  | dd k zs is => exact f.keep a o
  | _ => trivial
theorem Th.ext (h : Th μ s ts) (f : Ext μ μ') : Th μ' s ts := ⟨fun t ht => zqd f (h.at_ t ht), h.ok, h.off, h.fb, h.len, h.nm, h.vl, h.kl, h.gd⟩
theorem zy4 (h : Th μ s ts) (hz : z ∈ (ts.map pk).flatMap zae) : Cs.zah z = true := by
  obtain ⟨k, hk, hz⟩ := List.mem_flatMap.mp hz
  obtain ⟨t, ht, rfl⟩ := List.mem_map.mp hk
  exact K05.ztc (zwj (h.ok t ht)) z hz
theorem zz9 : ∀ {l s : List Str} {z : Str}, K05.fr s l = some z → z ∈ l
  | [], _, _, h => by cases h
  | y :: l, s, z, h => by
    unfold K05.fr at h
    split at h
    · cases h
      exact List.mem_cons_self
    · exact List.mem_cons_of_mem _ (zz9 h)
def isSD : Tg → Bool
  | .v _ => false
  | .n _ _ => false
  | _ => true
def Kd (μ : Store) (s : Nat) : Tg → Prop
  | .so k _ => k ≠ s ∧ ∃ ds, μ[k]? = some (some (.lst ds))
  | .dd k _ _ => k ≠ s ∧ ∃ ks ds, μ[k]? = some (some (.dct ks ds))
  | _ => True
theorem Th.kd (h : Th μ s ts) : ∀ t ∈ ts, Kd μ s t := fun t ht => by
  have a := h.at_ t ht
  have o := h.off t ht
  cases t with
  | so k is => exact ⟨o, _, a⟩
  | dd k zs is => exact ⟨o, _, _, a⟩
  | _ => trivial
theorem kd_l (hk : μ[k]? = some (some (.lst ds))) (h : Kd μ s t) : Kd (μ.set k (some (.lst []))) s t := by
  have kl := (List.getElem?_eq_some_iff.mp hk).1
  cases t with
  | so j is =>
    obtain ⟨o, ds', e⟩ := h
    refine ⟨o, ?_⟩
    by_cases q : k = j
    · subst q
      exact ⟨[], List.getElem?_set_self kl⟩
    · exact ⟨ds', by rw [List.getElem?_set_ne q]; exact e⟩
  | dd j zs is =>
    obtain ⟨o, ks', ds', e⟩ := h
    refine ⟨o, ?_⟩
    by_cases q : k = j
    · subst q
      rw [hk] at e
      cases e
    · exact ⟨ks', ds', by rw [List.getElem?_set_ne q]; exact e⟩
  | _ => trivial
theorem kd_d {ks : List Key} (hk : μ[k]? = some (some (.dct ks ds))) (h : Kd μ s t) : Kd (μ.set k (some (.dct [] []))) s t := by
  have kl := (List.getElem?_eq_some_iff.mp hk).1
  cases t with
  | so j is =>
    obtain ⟨o, ds', e⟩ := h
    refine ⟨o, ?_⟩
    by_cases q : k = j
    · subst q
      rw [hk] at e
      cases e
    · exact ⟨ds', by rw [List.getElem?_set_ne q]; exact e⟩
  | dd j zs is =>
    obtain ⟨o, ks', ds', e⟩ := h
    refine ⟨o, ?_⟩
    by_cases q : k = j
    · subst q
      exact ⟨[], [], List.getElem?_set_self kl⟩
    · exact ⟨ks', ds', by rw [List.getElem?_set_ne q]; exact e⟩
  | _ => trivial
theorem ei_l {o : ME} (ho : o ρ μ = .ok (.own k) μ) (hk : μ[k]? = some (some (.lst ds))) : mEi (mBm "list" zil o mNil) (mBm "dict" zhx o mNil) ρ μ = .ok .non (μ.set k (some (.lst []))) := by
  have e : mBm "list" zil o mNil ρ μ = .ok .non (μ.set k (some (.lst []))) := by
    unfold mBm
    rw [ho]
    simp [Res.bind, mNil, zcj hk, zil, zgo hk]
  unfold mEi
  rw [e]
theorem ei_d {o : ME} {ks : List Key} (ho : o ρ μ = .ok (.own k) μ) (hk : μ[k]? = some (some (.dct ks ds))) : mEi (mBm "list" zil o mNil) (mBm "dict" zhx o mNil) ρ μ = .ok .non (μ.set k (some (.dct [] []))) := by
  have e1 : mBm "list" zil o mNil ρ μ = .bad := by
    unfold mBm
    rw [ho]
    simp [Res.bind, mNil, zly hk]
  have e : mBm "dict" zhx o mNil ρ μ = .ok .non (μ.set k (some (.dct [] []))) := by
    unfold mBm
    rw [ho]
    simp [Res.bind, mNil, zly hk, zhx, zht hk]
  unfold mEi
  rw [e1]
  exact e
theorem zabg (h : Th μ s ts) (hs : St μ s c) (hc : c + 10 ≤ 1000000) (K : ∀ μ', St μ' s (c + 3) → Q (.bl true) μ') : @Rp _ (zow [.own s, .lst (ts.map (tgD false))] μ) Q X := by
  have zl : 1000 ≤ sizeLine := by decide
  have hlen := h.len
  refine zm4 rfl ?_
  simp only [zh1, zao]
  refine rs_go fun N1 hN1 => ?_
  have go : ∀ (b : Bool) (o2 : Option D) (μ1 : Store), Th μ1 s ts → St μ1 s (c + 1) → N1 [some (.own s), some (.lst (ts.map (tgD b))), o2, none, none, none, none, none] μ1 := fun b o2 μ1 h1 st1 => by
    refine hN1 _ _ (rs_go fun N2 hN2 => ?_)
    obtain ⟨g1, g2, g3⟩ := h1.gd b
    obtain ⟨zr, hr⟩ := repr_own g1 g2 g3
    simp [hr μ1 h1.at_, zad1]
    refine zx6 h1.at_ h1.ok (by have := h1.nm; omega) fun μ2 x2 => ?_
    have h2 := h1.ext x2
    have st2 := zfa st1 x2
    refine hN2 _ _ (rs_go fun N3 hN3 => ?_)
    simp
    refine zaa5 ?_
    simp [znr]
    refine zkz (xs := [.lst (ts.map (tgD b)), .tup (ts.map (tgD b))]) st2 (by omega) (fun _ _ => rfl) (by simp) (by simp) fun d μ3 hd st3 fr3 => ?_
    have h3 := h2.fr fr3
    obtain ⟨bb, rfl⟩ : ∃ bb, d = boxD bb (ts.map (tgD b)) := by
      simp only [List.mem_cons, List.not_mem_nil, or_false] at hd
      rcases hd with rfl | rfl
      · exact ⟨false, rfl⟩
      · exact ⟨true, rfl⟩
    rw [zqf]
    have vl' : ((ts.map pk).flatMap valsP).length ≤ 1000000 := by
      rw [← zo9, List.length_map]
      have := h.vl
      omega
    refine zt2 h3.at_ h3.ok h3.fb (by omega) h3.nm vl' (fun z hf μ4 x4 => ?_) fun hf μ4 x4 => ?_
    · have nz := zy4 h (zz9 hf)
      refine ⟨z, rfl, ?_, ?_⟩
      · unfold Cs.zah at nz
        simp only [Bool.and_eq_true, decide_eq_true_eq] at nz
        omega
      · have h4 := h3.ext x4
        have st4 := zfa st3 x4
        refine hN3 _ _ (rs_go fun N4 hN4 => ?_)
        simp [hr μ4 h4.at_]
        refine hN4 _ _ (rs_go fun N5 hN5 => ?_)
        have iss : ∀ {Q : D → Store → Prop} {X : Exc → Store → Prop} {μ : Store} {z : Str}, @Rp _ (fIsS (.ty "str") (.str z) μ) Q X = Q (.bl true) μ := rfl
        have zl6 : z.length ≤ 6 := by
          unfold Cs.zah at nz
          simp only [Bool.and_eq_true, decide_eq_true_eq] at nz
          omega
        simp [hf, K05.optS, iss, len6]
        refine ⟨by omega, K _ (st4.le (by omega))⟩
    · have h4 := h3.ext x4
      have st4 := zfa st3 x4
      refine hN3 _ _ (rs_go fun N4 hN4 => ?_)
      simp [hr μ4 h4.at_]
      refine hN4 _ _ (rs_go fun N5 hN5 => ?_)
      simp [hf, K05.optS]
      refine hN5 _ _ (rs_go fun N6 hN6 => ?_)
      simp
      have nd : ((ts.flatMap kS).map (·.1)).Nodup := (zix h.ok).nodup_iff.mp (K05.zmb hf).1
      have hvl := h.vl
      have hkl := h.kl
      refine zact h4.at_ h4.ok nd (by omega) (by omega) (by omega) fun μ5 x5 => ?_
      have h5 := h4.ext x5
      have st5 := zfa st4 x5
      have ek1 : ((ts.flatMap kS).map fun p => (Sum.inr p.1 : Key)) = ((ts.flatMap kS).map (·.1)).map Sum.inr := by rw [List.map_map]; rfl
      have ek2 : ((ts.flatMap kS).map fun p => D.int p.2) = ((ts.flatMap kS).map (·.2)).map D.int := by rw [List.map_map]; rfl
      rw [ek1, ek2]
      have hzn : ∀ z ∈ (ts.flatMap kS).map (·.1), Cs.zah z = true := fun z hz => zy4 h ((zix h.ok).mem_iff.mpr hz)
      have hvv : ∀ i ∈ ts.flatMap vS, val i := fun i hi => by
        obtain ⟨t, ht, hi⟩ := List.mem_flatMap.mp hi
        have o := h.ok t ht
        cases t with
        | v j => rw [List.mem_singleton.mp hi]; exact o
        | sf =>
          simp [vS] at hi
          rcases hi with rfl | rfl <;> (unfold val; omega)
        | so k is => exact o.2 i hi
        | n z j => cases hi
        | dd k zs is => cases hi
      have hkv : ∀ i ∈ (ts.flatMap kS).map (·.2), val i := fun i hi => by
        obtain ⟨p, hp, rfl⟩ := List.mem_map.mp hi
        obtain ⟨t, ht, hp⟩ := List.mem_flatMap.mp hp
        have o := h.ok t ht
        cases t with
        | n z j => rw [List.mem_singleton.mp hp]; exact o.2
        | dd k zs is => exact o.2.2.2.2 p.2 (List.of_mem_zip (show (p.1, p.2) ∈ zs.zip is from hp)).2
        | v j => cases hp
        | sf => cases hp
        | so k is => cases hp
      have hzl : ((ts.flatMap kS).map (·.1)).length = ((ts.flatMap kS).map (·.2)).length := by rw [List.length_map, List.length_map]
      have h64 : ((ts.flatMap kS).map (·.1)).length < 64 := by rw [← (zix h.ok).length_eq]; exact h.nm
      generalize (ts.flatMap kS).map (·.1) = zs at nd hzn hzl h64 ⊢
      generalize (ts.flatMap kS).map (·.2) = is at hkv hzl ⊢
      generalize ts.flatMap vS = vs at hvv hvl ⊢
      have ic : ∀ {Q : D → Store → Prop} {X : Exc → Store → Prop} {μ : Store} {a : List D} {b : List Str} {c : List D}, @Rp _ (fIsS (.cls "Call") (callD a b c) μ) Q X = Q (.bl true) μ := rfl
      have of_ : ∀ {Q : D → Store → Prop} {X : Exc → Store → Prop} {μ : Store}, (∀ μ', Ext μ μ' → Q (callD (vs.map .int) zs (is.map .int)) μ') → @Rp _ (K05.zbq [.cls "Call", .lst (vs.map .int), .dct (zs.map Sum.inr) (is.map .int)] μ) Q X := fun {Q X μ} k =>
        ztb (ze9 hvv) (by rw [List.length_map]; omega) (List.all_eq_true.mpr hzn) (ze9 hkv) (by rw [List.length_map]; exact hzl) nd h64 k
      simp
      refine hN6 _ _ (rs_go fun N7 hN7 => ?_)
      simp [ic, e_of]
      refine of_ fun μ6 x6 => ?_
      have h6 := h5.ext x6
      have st6 := zfa st5 x6
      rw [zn4 hzl nd]
      have oc : ∀ {μ : Store}, objOf μ (callD (vs.map D.int) zs (is.map D.int)) = some ("Call", [("kept_given" : Str), "kept_named"], [D.tup (vs.map D.int), D.dct (ascK zs) (ascV zs (is.map D.int))]) := rfl
      obtain ⟨sn, hsn⟩ := zxm (μ := μ6) (vs := vs) hzl nd
      simp [oc, hsn]
      refine hN7 _ _ (rs_go fun N8 hN8 => ?_)
      simp [zqf]
      refine zacb hvv hzn hkv hzl nd h64 hvl fun μ7 x7 => ?_
      have h7 := h6.ext x7
      have st7 := zfa st6 x7
      rw [zn4 hzl nd]
      simp
      refine hN8 _ _ (rs_go fun N9 hN9 => ?_)
      have done : ∀ (o : Option D) (μ8 : Store), St μ8 s (c + 3) → N9 [some (.own s), some (.lst (ts.map (tgD b))), o, some (.str zr), some .non, some (callD (vs.map D.int) zs (is.map D.int)), some (.lst (vs.map D.int)), some (.dct (zs.map Sum.inr) (is.map D.int))] μ8 := fun o μ8 st8 => by
        refine hN9 _ _ ?_
        simp [e_of]
        refine of_ fun μ9 x9 => ?_
        rw [zady hzl nd]
        exact K μ9 (zfa st8 x9)
      rw [rs_for]
      simp
      refine zyh (f := tgD b) (l := ts) isSD (tgD b) (by omega) (fun t ht => ?_) ?_
      · refine ⟨_, rfl, ok_of ?_, fun _ => ok_of ?_⟩
        · have he0 := zni (b := b) (t := t)
          generalize tgD b t = d at he0 ⊢
          cases t with
          | v i =>
            have he : elems d = some [.str "value", .int i] := he0
            simp [wipeD, K05.ix_el he]
            rfl
          | sf =>
            have he : elems d = some [.str "star", .tup [.int 1, .int 2]] := he0
            simp [wipeD, K05.ix_el he]
            rfl
          | so k is =>
            have he : elems d = some [.str "star", .own k] := he0
            simp [wipeD, K05.ix_el he]
            rfl
          | n z i =>
            have he : elems d = some [.str "name", .str z, .int i] := he0
            simp [wipeD, K05.ix_el he]
            rfl
          | dd k zs is =>
            have he : elems d = some [.str "double", .own k] := he0
            simp [wipeD, K05.ix_el he]
            rfl
        · simp [wipeD]
      refine zd9 (tgD b) (fun pre ρ μ' => (∃ o, ρ = [some (.own s), some (.lst (ts.map (tgD b))), o, some (.str zr), some .non, some (callD (vs.map D.int) zs (is.map D.int)), some (.lst (vs.map D.int)), some (.dct (zs.map Sum.inr) (is.map D.int))]) ∧ (∀ t ∈ ts, Kd μ' s t) ∧ St μ' s (c + 3)) ⟨⟨_, rfl⟩, h7.kd, st7.le (by omega)⟩ (fun _ _ _ _ => Pl.zbo) ?_ ?_
      · rintro pre t post ρ μ8 e ⟨⟨o, rfl⟩, kd, st8⟩
        have tm : t ∈ ts := (List.mem_filter.mp (show t ∈ ts.filter isSD by rw [e]; simp)).1
        have tp : isSD t = true := (List.mem_filter.mp (show t ∈ ts.filter isSD by rw [e]; simp)).2
        have kt := kd t tm
        have he0 := zni (b := b) (t := t)
        generalize tgD b t = d at he0 ⊢
        cases t with
        | v i => cases tp
        | n z i => cases tp
        | sf =>
          have he : elems d = some [.str "star", .tup [.int 1, .int 2]] := he0
          have il : ∀ {Q : D → Store → Prop} {X : Exc → Store → Prop} {μ : Store}, @Rp _ (fIsL [.ty "list", .ty "dict"] (.tup [.int 1, .int 2]) μ) Q X = Q (.bl false) μ := rfl
          simp [K05.ix_el he, il]
          exact ⟨kd, st8⟩
        | so k is =>
          obtain ⟨ko, ds, hk⟩ := kt
          have he : elems d = some [.str "star", .own k] := he0
          have il : fIsL [.ty "list", .ty "dict"] (.own k) μ8 = .ok (.bl true) μ8 := by
            have h1 := tn_l hk
            unfold fIsL zfk
            rw [h1]
            rfl
          simp only [rg_name]
          simp [K05.ix_el he, il]
          rw [ei_l (k := k) (ok_of (by simp [K05.ix_el he])) hk]
          exact ⟨fun u hu => kd_l hk (kd u hu), st8.put ko⟩
        | dd k zs is =>
          obtain ⟨ko, ks, ds, hk⟩ := kt
          have he : elems d = some [.str "double", .own k] := he0
          have il : fIsL [.ty "list", .ty "dict"] (.own k) μ8 = .ok (.bl true) μ8 := by
            have h1 := tn_d hk
            unfold fIsL zfk
            rw [h1]
            rfl
          simp only [rg_name]
          simp [K05.ix_el he, il]
          rw [ei_d (k := k) (ok_of (by simp [K05.ix_el he])) hk]
          exact ⟨fun u hu => kd_d hk (kd u hu), st8.put ko⟩
      · rintro ρ μ8 ⟨⟨o, rfl⟩, kd, st8⟩
        exact done o μ8 st8
  simp [zlm]
  refine zf2 hs (by omega) (by decide) (by decide) fun r μ1 r0 r1 st1 fr1 => ?_
  have h1 := h.fr fr1
  by_cases rz : r = 0
  · simp [rz]
    refine zve (l := ts) (f := tgD false) (tgD true) (by omega) (fun t ht => ⟨_, rfl, ok_of ?_⟩) ?_
    · simp [wipeD, tgD]
    · exact go true _ μ1 h1 st1
  · simp [rz]
    exact go false _ μ1 h1 st1
end
end K04
namespace K04
open PySem PySem.Spec L2 Mi Pl
open K05 (elems zal isBad zbl rk fb rkL zd1 zae valsP kvP fr repeated callD)
theorem zaac : K04.zge = Pl.zl7 := rfl
section
variable {Q : D → Store → Prop} {X : Exc → Store → Prop} {P : Post} {ρ : Mi.Env} {μ μ' μ0 : Store} {d x : D} {ds es : List D} {t : Tg} {b bb : Bool} {ts : List Tg} {k s c n f r m : Nat} {zs : List Str} {vs is : List Int} {z : Str}
theorem zwu : ∀ {a : List K05.PK} {k : K05.PK} {r i : Nat}, fb r i a = none → isBad k = false → max r (rkL a) ≤ zbl k → fb r i (a ++ [k]) = none
  | [], k, r, i, _, hb, hl => by
    rw [List.nil_append, fb]
    rw [if_neg (by rw [hb]; simp; have : max r (rkL []) = r := by simp [rkL]
                   omega)]
    rfl
  | k' :: a, k, r, i, h, hb, hl => by
    rw [fb] at h
    rw [List.cons_append, fb]
    split at h
    · cases h
    · next hh =>
      rw [if_neg hh]
      exact zwu h hb (by rw [show max r (rkL (k' :: a)) = max (max r (rk k')) (rkL a) by simp only [rkL]; omega] at hl; exact hl)
structure Pt (μ : Store) (s f : Nat) (ts : List Tg) (r n : Nat) : Prop where
  cell : μ[f]? = some (some (.lst (ts.map (tgD false))))
  fs : f ≠ s
  at_ : ∀ t ∈ ts, TgAt μ t
  ok : ∀ t ∈ ts, TgOk t
  offs : ∀ t ∈ ts, Off s t
  offf : ∀ t ∈ ts, Off f t
  fb : K05.fb 0 0 (ts.map pk) = none
  rk : rkL (ts.map pk) ≤ r
  len : ts.length ≤ n
theorem zsn {y : Option Cell} (h : TgAt μ t) (o : Off f t) : TgAt (μ.set f y) t := by
  cases t with
  | so k is => exact (List.getElem?_set_ne (Ne.symm o)).trans h
  | dd k zs is => exact (List.getElem?_set_ne (Ne.symm o)).trans h
  | _ => trivial
theorem Pt.fr (h : Pt μ s f ts r n) (e : Fr s μ μ') : Pt μ' s f ts r n := by
  refine ⟨e.keep h.cell h.fs, h.fs, fun t ht => ?_, h.ok, h.offs, h.offf, h.fb, h.rk, h.len⟩
  have a := h.at_ t ht
  have o := h.offs t ht
  cases t with
  | so k is => exact e.keep a o
  | dd k zs is => exact e.keep a o
  | _ => trivial
theorem Pt.ext (h : Pt μ s f ts r n) (e : Ext μ μ') : Pt μ' s f ts r n := ⟨e.at_ h.cell, h.fs, fun t ht => zqd e (h.at_ t ht), h.ok, h.offs, h.offf, h.fb, h.rk, h.len⟩
theorem Pt.le {r' n' : Nat} (h : Pt μ s f ts r n) (l1 : r ≤ r') (l2 : n ≤ n') : Pt μ s f ts r' n' := ⟨h.cell, h.fs, h.at_, h.ok, h.offs, h.offf, h.fb, Nat.le_trans h.rk l1, Nat.le_trans h.len l2⟩
theorem Pt.add (h : Pt μ s f ts r n) (a : TgAt μ t) (o : TgOk t) (os : Off s t) (of : Off f t) (nb : isBad (pk t) = false) (l : r ≤ zbl (pk t)) (r' : Nat) (hr : r ≤ r') (hk : K05.rk (pk t) ≤ r') : Pt (μ.set f (some (.lst (ts.map (tgD false) ++ [tgD false t])))) s f (ts ++ [t]) r' (n + 1) := by
  have fl := (List.getElem?_eq_some_iff.mp h.cell).1
  have sp : ∀ {p : Tg → Prop}, (∀ u ∈ ts, p u) → p t → ∀ u ∈ ts ++ [t], p u := fun h1 h2 u hu => (List.mem_append.mp hu).elim (h1 u) fun q => by rw [List.mem_singleton.mp q]; exact h2
  refine ⟨?_, h.fs, sp (fun u hu => zsn (h.at_ u hu) (h.offf u hu)) (zsn a of), sp h.ok o, sp h.offs os, sp h.offf of, ?_, ?_, ?_⟩
  · rw [List.getElem?_set_self fl, List.map_append]; rfl
  · rw [List.map_append]
    exact zwu h.fb nb (by have := h.rk; omega)
  · rw [List.map_append, zd1]
    have := h.rk
    show max _ (max (K05.rk (pk t)) 0) ≤ r'
    omega
  · rw [List.length_append]
    have := h.len
    show _ + 1 ≤ n + 1
    omega
end
end K04
namespace K04
open PySem PySem.Spec L2 Mi Pl
open K05 (elems zal isBad zbl fb rkL zd1 zae valsP kvP fr repeated callD)
section
variable {Q : D → Store → Prop} {X : Exc → Store → Prop} {P : Post} {ρ : Mi.Env} {μ μ' μ0 : Store} {d x : D} {ds es : List D} {t : Tg} {b bb : Bool} {ts : List Tg} {k s c n f r m : Nat} {zs : List Str} {vs is : List Int} {z : Str}
theorem zacf {ρ : Mi.Env} {L : List D → Store → Prop} (hρ : ∀ i : Nat, ∃ ρ2, zbk 7 (.int i) ρ = some ρ2 ∧ ρ2[0]? = some (some (.own s))) (hn : n ≤ 10) (h : Pt μ s f ts r m) (hs : St μ s c) (hc : c + n + 10 ≤ 1000000)
    (K : ∀ (is : List Int) μ', is.length = n → (∀ i ∈ is, val i) → Pt μ' s f ts r m → St μ' s (c + n) → L (is.map D.int) μ') :
    @Rp _ (lcA [] μ0 (zbk 7) mYes (mCall za3 (mCons (mVar 0) (mCons (mC (.int 9)) mNil))) ρ (zce 0 n) [] μ) L X := by
  have zl : 1000 ≤ sizeLine := by decide
  refine ztp (fun pre acc μ' => ∃ is : List Int, acc = is.map D.int ∧ is.length = pre.length ∧ (∀ i ∈ is, val i) ∧ Pt μ' s f ts r m ∧ St μ' s (c + pre.length)) (by rw [ze3, List.length_map, List.length_range]; omega) ⟨[], rfl, rfl, fun _ h => (by cases h), h, hs⟩ (fun _ _ _ _ _ z => by cases z) (fun pre acc μ' ⟨is, e1, e2, _⟩ => by rw [e1, List.length_map, e2]; exact Nat.le_refl _) (fun pre d post acc μ' e ⟨is, e1, e2, ok, h1, st1⟩ => ?_) fun acc μ' ⟨is, e1, e2, ok, h1, st1⟩ => ?_
  · have ln : pre.length < n := by
      have := congrArg List.length e
      rw [ze3, List.length_map, List.length_range, List.length_append, List.length_cons] at this
      omega
    have hd : d = .int pre.length := by
      have h1 : (zce 0 n)[pre.length]? = some d := by rw [e]; simp
      rw [ze3, List.getElem?_map, List.getElem?_range ln] at h1
      simpa using h1.symm
    subst hd
    obtain ⟨ρ2, g1, g2⟩ := hρ pre.length
    refine ⟨ρ2, g1, ?_⟩
    simp [g2, zlm]
    refine zf2 st1 (by omega) (by decide) (by decide) fun i μ2 i0 i1 st2 fr2 => ?_
    refine ⟨is ++ [i], by rw [e1, List.map_append]; rfl, by simp [e2], fun j hj => ?_, h1.fr fr2, st2⟩
    rcases List.mem_append.mp hj with hj | hj
    · exact ok j hj
    · rw [List.mem_singleton.mp hj]
      unfold val
      omega
  · rw [ze3, List.length_map, List.length_range] at e2 st1
    rw [e1]
    exact K is μ' e2 ok h1 st1
def bodyA : MS := (mSeq (mSet 6 (mLst false (mCons (mTup (mCons (mC (.str "star")) (mCons (mLc true (zew (mCons (mCall za3 (mCons (mVar 0) (mCons (mC (.int 3)) mNil))) mNil)) (zbk 7) mYes (mCall za3 (mCons (mVar 0) (mCons (mC (.int 9)) mNil))) [7]) mNil))) (mCons (mTup (mCons (mC (.str "star")) (mCons (mTup (mCons (mC (.int 1)) (mCons (mC (.int 2)) mNil))) mNil))) mNil))))
  (mDrop (mBm "list" zbc (mVar 3) (mCons (mCall zex (mCons (mVar 0) (mCons (mOp (fAdd false) (mLst false (mCons (mTup (mCons (mC (.str "value")) (mCons (mCall za3 (mCons (mVar 0) (mCons (mC (.int 1000)) mNil))) mNil))) (mCons (mTup (mCons (mC (.str "value")) (mCons (mVar 5) mNil))) mNil))) (mVar 6)) mNil))) mNil))))
def bodyB : MS := (mDrop (mBm "list" zbc (mVar 3) (mCons (mCall zex (mCons (mVar 0) (mCons (mLst false (mCons (mTup (mCons (mC (.str "name")) (mCons (mOp fIx (mVar 4) (mVar 5)) (mCons (mC (.int 3)) mNil)))) (mCons (mTup (mCons (mC (.str "star")) (mCons (mLst true (mCons (mVar 5) mNil)) mNil))) (mCons (mTup (mCons (mC (.str "name")) (mCons (mOp fIx (mVar 4) (mC (.int 0))) (mCons (mC (.int 999)) mNil)))) mNil)))) mNil))) mNil)))
def bodyC : MS := (mSeq (mSet 8 (mCb (zll true) (mCons (mLc false (miAny (mSl false (mVar 4) (zgb (mOp (fAdd false) (mVar 5) (mC (.int 2)))) (zgb (mOp (fAdd false) (mOp (fAdd false) (mVar 5) (mC (.int 2))) (mCall za3 (mCons (mVar 0) (mCons (mC (.int 3)) mNil))))))) (zbk 9) mYes (mTup (mCons (mVar 9) (mCons (mCall za3 (mCons (mVar 0) (mCons (mC (.int 9)) mNil))) mNil))) [9]) mNil)))
  (mDrop (mBm "list" zbc (mVar 3) (mCons (mCall zex (mCons (mVar 0) (mCons (mLst false (mCons (mTup (mCons (mC (.str "double")) (mCons (mVar 8) mNil))) (mCons (mTup (mCons (mC (.str "double")) (mCons (mDNew true) mNil))) (mCons (mTup (mCons (mC (.str "name")) (mCons (mOp fIx (mVar 4) (mOp (fAdd false) (mVar 5) (mC (.int 3)))) (mCons (mC (.int 5)) mNil)))) mNil)))) mNil))) mNil))))
def bodyD : MS := (mSeq (mSet 10 (mCall za3 (mCons (mVar 0) (mCons (mOp (fAdd false) (mCb fLen (mCons (mVar 3) mNil)) (mC (.int 1))) mNil))))
  (mSeq (mSet 6 (mLc false (zgc (mCons (mVar 3) mNil)) (zp3 7 11) (mB (mOp (fEq false) (mOp fIx (mVar 11) (mC (.int 0))) (mC (.str "double")))) (mVar 7) [7, 11]))
  (mIfS (mAnd (mB (mOp (fEq false) (mCall za3 (mCons (mVar 0) (mCons (mC (.int 2)) mNil))) (mC (.int 0)))) (mOr (mB (mOp (fEq false) (mVar 6) (mLst false mNil))) (mB (mOp (fI2 fun i j => .bl (decide (i ≤ j))) (mVar 10) (mOp fIx (mVar 6) (mC (.int 0))))))) (mDrop (mBm "list" zoa (mVar 3) (mCons (mVar 10) (mCons (mTup (mCons (mC (.str "star")) mNil)) mNil)))) (mDrop (mBm "list" zbc (mVar 3) (mCons (mTup (mCons (mC (.str "double")) mNil)) mNil))))))
abbrev env (s f : Nat) (o1 o2 o4 o5 o6 o7 o8 o9 o10 o11 : Option D) : Mi.Env := [some (.own s), o1, o2, some (.own f), o4, o5, o6, o7, o8, o9, o10, o11]
theorem lapA {P : Post} {n j : Nat} {o1 o2 o4 o6 o7 o8 o9 o10 o11 : Option D} (h : Pt μ s f ts 0 m) (hm : m ≤ 100) (hs : St μ s c) (hc : c + 30 ≤ 1000000) (hj : j < 4)
    (K : ∀ o6 ts' μ', Pt μ' s f ts' 0 (m + 1) → St μ' s (c + 6) → P.N (env s f o1 o2 o4 (some (.int j)) o6 o7 o8 o9 o10 o11) μ') :
    @RpS (bodyA n (env s f o1 o2 o4 (some (.int j)) o6 o7 o8 o9 o10 o11) μ) P := by
  have zl : 1000 ≤ sizeLine := by decide
  simp only [bodyA, env]
  refine rs_go fun N hN => ?_
  rw [rs_set]
  simp [wipeD, zlm]
  refine zf2 hs (by omega) (by decide) (by decide) fun a μ1 a0 a1 st1 fr1 => ?_
  have p1 := h.fr fr1
  simp
  refine ⟨by omega, zacf (fun i => ⟨_, rfl, rfl⟩) (by omega) p1 st1 (by omega) fun is μ2 li vi p2 st2 => ?_⟩
  replace st2 := st2.le (show _ ≤ c + 3 by omega)
  have sl := st2.lt
  have p3 := p2.ext (Ext.new (x := some (.lst (is.map .int))))
  have st3 := zfa st2 (Ext.new (x := some (.lst (is.map .int))))
  have at3 : TgAt (μ2 ++ [some (Cell.lst (is.map .int))]) (.so μ2.length is) := by simp [TgAt]
  have fl := (List.getElem?_eq_some_iff.mp p2.cell).1
  generalize hk : μ2.length = k at *
  generalize μ2 ++ [some (Cell.lst (is.map .int))] = μ3 at *
  refine hN _ _ ?_
  simp [zlm, znr, zcj p3.cell]
  refine zf2 st3 (by omega) (by decide) (by decide) fun v μ4 v0 v1 st4 fr4 => ?_
  have p4 := p3.fr fr4
  have at4 : TgAt μ4 (.so k is) := fr4.keep at3 (by omega)
  have lt := p4.len
  refine zkz (xs := [tgD false (.v v), tgD false (.v j), tgD false (.so k is), tgD false .sf]) st4 (by omega) (fun _ _ => rfl) (by simp) (by simp) fun d μ5 hd st5 fr5 => ?_
  have p5 := p4.fr fr5
  have at5 : TgAt μ5 (.so k is) := fr5.keep at4 (by omega)
  rw [zep p5.cell]
  rw [List.length_map]
  refine ⟨by omega, ?_⟩
  have fs := p5.fs
  have st6 : ∀ {y : Option Cell}, St (μ5.set f y) s (c + 6) := fun {y} => (st5.put fs).le (by omega)
  simp only [List.mem_cons, List.not_mem_nil, or_false] at hd
  rcases hd with rfl | rfl | rfl | rfl
  · exact K _ _ _ (p5.add (t := .v v) trivial (show 0 ≤ v ∧ v ≤ 999 by omega) trivial trivial rfl (Nat.zero_le _) 0 (Nat.le_refl _) (Nat.le_refl _)) st6
  · exact K _ _ _ (p5.add (t := .v j) trivial (show 0 ≤ (j : Int) ∧ (j : Int) ≤ 999 by omega) trivial trivial rfl (Nat.zero_le _) 0 (Nat.le_refl _) (Nat.le_refl _)) st6
  · exact K _ _ _ (p5.add (t := .so k is) at5 ⟨by omega, vi⟩ (show k ≠ s by omega) (show k ≠ f by omega) rfl (Nat.zero_le _) 0 (Nat.le_refl _) (Nat.le_refl _)) st6
  · exact K _ _ _ (p5.add (t := .sf) trivial trivial trivial trivial rfl (Nat.zero_le _) 0 (Nat.le_refl _) (Nat.le_refl _)) st6
theorem ixS {ws : List Str} {j : Nat} (hj : j < ws.length) : @Rp _ (fIx (.lst (ws.map .str)) (.int j) μ) Q X = Q (.str ws[j]) μ := by
  rw [f_ixL (rfl : seqL μ (.lst (ws.map .str)) = some (ws.map .str))]
  have : atI (ws.map D.str) (j : Int) = some (.str ws[j]) := by
    unfold atI ixN
    rw [if_pos (by omega), if_pos (by rw [List.length_map]; omega)]
    simp [hj]
  rw [this]
theorem lapB {P : Post} {n j : Nat} {ws : List Str} {o1 o2 o6 o7 o8 o9 o10 o11 : Option D} (h : Pt μ s f ts 1 m) (hm : m ≤ 100) (hs : St μ s c) (hc : c + 30 ≤ 1000000) (hj : j < 2) (lw : ws.length = 6) (wn : ∀ z ∈ ws, Cs.zah z = true)
    (K : ∀ ts' μ', Pt μ' s f ts' 1 (m + 1) → St μ' s (c + 1) → P.N (env s f o1 o2 (some (.lst (ws.map .str))) (some (.int j)) o6 o7 o8 o9 o10 o11) μ') :
    @RpS (bodyB n (env s f o1 o2 (some (.lst (ws.map .str))) (some (.int j)) o6 o7 o8 o9 o10 o11) μ) P := by
  have zl : 1000 ≤ sizeLine := by decide
  have e1 : ∀ {Q : D → Store → Prop} {X : Exc → Store → Prop} {μ : Store}, @Rp _ (fIx (.lst (ws.map .str)) (.int j) μ) Q X = Q (.str (ws[j]'(by omega))) μ := ixS (by omega)
  have e0 : ∀ {Q : D → Store → Prop} {X : Exc → Store → Prop} {μ : Store}, @Rp _ (fIx (.lst (ws.map .str)) (.int 0) μ) Q X = Q (.str (ws[0]'(by omega))) μ := fun {Q X μ} => ixS (j := 0) (by omega)
  simp only [bodyB, env]
  simp [znr, zcj h.cell, e1, e0]
  have sl := hs.lt
  have fl := (List.getElem?_eq_some_iff.mp h.cell).1
  have p1 := h.ext (Ext.new (x := some (.lst [.int j])))
  have st1 := zfa hs (Ext.new (x := some (.lst [.int j])))
  have at1 : TgAt (μ ++ [some (Cell.lst [.int j])]) (.so μ.length [(j : Int)]) := by simp [TgAt]
  have lt := h.len
  generalize hk : μ.length = k at *
  generalize μ ++ [some (Cell.lst [.int (j : Int)])] = μ3 at *
  have n1 := wn _ (List.getElem_mem (show j < ws.length by omega))
  have n0 := wn _ (List.getElem_mem (show 0 < ws.length by omega))
  generalize ws[j] = z1 at n1 ⊢
  generalize ws[0] = z0 at n0 ⊢
  refine zkz (xs := [tgD false (.n z1 3), tgD false (.so k [(j : Int)]), tgD false (.n z0 999)]) st1 (by omega) (fun _ _ => rfl) (by simp) (by simp) fun d μ5 hd st5 fr5 => ?_
  have p5 := p1.fr fr5
  have at5 : TgAt μ5 (.so k [(j : Int)]) := fr5.keep at1 (by omega)
  rw [zep p5.cell]
  rw [List.length_map]
  refine ⟨by omega, ?_⟩
  have fs := p5.fs
  have st6 : ∀ {y : Option Cell}, St (μ5.set f y) s (c + 1) := fun {y} => st5.put fs
  simp only [List.mem_cons, List.not_mem_nil, or_false] at hd
  rcases hd with rfl | rfl | rfl
  · exact K _ _ (p5.add (t := .n z1 3) trivial ⟨n1, by unfold val; omega⟩ trivial trivial rfl (show 1 ≤ 2 by omega) 1 (Nat.le_refl _) (Nat.le_refl _)) st6
  · refine K _ _ (p5.add (t := .so k [(j : Int)]) at5 ⟨by simp, fun i hi => ?_⟩ (show k ≠ s by omega) (show k ≠ f by omega) rfl (Nat.le_refl _) 1 (Nat.le_refl _) (Nat.zero_le _)) st6
    rw [List.mem_singleton.mp hi]
    unfold val
    omega
  · exact K _ _ (p5.add (t := .n z0 999) trivial ⟨n0, by unfold val; omega⟩ trivial trivial rfl (show 1 ≤ 2 by omega) 1 (Nat.le_refl _) (Nat.le_refl _)) st6
theorem zabq {ρ : Mi.Env} {L : List D → Store → Prop} {l : List Str} (hρ : ∀ z : Str, ∃ ρ2, zbk 9 (.str z) ρ = some ρ2 ∧ ρ2[0]? = some (some (.own s)) ∧ ρ2[9]? = some (some (.str z))) (hn : l.length ≤ 10) (h : Pt μ s f ts r m) (hs : St μ s c) (hc : c + l.length + 10 ≤ 1000000)
    (K : ∀ (is : List Int) μ', l.length = is.length → (∀ i ∈ is, val i) → Pt μ' s f ts r m → St μ' s (c + l.length) → L ((l.zip is).map fun p => .tup [.str p.1, .int p.2]) μ') :
    @Rp _ (lcA [] μ0 (zbk 9) mYes (mTup (mCons (mVar 9) (mCons (mCall zlb (mCons (mVar 0) (mCons (mC (.int 9)) mNil))) mNil))) ρ (l.map .str) [] μ) L X := by
  have zl : 1000 ≤ sizeLine := by decide
  refine ztp (fun pre acc μ' => ∃ (ps : List Str) (is : List Int), pre = ps.map .str ∧ acc = ((ps.zip is).map fun p => .tup [.str p.1, .int p.2]) ∧ is.length = ps.length ∧ (∀ i ∈ is, val i) ∧ Pt μ' s f ts r m ∧ St μ' s (c + pre.length)) (by rw [List.length_map]; omega) ⟨[], [], rfl, rfl, rfl, fun _ h => (by cases h), h, hs⟩ (fun _ _ _ _ _ z => by cases z) (fun pre acc μ' ⟨ps, is, e1, e2, e3, _⟩ => by rw [e1, e2, List.length_map, List.length_map, List.length_zip]; omega) (fun pre d post acc μ' e ⟨ps, is, e1, e2, e3, ok, h1, st1⟩ => ?_) fun acc μ' ⟨ps, is, e1, e2, e3, ok, h1, st1⟩ => ?_
  · have ln : pre.length < l.length := by
      have := congrArg List.length e
      rw [List.length_map, List.length_append, List.length_cons] at this
      omega
    have dm : d ∈ l.map D.str := by rw [e]; simp
    obtain ⟨z, _, rfl⟩ := List.mem_map.mp dm
    obtain ⟨ρ2, g1, g2, g3⟩ := hρ z
    refine ⟨ρ2, g1, ?_⟩
    simp [g2, g3]
    refine zf2 st1 (by omega) (by decide) (by decide) fun i μ2 i0 i1 st2 fr2 => ?_
    refine ⟨ps ++ [z], by rw [e1, List.map_append]; rfl, is ++ [i], by rw [e2, List.zip_append e3.symm, List.map_append]; rfl, by simp [e3], fun j hj => ?_, h1.fr fr2, st2⟩
    rcases List.mem_append.mp hj with hj | hj
    · exact ok j hj
    · rw [List.mem_singleton.mp hj]
      unfold val
      omega
  · have ep : l = ps := List.map_inj_right (fun a b h => by cases h; rfl) |>.mp e1
    subst ep
    rw [List.length_map] at st1
    rw [e2]
    exact K is μ' e3.symm ok h1 st1
theorem lapC {P : Post} {n j : Nat} {ws : List Str} {o1 o2 o6 o7 o8 o9 o10 o11 : Option D} (h : Pt μ s f ts 2 m) (hm : m ≤ 100) (hs : St μ s c) (hc : c + 30 ≤ 1000000) (hj : j < 2) (lw : ws.length = 6) (wn : ∀ z ∈ ws, Cs.zah z = true) (nd : ws.Nodup)
    (K : ∀ o8 ts' μ', Pt μ' s f ts' 2 (m + 1) → St μ' s (c + 5) → P.N (env s f o1 o2 (some (.lst (ws.map .str))) (some (.int j)) o6 o7 o8 o9 o10 o11) μ') :
    @RpS (bodyC n (env s f o1 o2 (some (.lst (ws.map .str))) (some (.int j)) o6 o7 o8 o9 o10 o11) μ) P := by
  have zl : 1000 ≤ sizeLine := by decide
  have e1 : atI (ws.map D.str) ((j : Int) + 3) = some (.str (ws[j + 3]'(by omega))) := by
    unfold atI ixN
    rw [if_pos (by omega), if_pos (by rw [List.length_map]; omega), show ((j : Int) + 3).toNat = j + 3 by omega]
    simp [show j + 3 < ws.length by omega]
  simp only [bodyC, env]
  refine rs_go fun N hN => ?_
  simp [wipeD, zlm]
  refine zf2 hs (by omega) (by decide) (by decide) fun a μ1 a0 a1 st1 fr1 => ?_
  have p1 := h.fr fr1
  simp
  obtain ⟨zs, ez, zn, znd, z3⟩ : ∃ zs : List Str, cutD (ws.map D.str) (some ((j : Int) + 2)) (some ((j : Int) + 2 + a)) = zs.map D.str ∧ (∀ z ∈ zs, Cs.zah z = true) ∧ zs.Nodup ∧ zs.length ≤ 2 := by
    refine ⟨(ws.drop ((j : Int) + 2).toNat).take (((j : Int) + 2 + a).toNat - ((j : Int) + 2).toNat), ?_, fun z hz => wn z (List.mem_of_mem_drop (List.mem_of_mem_take hz)), (nd.sublist ((List.take_sublist _ _).trans (List.drop_sublist _ _))), ?_⟩
    · rw [zaci (by omega) (by omega), List.map_take, List.map_drop]
    · rw [List.length_take]; omega
  rw [ez]
  refine zabq (fun z => ⟨_, rfl, rfl, rfl⟩) (by omega) p1 st1 (by omega) fun is μ2 li vi p2 st2 => ?_
  replace st2 := st2.le (show _ ≤ c + 3 by omega)
  have ek : (zs.zip is).map (fun p => (Sum.inr p.1 : Key)) = zs.map Sum.inr := by
    have := congrArg (List.map (Sum.inr : Str → Key)) (List.map_fst_zip (l₁ := zs) (l₂ := is) (Nat.le_of_eq li))
    rw [List.map_map] at this
    exact this
  have ev : (zs.zip is).map (fun p => D.int p.2) = is.map D.int := by
    have := congrArg (List.map D.int) (List.map_snd_zip (l₁ := zs) (l₂ := is) (Nat.le_of_eq li.symm))
    rw [List.map_map] at this
    exact this
  rw [zadw (fun p : Str × Int => Sum.inr p.1) (fun p => D.int p.2) (l := zs.zip is) rfl (by
    rw [ek]
    exact List.Pairwise.map _ (fun a b ne q => ne (by simpa using q)) znd), ek, ev]
  have sl := st2.lt
  have fl := (List.getElem?_eq_some_iff.mp p2.cell).1
  have x3 : Ext μ2 (μ2 ++ [some (Cell.dct (zs.map Sum.inr) (is.map D.int))]) := .new
  have p3 := p2.ext x3
  have st3 := zfa st2 x3
  have at3 : TgAt (μ2 ++ [some (Cell.dct (zs.map Sum.inr) (is.map D.int))]) (.dd μ2.length zs is) := by simp [TgAt]
  have kl : μ2.length < (μ2 ++ [some (Cell.dct (zs.map Sum.inr) (is.map D.int))]).length := by simp
  refine hN _ _ ?_
  generalize hk : μ2.length = k at *
  generalize μ2 ++ [some (Cell.dct (zs.map Sum.inr) (is.map D.int))] = μ3 at *
  simp [znr, zcj p3.cell, e1]
  have lt := h.len
  have p4 := p3.ext (Ext.new (x := some (.dct [] [])))
  have st4 := zfa st3 (Ext.new (x := some (.dct [] [])))
  have at4 : TgAt (μ3 ++ [some (Cell.dct [] [])]) (.dd k zs is) := zqd Ext.new at3
  have at4' : TgAt (μ3 ++ [some (Cell.dct [] [])]) (.dd μ3.length [] []) := by simp [TgAt]
  have n1 := wn _ (List.getElem_mem (show j + 3 < ws.length by omega))
  generalize ws[j + 3] = z1 at n1 ⊢
  have fl3 := (List.getElem?_eq_some_iff.mp p3.cell).1
  have sl3 := st3.lt
  generalize hk3 : μ3.length = k3 at *
  generalize μ3 ++ [some (Cell.dct [] [])] = μ4 at *
  refine zkz (xs := [tgD false (.dd k zs is), tgD false (.dd k3 [] []), tgD false (.n z1 5)]) st4 (by omega) (fun _ _ => rfl) (by simp) (by simp) fun d μ5 hd st5 fr5 => ?_
  have p5 := p4.fr fr5
  have at5 : TgAt μ5 (.dd k zs is) := fr5.keep at4 (by omega)
  have at5' : TgAt μ5 (.dd k3 [] []) := fr5.keep at4' (by omega)
  rw [zep p5.cell]
  rw [List.length_map]
  refine ⟨by omega, ?_⟩
  have fs := p5.fs
  have st6 : ∀ {y : Option Cell}, St (μ5.set f y) s (c + 5) := fun {y} => (st5.put fs).le (by omega)
  simp only [List.mem_cons, List.not_mem_nil, or_false] at hd
  rcases hd with rfl | rfl | rfl
  · exact K _ _ _ (p5.add (t := .dd k zs is) at5 ⟨li, by omega, znd, zn, vi⟩ (show k ≠ s by omega) (show k ≠ f by omega) rfl (Nat.le_refl _) 2 (Nat.le_refl _) (Nat.le_refl _)) st6
  · exact K _ _ _ (p5.add (t := .dd k3 [] []) at5' ⟨rfl, Nat.zero_le _, List.nodup_nil, fun _ h => (by cases h), fun _ h => (by cases h)⟩ (show k3 ≠ s by omega) (show k3 ≠ f by omega) rfl (Nat.le_refl _) 2 (Nat.le_refl _) (Nat.le_refl _)) st6
  · exact K _ _ _ (p5.add (t := .n z1 5) trivial ⟨n1, by unfold val; omega⟩ trivial trivial rfl (show 2 ≤ 2 by omega) 2 (Nat.le_refl _) (show 1 ≤ 2 by omega)) st6
end
end K04
namespace K04
open PySem PySem.Spec L2 Mi Pl
open K05 (elems zal isBad zbl fb rkL zd1 zae valsP kvP fr repeated callD)
def rg (k : Int) : MI := zew (mCons (mCall za3 (mCons (mVar 0) (mCons (mC (.int k)) mNil))) mNil)
def tailD : MS := (mSeq (mFor (zew (mCons (mIf (mB (mVar 2)) (mCall za3 (mCons (mVar 0) (mCons (mC (.int 3)) mNil))) (mC (.int 0))) mNil)) (zam 5) bodyD) (mFrz 3 (mRet (mVar 3))))
theorem b_eq : zg0 = (mSeq (mPar 3 4 (mCons (mLst true mNil) (mCons (mCall zge (mCons (mVar 0) (mCons (mVar 1) mNil))) mNil)))
  (mSeq (mFor (rg 4) (zam 5) bodyA) (mSeq (mFor (rg 3) (zam 5) bodyB) (mSeq (mFor (rg 3) (zam 5) bodyC) tailD)))) := rfl
section
variable {Q : D → Store → Prop} {X : Exc → Store → Prop} {P : Post} {ρ : Mi.Env} {μ μ' μ0 : Store} {d x : D} {ds es : List D} {t : Tg} {b bb : Bool} {ts : List Tg} {k s c n f r m : Nat} {zs ws : List Str} {vs is : List Int} {z : Str} {o1 o2 o4 o5 o6 o7 o8 o9 o10 o11 : Option D}
theorem rg_rp {S : Src → Store → Prop} {k : Int} (hs : St μ s c) (hc : c + 10 ≤ 1000000) (hk0 : 0 < k) (hk : k < 1000)
    (K : ∀ n μ', n < k.toNat → St μ' s (c + 1) → Fr s μ μ' → S ⟨(List.range n).map (fun i : Nat => D.int i), []⟩ μ') : @Rp _ (rg k (env s f o1 o2 o4 o5 o6 o7 o8 o9 o10 o11) μ) S X := by
  simp [rg, env, zlm]
  refine zf2 hs (by omega) (by omega) (by omega) fun a μ2 a0 a1 st2 fr2 => ?_
  simp
  refine ⟨by omega, ?_⟩
  rw [ze3]
  exact K _ _ (by omega) st2 fr2
theorem zmn {n a : Nat} {pre post : List Nat} (e : List.range n = pre ++ a :: post) : a = pre.length ∧ a < n := by
  have h1 : (List.range n)[pre.length]? = some a := by rw [e]; simp
  have ln : pre.length < n := by
    have := congrArg List.length e
    rw [List.length_range, List.length_append, List.length_cons] at this
    omega
  rw [List.getElem?_range ln] at h1
  have := Option.some.inj h1
  omega
theorem loopA (h : Pt μ s f ts 0 m) (hm : m ≤ 50) (hs : St μ s c) (hc : c + 60 ≤ 1000000)
    (K : ∀ o5 o6 ts' μ', Pt μ' s f ts' 0 (m + 3) → St μ' s (c + 19) → P.N (env s f o1 o2 o4 o5 o6 o7 o8 o9 o10 o11) μ') :
    @RpS (mFor (rg 4) (zam 5) bodyA n (env s f o1 o2 o4 o5 o6 o7 o8 o9 o10 o11) μ) P := by
  rw [rs_for]
  refine rg_rp hs (by omega) (by decide) (by decide) fun a μ1 la st1 fr1 => ?_
  refine zd9 (fun i : Nat => D.int i) (fun pre ρ μ' => (∃ o5 o6, ρ = env s f o1 o2 o4 o5 o6 o7 o8 o9 o10 o11) ∧ ∃ ts, Pt μ' s f ts 0 (m + pre.length) ∧ St μ' s (c + 1 + 6 * pre.length)) ⟨⟨_, _, rfl⟩, _, h.fr fr1, st1⟩ (fun _ _ _ _ => Pl.zbo) ?_ ?_
  · rintro pre i post ρ μ2 e ⟨⟨o5, o6, rfl⟩, ts2, p2, st2⟩
    obtain ⟨ei, li⟩ := zmn e
    simp only [rg_name]
    refine lapA p2 (by omega) st2 (by omega) (show i < 4 by omega) fun o6' ts' μ3 p3 st3 => ?_
    refine ⟨⟨_, _, rfl⟩, ts', ?_, ?_⟩
    · rw [List.length_append]; exact p3
    · rw [List.length_append]; exact st3.le (by show _ ≤ c + 1 + 6 * (pre.length + 1); omega)
  · rintro ρ μ2 ⟨⟨o5, o6, rfl⟩, ts2, p2, st2⟩
    rw [List.length_range] at p2 st2
    exact K _ _ _ _ (p2.le (Nat.le_refl _) (by omega)) (st2.le (by omega))
theorem loopB (h : Pt μ s f ts 0 m) (hm : m ≤ 50) (hs : St μ s c) (hc : c + 60 ≤ 1000000) (lw : ws.length = 6) (wn : ∀ z ∈ ws, Cs.zah z = true)
    (K : ∀ o5 ts' μ', Pt μ' s f ts' 1 (m + 2) → St μ' s (c + 3) → P.N (env s f o1 o2 (some (.lst (ws.map .str))) o5 o6 o7 o8 o9 o10 o11) μ') :
    @RpS (mFor (rg 3) (zam 5) bodyB n (env s f o1 o2 (some (.lst (ws.map .str))) o5 o6 o7 o8 o9 o10 o11) μ) P := by
  rw [rs_for]
  refine rg_rp hs (by omega) (by decide) (by decide) fun a μ1 la st1 fr1 => ?_
  refine zd9 (fun i : Nat => D.int i) (fun pre ρ μ' => (∃ o5, ρ = env s f o1 o2 (some (.lst (ws.map .str))) o5 o6 o7 o8 o9 o10 o11) ∧ ∃ ts, Pt μ' s f ts 1 (m + pre.length) ∧ St μ' s (c + 1 + pre.length)) ⟨⟨_, rfl⟩, _, (h.fr fr1).le (by omega) (Nat.le_refl _), st1⟩ (fun _ _ _ _ => Pl.zbo) ?_ ?_
  · rintro pre i post ρ μ2 e ⟨⟨o5, rfl⟩, ts2, p2, st2⟩
    obtain ⟨ei, li⟩ := zmn e
    have la2 : a ≤ 2 := by have : a < 3 := la; omega
    simp only [rg_name]
    refine lapB p2 (by omega) st2 (by omega) (show i < 2 by omega) lw wn fun ts' μ3 p3 st3 => ?_
    refine ⟨⟨_, rfl⟩, ts', ?_, ?_⟩
    · rw [List.length_append]; exact p3
    · rw [List.length_append]; exact st3.le (by show _ ≤ c + 1 + (pre.length + 1); omega)
  · rintro ρ μ2 ⟨⟨o5, rfl⟩, ts2, p2, st2⟩
    have la2 : a < 3 := la
    rw [List.length_range] at p2 st2
    exact K _ _ _ (p2.le (Nat.le_refl _) (by omega)) (st2.le (by omega))
theorem loopC (h : Pt μ s f ts 1 m) (hm : m ≤ 50) (hs : St μ s c) (hc : c + 60 ≤ 1000000) (lw : ws.length = 6) (wn : ∀ z ∈ ws, Cs.zah z = true) (nd : ws.Nodup)
    (K : ∀ o5 o8 ts' μ', Pt μ' s f ts' 2 (m + 2) → St μ' s (c + 11) → P.N (env s f o1 o2 (some (.lst (ws.map .str))) o5 o6 o7 o8 o9 o10 o11) μ') :
    @RpS (mFor (rg 3) (zam 5) bodyC n (env s f o1 o2 (some (.lst (ws.map .str))) o5 o6 o7 o8 o9 o10 o11) μ) P := by
  rw [rs_for]
  refine rg_rp hs (by omega) (by decide) (by decide) fun a μ1 la st1 fr1 => ?_
  refine zd9 (fun i : Nat => D.int i) (fun pre ρ μ' => (∃ o5 o8, ρ = env s f o1 o2 (some (.lst (ws.map .str))) o5 o6 o7 o8 o9 o10 o11) ∧ ∃ ts, Pt μ' s f ts 2 (m + pre.length) ∧ St μ' s (c + 1 + 5 * pre.length)) ⟨⟨_, _, rfl⟩, _, (h.fr fr1).le (by omega) (Nat.le_refl _), st1⟩ (fun _ _ _ _ => Pl.zbo) ?_ ?_
  · rintro pre i post ρ μ2 e ⟨⟨o5, o8, rfl⟩, ts2, p2, st2⟩
    obtain ⟨ei, li⟩ := zmn e
    have la2 : a ≤ 2 := by have : a < 3 := la; omega
    simp only [rg_name]
    refine lapC p2 (by omega) st2 (by omega) (show i < 2 by omega) lw wn nd fun o8' ts' μ3 p3 st3 => ?_
    refine ⟨⟨_, _, rfl⟩, ts', ?_, ?_⟩
    · rw [List.length_append]; exact p3
    · rw [List.length_append]; exact st3.le (by show _ ≤ c + 1 + 5 * (pre.length + 1); omega)
  · rintro ρ μ2 ⟨⟨o5, o8, rfl⟩, ts2, p2, st2⟩
    have la2 : a < 3 := la
    rw [List.length_range] at p2 st2
    exact K _ _ _ _ (p2.le (Nat.le_refl _) (by omega)) (st2.le (by omega))
structure Pf (μ : Store) (s : Nat) (ts : List Tg) : Prop where
  at_ : ∀ t ∈ ts, TgAt μ t
  ok : ∀ t ∈ ts, TgOk t
  offs : ∀ t ∈ ts, Off s t
  fb : K05.fb 0 0 (ts.map pk) = none
  len : ts.length ≤ 7
theorem zxu (hN : zs.Nodup) (h6 : zs.length = 6) (hnm : ∀ z ∈ zs, Cs.zah z = true) (hs : St μ s c) (hc : c + 200 ≤ 1000000)
    (K : ∀ ts μ', Pf μ' s ts → St μ' s (c + 50) → Q (.lst (ts.map (tgD false))) μ') : @Rp _ (znh [.own s, .lst (zs.map .str), .bl false] μ) Q X := by
  have zl : 1000 ≤ sizeLine := by decide
  refine zm4 rfl ?_
  rw [b_eq]
  simp only [zao]
  refine rs_go fun N1 hN1 => ?_
  simp [zaac]
  have st0 := zfa hs (Ext.new (x := some (.lst [])))
  have sl := hs.lt
  refine zof st0 (by simp; omega) rfl fun ys μ1 pm st1 fr1 => ?_
  obtain ⟨ws, pw, rfl⟩ := K09.zrw pm
  have lw : ws.length = 6 := by rw [pw.length_eq]; exact h6
  have wn : ∀ z ∈ ws, Cs.zah z = true := fun z hz => hnm z (pw.mem_iff.mp hz)
  have wd : ws.Nodup := pw.nodup_iff.mpr hN
  have c0 : (μ ++ [some (Cell.lst [])])[μ.length]? = some (some (.lst [])) := by simp
  have p1 : Pt μ1 s μ.length [] 0 0 := ⟨fr1.keep c0 (by omega), by omega, fun _ h => (by cases h), fun _ h => (by cases h), fun _ h => (by cases h), fun _ h => (by cases h), rfl, Nat.le_refl _, Nat.le_refl _⟩
  have fle : μ.length ≤ μ.length := Nat.le_refl _
  generalize hfe : μ.length = f at p1 fle
  rw [← hfe] at fle
  have fle2 : μ.length ≤ f := by omega
  simp [h6] at st1
  replace st1 := st1.le (show _ ≤ c + 10 by omega)
  refine hN1 _ _ (rs_go fun N2 hN2 => ?_)
  refine loopA p1 (by omega) st1 (by omega) fun o5 o6 ts2 μ2 p2 st2 => ?_
  refine hN2 _ _ (rs_go fun N3 hN3 => ?_)
  refine loopB p2 (by omega) st2 (by omega) lw wn fun o5 ts3 μ3 p3 st3 => ?_
  refine hN3 _ _ (rs_go fun N4 hN4 => ?_)
  refine loopC p3 (by omega) st3 (by omega) lw wn wd fun o5 o8 ts4 μ4 p4 st4 => ?_
  refine hN4 _ _ ?_
  unfold tailD
  refine rs_go fun N5 hN5 => ?_
  rw [rs_for]
  simp [zce, forS, show watch [] μ4 μ4 from Pl.zbo]
  refine hN5 _ _ ?_
  have cl := p4.cell
  simp [frzC, cl, env]
  refine ⟨by omega, K _ _ ⟨fun t ht => zsn (p4.at_ t ht) (p4.offf t ht), p4.ok, p4.offs, p4.fb, p4.len⟩ ((st4.put p4.fs).le (by omega))⟩
end
end K04
namespace K04
open PySem PySem.Spec L2 Mi Pl
open K05 (elems zal isBad zbl fb rkL zd1 zae valsP kvP fr repeated callD)
section
variable {Q : D → Store → Prop} {X : Exc → Store → Prop} {P : Post} {ρ : Mi.Env} {μ μ' μ0 : Store} {d x : D} {ds es : List D} {t : Tg} {b bb : Bool} {ts : List Tg} {k s c n f r m : Nat} {zs ws : List Str} {vs is : List Int} {z : Str}
theorem zpb {i : Int} : wt (.int i) = 20 := by simp only [wt]
theorem zmv {i : Str} : wt (.str i) = 20 := by simp only [wt]
theorem gd_i {i : Int} (h : val i) : gd (.int i) = true := by
  unfold val at h
  unfold gd; exact decide_eq_true (by omega)
theorem gd_ws : gd (.str "value") = true ∧ gd (.str "star") = true ∧ gd (.str "name") = true ∧ gd (.str "double") = true := by decide +kernel
theorem zt1 {xs : List Int} (h : ∀ x ∈ xs, val x) : gds (xs.map D.int) = true := zn9.mpr fun d m => by
  obtain ⟨x, hx, rfl⟩ := List.mem_map.mp m
  exact gd_i (h x hx)
theorem zoo : ∀ {xs : List Int}, wts (xs.map D.int) = 21 * xs.length
  | [] => rfl
  | x :: xs => by rw [List.map_cons]; simp only [wts, zpb, zoo (xs := xs), List.length_cons]; omega
theorem zg4 : ∀ {xs : List Int}, nests (xs.map D.int) = 0
  | [] => rfl
  | x :: xs => by rw [List.map_cons]; simp only [nests, zg4 (xs := xs), nest]; omega
theorem ztt (h : Cs.zah z = true) : keyGd (.inr z) = true := by
  have h2 := K09.zxi h
  unfold Cs.zah at h
  simp only [Bool.and_eq_true, decide_eq_true_eq] at h
  show (decide (z.length ≤ 20) && PyData.strOk z) = true
  rw [h2, Bool.and_true]
  exact decide_eq_true (by omega)
def Pv (ds : List D) : Prop := gds ds = true ∧ wts ds ≤ 300 ∧ nests ds ≤ 2
theorem zacy (ok : TgOk t) : Pv (vwL t) := by
  obtain ⟨g1, g2, g3, g4⟩ := gd_ws
  cases t with
  | v i =>
    refine ⟨?_, by simp [vwL, wts, zpb, zmv], by simp [vwL, nests, nest]⟩
    show gds [.str "value", .int i] = true
    simp only [gds, g1, gd_i ok, Bool.and_true]
  | sf =>
    refine ⟨?_, by simp [vwL, wts, zpb, zmv, wt], by simp [vwL, nests, nest]⟩
    show gds [.str "star", .tup [.int 1, .int 2]] = true
    decide +kernel
  | so k is =>
    obtain ⟨l, o⟩ := ok
    refine ⟨?_, ?_, ?_⟩
    · show gds [.str "star", .lst (is.map .int)] = true
      have e : gd (.lst (is.map D.int)) = true := by unfold gd; exact zt1 o
      simp only [gds, g2, e, Bool.and_true]
    · show wts [.str "star", .lst (is.map .int)] ≤ 300
      have e : wt (.lst (is.map D.int)) = 21 * is.length := by rw [wt, zoo]
      simp only [wts, zmv, e]
      omega
    · show nests [.str "star", .lst (is.map .int)] ≤ 2
      have e : nest (.lst (is.map D.int)) = 1 := by rw [nest, zg4]
      simp only [nests, e, nest, zg4]
      omega
  | n z i =>
    refine ⟨?_, by simp [vwL, wts, zpb, zmv], by simp [vwL, nests, nest]⟩
    show gds [.str "name", .str z, .int i] = true
    have e : gd (.str z) = true := by unfold gd; exact ztt ok.1
    simp only [gds, g3, e, gd_i ok.2, Bool.and_true]
  | dd k zs is =>
    obtain ⟨l, l3, nd, o1, o2⟩ := ok
    refine ⟨?_, ?_, ?_⟩
    · show gds [.str "double", .dct (zs.map Sum.inr) (is.map .int)] = true
      have nd2 : (zs.map Sum.inr : List Key).Nodup := List.Pairwise.map _ (fun a b ne q => ne (by simpa using q)) nd
      have ak : (zs.map Sum.inr : List Key).all keyGd = true := by
        rw [List.all_map, List.all_eq_true]
        exact fun z hz => ztt (o1 z hz)
      have e : gd (.dct (zs.map Sum.inr) (is.map D.int)) = true := by
        unfold gd
        rw [zt1 o2, ak]
        simp [l, nd2]
        omega
      simp only [gds, g4, e, Bool.and_true]
    · show wts [.str "double", .dct (zs.map Sum.inr) (is.map .int)] ≤ 300
      have e : wt (.dct (zs.map Sum.inr) (is.map D.int)) = 43 * is.length := by rw [wt, zoo, List.length_map]; omega
      simp only [wts, zmv, e]
      omega
    · show nests [.str "double", .dct (zs.map Sum.inr) (is.map .int)] ≤ 2
      have e : nest (.dct (zs.map Sum.inr) (is.map D.int)) = 1 := by rw [nest, zg4]
      simp only [nests, e, nest, zg4]
      omega
theorem zwk (ok : TgOk t) : gd (vwD b t) = true ∧ wt (vwD b t) ≤ 300 ∧ nest (vwD b t) ≤ 3 := by
  obtain ⟨h1, h2, h3⟩ := zacy ok
  cases b with
  | true => exact ⟨by unfold vwD; rw [if_pos rfl]; unfold gd; exact h1, by unfold vwD; rw [if_pos rfl]; unfold wt; exact h2, by unfold vwD; rw [if_pos rfl]; unfold nest; omega⟩
  | false => exact ⟨by unfold vwD; rw [if_neg (by decide)]; unfold gd; exact h1, by unfold vwD; rw [if_neg (by decide)]; unfold wt; exact h2, by unfold vwD; rw [if_neg (by decide)]; unfold nest; omega⟩
theorem zod : ∀ {ts : List Tg}, (∀ t ∈ ts, TgOk t) → wts (ts.map (vwD b)) ≤ 301 * ts.length ∧ nests (ts.map (vwD b)) ≤ 3
  | [], _ => ⟨Nat.zero_le _, Nat.zero_le _⟩
  | t :: ts, h => by
    obtain ⟨h1, h2⟩ := zod (ts := ts) fun t ht => h t (List.mem_cons_of_mem _ ht)
    obtain ⟨_, g2, g3⟩ := zwk (b := b) (h t List.mem_cons_self)
    rw [List.map_cons]
    constructor
    · simp only [wts, List.length_cons]
      omega
    · simp only [nests]
      omega
theorem zx4 : ∀ {ts : List Tg}, (∀ t ∈ ts, TgOk t) → (ts.flatMap vS).length ≤ 10 * ts.length ∧ (ts.flatMap kS).length ≤ 3 * ts.length
  | [], _ => ⟨Nat.zero_le _, Nat.zero_le _⟩
  | t :: ts, h => by
    obtain ⟨h1, h2⟩ := zx4 (ts := ts) fun t ht => h t (List.mem_cons_of_mem _ ht)
    have o := h t List.mem_cons_self
    rw [List.flatMap_cons, List.flatMap_cons, List.length_append, List.length_append, List.length_cons]
    have e1 : (vS t).length ≤ 10 := by
      cases t with
      | so k is => exact o.1
      | v i => exact (by decide : 1 ≤ 10)
      | sf => exact (by decide : 2 ≤ 10)
      | _ => exact Nat.zero_le _
    have e2 : (kS t).length ≤ 3 := by
      cases t with
      | dd k zs is =>
        have := o.2.1
        show (zs.zip is).length ≤ 3
        rw [List.length_zip]
        omega
      | n z i => exact (by decide : 1 ≤ 3)
      | _ => exact Nat.zero_le _
    omega
theorem Pf.th (h : Pf μ s ts) : Th μ s ts := by
  obtain ⟨l1, l2⟩ := zx4 h.ok
  have hl := h.len
  refine ⟨h.at_, h.ok, h.offs, h.fb, by omega, ?_, by omega, by omega, fun b => ?_⟩
  · rw [(zix h.ok).length_eq, List.length_map]
    omega
  · obtain ⟨b1, b2⟩ := zod (b := b) h.ok
    refine ⟨?_, by rw [wt]; omega, by rw [nest]; omega⟩
    unfold gd
    refine zn9.mpr fun d hd => ?_
    obtain ⟨t, ht, rfl⟩ := List.mem_map.mp hd
    exact (zwk (h.ok t ht)).1
end
end K04
namespace K04
open PySem PySem.Spec L2 Mi Pl
open K05 (elems zal isBad zbl fb rkL zd1 zae valsP kvP fr repeated callD)
def poolV : List Str := ["a", "b", "c", "d", "x", "y", "def", "call", "site", "rest", "more", "self", "aa", "zzzzzz"]
theorem zabi : poolV.all Cs.zah = true ∧ poolV.Nodup ∧ poolV.length = 14 := by decide +kernel
section
variable {Q : D → Store → Prop} {X : Exc → Store → Prop} {P : Post} {ρ : Mi.Env} {μ μ' μ0 : Store} {d x : D} {ds es : List D} {t : Tg} {b bb : Bool} {ts : List Tg} {k s c n f r m : Nat} {zs ws : List Str} {vs is : List Int} {z : Str}
theorem zacz (h : St μ s c) (hc : c + 14 ≤ 1000000) (K : ∀ (ws : List Str) μ', ws.Nodup → ws.length = 6 → (∀ z ∈ ws, Cs.zah z = true) → St μ' s (c + 14) → Q (.lst (ws.map D.str)) μ') : @Rp _ (zq8 [.own s] μ) Q X := by
  have z14 : 1000 ≤ sizeLine := by decide
  have el : [D.str "a", D.str "b", D.str "c", D.str "d", D.str "x", D.str "y", D.str "def", D.str "call", D.str "site", D.str "rest", D.str "more", D.str "self", D.str "aa", D.str "zzzzzz"] = poolV.map D.str := rfl
  obtain ⟨p1, p2, p3⟩ := zabi
  refine zm4 rfl ?_
  simp only [zjf, zao]
  refine rs_go fun N1 hN1 => ?_
  simp
  rw [el]
  refine hN1 _ _ ?_
  simp [zaac]
  refine zof (xs := poolV.map D.str) h (by simp [p3]; omega) rfl fun ys μ' pm st fr => ?_
  obtain ⟨ws, pw, rfl⟩ := K09.zrw pm
  have l14 := pw.length_eq
  rw [p3] at l14
  have st' : St μ' s (c + 14) := by simpa [p3] using st
  simp
  rw [zqh (by decide), ← List.map_take]
  have sub : ∀ z ∈ ws.take 6, z ∈ poolV := fun z hz => pw.mem_iff.mp (List.mem_of_mem_take hz)
  have al := List.all_eq_true.mp p1
  exact K _ _ ((pw.nodup_iff.mpr p2).sublist (List.take_sublist _ _)) (by rw [List.length_take]; show min 6 _ = 6; omega) (fun z hz => al z (sub z hz)) st'
inductive Lg where
  | v (i : Nat) | s | n | d
def lgD (w0 w1 : Str) : Lg → D
  | .v i => .tup [.str "value", .int i]
  | .s => .tup [.str "star", .tup []]
  | .n => .tup [.str "name", .str w0, .int 1]
  | .d => .tup [.str "double", .dct [.inr w1] [.int 2]]
def lgP (w0 w1 : Str) : Lg → K05.PK
  | .v i => .val (.int i)
  | .s => .star []
  | .n => .name w0 (.int 1)
  | .d => .dbl [.inr w1] [.int 2]
def lgL (n : Nat) : List Lg := (List.range n).map Lg.v ++ [.s, .s, .s, .n, .d]
theorem zab4 {w0 w1 : Str} {j : Int} (hj : j = (n : Int)) (h6 : 2 ≤ ws.length) (e0 : ws[0]? = some w0) (e1 : ws[1]? = some w1) (hn : n ≤ 900) (K : ∀ μ', Ext μ μ' → Q (.lst ((lgL n).map (lgD w0 w1))) μ') : @Rp _ (zq9 [.lst (ws.map .str), .int j] μ) Q X := by
  have zl : 10000 ≤ sizeLine := by decide
  have a0 : atI (ws.map D.str) 0 = some (.str w0) := by
    unfold atI ixN
    rw [if_pos (by omega), if_pos (by rw [List.length_map]; omega)]
    simp [e0]
  have a1 : atI (ws.map D.str) 1 = some (.str w1) := by
    unfold atI ixN
    rw [if_pos (by omega), if_pos (by rw [List.length_map]; omega)]
    simp [e1]
  refine zm4 rfl ?_
  simp only [zjg, zao]
  refine rs_go fun N1 hN1 => ?_
  simp [ze3]
  refine ⟨by omega, ?_⟩
  rw [show j.toNat = n by omega]
  refine zve (l := List.range n) (f := fun i : Nat => D.int i) (fun i => lgD w0 w1 (.v i)) (by rw [List.length_range]; omega) (fun i hi => ⟨_, rfl, ok_of ?_⟩) ?_
  · simp [wipeD, lgD]
  rw [zafk (ds := [D.tup [D.str "star", D.tup []]]) (by simp)]
  refine ⟨⟨by omega, by omega, by show 1 * 3 ≤ _; omega⟩, ?_⟩
  simp
  refine ⟨by omega, hN1 _ _ ?_⟩
  simp [a0, a1, zabd, Mi.keyOf]
  refine ⟨by omega, ?_⟩
  have el : (List.range n).map (fun i => lgD w0 w1 (Lg.v i)) ++ [D.tup [D.str "star", D.tup []], D.tup [D.str "star", D.tup []], D.tup [D.str "star", D.tup []], D.tup [D.str "name", D.str w0, D.int 1], D.tup [D.str "double", D.dct [Sum.inr w1] [D.int 2]]] = (lgL n).map (lgD w0 w1) := by
    unfold lgL
    rw [List.map_append, List.map_map]
    rfl
  rw [el]
  exact K _ .new
theorem sort1 {w : Str} : sortS [w] = [w] := ze4 ⟨.refl _, rfl⟩
theorem nm_lg {w0 w1 : Str} : ((lgL n).map (lgP w0 w1)).flatMap zae = [w0, w1] ∧ ((lgL n).map (lgP w0 w1)).flatMap valsP = (List.range n).map (fun i : Nat => D.int i) ∧ (((lgL n).map (lgP w0 w1)).flatMap kvP).map (·.2) = [D.int 1, D.int 2] := by
  have e1 : ((List.range n).map (fun i => lgP w0 w1 (Lg.v i))).flatMap zae = [] := by
    rw [List.flatMap_eq_nil_iff]
    intro k hk
    obtain ⟨i, _, rfl⟩ := List.mem_map.mp hk
    rfl
  have e2 : ((List.range n).map (fun i => lgP w0 w1 (Lg.v i))).flatMap kvP = [] := by
    rw [List.flatMap_eq_nil_iff]
    intro k hk
    obtain ⟨i, _, rfl⟩ := List.mem_map.mp hk
    rfl
  have e3 : ((List.range n).map (fun i => lgP w0 w1 (Lg.v i))).flatMap valsP = (List.range n).map (fun i : Nat => D.int i) := by
    generalize List.range n = l
    induction l with
    | nil => rfl
    | cons a l ih => rw [List.map_cons, List.flatMap_cons, ih]; rfl
  have el : (lgL n).map (lgP w0 w1) = (List.range n).map (fun i => lgP w0 w1 (Lg.v i)) ++ [.star [], .star [], .star [], .name w0 (.int 1), .dbl [.inr w1] [.int 2]] := by
    unfold lgL
    rw [List.map_append, List.map_map]
    rfl
  rw [el, List.flatMap_append, List.flatMap_append, List.flatMap_append, e1, e2, e3]
  have eu : K05.unK [(Sum.inr w1 : Key)] = [w1] := rfl
  refine ⟨?_, ?_, ?_⟩
  · simp [zae, eu, sort1]
  · simp [valsP]
  · simp [kvP, eu, ascK, ascV, sort1, lookO, lookK]
theorem lg_fb {w0 w1 : Str} : fb 0 0 ((lgL n).map (lgP w0 w1)) = none := by
  have go : ∀ (l : List Nat) (i : Nat), fb 0 i (l.map (fun i => lgP w0 w1 (Lg.v i)) ++ [.star [], .star [], .star [], .name w0 (.int 1), .dbl [.inr w1] [.int 2]]) = none := by
    intro l
    induction l with
    | nil => intro i; rfl
    | cons a l ih =>
      intro i
      rw [List.map_cons, List.cons_append, fb]
      rw [if_neg (by simp [lgP, isBad, zbl])]
      exact ih (i + 1)
  unfold lgL
  rw [List.map_append, List.map_map]
  exact go _ 0
theorem zz7 {w0 w1 : Str} (n0 : Cs.zah w0 = true) (n1 : Cs.zah w1 = true) (ne : w0 ≠ w1) (hn : n ≤ 900)
    (hq : ∀ μ', Ext μ μ' → Q (callD (((List.range n).map (fun i : Nat => (i : Int))).map .int) [w0, w1] ([1, 2].map .int)) μ') : @Rp _ (K05.zbh [.lst ((lgL n).map (lgD w0 w1))] μ) Q X := by
  have zl : 1000 ≤ sizeLine := by decide
  obtain ⟨m1, m2, m3⟩ := nm_lg (n := n) (w0 := w0) (w1 := w1)
  have f0 : fr [] [w0, w1] = none := fr_nd (by simpa using ne) fun _ _ h => by cases h
  have lb : (lgL n).length ≤ 1000 := by simp [lgL]; omega
  refine znm (ks := (lgL n).map (lgP w0 w1)) (fun {Q X} h => zpl (bb := false) (f := lgD w0 w1) (pf := lgP w0 w1) (ts := lgL n) (fun b hb μ' _ => ?_) lg_fb lb h) (fun k hk => ?_) ?_ ?_ (fun z hf => ?_) fun hf μ' e => ?_
  · have vb : ∀ i : Nat, b = .v i → i < 900 := fun i e => by
      subst e
      simp [lgL] at hb
      omega
    cases b with
    | v i => exact zvm (i := i) (d := lgD w0 w1 (.v i)) rfl rfl trivial ⟨by omega, by have := vb i rfl; omega⟩
    | s => exact zl2 (d := .tup [.str "star", .tup []]) (xs := []) rfl rfl (by rw [values_eq (d := .tup []) (ds := []) rfl fun ds e => ⟨by rcases e with e | e <;> cases e; exact Nat.zero_le _, fun x hx => by rcases e with e | e <;> cases e; cases hx⟩]; rfl) rfl
    | n => exact zvn (z := w0) (i := 1) (d := .tup [.str "name", .str w0, .int 1]) rfl rfl trivial ⟨n0, by unfold val; omega⟩
    | d =>
      have nl : w1.length ≤ 6 := by
        unfold Cs.zah at n1
        simp only [Bool.and_eq_true, decide_eq_true_eq] at n1
        omega
      have dc : DcOk [Sum.inr w1] [D.int 2] := ⟨rfl, by simp, by show 1 ≤ sizeLine; omega, fun e he => by rw [List.mem_singleton.mp he]; rfl, fun z hz => by
        cases List.mem_singleton.mp hz
        omega⟩
      have tt : isTab (.dct [Sum.inr w1] [D.int 2]) = true := by
        show ([Sum.inr w1].all zdi && [D.int 2].all isVal) = true
        simp [zdi, n1, isVal]
      have te := table_eq (μ := μ') (d := .dct [.inr w1] [.int 2]) rfl fun ks' ds' e => by cases e; exact dc
      rw [tt] at te
      have ae := zlq (μ := μ') (x := .dct [.inr w1] [.int 2]) (ss := [w1]) (ds := [.int 2]) rfl rfl rfl (by simp) (by simp) rfl
      exact zm7 (d := .tup [.str "double", .dct [.inr w1] [.int 2]]) rfl rfl te ae
  · obtain ⟨t, ht, rfl⟩ := List.mem_map.mp hk
    have vb : ∀ i : Nat, t = .v i → i < 900 := fun i e => by
      subst e
      simp [lgL] at ht
      omega
    cases t with
    | v i =>
      have := vb i rfl
      exact gk_of (k := .val (.int i)) (zhw ⟨by omega, by omega⟩)
    | s => exact gk_of (k := .star []) rfl
    | n => exact ⟨rfl, fun z h => by rw [List.mem_singleton.mp h]; exact n0, fun p hp => by rw [List.mem_singleton.mp hp]; rfl, fun v h => by cases h⟩
    | d =>
      have eu : K05.unK [(Sum.inr w1 : Key)] = [w1] := rfl
      refine ⟨rfl, fun z h => ?_, fun p hp => ?_, fun v h => by cases h⟩
      · simp [lgP, zae, eu, sort1] at h
        rw [h]; exact n1
      · simp [lgP, kvP, eu, ascK, ascV, sort1, lookO, lookK] at hp
        rw [hp]; rfl
  · rw [m1]; simp
  · rw [m2, List.length_map, List.length_range]; omega
  · rw [m1, f0] at hf; cases hf
  · rw [m1, m2, m3]
    have := hq μ' e
    rw [List.map_map] at this
    exact this
end
end K04
namespace K04
open PySem PySem.Spec L2 Mi Pl
open K05 (elems zal isBad zbl fb rkL zd1 zae valsP kvP fr repeated callD)
theorem zad3 : K04.zox = Pl.zq6 := rfl
section
variable {Q : D → Store → Prop} {X : Exc → Store → Prop} {P : Post} {ρ : Mi.Env} {μ μ' μ0 : Store} {d x : D} {ds es : List D} {t : Tg} {b bb : Bool} {ts : List Tg} {k s c n f r m : Nat} {zs ws : List Str} {vs is : List Int} {z : Str}
theorem disp2 {a1 a2 b1 b2 : ME} {z1 z2 : Str} {d1 d2 : D} (ne : z1 ≠ z2) (h1 : a1 ρ μ = .ok (.str z1) μ) (h2 : b1 ρ μ = .ok d1 μ) (h3 : a2 ρ μ = .ok (.str z2) μ) (h4 : b2 ρ μ = .ok d2 μ) : mDisp false [(a1, b1), (a2, b2)] ρ μ = .ok (.dct [.inr z1, .inr z2] [d1, d2]) μ := by
  have e : zg5 [(a1, b1), (a2, b2)] ρ μ = .ok [(.str z1, d1), (.str z2, d2)] μ := by
    simp [zg5, h1, h2, h3, h4, Res.bind]
  have e1 : zg3 [(D.str z1, d1), (D.str z2, d2)] = some [(Sum.inr z1, d1), (Sum.inr z2, d2)] := rfl
  unfold mDisp
  rw [e]
  simp only [Res.bind, e1]
  rw [if_pos (show [((Sum.inr z1 : Key), d1), (Sum.inr z2, d2)].length ≤ 15 by simp), zj8 (by simp [ne])]
  rfl
theorem zacj (K : ∀ μ', Ext μ μ' → Q (callD [] [] []) μ') : @Rp _ (mkObj true "Call" (zfy zcc) [] μ) Q X := by
  refine zabc ?_
  have ko : (μ ++ [some (Cell.obj "Call" [] [])])[μ.length]? = some (some (Cell.obj "Call" [] [])) := by simp
  rw [rp_initSK]
  refine ⟨Nat.zero_le _, K05.zrb ko rfl (Nat.zero_le _) ?_⟩
  refine ⟨rfl, .obj "Call" ["kept_given", "kept_named"] [.tup [], .dct [] []], callD [] [] [], ?_, ?_, ?_⟩
  · simp
  · have e1 : ascK [] = [] := by
      unfold ascK
      rw [show sortS [] = [] from ze4 ⟨.refl _, rfl⟩]
      rfl
    have e2 : ascV [] [] = [] := by
      unfold ascV
      rw [show sortS [] = [] from ze4 ⟨.refl _, rfl⟩]
      rfl
    unfold callD
    rw [e1, e2]
    rfl
  · simp
    exact K _ ⟨_, rfl⟩
theorem gath0 {x : D} (hx : x = .lst [] ∨ x = .tup []) (K : ∀ μ', Ext μ μ' → Q (callD [] [] []) μ') : @Rp _ (K05.zbh [x] μ) Q X := by
  obtain ⟨bb, rfl⟩ : ∃ bb, x = boxD bb (([] : List Tg).map (tgD false)) := by
    rcases hx with rfl | rfl
    · exact ⟨false, rfl⟩
    · exact ⟨true, rfl⟩
  refine zt2 (ts := []) (fun _ h => by cases h) (fun _ h => by cases h) rfl (Nat.zero_le _) (by decide) (Nat.zero_le _) (fun z hf => by cases hf) fun _ μ' e => K μ' e
theorem len7 {ρ : Mi.Env} (h : ρ.length = 7) : ∃ a b c d e f g, ρ = [a, b, c, d, e, f, g] := by
  match ρ, h with
  | [a, b, c, d, e, f, g], _ => exact ⟨_, _, _, _, _, _, _, rfl⟩
theorem zab7 : ∀ ns : List Int, ns.length ≤ 63 → ∃ μ, K04.m_law [.lst (ns.map D.int)] [] = .ok (.bl true) μ := by
  refine zzz (k := 8) (N := 7) rfl (by decide) (by decide) ?_
  intro ρ μ t x ht hρ h1 h2
  have zl : 1000 ≤ sizeLine := by decide
  obtain ⟨a0, a1, a2, o3, o4, o5, o6, rfl⟩ := len7 hρ
  simp at h1 h2
  subst h1 h2
  refine rs_go fun N1 hN1 => ?_
  simp [zad3]
  refine zack (by omega) (by omega) fun x1 y1 => ?_
  have st1 : St (μ ++ [some (.lst [.int x1, .int y1, .int 0])]) μ.length 0 := ⟨x1, y1, 0, by simp, by omega, by omega⟩
  generalize (μ ++ [some (Cell.lst [D.int x1, .int y1, .int 0])]) = μ1 at st1 ⊢
  generalize μ.length = s at st1 ⊢
  refine hN1 _ _ (rs_go fun N2 hN2 => ?_)
  simp
  refine zacz st1 (by omega) fun ws μ2 nd l6 nm st2 => ?_
  refine hN2 _ _ (rs_go fun N3 hN3 => ?_)
  rw [rs_for]
  simp only [ri_rng1, rp_cons, rp_c, rp_nil]
  refine ⟨⟨by decide, by decide⟩, ?_⟩
  rw [ze3]
  refine zd9 (fun i : Nat => D.int i) (fun pre ρ μ' => (∃ o5, ρ = [a0, some (.int t), some (.int x), some (.own s), some (.lst (ws.map .str)), o5, o6]) ∧ St μ' s (14 + 60 * pre.length)) ⟨⟨_, rfl⟩, st2.le (by omega)⟩ (fun _ _ _ _ => Pl.zbo) ?_ ?_
  · rintro pre i post ρ μ3 e ⟨⟨o5, rfl⟩, st3⟩
    obtain ⟨ei, li⟩ := zmn e
    have lp : pre.length < 5 := by omega
    simp only [rg_name]
    simp
    refine zxu nd l6 nm st3 (by omega) fun ts μ4 pf st4 => ?_
    refine zabg pf.th st4 (by omega) fun μ5 st5 => ?_
    simp
    exact st5.le (by omega)
  · rintro ρ μ3 ⟨⟨o5, rfl⟩, st3⟩
    rw [List.length_range] at st3
    refine hN3 _ _ (rs_go fun N4 hN4 => ?_)
    simp [znr]
    refine zkz (xs := [.int 13, .int 25, .int 90]) (st3.le (show _ ≤ 1000 by omega)) (by omega) (fun _ _ => rfl) (by simp) (by simp) fun d μ4 hd st4 fr4 => ?_
    obtain ⟨j, n, rfl, hj, hn⟩ : ∃ (j : Int) (n : Nat), d = .int j ∧ j = (n : Int) ∧ n ≤ 900 := by
      simp only [List.mem_cons, List.not_mem_nil, or_false] at hd
      rcases hd with rfl | rfl | rfl
      · exact ⟨_, 13, rfl, rfl, by decide⟩
      · exact ⟨_, 25, rfl, rfl, by decide⟩
      · exact ⟨_, 90, rfl, rfl, by decide⟩
    refine hN4 _ _ (rs_go fun N5 hN5 => ?_)
    obtain ⟨w0, w1, e0, e1, ne, n0, n1⟩ : ∃ w0 w1, ws[0]? = some w0 ∧ ws[1]? = some w1 ∧ w0 ≠ w1 ∧ Cs.zah w0 = true ∧ Cs.zah w1 = true := by
      match ws, l6 with
      | w0 :: w1 :: ws, _ =>
        refine ⟨w0, w1, rfl, rfl, fun q => ?_, nm w0 (by simp), nm w1 (by simp)⟩
        rw [q] at nd
        exact (List.nodup_cons.mp nd).1 (by simp)
    have d2 : ∀ {ρ : Mi.Env} {μ : Store}, ρ[4]? = some (some (.lst (ws.map .str))) → mDisp false [((mOp fIx (mVar 4) (mC (.int 0))), (mC (.int 1))), ((mOp fIx (mVar 4) (mC (.int 1))), (mC (.int 2)))] ρ μ = .ok (.dct [.inr w0, .inr w1] [.int 1, .int 2]) μ := fun {ρ μ} h4 => by
      have g0 : atI (ws.map D.str) 0 = some (.str w0) := by
        unfold atI ixN
        rw [if_pos (by omega), if_pos (by rw [List.length_map]; omega)]
        simp [e0]
      have g1 : atI (ws.map D.str) 1 = some (.str w1) := by
        unfold atI ixN
        rw [if_pos (by omega), if_pos (by rw [List.length_map]; omega)]
        simp [e1]
      exact disp2 ne (ok_of (by simp [h4, g0])) (ok_of (by simp)) (ok_of (by simp [h4, g1])) (ok_of (by simp))
    have ofL : ∀ {Q : D → Store → Prop} {X : Exc → Store → Prop} {μ : Store}, (∀ μ', Ext μ μ' → Q (callD (((List.range n).map (fun i : Nat => (i : Int))).map .int) [w0, w1] ([1, 2].map .int)) μ') → @Rp _ (K05.zbq [.cls "Call", .lst (((List.range n).map (fun i : Nat => (i : Int))).map .int), .dct [.inr w0, .inr w1] [.int 1, .int 2]] μ) Q X := fun {Q X μ} k =>
      ztb (ss := [w0, w1]) (ds := [.int 1, .int 2]) (ze9 fun i hi => by
        obtain ⟨q, hq, rfl⟩ := List.mem_map.mp hi
        have := List.mem_range.mp hq
        unfold val
        omega) (by simp; omega) (by simp [n0, n1]) rfl rfl (by simpa using ne) (by simp) k
    have er : zce 0 j.toNat = ((List.range n).map (fun i : Nat => (i : Int))).map .int := by
      rw [ze3, List.map_map, show j.toNat = n by omega]
      rfl
    have l2 : 2 ≤ ws.length := by omega
    simp
    refine zab4 hj l2 e0 e1 hn fun μ5 x5 => ?_
    rw [zqf]
    refine zz7 n0 n1 ne hn fun μ6 x6 => ?_
    rw [f_rgL (by unfold RgOk; omega), Int.sub_zero, er]
    generalize (List.range n).map (fun i : Nat => (i : Int)) = vs at ofL ⊢
    simp [d2, e_of]
    refine ofL fun μ7 x7 => ?_
    have nes : ∀ {Q : D → Store → Prop} {X : Exc → Store → Prop} {μ : Store}, @Rp _ (fNeO "Call" zaw (callD (vs.map D.int) [w0, w1] [D.int 1, D.int 2]) (callD (vs.map D.int) [w0, w1] ([1, 2].map D.int)) μ) Q X = Q (.bl false) μ := zn4 (zs := [w0, w1]) (is := [1, 2]) rfl (by simpa using ne)
    rw [nes]
    simp
    refine hN5 _ _ ?_
    simp [zqf, e_of]
    refine gath0 (.inl rfl) fun μ8 x8 => ?_
    have ne0 : ∀ {Q : D → Store → Prop} {X : Exc → Store → Prop} {μ : Store}, @Rp _ (fNeO "Call" zaw (callD [] [] []) (callD [] [] []) μ) Q X = Q (.bl false) μ := zn4 (vs := []) (zs := []) (is := []) rfl List.nodup_nil
    refine ztb (vs := []) (ss := []) (ds := []) rfl (Nat.zero_le _) rfl rfl rfl List.nodup_nil (by decide) fun μ9 x9 => ?_
    rw [ne0]
    simp
    refine gath0 (.inr rfl) fun μa xa => ?_
    refine zacj fun μb xb => ?_
    rw [ne0]
end
end K04
theorem PySem.Challenge.cw_callstairs_k04_pieces_gathered_holds : PySem.Challenge.rw_callstairs_k04_pieces_gathered.Holds :=
  K04.hMain K04.zab7
