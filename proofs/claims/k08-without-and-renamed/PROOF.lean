import PyProof.Rows.All
import Wide.All
import OpenK.AllK
import Wide.FinOn
import HandS.ForMost
import HandS.IsInst
import HandS.Deep
import HandS.Star
import HandS.TupAny
import HandS.Lambda
import HandS.Walk
import HandS.Zip
import HandS.Conv
import PySem.Challenge.RW_kitsleft_k08_whole_without_and_renamed
import HandS.Codes
import KE.GoesEnum
import PyProof.DictUpdate
import PyProof.DictTable
import HandS.Dict
import HandS.DictComp
import HandS.WordsDict
import KE.KDictPairs
import HandS.NestedK
import HandS.ExcInit
import KE.KExcSuper
import HandS.Defaults
import HandS.WordsExc
import KE.SortData
import HandS.SetBool
import HandS.SetKeys
import KE.KDictList
import KE.KExcIs
import KE.DataFind
import HandS.ExcField
import HandS.HotCalls
import HandS.EndBits
import HandS.EndTab
import HandS.Ends
import KE.KStateDown
import HandS.Head0
import HandS.Head1
import HandS.Head2
import HandS.HeadHook2
import HandS.HeadHook4
set_option Elab.async false
set_option linter.all false
set_option maxRecDepth 100000
set_option maxHeartbeats 4000000
/-! KT: tuples of which it is known that they carry no attributes of their own. -/
namespace Kl
open PySem PySem.Spec PyProof.Rows L2
abbrev Frg := PySem.W.Frag
structure TupO (o : Obj) : Prop where
  cls : o.cls = .type "tuple"
  bare : o.dict = none
/-- the tuple at a: its one object is known -/
def TupA (H : Hp) (a : Addr) (xs : List V) : Prop := ∃ o, H a = some (.frz o (.tup xs)) ∧ TupO o
theorem TupA.t {K : Frg} {H : Hp} {a : Addr} {xs : List V} (h : TupA H a xs) : SqT K H a xs := let ⟨o, e, _⟩ := h; .inl (.inr ⟨o, e⟩)
theorem TupA.new {H : Hp} {p : Addr} {o : Obj} {xs : List V} (h : TupO o) : TupA (upd H p (.frz o (.tup xs))) p xs := ⟨o, upd_same, h⟩
theorem TupA.some {H : Hp} {a : Addr} {xs : List V} (h : TupA H a xs) : H a ≠ none := let ⟨o, e, _⟩ := h; by rw [e]; nofun
theorem tupo (its : List Value) : TupO { cls := .type "tuple", data := .seq its.toArray } := ⟨rfl, rfl⟩
section
variable {X : Cx}
def tTupB (t : TA) : TE := fun σ H Q => t σ H fun xs H1 => xs.length ≤ sizeLine ∧ ∀ p o, H1 p = none → TupO o → Q (.ref p) (upd H1 p (.frz o (.tup xs)))
theorem frz_tup {P : Program} {w : World} {H : Hp} {h : Heap} {xs : List V} {its : List Value} (z : xs.length ≤ sizeLine) (r : Vals xs its) :
    ObjOk P w H (h.push { cls := .type "tuple", data := .seq its.toArray }) h.objs.size (.frz { cls := .type "tuple", data := .seq its.toArray } (.tup xs)) :=
  ⟨Heap.get?_push_size _ rfl, z, its, r, ⟨_, Heap.get?_push_size _ rfl, rfl, _, rfl⟩⟩
theorem pe_tupB {x1} {es : List Expr} {t : TA} {pos : Pos} (h : PA X es t) : PE X (.Tuple es x1 pos) (tTupB t) := by
  refine ⟨fun pins s σ H Q I hq => ?_⟩
  refine wpAny_Tuple_spliced (thn (h.run pos pins s σ H _ I hq) fun us s1 ⟨xs, H1, I1, r, z, q⟩ => ⟨by rw [← r.length]; exact z, ?_⟩)
  exact ⟨.ref s1.heap.objs.size, _, I1.laid (t' := s1.toks) (fun b u e => Heap.get?_push_of_some _ e) (Nat.le_refl _) (frz_tup z r), rfl, q _ _ (I1.hok.fresh (Nat.le_refl _)) (tupo us)⟩
def rTupB (K : Frg) : List V → Hp → VK → Prop := fun xs H Q => ∃ p ys, xs = [.ref p] ∧ ((SqL K H p ys ∧ ∀ l o, H l = none → TupO o → Q (.ref l) (upd H l (.frz o (.tup ys)))) ∨ (SqT K H p ys ∧ Q (.ref p) H))
theorem call_tupB : CallR X (.type "tuple") (rTupB X.K) := by
  intro pins s σ H xs us Q I r h
  obtain ⟨p, ys, rfl, h⟩ := h
  obtain ⟨u, rfl, rx⟩ := vals1 r
  cases rx
  rcases h with ⟨hq, q⟩ | ⟨hq, q⟩
  · obtain ⟨its, r', pl, hz⟩ := I.list hq
    have hlen := r'.length
    refine call_tuple_list pl.isList (fun h' kp => ?_) (by simp only [List.size_toArray] <;> omega)
    have I1 : L2.Inv X pins σ H { s with heap := h' } := I.kept (t' := s.toks) kp
    exact ⟨.ref h'.objs.size, _, I1.laid (t' := s.toks) (fun b o e => Heap.get?_push_of_some _ e) (Nat.le_refl _) (frz_tup hz r'), rfl, q _ _ (I1.hok.fresh (Nat.le_refl _)) (tupo its)⟩
  · obtain ⟨its, r', pl, hz⟩ := I.tuple hq
    exact call_tuple_same pl ⟨.ref p, H, I, rfl, q⟩
def rCatB (K : Frg) : R2 := fun x y H Q => ∃ a b xs ys, x = .ref a ∧ y = .ref b ∧ SqT K H a xs ∧ SqT K H b ys ∧ xs.length + ys.length ≤ sizeLine ∧
  (xs = [] → Q (.ref b) H) ∧ (xs ≠ [] → ys = [] → Q (.ref a) H) ∧ (xs ≠ [] → ys ≠ [] → ∀ p o, H p = none → TupO o → Q (.ref p) (upd H p (.frz o (.tup (xs ++ ys)))))
theorem op_catB : OpR X (binaryOp .Add) (rCatB X.K) := by
  intro pins s σ H x y v u Q I rx ry h
  obtain ⟨a, b, xs, ys, rfl, rfl, ha, hb, hz, q0, q1, q2⟩ := h
  by_cases hx : xs = []
  · exact op_catA pins s σ H _ _ v u Q I rx ry ⟨a, b, xs, ys, rfl, rfl, ha, hb, hz, q0, q1, fun z => absurd hx z⟩
  · by_cases hy : ys = []
    · exact op_catA pins s σ H _ _ v u Q I rx ry ⟨a, b, xs, ys, rfl, rfl, ha, hb, hz, q0, q1, fun _ z => absurd hy z⟩
    · cases rx
      cases ry
      obtain ⟨its, r1, p1, _⟩ := I.tuple ha
      obtain ⟨its2, r2, p2, _⟩ := I.tuple hb
      refine HT.cat_tup p1 p2 (fun z => hx (r1.nil_iff.mp z)) (fun z => absurd (r2.nil_iff.mp z) hy) (fun z => ?_) (by rw [← r1.length, ← r2.length]; exact hz)
      exact ⟨.ref s.heap.objs.size, _, I.laid (t' := s.toks) (fun b ob q => Heap.get?_push_of_some _ q) (Nat.le_refl _) (frz_tup (by rw [List.length_append]; exact hz) (r1.append r2)), rfl, q2 hx hy _ _ (I.hok.fresh (Nat.le_refl _)) (tupo _)⟩
def rSlB (K : Frg) : V → Option Int → Option Int → Hp → VK → Prop := fun x lo hi H Q => ∃ a xs, x = .ref a ∧ SqT K H a xs ∧
  (HT.sIx xs.length 0 lo = 0 ∧ HT.sIx xs.length xs.length hi = xs.length → Q (.ref a) H) ∧ (¬ (HT.sIx xs.length 0 lo = 0 ∧ HT.sIx xs.length xs.length hi = xs.length) → ∀ p o, H p = none → TupO o → Q (.ref p) (upd H p (.frz o (.tup (cutV xs lo hi)))))
theorem sl_tupB : SlR X (rSlB X.K) := by
  intro pins s σ H x v vl vu lo hi sl Q I rx hs pl pu h
  obtain ⟨a, xs, rfl, hx, q1, q2⟩ := h
  by_cases hw : HT.sIx xs.length 0 lo = 0 ∧ HT.sIx xs.length xs.length hi = xs.length
  · exact sl_tupA pins s σ H _ v vl vu lo hi sl Q I rx hs pl pu ⟨a, xs, rfl, hx, q1, fun z => absurd hw z⟩
  · cases rx
    obtain ⟨its, r, ht, hz⟩ := I.tuple hx
    have hlen : its.toArray.size = xs.length := by rw [List.size_toArray]; exact r.length.symm
    refine ⟨"tuple", _, PyProof.Rows.slot_tuple_getitem.lookup, ht.typeIs, ?_⟩
    refine HT.getItem_tuple_cut ht hs pl pu (by rw [hlen]; exact hw) ?_ (by rw [hlen]; exact hz)
    rw [hlen]
    exact ⟨.ref s.heap.objs.size, _, I.laid (t' := s.toks) (fun b ob q => Heap.get?_push_of_some _ q) (Nat.le_refl _) (frz_tup (Nat.le_trans (cutV_length xs lo hi) hz) ((r.drop (HT.sIx xs.length 0 lo)).take (HT.sIx xs.length xs.length hi - HT.sIx xs.length 0 lo))), rfl, q2 hw _ _ (I.hok.fresh (Nat.le_refl _)) (tupo _)⟩
end
end Kl
set_option Elab.async false
set_option linter.all false
set_option maxRecDepth 100000
set_option maxHeartbeats 4000000
/-! KA: a calculus over the hand layer: an expression evaluates to described data, at a heap of which some addresses are hidden. -/
namespace Kl
open PySem PySem.Spec PyProof.Rows L2
/-- the law's drawing state -/
def feedO (c : Addr) (s l d : Int) : HO := .dK [((.inr "cells" : Key), V.ref c), (.inr "spot", .int s), (.inr "left", .int l), (.inr "drawn", .int d)]
theorem feedO_inj {c c' : Addr} {s l d s' l' d' : Int} (h : feedO c s l d = feedO c' s' l' d') : c = c' := by
  unfold feedO at h
  injection h with h
  injection h with h _
  injection h with _ h
  injection h
/-- all that is tracked stays, but a drawing state may go on, a table of codes may grow -/
def Exw (H H' : Hp) : Prop := ∀ a o, H a = some o → H' a = some o ∨ (∃ c s l d s' l' d', o = feedO c s l d ∧ H' a = some (feedO c s' l' d')) ∨ ∃ ps ps', o = .tbl ps ∧ H' a = some (.tbl ps')
theorem Exw.refl (H : Hp) : Exw H H := fun _ _ h => .inl h
theorem feed_tbl {c : Addr} {s l d : Int} {ps : Array Value} (h : feedO c s l d = .tbl ps) : False := by unfold feedO at h; cases h
theorem Exw.trans {H H1 H2 : Hp} (a : Exw H H1) (b : Exw H1 H2) : Exw H H2 := fun x o h => by
  rcases a x o h with h1 | ⟨c, s, l, d, s', l', d', e, h1⟩ | ⟨ps, ps', e, h1⟩
  · exact b x o h1
  · rcases b x _ h1 with h2 | ⟨c2, s2, l2, d2, s3, l3, d3, e2, h2⟩ | ⟨ps, ps', e2, h2⟩
    · exact .inr (.inl ⟨c, s, l, d, s', l', d', e, h2⟩)
    · have ec := feedO_inj e2
      subst ec
      exact .inr (.inl ⟨c, s, l, d, s3, l3, d3, e, h2⟩)
    · exact (feed_tbl e2).elim
  · rcases b x _ h1 with h2 | ⟨c2, s2, l2, d2, s3, l3, d3, e2, h2⟩ | ⟨ps2, ps3, e2, h2⟩
    · exact .inr (.inr ⟨ps, ps', e, h2⟩)
    · exact (feed_tbl e2.symm).elim
    · exact .inr (.inr ⟨ps, ps3, e, h2⟩)
theorem Exw.new {H : Hp} {p : Addr} {o : HO} (h : H p = none) : Exw H (upd H p o) := fun a u e => .inl (by
  rw [upd_ne (ne_of_none e h)]
  exact e)
theorem Exw.keep {H H' : Hp} {a : Addr} {o : HO} (e : Exw H H') (h : H a = some o) (n : ∀ c s l d, o ≠ feedO c s l d) (n2 : ∀ ps, o ≠ .tbl ps) : H' a = some o := by
  rcases e a o h with h1 | ⟨c, s, l, d, _, _, _, e1, _⟩ | ⟨ps, _, e1, _⟩
  · exact h1
  · exact absurd e1 (n c s l d)
  · exact absurd e1 (n2 ps)
theorem Exw.some {H H' : Hp} {a : Addr} (e : Exw H H') (h : H a ≠ none) : H' a ≠ none := by
  cases q : H a with
  | none => exact absurd q h
  | some o => rcases e a o q with h1 | ⟨_, _, _, _, _, _, _, _, h1⟩ | ⟨_, _, _, h1⟩ <;> rw [h1] <;> nofun
theorem Exw.lst {H H' : Hp} {a : Addr} {xs : List V} (e : Exw H H') (h : H a = Option.some (.lst xs)) : H' a = Option.some (.lst xs) := e.keep h (fun _ _ _ _ z => by unfold feedO at z; cases z) (fun _ z => by cases z)
theorem Exw.tup {H H' : Hp} {a : Addr} {xs : List V} (e : Exw H H') (h : H a = Option.some (.tup xs)) : H' a = Option.some (.tup xs) := e.keep h (fun _ _ _ _ z => by unfold feedO at z; cases z) (fun _ z => by cases z)
theorem Exw.ta {H H' : Hp} {a : Addr} {xs : List V} (e : Exw H H') (h : TupA H a xs) : TupA H' a xs := by
  obtain ⟨o, h1, h2⟩ := h
  exact ⟨o, e.keep h1 (fun _ _ _ _ z => by unfold feedO at z; cases z) (fun _ z => by cases z), h2⟩
theorem Exw.back {H H' : Hp} {p : Addr} (e : Exw H H') (h : H' p = none) : H p = none := by
  cases q : H p with
  | none => rfl
  | some o => exact absurd h (e.some (by rw [q]; nofun))
theorem Exw.rd {H H' : Hp} {a : Addr} {u : HO} (e : Exw H H') (n : ∀ c s l d, u ≠ feedO c s l d) (n2 : ∀ ps, u ≠ .tbl ps) (h : Rd H a u) : Rd H' a u := by
  rcases h with h | ⟨o, h⟩
  · exact .inl (e.keep h n n2)
  · exact .inr ⟨o, e.keep h (fun _ _ _ _ z => by unfold feedO at z; cases z) (fun _ z => by cases z)⟩
theorem Exw.l {K : Frg} {H H' : Hp} {a : Addr} {xs : List V} (e : Exw H H') (h : SqL K H a xs) : SqL K H' a xs := by
  rcases h with h | h
  · exact .inl (e.rd (fun _ _ _ _ z => by unfold feedO at z; cases z) (fun _ z => by cases z) h)
  · exact .inr h
theorem Exw.t {K : Frg} {H H' : Hp} {a : Addr} {xs : List V} (e : Exw H H') (h : SqT K H a xs) : SqT K H' a xs := by
  rcases h with h | h
  · exact .inl (e.rd (fun _ _ _ _ z => by unfold feedO at z; cases z) (fun _ z => by cases z) h)
  · exact .inr h
/-- .. and what the tables of codes tell stays true -/
structure Ex (H H' : Hp) : Prop where
  w : Exw H H'
  tb : ∀ T, LamX.Tabs T H → LamX.Tabs T H'
instance {H H' : Hp} : Coe (Ex H H') (Exw H H') := ⟨Ex.w⟩
section
variable {H H' H1 H2 : Hp} {a p : Addr} {o : HO} {xs : List V}
theorem Ex.refl (H : Hp) : Ex H H := ⟨Exw.refl H, fun _ t => t⟩
theorem Ex.trans (a : Ex H H1) (b : Ex H1 H2) : Ex H H2 := ⟨a.w.trans b.w, fun T t => b.tb T (a.tb T t)⟩
theorem Ex.new (h : H p = none) : Ex H (upd H p o) := ⟨Exw.new h, fun T t => t.ext fun b u e => by rw [upd_ne (ne_of_none e h)]; exact e⟩
theorem Ex.keep (e : Ex H H') (h : H a = some o) (n : ∀ c s l d, o ≠ feedO c s l d) (n2 : ∀ ps, o ≠ .tbl ps := by intro _ z; cases z) : H' a = some o := e.w.keep h n n2
theorem Ex.some (e : Ex H H') (h : H a ≠ none) : H' a ≠ none := e.w.some h
theorem Ex.lst (e : Ex H H') (h : H a = Option.some (.lst xs)) : H' a = Option.some (.lst xs) := e.w.lst h
theorem Ex.tup (e : Ex H H') (h : H a = Option.some (.tup xs)) : H' a = Option.some (.tup xs) := e.w.tup h
theorem Ex.ta (e : Ex H H') (h : TupA H a xs) : TupA H' a xs := e.w.ta h
theorem Ex.back (e : Ex H H') (h : H' p = none) : H p = none := e.w.back h
/-- what stands at l is no table and no code -/
def Plain (H : Hp) (l : Addr) : Prop := ∀ u, H l = Option.some u → (∀ ps, u ≠ .tbl ps) ∧ ∀ c q, u ≠ LamX.CodeO c q
theorem plain_none (h : H p = none) : Plain H p := fun u e => by rw [h] at e; cases e
theorem plain_lst (h : H p = Option.some (.lst xs)) : Plain H p := fun u e => by
  rw [h] at e
  cases e
  exact ⟨fun _ z => (by cases z), fun _ _ z => (by unfold LamX.CodeO at z; cases z)⟩
theorem plain_dK {kvs : List (Key × V)} (h : H p = Option.some (.dK kvs)) : Plain H p := fun u e => by
  rw [h] at e
  cases e
  exact ⟨fun _ z => (by cases z), fun _ _ z => (by unfold LamX.CodeO at z; cases z)⟩
theorem tabs_upd {T : List (Addr × Str)} (t : LamX.Tabs T H) (n : Plain H p) : LamX.Tabs T (upd H p o) := fun q hq => by
  obtain ⟨ps, h1, h2, h3⟩ := t q hq
  refine ⟨ps, ?_, h2, fun pos cv hc => ?_⟩
  · rw [upd_ne fun z => (n _ (by rw [← z]; exact h1)).1 ps rfl]
    exact h1
  · obtain ⟨c, e1, e2⟩ := h3 pos cv hc
    refine ⟨c, e1, ?_⟩
    rw [upd_ne fun z => (n _ (by rw [← z]; exact e2)).2 _ _ rfl]
    exact e2
end
mutual
inductive Dq (H : Hp) : V → PyData → Prop
  | non : Dq H .non .none
  | bl (b : Bool) : Dq H (.bl b) (.bool b)
  | int (i : Int) : Dq H (.int i) (.int i)
  | str (x : Str) : Dq H (.str x) (.str x)
  | lst {a : Addr} {xs : List V} {ds : List PyData} : H a = some (.lst xs) → DqAll H xs ds → Dq H (.ref a) (.list ds)
  | tup {a : Addr} {xs : List V} {ds : List PyData} : TupA H a xs → DqAll H xs ds → Dq H (.ref a) (.tuple ds)
inductive DqAll (H : Hp) : List V → List PyData → Prop
  | nil : DqAll H [] []
  | cons {v : V} {vs : List V} {d : PyData} {ds : List PyData} : Dq H v d → DqAll H vs ds → DqAll H (v :: vs) (d :: ds)
end
mutual
theorem dq_dp {K : Frg} {H : Hp} : ∀ (d : PyData) (v : V), Dq H v d → Dp K H v d
  | .none, _, h => by cases h; exact .non
  | .bool b, _, h => by cases h; exact .bl b
  | .int i, _, h => by cases h; exact .int i
  | .str x, _, h => by cases h; exact .str x
  | .list ds, _, h => by
    cases h with
    | lst hs ha => exact .lst (.inl (.inl hs)) (dqs_dps ds _ ha)
  | .tuple ds, _, h => by
    cases h with
    | tup hs ha => exact .tup hs.t (dqs_dps ds _ ha)
  | .dict _, _, h => by cases h
theorem dqs_dps {K : Frg} {H : Hp} : ∀ (ds : List PyData) (vs : List V), DqAll H vs ds → DpAll K H vs ds
  | [], _, h => by cases h; exact .nil
  | d :: ds, _, h => by
    cases h with
    | cons h1 h2 => exact .cons (dq_dp d _ h1) (dqs_dps ds _ h2)
end
mutual
theorem dp_mono {H H' : Hp} (e : Exw H H') : ∀ (d : PyData) (v : V), Dq H v d → Dq H' v d
  | .none, _, h => by cases h; exact .non
  | .bool b, _, h => by cases h; exact .bl b
  | .int i, _, h => by cases h; exact .int i
  | .str x, _, h => by cases h; exact .str x
  | .list ds, _, h => by
    cases h with
    | lst hs ha => exact .lst (e.lst hs) (dps_mono e ds _ ha)
  | .tuple ds, _, h => by
    cases h with
    | tup hs ha => exact .tup (e.ta hs) (dps_mono e ds _ ha)
  | .dict _, _, h => by cases h
theorem dps_mono {H H' : Hp} (e : Exw H H') : ∀ (ds : List PyData) (vs : List V), DqAll H vs ds → DqAll H' vs ds
  | [], _, h => by cases h; exact .nil
  | d :: ds, _, h => by
    cases h with
    | cons h1 h2 => exact .cons (dp_mono e d _ h1) (dps_mono e ds _ h2)
end
theorem dps_len {H : Hp} : ∀ {ds : List PyData} {vs : List V}, DqAll H vs ds → vs.length = ds.length
  | [], _, h => by cases h; rfl
  | d :: ds, _, h => by
    cases h with
    | cons h1 h2 => rw [List.length_cons, List.length_cons, dps_len h2]
theorem dps_get {H : Hp} : ∀ {ds : List PyData} {vs : List V} {i : Nat} {d : PyData}, DqAll H vs ds → ds[i]? = some d → ∃ v, vs[i]? = some v ∧ Dq H v d
  | [], _, _, _, h, e => by simp at e
  | d :: ds, _, 0, _, h, e => by
    cases h with
    | cons h1 h2 =>
      have e' : d = _ := Option.some.inj e
      subst e'
      exact ⟨_, rfl, h1⟩
  | d :: ds, _, i + 1, _, h, e => by
    cases h with
    | cons h1 h2 => exact dps_get (i := i) h2 (by simpa using e)
theorem dps_getV {H : Hp} : ∀ {ds : List PyData} {vs : List V} {i : Nat} {v : V}, DqAll H vs ds → vs[i]? = some v → ∃ d, ds[i]? = some d ∧ Dq H v d
  | [], _, _, _, h, e => by cases h; simp at e
  | d :: ds, _, 0, _, h, e => by
    cases h with
    | cons h1 h2 =>
      have e' := Option.some.inj e
      subst e'
      exact ⟨_, rfl, h1⟩
  | d :: ds, _, i + 1, _, h, e => by
    cases h with
    | cons h1 h2 => exact dps_getV (i := i) h2 (by simpa using e)
theorem dps_app {H : Hp} : ∀ {ds es : List PyData} {vs us : List V}, DqAll H vs ds → DqAll H us es → DqAll H (vs ++ us) (ds ++ es)
  | [], _, _, _, h, h' => by cases h; exact h'
  | d :: ds, _, _, _, h, h' => by
    cases h with
    | cons h1 h2 => exact .cons h1 (dps_app h2 h')
theorem dps_take {H : Hp} : ∀ {ds : List PyData} {vs : List V} (n : Nat), DqAll H vs ds → DqAll H (vs.take n) (ds.take n)
  | _, _, 0, _ => by rw [List.take_zero, List.take_zero]; exact .nil
  | [], _, n + 1, h => by cases h; exact .nil
  | d :: ds, _, n + 1, h => by
    cases h with
    | cons h1 h2 => exact .cons h1 (dps_take n h2)
theorem dps_drop {H : Hp} : ∀ {ds : List PyData} {vs : List V} (n : Nat), DqAll H vs ds → DqAll H (vs.drop n) (ds.drop n)
  | _, _, 0, h => by rw [List.drop_zero, List.drop_zero]; exact h
  | [], _, n + 1, h => by cases h; exact .nil
  | d :: ds, _, n + 1, h => by
    cases h with
    | cons h1 h2 => exact dps_drop n h2
theorem dps_erase {H : Hp} : ∀ {ds : List PyData} {vs : List V} (n : Nat), DqAll H vs ds → DqAll H (vs.eraseIdx n) (ds.eraseIdx n)
  | [], _, n, h => by cases h; exact .nil
  | d :: ds, _, 0, h => by
    cases h with
    | cons h1 h2 => exact h2
  | d :: ds, _, n + 1, h => by
    cases h with
    | cons h1 h2 => exact .cons h1 (dps_erase n h2)
theorem dps_rev {H : Hp} : ∀ {ds : List PyData} {vs : List V}, DqAll H vs ds → DqAll H vs.reverse ds.reverse
  | [], _, h => by cases h; exact .nil
  | d :: ds, _, h => by
    cases h with
    | cons h1 h2 =>
      rw [List.reverse_cons, List.reverse_cons]
      exact dps_app (dps_rev h2) (.cons h1 .nil)
theorem dps_str {H : Hp} : ∀ (xs : List Str), DqAll H (xs.map V.str) (xs.map PyData.str)
  | [] => .nil
  | x :: xs => .cons (.str x) (dps_str xs)
theorem of_dps_str {H : Hp} : ∀ {xs : List Str} {vs : List V}, DqAll H vs (xs.map PyData.str) → vs = xs.map V.str
  | [], _, h => by cases h; rfl
  | x :: xs, _, h => by
    cases h with
    | cons h1 h2 =>
      cases h1
      rw [List.map_cons, of_dps_str h2]
theorem of_dps_bool {H : Hp} : ∀ {xs : List Bool} {vs : List V}, DqAll H vs (xs.map PyData.bool) → vs = xs.map V.bl
  | [], _, h => by cases h; rfl
  | x :: xs, _, h => by
    cases h with
    | cons h1 h2 =>
      cases h1
      rw [List.map_cons, of_dps_bool h2]
theorem of_dps_int {H : Hp} : ∀ {xs : List Int} {vs : List V}, DqAll H vs (xs.map PyData.int) → vs = xs.map V.int
  | [], _, h => by cases h; rfl
  | x :: xs, _, h => by
    cases h with
    | cons h1 h2 =>
      cases h1
      rw [List.map_cons, of_dps_int h2]
theorem dps_int {H : Hp} : ∀ (xs : List Int), DqAll H (xs.map V.int) (xs.map PyData.int)
  | [] => .nil
  | x :: xs => .cons (.int x) (dps_int xs)

/-! ### hidden addresses -/
def hid (N : List Addr) (H : Hp) : Hp := fun a => if a ∈ N then none else H a
theorem hid_nil (H : Hp) : hid [] H = H := by
  funext a
  unfold hid
  rw [if_neg (by simp)]
theorem hid_get {N : List Addr} {H : Hp} {a : Addr} {o : HO} (h : hid N H a = some o) : H a = some o ∧ a ∉ N := by
  unfold hid at h
  by_cases m : a ∈ N
  · rw [if_pos m] at h; cases h
  · rw [if_neg m] at h; exact ⟨h, m⟩
theorem hid_of {N : List Addr} {H : Hp} {a : Addr} {o : HO} (h : H a = some o) (n : a ∉ N) : hid N H a = some o := by
  unfold hid
  rw [if_neg n]; exact h
theorem hid_ta {N : List Addr} {H : Hp} {a : Addr} {xs : List V} (h : TupA (hid N H) a xs) : TupA H a xs ∧ a ∉ N := by
  obtain ⟨o, h1, h2⟩ := h
  exact ⟨⟨o, (hid_get h1).1, h2⟩, (hid_get h1).2⟩
theorem ta_hid {N : List Addr} {H : Hp} {a : Addr} {xs : List V} (h : TupA H a xs) (n : a ∉ N) : TupA (hid N H) a xs := by
  obtain ⟨o, h1, h2⟩ := h
  exact ⟨o, hid_of h1 n, h2⟩
theorem hid_ex (N : List Addr) (H : Hp) : Exw (hid N H) H := fun a o h => .inl (hid_get h).1
theorem hid_mono {N : List Addr} {H H' : Hp} (e : Exw H H') : Exw (hid N H) (hid N H') := fun a o h => by
  obtain ⟨h1, n⟩ := hid_get h
  rcases e a o h1 with h2 | ⟨c, s, l, d, s', l', d', e1, h2⟩ | ⟨ps, ps', e1, h2⟩
  · exact .inl (hid_of h2 n)
  · exact .inr (.inl ⟨c, s, l, d, s', l', d', e1, hid_of h2 n⟩)
  · exact .inr (.inr ⟨ps, ps', e1, hid_of h2 n⟩)
theorem hid_cons (l : Addr) (N : List Addr) (H : Hp) : Exw (hid (l :: N) H) (hid N H) := fun a o h => by
  obtain ⟨h1, n⟩ := hid_get h
  exact .inl (hid_of h1 fun m => n (List.mem_cons_of_mem _ m))
theorem hid_upd {N : List Addr} {H : Hp} {l : Addr} {o : HO} (h : l ∈ N) : hid N (upd H l o) = hid N H := by
  funext a
  unfold hid
  by_cases m : a ∈ N
  · rw [if_pos m, if_pos m]
  · rw [if_neg m, if_neg m, upd_ne fun z => m (by rw [z]; exact h)]
/-- a new object may be hidden at once -/
theorem hid_new {N : List Addr} {H : Hp} {p : Addr} {o : HO} (h : H p = none) : hid (p :: N) (upd H p o) = hid N H := by
  funext a
  unfold hid
  by_cases m : a ∈ N
  · rw [if_pos m, if_pos (List.mem_cons_of_mem _ m)]
  · by_cases e : a = p
    · rw [if_pos (by rw [e]; exact List.mem_cons_self), if_neg m, e, h]
    · rw [if_neg m, if_neg (by simp [e, m]), upd_ne e]

/-! ### what a value is known to be -/
inductive W where
  | d (d : PyData) | v (x : V) | feed | m (kvs : List (Str × PyData)) | x (P : Hp → V → Prop) (mo : ∀ H H' v, Exw H H' → P H v → P H' v)
def noInt : PyData → Bool
  | .int _ => false
  | _ => true
def Is (H : Hp) (v : V) : W → Prop
  | .d d => Dq H v d
  | .v x => v = x
  | .feed => ∃ (f c : Addr) (ns : List Int) (s l d : Int), v = .ref f ∧ H f = some (feedO c s l d) ∧ H c = some (.lst (ns.map V.int))
  | .m kvs => ∃ (a : Addr) (es : List (Key × V)), v = .ref a ∧ H a = some (.dK es) ∧ es.map (fun p => p.1) = kvs.map (fun p => (.inr p.1 : Key)) ∧ DqAll H (es.map fun p => p.2) (kvs.map fun p => p.2) ∧ (kvs.all fun p => noInt p.2) = true
  | .x P _ => P H v
inductive IsAll (H : Hp) : List V → List W → Prop
  | nil : IsAll H [] []
  | cons {v : V} {vs : List V} {w : W} {ws : List W} : Is H v w → IsAll H vs ws → IsAll H (v :: vs) (w :: ws)
theorem is_mono {H H' : Hp} (e : Exw H H') {v : V} : ∀ {w : W}, Is H v w → Is H' v w
  | .d d, h => dp_mono e d v h
  | .v x, h => h
  | .m kvs, ⟨a, es, h1, h2, h3, h4, h5⟩ => by
    refine ⟨a, es, h1, e.keep h2 (fun c s l d z => ?_) (fun _ z => by cases z), h3, dps_mono e _ _ h4, h5⟩
    unfold feedO at z
    injection z with z
    subst z
    match kvs, h3, h4, h5 with
    | [_, q, _, _], _, h4, h5 =>
      cases h4 with
      | cons _ h4 =>
        cases h4 with
        | cons h6 _ =>
          simp only [List.all_cons, Bool.and_eq_true] at h5
          have h7 := h5.2.1
          cases q with
          | mk q1 q2 =>
            have h6 : Dq H (.int s) q2 := h6
            cases h6
            cases h7
  | .x P mo, h => mo H H' v e h
  | .feed, ⟨f, c, ns, s, l, d, h1, h2, h3⟩ => by
    rcases e f _ h2 with h | ⟨c', s1, l1, d1, s', l', d', e1, h⟩ | ⟨_, _, e1, _⟩
    · exact ⟨f, c, ns, s, l, d, h1, h, e.lst h3⟩
    · have ec := feedO_inj e1
      subst ec
      exact ⟨f, c, ns, s', l', d', h1, h, e.lst h3⟩
    · exact (feed_tbl e1).elim
theorem isa_mono {H H' : Hp} (e : Exw H H') : ∀ {vs : List V} {ws : List W}, IsAll H vs ws → IsAll H' vs ws
  | _, _, .nil => .nil
  | _, _, .cons h t => .cons (is_mono e h) (isa_mono e t)
theorem isa_len {H : Hp} : ∀ {vs : List V} {ws : List W}, IsAll H vs ws → vs.length = ws.length
  | _, _, .nil => rfl
  | _, _, .cons _ t => by rw [List.length_cons, List.length_cons, isa_len t]
theorem isa_app {H : Hp} : ∀ {vs us : List V} {ws zs : List W}, IsAll H vs ws → IsAll H us zs → IsAll H (vs ++ us) (ws ++ zs)
  | _, _, _, _, .nil, h => h
  | _, _, _, _, .cons a t, h => .cons a (isa_app t h)
theorem isa_dps {H : Hp} : ∀ {vs : List V} {ds : List PyData}, IsAll H vs (ds.map W.d) → DqAll H vs ds
  | _, [], h => by cases h; exact .nil
  | _, d :: ds, h => by
    cases h with
    | cons a t => exact .cons a (isa_dps t)
theorem dps_isa {H : Hp} : ∀ {vs : List V} {ds : List PyData}, DqAll H vs ds → IsAll H vs (ds.map W.d)
  | _, [], h => by cases h; exact .nil
  | _, d :: ds, h => by
    cases h with
    | cons a t => exact .cons a (dps_isa t)

/-- a heap with hidden addresses N that shows H -/
structure Vw (N : List Addr) (H H1 : Hp) : Prop where
  al : ∀ l ∈ N, H1 l ≠ none
  ex : Exw H (hid N H1)
theorem Vw.step {N : List Addr} {H H1 H2 : Hp} (h : Vw N H H1) (e : Ex H1 H2) : Vw N H H2 := ⟨fun l m => e.some (h.al l m), h.ex.trans (hid_mono e)⟩
theorem Vw.new {N : List Addr} {H H1 : Hp} {p : Addr} (h : Vw N H H1) (e : H1 p = none) : p ∉ N := fun m => h.al p m e

/-! ### an expression, a test, an argument list -/
def Ev (te : TE) (σ : L2.St) (H : Hp) (S : W → Prop) : Prop :=
  ∀ (N : List Addr) (H1 : Hp), Vw N H H1 → ∀ Q : VK, (∀ v H2 w, Ex H1 H2 → S w → Is (hid N H2) v w → Q v H2) → te σ H1 Q
def EvB (tt : TT) (σ : L2.St) (H : Hp) (B : Bool → Prop) : Prop :=
  ∀ (N : List Addr) (H1 : Hp), Vw N H H1 → ∀ Q : Bool → Hp → Prop, (∀ b H2, Ex H1 H2 → B b → Q b H2) → tt σ H1 Q
def EvA (ta : TA) (σ : L2.St) (H : Hp) (S : List W → Prop) : Prop :=
  ∀ (N : List Addr) (H1 : Hp), Vw N H H1 → ∀ Q : List V → Hp → Prop, (∀ vs H2 ws, Ex H1 H2 → S ws → IsAll (hid N H2) vs ws → Q vs H2) → ta σ H1 Q
/-- an operation on two described values; on a list of them -/
def OpS (r : R2) (x y : W) (S : W → Prop) : Prop :=
  ∀ (N : List Addr) (H : Hp), (∀ l ∈ N, H l ≠ none) → ∀ v u, Is (hid N H) v x → Is (hid N H) u y → ∀ Q : VK, (∀ z H2 w, Ex H H2 → S w → Is (hid N H2) z w → Q z H2) → r v u H Q
def UnS (r : V → Hp → VK → Prop) (x : W) (S : W → Prop) : Prop :=
  ∀ (N : List Addr) (H : Hp), (∀ l ∈ N, H l ≠ none) → ∀ v, Is (hid N H) v x → ∀ Q : VK, (∀ z H2 w, Ex H H2 → S w → Is (hid N H2) z w → Q z H2) → r v H Q
def CaS (r : List V → Hp → VK → Prop) (xs : List W) (S : W → Prop) : Prop :=
  ∀ (N : List Addr) (H : Hp), (∀ l ∈ N, H l ≠ none) → ∀ vs, IsAll (hid N H) vs xs → ∀ Q : VK, (∀ z H2 w, Ex H H2 → S w → Is (hid N H2) z w → Q z H2) → r vs H Q
section
variable {K : Frg} {σ : L2.St} {H H' : Hp} {ta tb te : TE} {tt tu : TT} {S Sa Sb : W → Prop} {B B' : Bool → Prop} {r : R2}
theorem Ev.mono (h : Ev te σ H S) (e : Exw H H') : Ev te σ H' S := fun N H1 v Q q => h N H1 ⟨v.al, e.trans v.ex⟩ Q q
theorem EvB.mono (h : EvB tt σ H B) (e : Exw H H') : EvB tt σ H' B := fun N H1 v Q q => h N H1 ⟨v.al, e.trans v.ex⟩ Q q
theorem EvA.mono {t : TA} {S : List W → Prop} (h : EvA t σ H S) (e : Exw H H') : EvA t σ H' S := fun N H1 v Q q => h N H1 ⟨v.al, e.trans v.ex⟩ Q q
theorem Ev.imp (h : Ev te σ H S) (i : ∀ w, S w → Sa w) : Ev te σ H Sa := fun N H1 v Q q => h N H1 v Q fun x H2 w e s => q x H2 w e (i w s)
theorem EvB.imp (h : EvB tt σ H B) (i : ∀ b, B b → B' b) : EvB tt σ H B' := fun N H1 v Q q => h N H1 v Q fun b H2 e s => q b H2 e (i b s)
theorem EvA.imp {t : TA} {S S' : List W → Prop} (h : EvA t σ H S) (i : ∀ w, S w → S' w) : EvA t σ H S' := fun N H1 v Q q => h N H1 v Q fun x H2 w e s => q x H2 w e (i w s)
theorem ev_const {v : V} {d : PyData} (h : ∀ H, Dq H v d) (s : S (.d d)) : Ev (tC v) σ H S := fun N H1 _ Q q => q v H1 (.d d) (Ex.refl _) s (h _)
theorem ev_i {i : Int} (s : S (.d (.int i))) : Ev (tC (.int i)) σ H S := ev_const (fun _ => .int i) s
theorem ev_s {x : Str} (s : S (.d (.str x))) : Ev (tC (.str x)) σ H S := ev_const (fun _ => .str x) s
theorem ev_b {b : Bool} (s : S (.d (.bool b))) : Ev (tC (.bl b)) σ H S := ev_const (fun _ => .bl b) s
theorem ev_n (s : S (.d .none)) : Ev (tC .non) σ H S := ev_const (fun _ => .non) s
/-- a constant that is no data: a class, a built-in type -/
theorem ev_cv {v : V} (s : S (.v v)) : Ev (tC v) σ H S := fun N H1 _ Q q => q v H1 (.v v) (Ex.refl _) s rfl
theorem ev_op (ha : Ev ta σ H Sa) (hb : Ev tb σ H Sb) (hr : ∀ x y, Sa x → Sb y → OpS r x y S) : Ev (tOp r ta tb) σ H S := fun N H1 vw Q q =>
  ha N H1 vw _ fun v H2 x e2 sx ix => hb N H2 (vw.step e2) _ fun u H3 y e3 sy iy =>
    hr x y sx sy N H3 (vw.step (e2.trans e3)).al v u (is_mono (hid_mono e3) ix) iy Q fun z H4 w e4 sw iw => q z H4 w ((e2.trans e3).trans e4) sw iw
theorem ev_un {r : V → Hp → VK → Prop} (ha : Ev ta σ H Sa) (hr : ∀ x, Sa x → UnS r x S) : Ev (tUn r ta) σ H S := fun N H1 vw Q q =>
  ha N H1 vw _ fun v H2 x e2 sx ix => hr x sx N H2 (vw.step e2).al v ix Q fun z H4 w e4 sw iw => q z H4 w (e2.trans e4) sw iw
theorem ev_cb {r : List V → Hp → VK → Prop} {t : TA} {T : List W → Prop} (ha : EvA t σ H T) (hr : ∀ xs, T xs → CaS r xs S) : Ev (tCB r t) σ H S := fun N H1 vw Q q =>
  ha N H1 vw _ fun vs H2 xs e2 sx ix => hr xs sx N H2 (vw.step e2).al vs ix Q fun z H4 w e4 sw iw => q z H4 w (e2.trans e4) sw iw
theorem ea_nil {T : List W → Prop} (h : T []) : EvA tNil σ H T := fun N H1 vw Q q => q [] H1 [] (Ex.refl _) h .nil
theorem ea_cons {t : TA} {T : List W → Prop} (ha : Ev ta σ H Sa) (hr : ∀ x, Sa x → EvA t σ H fun xs => T (x :: xs)) : EvA (tCons ta t) σ H T := fun N H1 vw Q q =>
  ha N H1 vw _ fun v H2 x e2 sx ix => hr x sx N H2 (vw.step e2) _ fun vs H3 xs e3 sxs ixs => q (v :: vs) H3 (x :: xs) (e2.trans e3) sxs (.cons (is_mono (hid_mono e3) ix) ixs)
theorem ea_star {t : TA} {T : List W → Prop} (ha : Ev ta σ H Sa) (hd : ∀ x, Sa x → ∃ ds, x = .d (.tuple ds) ∨ x = .d (.list ds)) (hr : ∀ ds, (Sa (.d (.tuple ds)) ∨ Sa (.d (.list ds))) → EvA t σ H fun xs => T (ds.map W.d ++ xs)) :
    EvA (StX.tStar K ta t) σ H T := fun N H1 vw Q q =>
  ha N H1 vw _ fun v H2 x e2 sx ix => by
    obtain ⟨ds, hx⟩ := hd x sx
    have go : ∀ (p : Addr) (vs : List V), v = .ref p → (SqT K H2 p vs ∨ SqL K H2 p vs) → DqAll (hid N H2) vs ds → ∃ p xs, v = V.ref p ∧ (SqT K H2 p xs ∨ SqL K H2 p xs) ∧ t σ H2 fun ys H3 => Q (xs ++ ys) H3 := fun p vs ev hs hd => by
      refine ⟨p, vs, ev, hs, hr ds (by rcases hx with e | e <;> rw [e] at sx <;> first | exact .inl sx | exact .inr sx) N H2 (vw.step e2) _ fun us H3 xs e3 sxs ixs => q _ H3 _ (e2.trans e3) sxs (isa_app (isa_mono (hid_mono e3) (dps_isa hd)) ixs)⟩
    rcases hx with e | e
    · rw [e] at ix
      cases ix with
      | tup hs ha => exact go _ _ rfl (.inl (hid_ta hs).1.t) ha
    · rw [e] at ix
      cases ix with
      | lst hs ha => exact go _ _ rfl (.inr (.inl (.inl (hid_get hs).1))) ha
theorem ev_tup {t : TA} (h : EvA t σ H fun xs => ∃ ds, xs = ds.map W.d ∧ ds.length ≤ 100000 ∧ S (.d (.tuple ds))) : Ev (tTupB t) σ H S := fun N H1 vw Q q =>
  h N H1 vw _ fun vs H2 xs e2 ⟨ds, ex, hl, s⟩ ix => by
    subst ex
    have hd := isa_dps ix
    refine ⟨by rw [dps_len hd]; exact Nat.le_trans hl (by decide), fun p o hp to => q _ _ (.d (.tuple ds)) (e2.trans (Ex.new hp)) s ?_⟩
    have np : p ∉ N := (vw.step e2).new hp
    exact .tup ⟨o, hid_of upd_same np, to⟩ (dps_mono (hid_mono (Exw.new hp)) ds vs hd)
theorem ev_lst {t : TA} (h : EvA t σ H fun xs => ∃ ds, xs = ds.map W.d ∧ ds.length ≤ 100000 ∧ S (.d (.list ds))) : Ev (tLst t) σ H S := fun N H1 vw Q q =>
  h N H1 vw _ fun vs H2 xs e2 ⟨ds, ex, hl, s⟩ ix => by
    subst ex
    have hd := isa_dps ix
    refine ⟨by rw [dps_len hd]; exact Nat.le_trans hl (by decide), fun p hp => q _ _ (.d (.list ds)) (e2.trans (Ex.new hp)) s ?_⟩
    have np : p ∉ N := (vw.step e2).new hp
    exact .lst (hid_of upd_same np) (dps_mono (hid_mono (Exw.new hp)) ds vs hd)
/-- tests -/
theorem eb_test (h : Ev te σ H fun w => ∃ b, w = .d (.bool b) ∧ B b) : EvB (tTest te) σ H B := fun N H1 vw Q q => h N H1 vw _ fun v H2 w e2 ⟨b, ew, sb⟩ i => by
  subst ew
  cases i
  exact ⟨b, rfl, q b H2 e2 sb⟩
theorem eb_B (h : Ev te σ H fun w => ∃ b, w = .d (.bool b) ∧ B b) : EvB (tB te) σ H B := fun N H1 vw Q q => h N H1 vw _ fun v H2 w e2 ⟨b, ew, sb⟩ i => by
  subst ew
  cases i
  exact ⟨b, rfl, q b H2 e2 sb⟩
theorem eb_and (h1 : EvB tt σ H B') (h2 : B' true → EvB tu σ H B) (h3 : B' false → B false) : EvB (tAnd tt tu) σ H B := fun N H1 vw Q q => h1 N H1 vw _ fun b H2 e2 sb => by
  cases b with
  | true =>
    show tu σ H2 Q
    exact h2 sb N H2 (vw.step e2) Q fun b H3 e3 s3 => q b H3 (e2.trans e3) s3
  | false =>
    show Q false H2
    exact q false H2 e2 (h3 sb)
theorem eb_or (h1 : EvB tt σ H B') (h2 : B' false → EvB tu σ H B) (h3 : B' true → B true) : EvB (tOr tt tu) σ H B := fun N H1 vw Q q => h1 N H1 vw _ fun b H2 e2 sb => by
  cases b with
  | true =>
    show Q true H2
    exact q true H2 e2 (h3 sb)
  | false =>
    show tu σ H2 Q
    exact h2 sb N H2 (vw.step e2) Q fun b H3 e3 s3 => q b H3 (e2.trans e3) s3
theorem eb_not (h : EvB tt σ H fun b => B (!b)) : EvB (tNot tt) σ H B := fun N H1 vw Q q => h N H1 vw _ fun b H2 e2 sb => q (!b) H2 e2 sb
theorem ev_if (h : EvB tt σ H B) (h1 : B true → Ev ta σ H S) (h2 : B false → Ev tb σ H S) : Ev (tIf tt ta tb) σ H S := fun N H1 vw Q q => h N H1 vw _ fun b H2 e2 sb => by
  cases b with
  | true =>
    show ta σ H2 Q
    exact h1 sb N H2 (vw.step e2) Q fun v H3 w e3 s3 i => q v H3 w (e2.trans e3) s3 i
  | false =>
    show tb σ H2 Q
    exact h2 sb N H2 (vw.step e2) Q fun v H3 w e3 s3 i => q v H3 w (e2.trans e3) s3 i
theorem ev_andV (h1 : Ev ta σ H fun w => ∃ b, w = .d (.bool b) ∧ B b) (h2 : B true → Ev tb σ H S) (h3 : B false → S (.d (.bool false))) : Ev (tAndV ta tb) σ H S := fun N H1 vw Q q =>
  h1 N H1 vw _ fun v H2 w e2 ⟨b, ew, sb⟩ i => by
    subst ew
    cases i
    refine ⟨b, rfl, ?_⟩
    cases b with
    | true =>
      show tb σ H2 Q
      exact h2 sb N H2 (vw.step e2) Q fun v H3 w e3 s3 i => q v H3 w (e2.trans e3) s3 i
    | false =>
      show Q (.bl false) H2
      exact q _ H2 _ e2 (h3 sb) (.bl false)
theorem ev_orV (h1 : Ev ta σ H fun w => ∃ b, w = .d (.bool b) ∧ B b) (h2 : B false → Ev tb σ H S) (h3 : B true → S (.d (.bool true))) : Ev (tOrV ta tb) σ H S := fun N H1 vw Q q =>
  h1 N H1 vw _ fun v H2 w e2 ⟨b, ew, sb⟩ i => by
    subst ew
    cases i
    refine ⟨b, rfl, ?_⟩
    cases b with
    | true =>
      show Q (.bl true) H2
      exact q _ H2 _ e2 (h3 sb) (.bl true)
    | false =>
      show tb σ H2 Q
      exact h2 sb N H2 (vw.step e2) Q fun v H3 w e3 s3 i => q v H3 w (e2.trans e3) s3 i
theorem ev_notV (h1 : Ev ta σ H fun w => ∃ b, w = .d (.bool b) ∧ S (.d (.bool (!b)))) : Ev (tNotV ta) σ H S := fun N H1 vw Q q =>
  h1 N H1 vw _ fun v H2 w e2 ⟨b, ew, sb⟩ i => by
    subst ew
    cases i
    exact ⟨b, rfl, q _ H2 _ e2 sb (.bl _)⟩
end
end Kl
set_option Elab.async false
set_option linter.all false
set_option maxRecDepth 100000
set_option maxHeartbeats 4000000
/-! KB: slots, promises, statements, walked things, comprehensions. -/
namespace Kl
open PySem PySem.Spec PyProof.Rows L2
/-! ### what the slots are known to hold -/
structure Env (σ : L2.St) (H : Hp) (ρ : List (Option W)) : Prop where
  len : σ.length = ρ.length
  at_ : ∀ (i : Nat) (w : W), ρ[i]? = some (some w) → ∃ v, σ[i]? = some (some v) ∧ Is H v w
section
variable {K : Frg} {σ : L2.St} {H H' : Hp} {ρ : List (Option W)}
theorem Env.mono (h : Env σ H ρ) (e : Exw H H') : Env σ H' ρ := ⟨h.len, fun i w q => by
  obtain ⟨v, h1, h2⟩ := h.at_ i w q
  exact ⟨v, h1, is_mono e h2⟩⟩
theorem Env.set {v : V} {w : W} (h : Env σ H ρ) (i : Nat) (q : Is H v w) : Env (σ.set i (some v)) H (ρ.set i (some w)) := by
  refine ⟨by rw [List.length_set, List.length_set]; exact h.len, fun j u e => ?_⟩
  by_cases hj : i = j
  · subst hj
    by_cases hi : i < ρ.length
    · rw [List.getElem?_set_self hi] at e
      have e' := Option.some.inj (Option.some.inj e)
      subst e'
      exact ⟨v, by rw [List.getElem?_set_self (by rw [h.len]; exact hi)], q⟩
    · rw [List.getElem?_eq_none (by simpa using hi)] at e
      cases e
  · rw [List.getElem?_set_ne hj] at e
    rw [List.getElem?_set_ne hj]
    exact h.at_ j u e
theorem Env.forget (h : Env σ H ρ) (i : Nat) : Env σ H (ρ.set i none) := by
  refine ⟨by rw [List.length_set]; exact h.len, fun j u e => ?_⟩
  by_cases hj : i = j
  · subst hj
    by_cases hi : i < ρ.length
    · rw [List.getElem?_set_self hi] at e
      cases e
    · rw [List.getElem?_eq_none (by simpa using hi)] at e
      cases e
  · rw [List.getElem?_set_ne hj] at e
    exact h.at_ j u e
theorem Env.unset (h : Env σ H ρ) (i : Nat) : Env (σ.set i none) H (ρ.set i none) := by
  refine ⟨by rw [List.length_set, List.length_set]; exact h.len, fun j u e => ?_⟩
  by_cases hj : i = j
  · subst hj
    by_cases hi : i < ρ.length
    · rw [List.getElem?_set_self hi] at e
      cases e
    · rw [List.getElem?_eq_none (by simpa using hi)] at e
      cases e
  · rw [List.getElem?_set_ne hj] at e
    rw [List.getElem?_set_ne hj]
    exact h.at_ j u e
def wip (ρ : List (Option W)) : List Nat → List (Option W)
  | [] => ρ
  | v :: vs => (wip ρ vs).set v none
theorem Env.wipe (h : Env σ H ρ) : ∀ vs : List Nat, Env (L2.wipe σ vs) H (wip ρ vs)
  | [] => h
  | v :: vs => (Env.wipe h vs).unset v
/-- several slots at once -/
def sets (σ : L2.St) : List Nat → List V → L2.St
  | j :: js, x :: xs => sets (σ.set j (some x)) js xs
  | _, _ => σ
def setr (ρ : List (Option W)) : List Nat → List W → List (Option W)
  | j :: js, x :: xs => setr (ρ.set j (some x)) js xs
  | _, _ => ρ
theorem Env.sets : ∀ {js : List Nat} {xs : List V} {us : List W} {σ : L2.St} {ρ : List (Option W)}, Env σ H ρ → IsAll H xs us → Env (Kl.sets σ js xs) H (setr ρ js us)
  | [], _, _, _, _, h, .nil => h
  | [], _, _, _, _, h, .cons _ _ => h
  | _ :: _, _, _, _, _, h, .nil => h
  | j :: js, _, _, _, _, h, .cons a t => by
    have q := Env.sets (js := js) (h.set j a) t
    exact q
theorem sets_wipe : ∀ {js : List Nat} {xs : List V} {σ : L2.St} {vs : List Nat}, (∀ j ∈ js, j ∈ vs) → L2.wipe (sets σ js xs) vs = L2.wipe σ vs := by
  have one : ∀ (vs : List Nat) (σ : L2.St) (j : Nat) (x : Option V), j ∈ vs → L2.wipe (σ.set j x) vs = L2.wipe σ vs := by
    intro vs
    have gen : ∀ (vs : List Nat) (σ : L2.St) (i : Nat), (L2.wipe σ vs)[i]? = if i ∈ vs then (if i < σ.length then some none else none) else σ[i]? := by
      intro vs
      induction vs with
      | nil => intro σ i; simp [L2.wipe]
      | cons v vs ih =>
        intro σ i
        show ((L2.wipe σ vs).set v none)[i]? = _
        by_cases hv : v = i
        · subst hv
          by_cases hl : v < σ.length
          · rw [List.getElem?_set_self (by rw [L2.wipe_length]; exact hl), if_pos List.mem_cons_self, if_pos hl]
          · rw [List.getElem?_eq_none (by rw [List.length_set, L2.wipe_length]; omega), if_pos List.mem_cons_self, if_neg hl]
        · rw [List.getElem?_set_ne hv, ih]
          by_cases hm : i ∈ vs
          · rw [if_pos hm, if_pos (List.mem_cons_of_mem _ hm)]
          · rw [if_neg hm, if_neg (by simp only [List.mem_cons, not_or]; exact ⟨fun e => hv e.symm, hm⟩)]
    intro σ j x hj
    apply List.ext_getElem?
    intro i
    rw [gen, gen]
    by_cases hm : i ∈ vs
    · rw [if_pos hm, if_pos hm, List.length_set]
    · rw [if_neg hm, if_neg hm]
      have ne : j ≠ i := fun e => hm (by rw [← e]; exact hj)
      rw [List.getElem?_set_ne ne]
  intro js
  induction js with
  | nil => intro xs σ vs _; rfl
  | cons j js ih =>
    intro xs σ vs h
    cases xs with
    | nil => rfl
    | cons x xs =>
      show L2.wipe (sets (σ.set j (some x)) js xs) vs = _
      rw [ih fun k hk => h k (List.mem_cons_of_mem _ hk), one vs σ j _ (h j List.mem_cons_self)]
theorem wipe_wipe {σ : L2.St} {vs : List Nat} : L2.wipe (L2.wipe σ vs) vs = L2.wipe σ vs := by
  apply List.ext_getElem?
  intro i
  have gen : ∀ (vs : List Nat) (σ : L2.St) (i : Nat), (L2.wipe σ vs)[i]? = if i ∈ vs then (if i < σ.length then some none else none) else σ[i]? := by
    intro vs
    induction vs with
    | nil => intro σ i; simp [L2.wipe]
    | cons v vs ih =>
      intro σ i
      show ((L2.wipe σ vs).set v none)[i]? = _
      by_cases hv : v = i
      · subst hv
        by_cases hl : v < σ.length
        · rw [List.getElem?_set_self (by rw [L2.wipe_length]; exact hl), if_pos List.mem_cons_self, if_pos hl]
        · rw [List.getElem?_eq_none (by rw [List.length_set, L2.wipe_length]; omega), if_pos List.mem_cons_self, if_neg hl]
      · rw [List.getElem?_set_ne hv, ih]
        by_cases hm : i ∈ vs
        · rw [if_pos hm, if_pos (List.mem_cons_of_mem _ hm)]
        · rw [if_neg hm, if_neg (by simp only [List.mem_cons, not_or]; exact ⟨fun e => hv e.symm, hm⟩)]
  rw [gen, gen, L2.wipe_length]
  by_cases hm : i ∈ vs
  · simp only [if_pos hm]
  · simp only [if_neg hm]
theorem ev_var {i : Nat} {w : W} {S : W → Prop} (h : Env σ H ρ) (e : ρ[i]? = some (some w)) (s : S w) : Ev (tVar i) σ H S := fun N H1 vw Q q => by
  obtain ⟨v, h1, h2⟩ := h.at_ i w e
  exact ⟨v, h1, q v H1 w (Ex.refl _) s (is_mono vw.ex h2)⟩
end
/-! ### a promise about described values -/
def SpF (F : List W → (W → Prop) → Prop) : Sp := fun vs H Q _ => ∃ (N : List Addr) (ws : List W) (S : W → Prop), (∀ l ∈ N, H l ≠ none) ∧ IsAll (hid N H) vs ws ∧ F ws S ∧ ∀ v H' w, Ex H H' → S w → Is (hid N H') v w → Q v H'
section
variable {K : Frg} {σ : L2.St} {H H' : Hp} {S : W → Prop}
theorem ev_call {F : List W → (W → Prop) → Prop} {t : TA} {T : List W → Prop} {dvs : List V} {dws : List W} {E : XK} (ha : EvA t σ H T) (hd : ∀ H, IsAll H dvs dws) (hF : ∀ ws, T ws → F (ws ++ dws) S) : Ev (tCall (SpF F) dvs E t) σ H S := fun N H1 vw Q q =>
  ha N H1 vw _ fun vs H2 ws e2 sw iw => ⟨N, ws ++ dws, S, (vw.step e2).al, isa_app iw (hd _), hF ws sw, fun v H3 w e3 s3 i3 => q v H3 w (e2.trans e3) s3 i3⟩
theorem ev_call0 {F : List W → (W → Prop) → Prop} {t : TA} {E : XK} (ha : EvA t σ H fun ws => F ws S) : Ev (tCall (SpF F) [] E t) σ H S :=
  ev_call (dws := []) ha (fun _ => .nil) fun ws h => by rw [List.append_nil]; exact h
end

/-! ### statements at a heap with hidden addresses -/
theorem Exw.mut {B H : Hp} {l : Addr} {o : HO} (e : Exw B H) (h : B l = none) : Exw B (L2.upd H l o) := fun a u ha => by
  rw [upd_ne (ne_of_none ha h)]
  exact e a u ha
theorem Ex.mut {B H : Hp} {l : Addr} {o : HO} (e : Ex B H) (h : B l = none) (n : Plain H l) : Ex B (L2.upd H l o) := ⟨e.w.mut h, fun T t => tabs_upd (e.tb T t) n⟩
/-- B: the heap at the def's entry -/
structure At (N : List Addr) (B : Hp) (σ : L2.St) (H : Hp) (ρ : List (Option W)) : Prop where
  al : ∀ l ∈ N, H l ≠ none
  ex : Ex B H
  env : Env σ (hid N H) ρ
section
variable {K : Frg} {N : List Addr} {B : Hp} {σ : L2.St} {H H' : Hp} {ρ : List (Option W)} {te : TE} {tt : TT} {tu tw tz : TS} {D : Ends} {S : W → Prop} {C : Bool → Prop}
theorem At.vw (h : At N B σ H ρ) : Vw N (hid N H) H := ⟨h.al, Exw.refl _⟩
theorem At.mono (h : At N B σ H ρ) (e : Ex H H') : At N B σ H' ρ := ⟨fun l m => e.some (h.al l m), h.ex.trans e, h.env.mono (hid_mono e)⟩
theorem At.set {v : V} {w : W} (h : At N B σ H ρ) (i : Nat) (q : Is (hid N H) v w) : At N B (σ.set i (some v)) H (ρ.set i (some w)) := ⟨h.al, h.ex, h.env.set i q⟩
theorem at_ev (h : At N B σ H ρ) (he : Ev te σ (hid N H) S) {Q : VK} (k : ∀ v H' w, Ex H H' → S w → Is (hid N H') v w → At N B σ H' ρ → Q v H') : te σ H Q :=
  he N H h.vw Q fun v H2 w e s i => k v H2 w e s i (h.mono e)
theorem s_asg {i : Nat} (h : At N B σ H ρ) (he : Ev te σ (hid N H) S) (k : ∀ v w H', Ex H H' → S w → Is (hid N H') v w → At N B (σ.set i (some v)) H' (ρ.set i (some w)) → D.nx (σ.set i (some v)) H') : tAsg te (gName i) D σ H :=
  at_ev h he fun v H' w e s q a => k v w H' e s q (a.set i q)
theorem q_asg {i : Nat} (h : At N B σ H ρ) (he : Ev te σ (hid N H) S) (k : ∀ v w H', Ex H H' → S w → Is (hid N H') v w → At N B (σ.set i (some v)) H' (ρ.set i (some w)) → tz D (σ.set i (some v)) H') : tSeq (tAsg te (gName i)) tz D σ H :=
  s_asg (D := { D with nx := tz D }) h he k
theorem s_ret (h : At N B σ H ρ) (he : Ev te σ (hid N H) S) (k : ∀ v w H', Ex B H' → S w → Is (hid N H') v w → D.rt v H') : tRet te D σ H := at_ev h he fun v H' w e s q a => k v w H' a.ex s q
theorem q_ret (h : At N B σ H ρ) (he : Ev te σ (hid N H) S) (k : ∀ v w H', Ex B H' → S w → Is (hid N H') v w → D.rt v H') : tSeq (tRet te) tz D σ H := s_ret (D := { D with nx := tz D }) h he k
theorem s_drop (h : At N B σ H ρ) (he : Ev te σ (hid N H) S) (k : ∀ w H', Ex H H' → S w → At N B σ H' ρ → D.nx σ H') : tDrop te D σ H := at_ev h he fun v H' w e s q a => k w H' e s a
theorem q_drop (h : At N B σ H ρ) (he : Ev te σ (hid N H) S) (k : ∀ w H', Ex H H' → S w → At N B σ H' ρ → tz D σ H') : tSeq (tDrop te) tz D σ H := s_drop (D := { D with nx := tz D }) h he k
theorem s_if (h : At N B σ H ρ) (hb : EvB tt σ (hid N H) C) (h1 : C true → ∀ H', Ex H H' → At N B σ H' ρ → tu D σ H') (h2 : C false → ∀ H', Ex H H' → At N B σ H' ρ → tw D σ H') : tIfS tt tu tw D σ H :=
  hb N H h.vw _ fun b H' e sb => by
    cases b with
    | true =>
      show tu D σ H'
      exact h1 sb H' e (h.mono e)
    | false =>
      show tw D σ H'
      exact h2 sb H' e (h.mono e)
theorem q_if (h : At N B σ H ρ) (hb : EvB tt σ (hid N H) C) (h1 : C true → ∀ H', Ex H H' → At N B σ H' ρ → tu { D with nx := tz D } σ H') (h2 : C false → ∀ H', Ex H H' → At N B σ H' ρ → tw { D with nx := tz D } σ H') : tSeq (tIfS tt tu tw) tz D σ H :=
  s_if (D := { D with nx := tz D }) h hb h1 h2
/-- an if without else -/
theorem q_when (h : At N B σ H ρ) (hb : EvB tt σ (hid N H) C) (h1 : C true → ∀ H', Ex H H' → At N B σ H' ρ → tu { D with nx := tz D } σ H') (h2 : C false → ∀ H', Ex H H' → At N B σ H' ρ → tz D σ H') : tSeq (tIfS tt tu tNext) tz D σ H :=
  s_if (D := { D with nx := tz D }) h hb h1 h2
theorem s_when (h : At N B σ H ρ) (hb : EvB tt σ (hid N H) C) (h1 : C true → ∀ H', Ex H H' → At N B σ H' ρ → tu D σ H') (h2 : C false → ∀ H', Ex H H' → At N B σ H' ρ → D.nx σ H') : tIfS tt tu tNext D σ H := s_if h hb h1 h2
/-- a local list that is filled: hidden -/
structure ML (N : List Addr) (B H : Hp) (l : Addr) (ds : List PyData) : Prop where
  mem : l ∈ N
  new : B l = none
  is : ∃ xs, H l = some (.lst xs) ∧ DqAll (hid N H) xs ds
theorem ML.mono {l : Addr} {ds : List PyData} (m : ML N B H l ds) (e : Ex H H') : ML N B H' l ds := by
  obtain ⟨xs, h1, h2⟩ := m.is
  exact ⟨m.mem, m.new, xs, e.lst h1, dps_mono (hid_mono e) ds xs h2⟩
/-- a new object is hidden -/
theorem At.hide {l : Addr} (h : At N B σ H ρ) (hl : H l = none) (i : Nat) (o : HO) : At (l :: N) B (σ.set i (some (.ref l))) (upd H l o) (ρ.set i (some (.v (.ref l)))) := by
  refine ⟨fun a m => ?_, h.ex.mut (h.ex.back hl) (plain_none hl), ?_⟩
  · by_cases e : a = l
    · rw [e, upd_same]; nofun
    · rw [upd_ne e]
      rcases List.mem_cons.mp m with z | z
      · exact absurd z e
      · exact h.al a z
  · rw [hid_new hl]
    exact h.env.set i rfl
/-- y = [], the list y to be filled -/
theorem q_new {i : Nat} (h : At N B σ H ρ) (k : ∀ l, H l = none → At (l :: N) B (σ.set i (some (.ref l))) (upd H l (.lst [])) (ρ.set i (some (.v (.ref l)))) → ML (l :: N) B (upd H l (.lst [])) l [] → tz D (σ.set i (some (.ref l))) (upd H l (.lst []))) :
    tSeq (tAsg (tLst tNil) (gName i)) tz D σ H := ⟨Nat.zero_le _, fun l hl => k l hl (h.hide hl i _) ⟨List.mem_cons_self, h.ex.back hl, [], upd_same, .nil⟩⟩
theorem mem_al {N : List Addr} {H : Hp} {l : Addr} {o : HO} (h : ∀ a ∈ N, H a ≠ none) : ∀ a ∈ N, upd H l o a ≠ none := fun a m => by
  by_cases e : a = l
  · rw [e, upd_same]; nofun
  · rw [upd_ne e]; exact h a m
theorem At.upd {l : Addr} {o : HO} (h : At N B σ H ρ) (m : l ∈ N) (n : B l = none) (pl : Plain H l) : At N B σ (L2.upd H l o) ρ := ⟨mem_al h.al, h.ex.mut n pl, by rw [hid_upd m]; exact h.env⟩
/-- l.append(e) -/
theorem s_app {l : Addr} {i : Nat} {ds : List PyData} (h : At N B σ H ρ) (m : ML N B H l ds) (hi : ρ[i]? = some (some (.v (.ref l)))) (he : Ev te σ (hid N H) fun w => ∃ d, w = .d d ∧ S w) (hz : ds.length < 60000)
    (k : ∀ d H1 xs, Ex H H1 → S (.d d) → At N B σ (L2.upd H1 l (.lst xs)) ρ → ML N B (L2.upd H1 l (.lst xs)) l (ds ++ [d]) → D.nx σ (L2.upd H1 l (.lst xs))) : tDrop (tBM K "list" rAppend (tVar i) (tCons te tNil)) D σ H := by
  obtain ⟨v0, e0, i0⟩ := h.env.at_ i _ hi
  have i0 : v0 = .ref l := i0
  subst i0
  obtain ⟨xs, hl, hd⟩ := m.is
  refine ⟨.ref l, e0, .inl ⟨rfl, xs, .inl (.inl hl)⟩, at_ev h he fun v H1 w e s q a => ?_⟩
  obtain ⟨d, rfl, sw⟩ := s
  have hl1 : H1 l = some (.lst xs) := e.lst hl
  refine ⟨l, xs, v, rfl, rfl, hl1, Nat.lt_trans (by rw [dps_len hd]; exact hz) (by decide), k d H1 _ e sw (a.upd m.mem m.new (plain_lst hl1)) ⟨m.mem, m.new, _, upd_same, ?_⟩⟩
  rw [hid_upd m.mem]
  exact dps_app (dps_mono (hid_mono e) ds xs hd) (.cons q .nil)
theorem q_app {l : Addr} {i : Nat} {ds : List PyData} (h : At N B σ H ρ) (m : ML N B H l ds) (hi : ρ[i]? = some (some (.v (.ref l)))) (he : Ev te σ (hid N H) fun w => ∃ d, w = .d d ∧ S w) (hz : ds.length < 60000)
    (k : ∀ d H1 xs, Ex H H1 → S (.d d) → At N B σ (L2.upd H1 l (.lst xs)) ρ → ML N B (L2.upd H1 l (.lst xs)) l (ds ++ [d]) → tz D σ (L2.upd H1 l (.lst xs))) : tSeq (tDrop (tBM K "list" rAppend (tVar i) (tCons te tNil))) tz D σ H :=
  s_app (D := { D with nx := tz D }) h m hi he hz k
/-- another filled list stays as it is -/
theorem ML.upd {l l2 : Addr} {o : HO} {ds : List PyData} (m : ML N B H l ds) (h2 : l2 ∈ N) (ne : l ≠ l2) : ML N B (L2.upd H l2 o) l ds := by
  obtain ⟨xs, h1, h3⟩ := m.is
  exact ⟨m.mem, m.new, xs, by rw [upd_ne ne]; exact h1, by rw [hid_upd h2]; exact h3⟩
theorem ML.more {l l2 : Addr} {o : HO} {ds : List PyData} (m : ML N B H l ds) (h2 : H l2 = none) : ML (l2 :: N) B (L2.upd H l2 o) l ds := by
  obtain ⟨xs, h1, h3⟩ := m.is
  exact ⟨List.mem_cons_of_mem _ m.mem, m.new, xs, by rw [upd_ne (ne_of_none h1 h2)]; exact h1, by rw [hid_new h2]; exact h3⟩
theorem set_self {σ : L2.St} {i : Nat} {v : V} (e0 : σ[i]? = some (some v)) : σ.set i (some v) = σ := by
  apply List.ext_getElem?
  intro j
  by_cases hj : i = j
  · subst hj
    rw [List.getElem?_set_self (List.getElem?_eq_some_iff.mp e0).1, e0]
  · rw [List.getElem?_set_ne hj]
/-- filled: it is seen from now on -/
theorem At.show_ {l : Addr} {i : Nat} {ds : List PyData} (h : At (l :: N) B σ H ρ) (m : ML (l :: N) B H l ds) (n : l ∉ N) (hi : ρ[i]? = some (some (.v (.ref l)))) : At N B σ H (ρ.set i (some (.d (.list ds)))) := by
  obtain ⟨v0, e0, i0⟩ := h.env.at_ i _ hi
  have i0 : v0 = .ref l := i0
  subst i0
  obtain ⟨xs, h1, h3⟩ := m.is
  have e := (h.env.mono (hid_cons l N H)).set i (v := .ref l) (w := .d (.list ds)) (.lst (hid_of h1 n) (dps_mono (hid_cons l N H) ds xs h3))
  rw [set_self e0] at e
  exact ⟨fun a m => h.al a (List.mem_cons_of_mem _ m), h.ex, e⟩
end

/-! ### what is walked -/
structure WalkD (V0 : Hp) (J : It) (ws : List W) : Prop where
  goes : ∀ (i : Nat) (H : Hp) (N : List Addr), i < ws.length → Vw N V0 H → J.go i H
  stops : ∀ (H : Hp) (N : List Addr), Vw N V0 H → J.stop ws.length H
  yields : ∀ (i : Nat) (H : Hp) (N : List Addr) (x : V) (H' : Hp), i < ws.length → Vw N V0 H → J.yld i H x H' → Ex H H' ∧ ∃ w, ws[i]? = some w ∧ Is (hid N H') x w
def EvI (wi : TI) (σ : L2.St) (H : Hp) (T : List W → Prop) : Prop :=
  ∀ (N : List Addr) (H1 : Hp), Vw N H H1 → ∀ R : It → Hp → Prop, (∀ J H2 ws, Ex H1 H2 → T ws → WalkD (hid N H2) J ws → R J H2) → wi σ H1 R
theorem vis {N : List Addr} {V0 H : Hp} (v : Vw N V0 H) : Exw V0 H := v.ex.trans (hid_ex N H)
theorem walkd_list {K : Frg} {V0 : Hp} {a : Addr} {xs : List V} {ds : List PyData} (hs0 : V0 a = some (.lst xs)) (ha : DqAll V0 xs ds) : WalkD V0 (Itl K a) (ds.map W.d) := by
  have hs : SqL K V0 a xs := .inl (.inl hs0)
  have hl := dps_len ha
  refine ⟨fun i H N hi v => ⟨xs, xs[i]'(by rw [hl]; simpa using hi), (vis v).l hs, by simp⟩, fun H N v => ⟨xs, (vis v).l hs, by simp [hl]⟩, fun i H N x H' hi v y => ?_⟩
  obtain ⟨rfl, y⟩ := y
  obtain ⟨d, h1, h2⟩ := dps_getV ha (y xs ((vis v).l hs))
  exact ⟨Ex.refl _, .d d, by simp [h1], dp_mono v.ex d x h2⟩
theorem walkd_tup {K : Frg} {V0 : Hp} {a : Addr} {xs : List V} {ds : List PyData} (hs0 : TupA V0 a xs) (ha : DqAll V0 xs ds) : WalkD V0 (Itt K a) (ds.map W.d) := by
  have hs : SqT K V0 a xs := hs0.t
  have hl := dps_len ha
  refine ⟨fun i H N hi v => ⟨xs, xs[i]'(by rw [hl]; simpa using hi), (vis v).t hs, by simp⟩, fun H N v => ⟨xs, (vis v).t hs, by simp [hl]⟩, fun i H N x H' hi v y => ?_⟩
  obtain ⟨rfl, y⟩ := y
  obtain ⟨d, h1, h2⟩ := dps_getV ha (y xs ((vis v).t hs))
  exact ⟨Ex.refl _, .d d, by simp [h1], dp_mono v.ex d x h2⟩
theorem walkd_range {V0 : Hp} {lo : Int} {n : Nat} : WalkD V0 (Itr lo n) ((List.range n).map fun i => W.d (.int (lo + (i : Nat)))) := by
  refine ⟨fun i H N hi _ => (by simpa using hi : i < n), fun H N _ => by simp [Itr], fun i H N x H' hi v y => ?_⟩
  obtain ⟨rfl, rfl⟩ := y
  have hi' : i < n := by simpa using hi
  exact ⟨Ex.refl _, .d (.int (lo + (i : Nat))), by simp [hi'], .int _⟩
theorem walkd_str {V0 : Hp} {z : Str} : WalkD V0 (Its z) (z.cps.toList.map fun c => W.d (.str ⟨#[c]⟩)) := by
  refine ⟨fun i H N hi _ => by simpa [Its] using hi, fun H N _ => by simp [Its], fun i H N x H' hi v y => ?_⟩
  obtain ⟨rfl, c, hc, rfl⟩ := y
  exact ⟨Ex.refl _, .d (.str ⟨#[c]⟩), by simp [hc], .str _⟩
section
variable {K : Frg} {σ : L2.St} {H : Hp} {te : TE} {S : W → Prop} {T : List W → Prop}
theorem ei_list (h : Ev te σ H fun w => ∃ ds, w = .d (.list ds) ∧ T (ds.map W.d)) : EvI (iList K te) σ H T := fun N H1 vw R r =>
  h N H1 vw _ fun v H2 w e2 ⟨ds, ew, t⟩ i => by
    subst ew
    cases i with
    | lst hs ha => exact ⟨_, rfl, ⟨_, .inl (.inl (hid_get hs).1)⟩, r _ H2 _ e2 t (walkd_list hs ha)⟩
theorem ei_tup (h : Ev te σ H fun w => ∃ ds, w = .d (.tuple ds) ∧ T (ds.map W.d)) : EvI (iTup K te) σ H T := fun N H1 vw R r =>
  h N H1 vw _ fun v H2 w e2 ⟨ds, ew, t⟩ i => by
    subst ew
    cases i with
    | tup hs ha => exact ⟨_, rfl, ⟨_, (hid_ta hs).1.t⟩, r _ H2 _ e2 t (walkd_tup hs ha)⟩
theorem ei_str (h : Ev te σ H fun w => ∃ z : Str, w = .d (.str z) ∧ T (z.cps.toList.map fun c => W.d (.str ⟨#[c]⟩))) : EvI (iStr te) σ H T := fun N H1 vw R r =>
  h N H1 vw _ fun v H2 w e2 ⟨z, ew, t⟩ i => by
    subst ew
    cases i
    exact ⟨z, rfl, r _ H2 _ e2 t walkd_str⟩
theorem ei_range1 {ta : TA} (h : EvA ta σ H fun ws => ∃ j : Int, ws = [.d (.int j)] ∧ j ≤ 100000 ∧ -100000 ≤ j ∧ T ((List.range j.toNat).map fun i => W.d (.int (0 + (i : Nat))))) : EvI (iRng1 ta) σ H T := fun N H1 vw R r =>
  h N H1 vw _ fun vs H2 ws e2 ⟨j, ew, h1, h2, t⟩ i => by
    subst ew
    cases i with
    | cons a b =>
      cases a
      cases b
      exact ⟨j, rfl, by omega, by omega, r _ H2 _ e2 t walkd_range⟩
end
/-- a target that takes a described value -/
def Tg (g : TG) (js : List Nat) (w : W) (us : List W) : Prop :=
  ∀ (N : List Addr) (H : Hp) (v : V) (σ : L2.St), Is (hid N H) v w → ∀ Q : L2.St → Hp → Prop, (∀ xs, IsAll (hid N H) xs us → Q (sets σ js xs) H) → g v σ H Q
theorem tg_name {j : Nat} {w : W} : Tg (gName j) [j] w [w] := fun N H v σ i Q q => q [v] (.cons i .nil)
theorem tg_two {K : Frg} {j k : Nat} {d e : PyData} : Tg (gTup K 2 (gCons (gName j) (gCons (gName k) gNil))) [j, k] (.d (.tuple [d, e])) [.d d, .d e] := fun N H v σ i Q q => by
  cases i with
  | tup hs ha =>
    rename_i a xs
    cases ha with
    | cons h1 h2 =>
      cases h2 with
      | cons h3 h4 =>
        cases h4
        exact ⟨a, _, rfl, (hid_ta hs).1.t, rfl, _, _, rfl, _, _, rfl, rfl, q [_, _] (.cons h1 (.cons h3 .nil))⟩
/-- a pair just made by zip or enumerate -/
def pairW (d e : PyData) : W := .x (fun H v => ∃ a x y, v = .ref a ∧ H a = some (.tup [x, y]) ∧ Dq H x d ∧ Dq H y e) fun H H' v (ex : Exw H H') ⟨a, x, y, h1, h2, h3, h4⟩ => ⟨a, x, y, h1, ex.tup h2, dp_mono ex d x h3, dp_mono ex e y h4⟩
theorem tg_pair {K : Frg} {j k : Nat} {d e : PyData} : Tg (gTup K 2 (gCons (gName j) (gCons (gName k) gNil))) [j, k] (pairW d e) [.d d, .d e] := fun N H v σ i Q q => by
  obtain ⟨a, x, y, rfl, h2, h3, h4⟩ := i
  exact ⟨a, _, rfl, .inl (.inl (hid_get h2).1), rfl, _, _, rfl, _, _, rfl, rfl, q [_, _] (.cons h3 (.cons h4 .nil))⟩
theorem new_pair {N : List Addr} {H : Hp} {p : Addr} {x y : V} {d e : PyData} (al : ∀ l ∈ N, H l ≠ none) (hp : H p = none) (h1 : Dq (hid N H) x d) (h2 : Dq (hid N H) y e) : Is (hid N (upd H p (.tup [x, y]))) (.ref p) (pairW d e) :=
  ⟨p, x, y, rfl, hid_of upd_same fun m => al p m hp, dp_mono (hid_mono (Exw.new hp)) d x h1, dp_mono (hid_mono (Exw.new hp)) e y h2⟩
theorem tg_four {K : Frg} {j k l m : Nat} {d e f g : PyData} : Tg (gTup K 4 (gCons (gName j) (gCons (gName k) (gCons (gName l) (gCons (gName m) gNil))))) [j, k, l, m] (.d (.tuple [d, e, f, g])) [.d d, .d e, .d f, .d g] := fun N H v σ i Q q => by
  cases i with
  | tup hs ha =>
    rename_i a xs
    cases ha with
    | cons h1 h2 =>
      cases h2 with
      | cons h3 h4 =>
        cases h4 with
        | cons h5 h6 =>
          cases h6 with
          | cons h7 h8 =>
            cases h8
            exact ⟨a, _, rfl, (hid_ta hs).1.t, rfl, _, _, rfl, _, _, rfl, _, _, rfl, _, _, rfl, rfl, q [_, _, _, _] (.cons h1 (.cons h3 (.cons h5 (.cons h7 .nil))))⟩
section
variable {K : Frg} {σ : L2.St} {H : Hp} {ρ : List (Option W)} {te : TE} {tt : TT} {wi : TI} {g : TG} {S : W → Prop} {T : List W → Prop}
/-- a list comprehension: P tells what is made by the turn -/
theorem lc_any {vs js : List Nat} {Pe : List PyData → Prop} (hE : Env σ H ρ) (hi : EvI wi σ H T) (hj : ∀ j ∈ js, j ∈ vs)
    (ht : ∀ ws, T ws → ws.length ≤ 60000 ∧ ∃ P : Nat → List PyData → Prop, P 0 [] ∧ (∀ acc, P ws.length acc → Pe acc) ∧
      ∀ (i : Nat) (w : W) (acc : List PyData), ws[i]? = some w → P i acc → ∃ us, Tg g js w us ∧ ∀ σ' H', Exw H H' → Env σ' H' (setr (wip ρ vs) js us) →
        ∃ C : Bool → Prop, EvB tt σ' H' C ∧ (C true → Ev te σ' H' fun w => ∃ d, w = .d d ∧ P (i + 1) (acc ++ [d])) ∧ (C false → P (i + 1) acc)) :
    ∀ (N : List Addr) (H1 : Hp), Vw N H H1 → ∀ Q : VK, (∀ D H2 xs acc, Ex H1 H2 → H1 D = none → Pe acc → H2 D = some (.lst xs) → D ∉ N → DqAll (hid (D :: N) H2) xs acc → Q (.ref D) H2) → tLc wi g tt te vs σ H1 Q := by
  intro N H1 vw Q q
  refine hi N H1 vw _ fun J H2 ws e2 tw wk => ?_
  obtain ⟨hlen, P, p0, pd, turn⟩ := ht ws tw
  intro D hD
  have v2 := vw.step e2
  have nD : D ∉ N := v2.new hD
  refine ⟨fun i m H' => m = ws.length - i ∧ i ≤ ws.length ∧ Vw (D :: N) (hid N H2) H' ∧ Exw H2 (fun a => if a = D then none else H' a) ∧ (∀ T, LamX.Tabs T H2 → LamX.Tabs T H') ∧ ∃ xs acc, H' D = some (.lst xs) ∧ DqAll (hid (D :: N) H') xs acc ∧ acc.length ≤ i ∧ P i acc,
    ⟨ws.length, by simp, Nat.zero_le _, ⟨fun a m => ?_, ?_⟩, fun a o ha => .inl ?_, fun T t => (Ex.new hD).tb T t, [], [], upd_same, .nil, Nat.zero_le _, p0⟩, ?_⟩
  · by_cases e : a = D
    · rw [e, upd_same]; nofun
    · rw [upd_ne e]
      rcases List.mem_cons.mp m with z | z
      · exact absurd z e
      · exact v2.al a z
  · rw [hid_new hD]
    exact Exw.refl _
  · show (if a = D then none else upd H2 D (.lst []) a) = some o
    rw [if_neg (ne_of_none ha hD), upd_ne (ne_of_none ha hD)]
    exact ha
  · rintro i m H3 ⟨rfl, hi, vD, eD, tD, xs, acc, hxs, hda, hal, pa⟩
    have e23 : Ex H2 H3 := ⟨fun a o ha => by
      rcases eD a o ha with z | ⟨c, s, l, d, s', l', d', z1, z⟩ | ⟨ps, ps', z1, z⟩
      · have z : (if a = D then none else H3 a) = some o := z
        rw [if_neg (ne_of_none ha hD)] at z
        exact .inl z
      · have z : (if a = D then none else H3 a) = some (feedO c s' l' d') := z
        rw [if_neg (ne_of_none ha hD)] at z
        exact .inr (.inl ⟨c, s, l, d, s', l', d', z1, z⟩)
      · have z : (if a = D then none else H3 a) = some (.tbl ps') := z
        rw [if_neg (ne_of_none ha hD)] at z
        exact .inr (.inr ⟨ps, ps', z1, z⟩), tD⟩
    by_cases hlt : i < ws.length
    · refine .inr ⟨wk.goes i H3 (D :: N) hlt vD, fun H' => ∃ m', m' = ws.length - (i + 1) ∧ i + 1 ≤ ws.length ∧ Vw (D :: N) (hid N H2) H' ∧ Exw H2 (fun a => if a = D then none else H' a) ∧ (∀ T, LamX.Tabs T H2 → LamX.Tabs T H') ∧ ∃ xs acc, H' D = some (.lst xs) ∧ DqAll (hid (D :: N) H') xs acc ∧ acc.length ≤ i + 1 ∧ P (i + 1) acc,
        fun H' ⟨m', a, b⟩ => ⟨m', by omega, a, b⟩, fun x H4 y => ?_⟩
      obtain ⟨e34, w, hw, iw⟩ := wk.yields i H3 (D :: N) x H4 hlt vD y
      obtain ⟨us, hg, body⟩ := turn i w acc hw pa
      refine hg (D :: N) H4 x _ iw _ fun xs' ixs => ⟨by rw [sets_wipe hj, wipe_wipe], ?_⟩
      have v4 : Vw (D :: N) (hid N H2) H4 := vD.step e34
      have hE4 : Env (sets (L2.wipe σ vs) js xs') (hid (D :: N) H4) (setr (wip ρ vs) js us) := (((hE.mono v2.ex).mono v4.ex).wipe vs).sets ixs
      obtain ⟨C, hb, hyes, hno⟩ := body _ _ (v2.ex.trans v4.ex) hE4
      refine hb (D :: N) H4 ⟨v4.al, Exw.refl _⟩ _ fun b H5 e45 cb => ?_
      have keep5 : ∀ {H6 : Hp}, Ex H4 H6 → Exw H2 (fun a => if a = D then none else H6 a) := fun {H6} e46 a o ha => by
        have ne := ne_of_none ha hD
        rcases (e23.trans (e34.trans e46)).w a o ha with z | ⟨c, s, l, d, s', l', d', z1, z⟩ | ⟨ps, ps', z1, z⟩
        · refine .inl ?_
          show (if a = D then none else H6 a) = some o
          rw [if_neg ne]; exact z
        · refine .inr (.inl ⟨c, s, l, d, s', l', d', z1, ?_⟩)
          show (if a = D then none else H6 a) = _
          rw [if_neg ne]; exact z
        · refine .inr (.inr ⟨ps, ps', z1, ?_⟩)
          show (if a = D then none else H6 a) = _
          rw [if_neg ne]; exact z
      cases b with
      | false =>
        show ∃ m', _
        exact ⟨_, rfl, hlt, v4.step e45, keep5 e45, (e23.trans (e34.trans e45)).tb, xs, acc, (e34.trans e45).lst hxs, dps_mono (hid_mono (e34.trans e45)) acc xs hda, by omega, hno cb⟩
      | true =>
        show te _ H5 _
        refine hyes cb (D :: N) H5 ⟨fun a m => e45.some (v4.al a m), hid_mono e45⟩ _ fun z H6 w' e56 sw iw' => ?_
        obtain ⟨d, rfl, pd'⟩ := sw
        have e46 := e45.trans e56
        have hD6 : H6 D = some (.lst xs) := (e34.trans e46).lst hxs
        refine ⟨xs, hD6, Nat.lt_of_le_of_lt (by rw [dps_len hda]; omega : xs.length ≤ 60000) (by decide), _, rfl, hlt, ⟨mem_al (v4.step e46).al, by rw [hid_upd List.mem_cons_self]; exact (v4.step e46).ex⟩, fun a o ha => ?_, fun T t => tabs_upd ((e23.trans (e34.trans e46)).tb T t) (plain_lst hD6), xs ++ [z], acc ++ [d], upd_same, ?_, by rw [List.length_append, List.length_singleton]; omega, pd'⟩
        · have ne := ne_of_none ha hD
          rcases keep5 e46 a o ha with q1 | ⟨c, s, l, d, s', l', d', z1, q1⟩ | ⟨ps, ps', z1, q1⟩
          · refine .inl ?_
            show (if a = D then none else upd H6 D _ a) = some o
            rw [upd_ne ne]; exact q1
          · refine .inr (.inl ⟨c, s, l, d, s', l', d', z1, ?_⟩)
            show (if a = D then none else upd H6 D _ a) = _
            rw [upd_ne ne]; exact q1
          · refine .inr (.inr ⟨ps, ps', z1, ?_⟩)
            show (if a = D then none else upd H6 D _ a) = _
            rw [upd_ne ne]; exact q1
        · rw [hid_upd List.mem_cons_self]
          exact dps_app (dps_mono (hid_mono (e34.trans e46)) acc xs hda) (.cons iw' .nil)
    · have e : i = ws.length := by omega
      subst e
      exact .inl ⟨wk.stops H3 (D :: N) vD, q D H3 xs acc (e2.trans e23) (e2.back hD) (pd acc pa) hxs nD hda⟩
theorem ev_lc {vs js : List Nat} (hE : Env σ H ρ) (hi : EvI wi σ H T) (hj : ∀ j ∈ js, j ∈ vs)
    (ht : ∀ ws, T ws → ws.length ≤ 60000 ∧ ∃ P : Nat → List PyData → Prop, P 0 [] ∧ (∀ acc, P ws.length acc → S (.d (.list acc))) ∧
      ∀ (i : Nat) (w : W) (acc : List PyData), ws[i]? = some w → P i acc → ∃ us, Tg g js w us ∧ ∀ σ' H', Exw H H' → Env σ' H' (setr (wip ρ vs) js us) →
        ∃ C : Bool → Prop, EvB tt σ' H' C ∧ (C true → Ev te σ' H' fun w => ∃ d, w = .d d ∧ P (i + 1) (acc ++ [d])) ∧ (C false → P (i + 1) acc)) :
    Ev (tLc wi g tt te vs) σ H S := by
  intro N H1 vw Q q
  exact lc_any (Pe := fun acc => S (.d (.list acc))) hE hi hj ht N H1 vw Q fun D H2 xs acc e hD pa hxs nD hda => q _ H2 (.d (.list acc)) e pa (.lst (hid_of hxs nD) (dps_mono (hid_cons D N H2) acc xs hda))
/-- one element for each item -/
theorem ev_map {vs js : List Nat} {f : W → PyData} (hE : Env σ H ρ) (hi : EvI wi σ H T) (hj : ∀ j ∈ js, j ∈ vs) (hS : ∀ ws, T ws → ws.length ≤ 60000 ∧ S (.d (.list (ws.map f))))
    (ht : ∀ ws, T ws → ∀ (i : Nat) (w : W), ws[i]? = some w → ∃ us, Tg g js w us ∧ ∀ σ' H', Exw H H' → Env σ' H' (setr (wip ρ vs) js us) → Ev te σ' H' fun x => x = .d (f w)) :
    Ev (tLc wi g tYes te vs) σ H S :=
  ev_lc hE hi hj fun ws tw => ⟨(hS ws tw).1, fun i acc => acc = (ws.take i).map f, rfl, fun acc ha => by
    have ha : acc = (ws.take ws.length).map f := ha
    rw [List.take_length] at ha
    rw [ha]
    exact (hS ws tw).2, fun i w acc hw ha => by
    obtain ⟨us, hg, body⟩ := ht ws tw i w hw
    refine ⟨us, hg, fun σ' H' e hE' => ⟨fun b => b = true, fun N H1 _ Q q => q true H1 (Ex.refl _) rfl, fun _ => (body σ' H' e hE').imp fun x hx => ⟨f w, hx, ?_⟩, fun z => by cases z⟩⟩
    have ha : acc = (ws.take i).map f := ha
    show acc ++ [f w] = (ws.take (i + 1)).map f
    rw [ha, List.take_add_one, hw, List.map_append]
    rfl⟩
/-- for .. in ..: I tells the turn -/
theorem s_for {N : List Addr} {B : Hp} {tb : TS} {D : Ends} {js : List Nat} (h : At N B σ H ρ) (hi : EvI wi σ (hid N H) T)
    (ht : ∀ ws H1, T ws → Ex H H1 → At N B σ H1 ρ → ∃ I : Nat → L2.St → Hp → Prop, I 0 σ H1 ∧ (∀ i σ' H' H2, I i σ' H' → Ex H' H2 → I i σ' H2) ∧ (∀ σ' H', Vw N (hid N H1) H' → I ws.length σ' H' → D.nx σ' H') ∧
      ∀ (i : Nat) (w : W) σ' H', ws[i]? = some w → Vw N (hid N H1) H' → I i σ' H' → ∃ us, Tg g js w us ∧ ∀ xs, IsAll (hid N H') xs us →
        tb { D with nx := fun σ2 H2 => Vw N (hid N H1) H2 ∧ I (i + 1) σ2 H2, ct := fun σ2 H2 => Vw N (hid N H1) H2 ∧ I (i + 1) σ2 H2, bk := D.nx } (sets σ' js xs) H') :
    tFor wi g tb D σ H := by
  refine hi N H h.vw _ fun J H1 ws e1 tw wk => ?_
  obtain ⟨I, i0, im, idn, turn⟩ := ht ws H1 tw e1 (h.mono e1)
  refine ⟨fun i m σ' H' => m = ws.length - i ∧ i ≤ ws.length ∧ Vw N (hid N H1) H' ∧ I i σ' H', ⟨_, rfl, Nat.zero_le _, (h.mono e1).vw, i0⟩, ?_⟩
  rintro i m σ' H' ⟨rfl, hi', v, p⟩
  by_cases hlt : i < ws.length
  · refine .inr ⟨wk.goes i H' N hlt v, fun σ2 H2 => Vw N (hid N H1) H2 ∧ I (i + 1) σ2 H2, fun σ2 H2 ⟨a, b⟩ => ⟨ws.length - (i + 1), by omega, rfl, hlt, a, b⟩, fun x H2 y => ?_⟩
    obtain ⟨e, w, hw, iw⟩ := wk.yields i H' N x H2 hlt v y
    obtain ⟨us, hg, body⟩ := turn i w σ' H2 hw (v.step e) (im i σ' H' H2 p e)
    exact hg N H2 x σ' iw _ body
  · have e : i = ws.length := by omega
    subst e
    exact .inl ⟨wk.stops H' N v, idn σ' H' v p⟩
theorem q_for {N : List Addr} {B : Hp} {tb tz : TS} {D : Ends} {js : List Nat} (h : At N B σ H ρ) (hi : EvI wi σ (hid N H) T)
    (ht : ∀ ws H1, T ws → Ex H H1 → At N B σ H1 ρ → ∃ I : Nat → L2.St → Hp → Prop, I 0 σ H1 ∧ (∀ i σ' H' H2, I i σ' H' → Ex H' H2 → I i σ' H2) ∧ (∀ σ' H', Vw N (hid N H1) H' → I ws.length σ' H' → tz D σ' H') ∧
      ∀ (i : Nat) (w : W) σ' H', ws[i]? = some w → Vw N (hid N H1) H' → I i σ' H' → ∃ us, Tg g js w us ∧ ∀ xs, IsAll (hid N H') xs us →
        tb { D with nx := fun σ2 H2 => Vw N (hid N H1) H2 ∧ I (i + 1) σ2 H2, ct := fun σ2 H2 => Vw N (hid N H1) H2 ∧ I (i + 1) σ2 H2, bk := tz D } (sets σ' js xs) H') :
    tSeq (tFor wi g tb) tz D σ H := s_for (D := { D with nx := tz D }) h hi ht
end
end Kl
set_option Elab.async false
set_option linter.all false
set_option maxRecDepth 100000
set_option maxHeartbeats 4000000
/-! KC: operations and built-in calls on described values. -/
namespace Kl
open PySem PySem.Spec PyProof.Rows L2
theorem hid_lst {N : List Addr} {H : Hp} {v : V} {ds : List PyData} (i : Is (hid N H) v (.d (.list ds))) : ∃ a xs, v = .ref a ∧ H a = some (.lst xs) ∧ a ∉ N ∧ DqAll (hid N H) xs ds := by
  cases i with
  | lst hs ha => exact ⟨_, _, rfl, (hid_get hs).1, (hid_get hs).2, ha⟩
theorem hid_tup {N : List Addr} {H : Hp} {v : V} {ds : List PyData} (i : Is (hid N H) v (.d (.tuple ds))) : ∃ a xs, v = .ref a ∧ TupA H a xs ∧ a ∉ N ∧ DqAll (hid N H) xs ds := by
  cases i with
  | tup hs ha => exact ⟨_, _, rfl, (hid_ta hs).1, (hid_ta hs).2, ha⟩
theorem new_lst {N : List Addr} {H : Hp} {p : Addr} {xs : List V} {ds : List PyData} (al : ∀ l ∈ N, H l ≠ none) (hp : H p = none) (h : DqAll (hid N H) xs ds) : Is (hid N (upd H p (.lst xs))) (.ref p) (.d (.list ds)) :=
  .lst (hid_of upd_same fun m => al p m hp) (dps_mono (hid_mono (Exw.new hp)) ds xs h)
theorem new_tup {N : List Addr} {H : Hp} {p : Addr} {o : Obj} {xs : List V} {ds : List PyData} (al : ∀ l ∈ N, H l ≠ none) (hp : H p = none) (to : TupO o) (h : DqAll (hid N H) xs ds) : Is (hid N (upd H p (.frz o (.tup xs)))) (.ref p) (.d (.tuple ds)) :=
  .tup ⟨o, hid_of upd_same fun m => al p m hp, to⟩ (dps_mono (hid_mono (Exw.new hp)) ds xs h)
theorem r65 {k : Nat} {A : Around} (hr : Room k A) : A.units + 65 < cLine := by have := hr.un; omega
/-! ### operators -/
section
variable {K : Frg} {S : W → Prop}
theorem os_I0 {g : Int → Int → V} {i j : Int} {d : PyData} (h : ∀ H, Dq H (g i j) d) (s : S (.d d)) : OpS (rI0 g) (.d (.int i)) (.d (.int j)) S := fun N H al v u iv iu Q q => by
  cases iv
  cases iu
  exact ⟨i, j, rfl, rfl, q _ H _ (Ex.refl _) s (h _)⟩
theorem os_I {C : Int → Int → Prop} {g : Int → Int → V} {i j : Int} {d : PyData} (c : C i j) (h : ∀ H, Dq H (g i j) d) (s : S (.d d)) : OpS (rI C g) (.d (.int i)) (.d (.int j)) S := fun N H al v u iv iu Q q => by
  cases iv
  cases iu
  exact ⟨i, j, rfl, rfl, c, q _ H _ (Ex.refl _) s (h _)⟩
theorem us_neg {i : Int} (s : S (.d (.int (-i)))) : UnS (rU fun i => .int (-i)) (.d (.int i)) S := fun N H al v iv Q q => by
  cases iv
  exact ⟨i, rfl, q _ H _ (Ex.refl _) s (.int _)⟩
theorem os_eqD {d e : PyData} (hd : SeqAt.shaped d = true) (he : SeqAt.shaped e = true) (s : S (.d (.bool (PyData.eqv d e)))) : OpS (rEqD K) (.d d) (.d e) S := fun N H al v u iv iu Q q =>
  ⟨d, e, dq_dp d v (dp_mono (hid_ex N H) d v iv), dq_dp e u (dp_mono (hid_ex N H) e u iu), hd, he, q _ H _ (Ex.refl _) s (.bl _)⟩
theorem os_neD {d e : PyData} (hd : SeqAt.shaped d = true) (he : SeqAt.shaped e = true) (s : S (.d (.bool (!PyData.eqv d e)))) : OpS (rNeD K) (.d d) (.d e) S := fun N H al v u iv iu Q q =>
  ⟨d, e, dq_dp d v (dp_mono (hid_ex N H) d v iv), dq_dp e u (dp_mono (hid_ex N H) e u iu), hd, he, q _ H _ (Ex.refl _) s (.bl _)⟩
def isNone : PyData → Bool
  | .none => true
  | _ => false
theorem os_isN {d : PyData} (s : S (.d (.bool (isNone d)))) : OpS (fun x y H Q => y = .non ∧ Q (.bl (decide (x = .non))) H) (.d d) (.d .none) S := fun N H al v u iv iu Q q => by
  cases iu
  refine ⟨rfl, q _ H (.d (.bool (isNone d))) (Ex.refl _) s ?_⟩
  have e : decide (v = V.non) = isNone d := by cases iv <;> simp [isNone]
  rw [e]
  exact .bl _
theorem os_notN {d : PyData} (s : S (.d (.bool (!isNone d)))) : OpS (fun x y H Q => y = .non ∧ Q (.bl (!decide (x = .non))) H) (.d d) (.d .none) S := fun N H al v u iv iu Q q => by
  cases iu
  refine ⟨rfl, q _ H (.d (.bool (!isNone d))) (Ex.refl _) s ?_⟩
  have e : decide (v = V.non) = isNone d := by cases iv <;> simp [isNone]
  rw [e]
  exact .bl _
def ltS (a b : Str) : Bool := decide (a.cps.toList < b.cps.toList)
theorem os_ltS {i j : Str} (s : S (.d (.bool (ltS i j)))) : OpS (fun x y H Q => ∃ i j, x = .str i ∧ y = .str j ∧ Q (.bl (decide (i.cps.toList < j.cps.toList))) H) (.d (.str i)) (.d (.str j)) S := fun N H al v u iv iu Q q => by
  cases iv
  cases iu
  exact ⟨i, j, rfl, rfl, q _ H _ (Ex.refl _) s (.bl _)⟩
theorem os_leS {i j : Str} (s : S (.d (.bool (!ltS j i)))) : OpS (fun x y H Q => ∃ i j, x = .str i ∧ y = .str j ∧ Q (.bl (!decide (j.cps.toList < i.cps.toList))) H) (.d (.str i)) (.d (.str j)) S := fun N H al v u iv iu Q q => by
  cases iv
  cases iu
  exact ⟨i, j, rfl, rfl, q _ H _ (Ex.refl _) s (.bl _)⟩
theorem os_inD {d : PyData} {ds : List PyData} (hd : SeqAt.shaped d = true) (he : SeqAt.shaped (.list ds) = true) (s : S (.d (.bool (ds.any fun z => PyData.eqv z d)))) : OpS (rInD K) (.d d) (.d (.list ds)) S := fun N H al v u iv iu Q q =>
  ⟨d, ds, dq_dp d v (dp_mono (hid_ex N H) d v iv), dq_dp _ u (dp_mono (hid_ex N H) _ u iu), hd, he, q _ H _ (Ex.refl _) s (.bl _)⟩
theorem os_notInD {d : PyData} {ds : List PyData} (hd : SeqAt.shaped d = true) (he : SeqAt.shaped (.list ds) = true) (s : S (.d (.bool (!ds.any fun z => PyData.eqv z d)))) : OpS (rNotInD K) (.d d) (.d (.list ds)) S := fun N H al v u iv iu Q q =>
  ⟨d, ds, dq_dp d v (dp_mono (hid_ex N H) d v iv), dq_dp _ u (dp_mono (hid_ex N H) _ u iu), hd, he, q _ H _ (Ex.refl _) s (.bl _)⟩
theorem os_inC {c : Nat} {z : Str} (s : S (.d (.bool (decide (c ∈ z.cps.toList))))) : OpS (fun x y H Q => ∃ (c : Nat) (z : Str), x = .str ⟨#[c]⟩ ∧ y = .str z ∧ Q (.bl (decide (c ∈ z.cps.toList))) H) (.d (.str ⟨#[c]⟩)) (.d (.str z)) S := fun N H al v u iv iu Q q => by
  cases iv
  cases iu
  exact ⟨c, z, rfl, rfl, q _ H _ (Ex.refl _) s (.bl _)⟩
theorem os_notInC {c : Nat} {z : Str} (s : S (.d (.bool (!decide (c ∈ z.cps.toList))))) : OpS (fun x y H Q => ∃ (c : Nat) (z : Str), x = .str ⟨#[c]⟩ ∧ y = .str z ∧ Q (.bl (!decide (c ∈ z.cps.toList))) H) (.d (.str ⟨#[c]⟩)) (.d (.str z)) S := fun N H al v u iv iu Q q => by
  cases iv
  cases iu
  exact ⟨c, z, rfl, rfl, q _ H _ (Ex.refl _) s (.bl _)⟩
theorem os_addS {i j : Str} (hl : i.length + j.length ≤ 100000) (s : S (.d (.str (i ++ j)))) : OpS (fun x y H Q => ∃ i j, x = .str i ∧ y = .str j ∧ i.length + j.length ≤ sizeLine ∧ Q (.str (i ++ j)) H) (.d (.str i)) (.d (.str j)) S := fun N H al v u iv iu Q q => by
  cases iv
  cases iu
  exact ⟨i, j, rfl, rfl, Nat.le_trans hl (by decide), q _ H _ (Ex.refl _) s (.str _)⟩
theorem os_addL {xs ys : List PyData} (hl : xs.length + ys.length ≤ 100000) (s : S (.d (.list (xs ++ ys)))) : OpS rCat (.d (.list xs)) (.d (.list ys)) S := fun N H al v u iv iu Q q => by
  obtain ⟨a, us, rfl, h1, n1, d1⟩ := hid_lst iv
  obtain ⟨b, zs, rfl, h2, n2, d2⟩ := hid_lst iu
  exact ⟨a, b, us, zs, rfl, rfl, h1, h2, Nat.le_trans (by rw [dps_len d1, dps_len d2]; exact hl) (by decide), fun p hp => q _ _ _ (Ex.new hp) s (new_lst al hp (dps_app d1 d2))⟩
theorem os_addT {xs ys : List PyData} (hl : xs.length + ys.length ≤ 100000) (s : S (.d (.tuple (xs ++ ys)))) : OpS (rCatB K) (.d (.tuple xs)) (.d (.tuple ys)) S := fun N H al v u iv iu Q q => by
  obtain ⟨a, us, rfl, h1, n1, d1⟩ := hid_tup iv
  obtain ⟨b, zs, rfl, h2, n2, d2⟩ := hid_tup iu
  refine ⟨a, b, us, zs, rfl, rfl, h1.t, h2.t, Nat.le_trans (by rw [dps_len d1, dps_len d2]; exact hl) (by decide), fun e => ?_, fun _ e => ?_, fun _ _ p o hp to => q _ _ _ (Ex.new hp) s (new_tup al hp to (dps_app d1 d2))⟩
  · subst e
    cases d1
    exact q _ H _ (Ex.refl _) s iu
  · subst e
    cases d2
    refine q _ H _ (Ex.refl _) s ?_
    rw [List.append_nil]
    exact iv
theorem os_rep {xs : List PyData} {k : Int} (h0 : 0 ≤ k) (hk : k ≤ 1000) (hl : xs.length ≤ 100) (s : S (.d (.list (List.replicate k.toNat xs).flatten))) : OpS rRep (.d (.list xs)) (.d (.int k)) S := fun N H al v u iv iu Q q => by
  obtain ⟨a, us, rfl, h1, n1, d1⟩ := hid_lst iv
  cases iu
  refine ⟨a, k, us, rfl, rfl, h1, by omega, by omega, ?_, fun p hp => q _ _ _ (Ex.new hp) s (new_lst al hp ?_)⟩
  · have e := dps_len d1
    have h2 : us.length * k.toNat ≤ 100 * 1000 := Nat.mul_le_mul (by omega) (by omega)
    exact Nat.le_trans h2 (by decide)
  · clear s
    induction k.toNat with
    | zero => exact .nil
    | succ n ih =>
      rw [List.replicate_succ, List.replicate_succ, List.flatten_cons, List.flatten_cons]
      exact dps_app d1 ih
theorem atI_dps {H : Hp} {vs : List V} {ds : List PyData} {i : Int} {d : PyData} (h : DqAll H vs ds) (e : atI ds i = some d) : ∃ v, atI vs i = some v ∧ Dq H v d := by
  unfold atI at e ⊢
  rw [dps_len h]
  cases q : ixN ds.length i with
  | none => rw [q] at e; cases e
  | some j =>
    rw [q] at e
    exact dps_get h e
theorem os_ixT {ds : List PyData} {i : Int} {d : PyData} (e : atI ds i = some d) (s : S (.d d)) : OpS (rIxT K) (.d (.tuple ds)) (.d (.int i)) S := fun N H al v u iv iu Q q => by
  obtain ⟨a, us, rfl, h1, n1, d1⟩ := hid_tup iv
  cases iu
  obtain ⟨x, h2, h3⟩ := atI_dps d1 e
  exact ⟨a, us, i, x, rfl, rfl, h1.t, h2, q _ H _ (Ex.refl _) s h3⟩
theorem os_ixL {ds : List PyData} {i : Int} {d : PyData} (e : atI ds i = some d) (s : S (.d d)) : OpS (rIxL K) (.d (.list ds)) (.d (.int i)) S := fun N H al v u iv iu Q q => by
  obtain ⟨a, us, rfl, h1, n1, d1⟩ := hid_lst iv
  cases iu
  obtain ⟨x, h2, h3⟩ := atI_dps d1 e
  exact ⟨a, us, i, x, rfl, rfl, .inl (.inl h1), h2, q _ H _ (Ex.refl _) s h3⟩
theorem os_ixS {z : Str} {i : Int} {c : Nat} (hz : z.length ≤ 100000) (e : atI z.cps.toList i = some c) (s : S (.d (.str ⟨#[c]⟩))) : OpS rIxS (.d (.str z)) (.d (.int i)) S := fun N H al v u iv iu Q q => by
  cases iv
  cases iu
  exact ⟨z, i, c, rfl, rfl, Nat.le_trans hz (by decide), e, q _ H _ (Ex.refl _) s (.str _)⟩
end
/-! ### slices -/
def EvO (to : TO) (σ : L2.St) (H : Hp) (O : Option Int → Prop) : Prop :=
  ∀ (N : List Addr) (H1 : Hp), Vw N H H1 → ∀ Q : Option Int → Hp → Prop, (∀ o H2, Ex H1 H2 → O o → Q o H2) → to σ H1 Q
def SlS (r : V → Option Int → Option Int → Hp → VK → Prop) (x : W) (lo hi : Option Int) (S : W → Prop) : Prop :=
  ∀ (N : List Addr) (H : Hp), (∀ l ∈ N, H l ≠ none) → ∀ v, Is (hid N H) v x → ∀ Q : VK, (∀ z H2 w, Ex H H2 → S w → Is (hid N H2) z w → Q z H2) → r v lo hi H Q
def cutG {α : Type} (xs : List α) (lo hi : Option Int) : List α := (xs.drop (HT.sIx xs.length 0 lo)).take (HT.sIx xs.length xs.length hi - HT.sIx xs.length 0 lo)
theorem cut_dps {H : Hp} {vs : List V} {ds : List PyData} (h : DqAll H vs ds) (lo hi : Option Int) : DqAll H (cutV vs lo hi) (cutG ds lo hi) := by
  unfold cutV cutG
  rw [dps_len h]
  exact dps_take _ (dps_drop _ h)
section
variable {K : Frg} {σ : L2.St} {H : Hp} {te : TE} {tl th : TO} {S Sa : W → Prop} {O P : Option Int → Prop}
theorem eo_none (h : O none) : EvO tNoPart σ H O := fun N H1 vw Q q => q none H1 (Ex.refl _) h
theorem eo_some (h : Ev te σ H fun w => ∃ i : Int, w = .d (.int i) ∧ O (some i)) : EvO (tPart te) σ H O := fun N H1 vw Q q => h N H1 vw _ fun v H2 w e ⟨i, ew, o⟩ iv => by
  subst ew
  cases iv
  exact ⟨i, rfl, q _ H2 e o⟩
theorem ev_sl {r : V → Option Int → Option Int → Hp → VK → Prop} (h : Ev te σ H Sa) (hl : EvO tl σ H O) (hh : EvO th σ H P) (hr : ∀ x lo hi, Sa x → O lo → P hi → SlS r x lo hi S) : Ev (tSl r te tl th) σ H S := fun N H1 vw Q q =>
  h N H1 vw _ fun v H2 x e2 sx ix => hl N H2 (vw.step e2) _ fun lo H3 e3 ol => hh N H3 ((vw.step e2).step e3) _ fun hi H4 e4 oh =>
    hr x lo hi sx ol oh N H4 (vw.step ((e2.trans e3).trans e4)).al v (is_mono (hid_mono (e3.trans e4)) ix) Q fun z H5 w e5 s i => q z H5 w (((e2.trans e3).trans e4).trans e5) s i
theorem ss_L {xs : List PyData} {lo hi : Option Int} (s : S (.d (.list (cutG xs lo hi)))) : SlS (rSlL K) (.d (.list xs)) lo hi S := fun N H al v iv Q q => by
  obtain ⟨a, us, rfl, h1, n1, d1⟩ := hid_lst iv
  exact ⟨a, us, rfl, .inl (.inl h1), fun p hp => q _ _ _ (Ex.new hp) s (new_lst al hp (cut_dps d1 lo hi))⟩
theorem cutG_whole {α : Type} {xs : List α} {lo hi : Option Int} (h : HT.sIx xs.length 0 lo = 0 ∧ HT.sIx xs.length xs.length hi = xs.length) : cutG xs lo hi = xs := by
  unfold cutG
  rw [h.1, h.2, List.drop_zero, Nat.sub_zero, List.take_length]
theorem ss_T {xs : List PyData} {lo hi : Option Int} (s : S (.d (.tuple (cutG xs lo hi)))) : SlS (rSlB K) (.d (.tuple xs)) lo hi S := fun N H al v iv Q q => by
  obtain ⟨a, us, rfl, h1, n1, d1⟩ := hid_tup iv
  refine ⟨a, us, rfl, h1.t, fun e => q _ H _ (Ex.refl _) s ?_, fun _ p o hp to => q _ _ _ (Ex.new hp) s (new_tup al hp to (cut_dps d1 lo hi))⟩
  rw [cutG_whole (by rw [← dps_len d1]; exact e)]
  exact iv
theorem ss_S {z : Str} {lo hi : Option Int} (hz : z.length ≤ 100000) (s : S (.d (.str (cutS z lo hi)))) : SlS rSlS (.d (.str z)) lo hi S := fun N H al v iv Q q => by
  cases iv
  exact ⟨z, rfl, Nat.le_trans hz (by decide), q _ H _ (Ex.refl _) s (.str _)⟩
end
/-! ### calls of built-ins -/
def dInt : PyData → Bool
  | .bool _ => true
  | .int _ => true
  | _ => false
def dBool : PyData → Bool
  | .bool _ => true
  | _ => false
def dStr : PyData → Bool
  | .str _ => true
  | _ => false
def dTup : PyData → Bool
  | .tuple _ => true
  | _ => false
def tyN : PyData → String
  | .none => "NoneType"
  | .bool _ => "bool"
  | .int _ => "int"
  | .str _ => "str"
  | .list _ => "list"
  | .tuple _ => "tuple"
  | .dict _ => "dict"
theorem dq_ty {K : Frg} {N : List Addr} {H : Hp} {v : V} {d : PyData} (i : Dq (hid N H) v d) : TyX K H v (.type (tyN d)) := by
  cases i with
  | non => exact .base .non
  | bl b => exact .base (.bl b)
  | int i => exact .base (.int i)
  | str x => exact .base (.str x)
  | lst hs ha => exact .base (.lst (hid_get hs).1)
  | tup hs ha =>
    obtain ⟨o, e, _⟩ := (hid_ta hs).1
    exact .fTuple e
section
variable {K : Frg} {S : W → Prop}
theorem cs_isi {d : PyData} {T : String} {b : Bool} (h : kitB (tyN d) T = some b) (s : S (.d (.bool b))) : CaS (rIsi K) [.d d, .v (.ty T)] S := fun N H al vs iv Q q => by
  cases iv with
  | cons i1 i2 =>
    cases i2 with
    | cons i3 i4 =>
      cases i4
      have i3 := i3
      cases i3
      exact ⟨_, _, _, _, b, rfl, .ty T, dq_ty i1, kit_ty h, q _ H _ (Ex.refl _) s (.bl _)⟩
theorem cs_dict {r : List V → Hp → VK → Prop} {b : List (PyData × PyData)} {ws : List W} : CaS r (.d (.dict b) :: ws) S := fun N H al vs iv Q q => by
  cases iv with
  | cons i1 _ => cases i1
theorem cs_isiInt {d : PyData} (s : S (.d (.bool (dInt d)))) : CaS (rIsi K) [.d d, .v (.ty "int")] S := by
  cases d with
  | none => exact cs_isi (show kitB "NoneType" "int" = some false by decide +kernel) s
  | bool b => exact cs_isi (show kitB "bool" "int" = some true by decide +kernel) s
  | int b => exact cs_isi (show kitB "int" "int" = some true by decide +kernel) s
  | str b => exact cs_isi (show kitB "str" "int" = some false by decide +kernel) s
  | list b => exact cs_isi (show kitB "list" "int" = some false by decide +kernel) s
  | tuple b => exact cs_isi (show kitB "tuple" "int" = some false by decide +kernel) s
  | dict b => exact cs_dict
theorem cs_isiBool {d : PyData} (s : S (.d (.bool (dBool d)))) : CaS (rIsi K) [.d d, .v (.ty "bool")] S := by
  cases d with
  | none => exact cs_isi (show kitB "NoneType" "bool" = some false by decide +kernel) s
  | bool b => exact cs_isi (show kitB "bool" "bool" = some true by decide +kernel) s
  | int b => exact cs_isi (show kitB "int" "bool" = some false by decide +kernel) s
  | str b => exact cs_isi (show kitB "str" "bool" = some false by decide +kernel) s
  | list b => exact cs_isi (show kitB "list" "bool" = some false by decide +kernel) s
  | tuple b => exact cs_isi (show kitB "tuple" "bool" = some false by decide +kernel) s
  | dict b => exact cs_dict
theorem cs_isiStr {d : PyData} (s : S (.d (.bool (dStr d)))) : CaS (rIsi K) [.d d, .v (.ty "str")] S := by
  cases d with
  | none => exact cs_isi (show kitB "NoneType" "str" = some false by decide +kernel) s
  | bool b => exact cs_isi (show kitB "bool" "str" = some false by decide +kernel) s
  | int b => exact cs_isi (show kitB "int" "str" = some false by decide +kernel) s
  | str b => exact cs_isi (show kitB "str" "str" = some true by decide +kernel) s
  | list b => exact cs_isi (show kitB "list" "str" = some false by decide +kernel) s
  | tuple b => exact cs_isi (show kitB "tuple" "str" = some false by decide +kernel) s
  | dict b => exact cs_dict
theorem cs_isiTup {d : PyData} (s : S (.d (.bool (dTup d)))) : CaS (rIsi K) [.d d, .v (.ty "tuple")] S := by
  cases d with
  | none => exact cs_isi (show kitB "NoneType" "tuple" = some false by decide +kernel) s
  | bool b => exact cs_isi (show kitB "bool" "tuple" = some false by decide +kernel) s
  | int b => exact cs_isi (show kitB "int" "tuple" = some false by decide +kernel) s
  | str b => exact cs_isi (show kitB "str" "tuple" = some false by decide +kernel) s
  | list b => exact cs_isi (show kitB "list" "tuple" = some false by decide +kernel) s
  | tuple b => exact cs_isi (show kitB "tuple" "tuple" = some true by decide +kernel) s
  | dict b => exact cs_dict
/-- a list of one described value -/
theorem ca1 {r : List V → Hp → VK → Prop} {d : PyData} (h : ∀ (N : List Addr) (H : Hp), (∀ l ∈ N, H l ≠ none) → ∀ v, Dq (hid N H) v d → ∀ Q : VK, (∀ z H2 w, Ex H H2 → S w → Is (hid N H2) z w → Q z H2) → r [v] H Q) : CaS r [.d d] S := fun N H al vs iv Q q => by
  cases iv with
  | cons i1 i2 =>
    cases i2
    exact h N H al _ i1 Q q
def rLen (K : Frg) : List V → Hp → VK → Prop := fun xs H Q => ∃ x n, xs = [x] ∧ LenV K x H n ∧ Q (.int n) H
def rListOf (K : Frg) : List V → Hp → VK → Prop := fun xs H Q => ∃ p ys, xs = [.ref p] ∧ (SqL K H p ys ∨ SqT K H p ys) ∧ ∀ l, H l = none → Q (.ref l) (upd H l (.lst ys))
theorem cs_lenL {xs : List PyData} (s : S (.d (.int (xs.length : Nat)))) : CaS (rLen K) [.d (.list xs)] S := ca1 fun N H al v i Q q => by
  obtain ⟨a, us, rfl, h1, n1, d1⟩ := hid_lst i
  exact ⟨_, xs.length, rfl, .inl ⟨us, .inl (.inl h1), (dps_len d1).symm⟩, q _ H _ (Ex.refl _) s (.int _)⟩
theorem cs_lenT {xs : List PyData} (s : S (.d (.int (xs.length : Nat)))) : CaS (rLen K) [.d (.tuple xs)] S := ca1 fun N H al v i Q q => by
  obtain ⟨a, us, rfl, h1, n1, d1⟩ := hid_tup i
  exact ⟨_, xs.length, rfl, .inr ⟨us, h1.t, (dps_len d1).symm⟩, q _ H _ (Ex.refl _) s (.int _)⟩
theorem cs_lenS {z : Str} (hz : z.length ≤ 100000) (s : S (.d (.int (z.length : Nat)))) : CaS (rLen K) [.d (.str z)] S := ca1 fun N H al v i Q q => by
  cases i
  exact ⟨_, z.length, rfl, ⟨Nat.le_trans hz (by decide), rfl⟩, q _ H _ (Ex.refl _) s (.int _)⟩
theorem cs_all {bs : List Bool} (s : S (.d (.bool (bs.all id)))) : CaS (rAll K) [.d (.list (bs.map PyData.bool))] S := ca1 fun N H al v i Q q => by
  obtain ⟨a, us, rfl, h1, n1, d1⟩ := hid_lst i
  have e := of_dps_bool d1
  subst e
  exact ⟨a, bs, rfl, .inl (.inl h1), q _ H _ (Ex.refl _) s (.bl _)⟩
theorem cs_tupL {xs : List PyData} (s : S (.d (.tuple xs))) : CaS (rTupB K) [.d (.list xs)] S := ca1 fun N H al v i Q q => by
  obtain ⟨a, us, rfl, h1, n1, d1⟩ := hid_lst i
  exact ⟨a, us, rfl, .inl ⟨.inl (.inl h1), fun l o hl to => q _ _ _ (Ex.new hl) s (new_tup al hl to d1)⟩⟩
theorem cs_tupT {xs : List PyData} (s : S (.d (.tuple xs))) : CaS (rTupB K) [.d (.tuple xs)] S := ca1 fun N H al v i Q q => by
  obtain ⟨a, us, rfl, h1, n1, d1⟩ := hid_tup i
  exact ⟨a, us, rfl, .inr ⟨h1.t, q _ H _ (Ex.refl _) s i⟩⟩
theorem cs_listL {xs : List PyData} (s : S (.d (.list xs))) : CaS (rListOf K) [.d (.list xs)] S := ca1 fun N H al v i Q q => by
  obtain ⟨a, us, rfl, h1, n1, d1⟩ := hid_lst i
  exact ⟨a, us, rfl, .inl (.inl (.inl h1)), fun l hl => q _ _ _ (Ex.new hl) s (new_lst al hl d1)⟩
theorem cs_listT {xs : List PyData} (s : S (.d (.list xs))) : CaS (rListOf K) [.d (.tuple xs)] S := ca1 fun N H al v i Q q => by
  obtain ⟨a, us, rfl, h1, n1, d1⟩ := hid_tup i
  exact ⟨a, us, rfl, .inr h1.t, fun l hl => q _ _ _ (Ex.new hl) s (new_lst al hl d1)⟩
theorem cs_sortS {xs : List Str} (hl : xs.length < 64) (s : ∀ ys : List Str, ys.Perm xs → sortedS ys = true → S (.d (.list (ys.map PyData.str)))) : CaS (rSortedS K) [.d (.list (xs.map PyData.str))] S := ca1 fun N H al v i Q q => by
  obtain ⟨a, us, rfl, h1, n1, d1⟩ := hid_lst i
  have e := of_dps_str d1
  subst e
  exact ⟨a, xs, rfl, .inl (.inl h1), hl, fun ys p hp hs hn => q _ _ _ (Ex.new hn) (s ys hp hs) (new_lst al hn (dps_str ys))⟩
theorem cs_int {i : Int} (s : S (.d (.int i))) : CaS (fun xs H Q => (∃ i, xs = [.int i] ∧ Q (.int i) H) ∨ ∃ k, xs = [.bl k] ∧ Q (.int (if k then 1 else 0)) H) [.d (.int i)] S := ca1 fun N H al v iv Q q => by
  cases iv
  exact .inl ⟨i, rfl, q _ H _ (Ex.refl _) s (.int _)⟩
theorem cs_min {i j : Int} (s : S (.d (.int (if j < i then j else i)))) : CaS (fun xs H Q => ∃ i j, xs = [.int i, .int j] ∧ Q (.int (if j < i then j else i)) H) [.d (.int i), .d (.int j)] S := fun N H al vs iv Q q => by
  cases iv with
  | cons i1 i2 =>
    cases i2 with
    | cons i3 i4 =>
      cases i4
      cases i1
      cases i3
      exact ⟨i, j, rfl, q _ H _ (Ex.refl _) s (.int _)⟩
end
/-- e1, e2: each with its own answer -/
theorem ea1 {σ : L2.St} {H : Hp} {ta : TE} {T : List W → Prop} (h : Ev ta σ H fun w => T [w]) : EvA (tCons ta tNil) σ H T := ea_cons h fun x hx => ea_nil hx
theorem ea2 {σ : L2.St} {H : Hp} {ta tb : TE} {A : W → Prop} {T : List W → Prop} (h : Ev ta σ H A) (h2 : ∀ x, A x → Ev tb σ H fun w => T [x, w]) : EvA (tCons ta (tCons tb tNil)) σ H T := ea_cons h fun x hx => ea_cons (h2 x hx) fun y hy => ea_nil hy
end Kl
set_option Elab.async false
set_option linter.all false
set_option maxRecDepth 100000
set_option maxHeartbeats 4000000
/-! KD: the text by places, what the module's names hold, a def's promise from its body. -/
namespace Kl
open PySem PySem.Spec PyProof.Rows L2
def topS (i : Nat) : Stmt := PySem.Challenge.pw_kitsleft_k08_whole_without_and_renamed.main.body.getD i (.Pass ⟨0, 0, 0, 0⟩)
/-- the built-ins' names are not taken; the three constants -/
structure Gm (mg : Str → Option Value) : Prop where
  isinstance_ : mg "isinstance" = none
  len_ : mg "len" = none
  all_ : mg "all" = none
  tuple_ : mg "tuple" = none
  sorted_ : mg "sorted" = none
  zip_ : mg "zip" = none
  enumerate_ : mg "enumerate" = none
  int_ : mg "int" = none
  list_ : mg "list" = none
  dict_ : mg "dict" = none
  set_ : mg "set" = none
  range_ : mg "range" = none
  min_ : mg "min" = none
  repr_ : mg "repr" = none
  str_ : mg "str" = none
  bool_ : mg "bool" = none
  ValueError_ : mg "ValueError" = none
  c_LETTERS : ∃ u, mg "LETTERS" = some u ∧ RelV (.str "abcdefghijklmnopqrstuvwxyz") u
  c_LONGEST_NAME : ∃ u, mg "LONGEST_NAME" = some u ∧ RelV (.int 8) u
  c_LEAST_OPTIONS : ∃ u, mg "LEAST_OPTIONS" = some u ∧ RelV (.int 2) u
theorem p_glob {X : Cx} {x : Str} {v : V} {pos : Pos} (hg : Gl X x) (h : ∃ u, X.mg x = some u ∧ RelV v u) (hd : (x == ("__debug__" : Str)) = false := by decide) : PE X (.Name x pos) (tC v) := by
  obtain ⟨u, h1, h2⟩ := h
  exact pe_glob hg h1 h2 hd
/-- a def that can be called by its name -/
structure Cl (P : Program) (w : World) (K : Frg) (mg : Str → Option Value) (base : Heap) (CX : CXT) (k : Nat) (x : Str) (dvs : List V) (sp : Sp) : Prop where
  ex : ∃ (f : Addr) (fd : FuncData) (ps : List Str) (ds : List Value), FnOk P w K mg base CX k f fd ps sp ∧ mg x = some (.ref f) ∧ PySem.W.keepIn K (.ref f) = true ∧ Binds K fd ps ds ∧ Vals dvs ds
theorem pe_cl {X : Cx} {CX : CXT} {k : Nat} {x : Str} {dvs : List V} {sp : Sp} {E : XK} {p pos : Pos} {e : Expr} {es : List Expr} {t : TA} (c : Cl X.prog X.w X.K X.mg X.base CX k x dvs sp) (hr : Room k X.A) (hg : Gl X x) (hx : Passes CX X E) (ha : PA X (e :: es) t)
    (hdb : (x == ("__debug__" : Str)) = false := by decide) (he : starEach (e :: es) X.env = (false, eval e X.env) :: starEach es X.env := by rfl) (hpl : (backTo pos (starEach es X.env)).any (·.1) = false := by rfl) :
    PE X (.Call (.Name x p) (e :: es) [] pos) (tCall sp dvs E t) := by
  obtain ⟨f, fd, ps, ds, F, hm, hk, hb, hd⟩ := c.ex
  exact pe_call F hr hg hm hk hb hd hx ha hdb he hpl
/-- a def of the text, behind the top -/
structure Def (K : Frg) (mg : Str → Option Value) (x : Str) (st : Stmt) : Prop where
  ex : ∃ (f : Addr) (fd : FuncData), Fun K x x st f fd ∧ mg x = some (.ref f)
theorem env_start {N : List Str} {H : Hp} {vs : List V} {ws : List W} (h : IsAll H vs ws) (hl : ws.length ≤ N.length) : Env (L2.start N vs) H (ws.map some ++ List.replicate (N.length - ws.length) none) := by
  have e := isa_len h
  refine ⟨by simp [L2.start, e], fun i w q => ?_⟩
  by_cases hi : i < ws.length
  · rw [List.getElem?_append_left (by simpa using hi), List.getElem?_map] at q
    obtain ⟨u, hu⟩ : ∃ u, ws[i]? = some u := ⟨_, List.getElem?_eq_getElem hi⟩
    rw [hu] at q
    have qe : u = w := Option.some.inj (Option.some.inj q)
    subst qe
    clear q
    suffices hh : ∃ v, vs[i]? = some v ∧ Is H v u by
      obtain ⟨v, h1, h2⟩ := hh
      refine ⟨v, ?_, h2⟩
      unfold L2.start
      rw [List.getElem?_append_left (by simp; omega), List.getElem?_map, h1]
      rfl
    clear hl e
    induction h generalizing i with
    | nil => simp at hu
    | cons a t ih =>
      cases i with
      | zero =>
        have e := Option.some.inj hu
        subst e
        exact ⟨_, rfl, a⟩
      | succ i => exact ih i (by simpa using hi) (by simpa using hu)
  · rw [List.getElem?_append_right (by simpa using hi), List.getElem?_replicate] at q
    split at q <;> cases q
section
variable {P : Program} {w : World} {K : Frg} {mg : Str → Option Value} {base : Heap}
/-- a def that raises nothing, by its body -/
theorem Def.ok {x : Str} {st : Stmt} {N ps : List Str} {k : Nat} {F : List W → (W → Prop) → Prop} (D : Def K mg x st) (S : FnScope N ps (defScope st))
    (hb : ∀ (kV doc pm : Value) (an : Option Addr) (cdv ct : Value) (us : List Value), us.length = ps.length → bindArgs (PySem.W.fnOf x x (defArgs st) (defBody st) (defScope st) .none kV doc pm an cdv ct) ⟨us, []⟩ = pure (ps.zip us))
    (len : ∀ ws S, F ws S → ws.length = ps.length)
    (body : ∀ (f : Addr) (cdv : Value) (A : Around) (outer : List PySem.Env) (s : Shared) (H : Hp) (M : List Addr) (vs : List V) (ws : List W) (T : W → Prop) (Q : VK) (E : XK), Room k (A.deeper (envOfC x (defScope st) s.heap.objs.size f cdv)) → F ws T →
      At M H (L2.start N vs) H (ws.map some ++ List.replicate (N.length - ws.length) none) → (∀ v H' w, Ex H H' → T w → Is (hid M H') v w → Q v H') →
      ∃ t, PSs (cxOf CX0 P w K mg base N x (defScope st) f cdv A outer s H E).nox (defBody st) t ∧ t { nx := fun _ H' => Q .non H', rt := Q } (L2.start N vs) H) :
    Cl P w K mg base CX0 (k + 1) x [] (SpF F) := by
  obtain ⟨f, fd, Fn, hm⟩ := D.ex
  have hpl : ps.length ≤ N.length := by have := congrArg List.length S.pre; rw [List.length_take] at this; omega
  refine ⟨f, fd, ps, [], Fn.ok S (fun vs H Q E h => ?_) (fun cdv A outer s H vs Q E hr h => ?_), hm, Fn.kp, Fn.binds hb, .nil⟩
  · obtain ⟨M, ws, T, _, ia, hF, _⟩ := h
    rw [isa_len ia, len ws T hF]
  · obtain ⟨M, ws, T, al, ia, hF, q⟩ := h
    exact body f cdv A outer s H M vs ws T Q E hr hF ⟨al, Ex.refl _, env_start ia (by rw [len ws T hF]; exact hpl)⟩ q
end
end Kl
set_option Elab.async false
set_option linter.all false
set_option maxRecDepth 100000
set_option maxHeartbeats 4000000
/-! KE1: what evaluates to exactly one described value. -/
namespace Kl
open PySem PySem.Spec PyProof.Rows L2
abbrev Ed (te : TE) (σ : L2.St) (H : Hp) (w : W) : Prop := Ev te σ H fun x => x = w
abbrev Eb (tt : TT) (σ : L2.St) (H : Hp) (b : Bool) : Prop := EvB tt σ H fun x => x = b
abbrev Ea (ta : TA) (σ : L2.St) (H : Hp) (ws : List W) : Prop := EvA ta σ H fun x => x = ws
section
variable {K : Frg} {σ : L2.St} {H : Hp} {ρ : List (Option W)} {ta tb te : TE} {tt tu : TT} {t : TA} {S : W → Prop} {x y z : W} {xs : List W} {a b : Bool}
theorem d_var {i : Nat} (h : Env σ H ρ) (e : ρ[i]? = some (some x)) : Ed (tVar i) σ H x := ev_var h e rfl
theorem d_i {i : Int} : Ed (tC (.int i)) σ H (.d (.int i)) := ev_i rfl
theorem d_s {i : Str} : Ed (tC (.str i)) σ H (.d (.str i)) := ev_s rfl
theorem d_b {i : Bool} : Ed (tC (.bl i)) σ H (.d (.bool i)) := ev_b rfl
theorem d_n : Ed (tC .non) σ H (.d .none) := ev_n rfl
theorem d_v {v : V} : Ed (tC v) σ H (.v v) := ev_cv rfl
theorem d_op {r : R2} (ha : Ed ta σ H x) (hb : Ed tb σ H y) (hr : OpS r x y S) : Ev (tOp r ta tb) σ H S := ev_op ha hb fun _ _ e1 e2 => by rw [e1, e2]; exact hr
theorem d_un {r : V → Hp → VK → Prop} (ha : Ed ta σ H x) (hr : UnS r x S) : Ev (tUn r ta) σ H S := ev_un ha fun _ e => by rw [e]; exact hr
theorem a_nil : Ea tNil σ H [] := ea_nil rfl
theorem a_cons (ha : Ed ta σ H x) (hr : Ea t σ H xs) : Ea (tCons ta t) σ H (x :: xs) := ea_cons ha fun _ e => hr.imp fun ys h => by rw [e, h]
theorem a_1 (ha : Ed ta σ H x) : Ea (tCons ta tNil) σ H [x] := a_cons ha a_nil
theorem a_2 (ha : Ed ta σ H x) (hb : Ed tb σ H y) : Ea (tCons ta (tCons tb tNil)) σ H [x, y] := a_cons ha (a_1 hb)
theorem a_3 {tc : TE} (ha : Ed ta σ H x) (hb : Ed tb σ H y) (hc : Ed tc σ H z) : Ea (tCons ta (tCons tb (tCons tc tNil))) σ H [x, y, z] := a_cons ha (a_2 hb hc)
theorem a_starL {ds : List PyData} (ha : Ed ta σ H (.d (.list ds))) (hr : Ea t σ H xs) : Ea (StX.tStar K ta t) σ H (ds.map W.d ++ xs) :=
  ea_star ha (fun x e => ⟨ds, .inr e⟩) fun es e => hr.imp fun ys h => by
    rcases e with e | e
    · cases e
    · injection e with e
      injection e with e
      rw [e, h]
theorem a_starT {ds : List PyData} (ha : Ed ta σ H (.d (.tuple ds))) (hr : Ea t σ H xs) : Ea (StX.tStar K ta t) σ H (ds.map W.d ++ xs) :=
  ea_star ha (fun x e => ⟨ds, .inl e⟩) fun es e => hr.imp fun ys h => by
    rcases e with e | e
    · injection e with e
      injection e with e
      rw [e, h]
    · cases e
theorem d_cb {r : List V → Hp → VK → Prop} (ha : Ea t σ H xs) (hr : CaS r xs S) : Ev (tCB r t) σ H S := ev_cb ha fun _ e => by rw [e]; exact hr
theorem d_call {F : List W → (W → Prop) → Prop} {E : XK} (ha : Ea t σ H xs) (hF : F xs S) : Ev (tCall (SpF F) [] E t) σ H S := ev_call0 (ha.imp fun _ e => by rw [e]; exact hF)
theorem d_tup {ds : List PyData} (h : Ea t σ H (ds.map W.d)) (hl : ds.length ≤ 100000) : Ed (tTupB t) σ H (.d (.tuple ds)) := ev_tup (h.imp fun ys e => ⟨ds, e, hl, rfl⟩)
theorem d_lst {ds : List PyData} (h : Ea t σ H (ds.map W.d)) (hl : ds.length ≤ 100000) : Ed (tLst t) σ H (.d (.list ds)) := ev_lst (h.imp fun ys e => ⟨ds, e, hl, rfl⟩)
theorem d_is (h : Ed te σ H x) (e : x = y) : Ed te σ H y := by rw [← e]; exact h
theorem d_to (h : Ed te σ H x) (s : S x) : Ev te σ H S := h.imp fun _ e => by rw [e]; exact s
theorem b_test (h : Ed te σ H (.d (.bool b))) : Eb (tTest te) σ H b := eb_test (h.imp fun _ e => ⟨b, e, rfl⟩)
theorem b_B (h : Ed te σ H (.d (.bool b))) : Eb (tB te) σ H b := eb_B (h.imp fun _ e => ⟨b, e, rfl⟩)
theorem b_not (h : Eb tt σ H b) : Eb (tNot tt) σ H (!b) := eb_not (h.imp fun _ e => by rw [e])
theorem b_and (h1 : Eb tt σ H a) (h2 : a = true → Eb tu σ H b) : Eb (tAnd tt tu) σ H (a && b) := by
  refine eb_and h1 (fun e => ?_) (fun e => by rw [← e]; rfl)
  rw [← e, Bool.true_and]
  exact h2 e.symm
theorem b_or (h1 : Eb tt σ H a) (h2 : a = false → Eb tu σ H b) : Eb (tOr tt tu) σ H (a || b) := by
  refine eb_or h1 (fun e => ?_) (fun e => by rw [← e]; rfl)
  rw [← e, Bool.false_or]
  exact h2 e.symm
theorem b_is (h : Eb tt σ H a) (e : a = b) : Eb tt σ H b := by rw [← e]; exact h
theorem d_if (h : Eb tt σ H b) (h1 : b = true → Ev ta σ H S) (h2 : b = false → Ev tb σ H S) : Ev (tIf tt ta tb) σ H S := ev_if h (fun e => h1 e.symm) fun e => h2 e.symm
theorem d_and (h1 : Ed ta σ H (.d (.bool a))) (h2 : a = true → Ed tb σ H (.d (.bool b))) : Ed (tAndV ta tb) σ H (.d (.bool (a && b))) := by
  refine ev_andV (B := fun c => c = a) (h1.imp fun _ e => ⟨a, e, rfl⟩) (fun e => ?_) (fun e => by rw [← e]; rfl)
  rw [← e, Bool.true_and]
  exact h2 e.symm
theorem d_or (h1 : Ed ta σ H (.d (.bool a))) (h2 : a = false → Ed tb σ H (.d (.bool b))) : Ed (tOrV ta tb) σ H (.d (.bool (a || b))) := by
  refine ev_orV (B := fun c => c = a) (h1.imp fun _ e => ⟨a, e, rfl⟩) (fun e => ?_) (fun e => by rw [← e]; rfl)
  rw [← e, Bool.false_or]
  exact h2 e.symm
theorem d_not (h1 : Ed ta σ H (.d (.bool a))) : Ed (tNotV ta) σ H (.d (.bool (!a))) := ev_notV (h1.imp fun _ e => ⟨a, e, rfl⟩)
/-- two comparisons in a chain of whole numbers -/
theorem d_chain {r r' : R2} {tc : TE} (ha : Ed ta σ H x) (hb : Ed tb σ H y) (hc : Ed tc σ H z) (h1 : OpS r x y fun w => w = .d (.bool a)) (h2 : OpS r' y z fun w => w = .d (.bool b)) : Ed (tChain r r' ta tb tc) σ H (.d (.bool (a && b))) := fun N H1 vw Q q =>
  ha N H1 vw _ fun v H2 _ e2 s1 i1 => by
    subst s1
    refine hb N H2 (vw.step e2) _ fun u H3 _ e3 s2 i2 => ?_
    subst s2
    refine h1 N H3 (vw.step (e2.trans e3)).al v u (is_mono (hid_mono e3) i1) i2 _ fun zz H4 _ e4 s3 i3 => ?_
    subst s3
    cases i3
    refine ⟨a, rfl, ?_⟩
    cases a with
    | true =>
      rw [if_pos rfl]
      refine hc N H4 (vw.step ((e2.trans e3).trans e4)) _ fun t H5 _ e5 s4 i4 => ?_
      subst s4
      exact h2 N H5 (vw.step (((e2.trans e3).trans e4).trans e5)).al u t (is_mono (hid_mono (e4.trans e5)) i2) i4 Q fun y H6 w e6 s i => q y H6 w ((((e2.trans e3).trans e4).trans e5).trans e6) s i
    | false =>
      rw [if_neg (by decide)]
      exact q _ H4 _ ((e2.trans e3).trans e4) rfl (.bl _)
theorem o_none : EvO tNoPart σ H fun o => o = none := eo_none rfl
theorem o_some {i : Int} (h : Ed te σ H (.d (.int i))) : EvO (tPart te) σ H fun o => o = some i := eo_some (h.imp fun _ e => ⟨i, e, rfl⟩)
theorem d_sl {r : V → Option Int → Option Int → Hp → VK → Prop} {tl th : TO} {lo hi : Option Int} (h : Ed te σ H x) (hl : EvO tl σ H fun o => o = lo) (hh : EvO th σ H fun o => o = hi) (hr : SlS r x lo hi S) : Ev (tSl r te tl th) σ H S :=
  ev_sl h hl hh fun _ _ _ e1 e2 e3 => by rw [e1, e2, e3]; exact hr
theorem i_tup {ds : List PyData} (h : Ed te σ H (.d (.tuple ds))) : EvI (iTup K te) σ H fun ws => ws = ds.map W.d := ei_tup (h.imp fun _ e => ⟨ds, e, rfl⟩)
theorem i_list {ds : List PyData} (h : Ed te σ H (.d (.list ds))) : EvI (iList K te) σ H fun ws => ws = ds.map W.d := ei_list (h.imp fun _ e => ⟨ds, e, rfl⟩)
theorem i_str {s : Str} (h : Ed te σ H (.d (.str s))) : EvI (iStr te) σ H fun ws => ws = s.cps.toList.map fun c => W.d (.str ⟨#[c]⟩) := ei_str (h.imp fun _ e => ⟨s, e, rfl⟩)
theorem i_range {j : Int} (h : Ed te σ H (.d (.int j))) (h1 : j ≤ 100000) (h2 : -100000 ≤ j) : EvI (iRng1 (tCons te tNil)) σ H fun ws => ws = (List.range j.toNat).map fun i => W.d (.int (0 + (i : Nat))) := ei_range1 ((a_1 h).imp fun _ e => ⟨j, e, h1, h2, rfl⟩)
/-- [e for x in ds]: e evaluates to f of the item -/
theorem d_map {wi : TI} {g : TG} {vs js : List Nat} {α : Type} {l : List α} {enc : α → W} {f : α → PyData} (hE : Env σ H ρ) (hi : EvI wi σ H fun ws => ws = l.map enc) (hj : ∀ j ∈ js, j ∈ vs) (hlen : l.length ≤ 60000)
    (ht : ∀ x, x ∈ l → ∃ us, Tg g js (enc x) us ∧ ∀ σ' H', Exw H H' → Env σ' H' (setr (wip ρ vs) js us) → Ed te σ' H' (.d (f x))) :
    Ed (tLc wi g tYes te vs) σ H (.d (.list (l.map f))) :=
  ev_lc hE hi hj fun ws tw => by
    subst tw
    refine ⟨by rw [List.length_map]; exact hlen, fun i acc => acc = (l.take i).map f, rfl, fun acc ha => ?_, fun i w acc hw ha => ?_⟩
    · have ha : acc = (l.take (l.map enc).length).map f := ha
      rw [List.length_map, List.take_length] at ha
      rw [ha]
    · have ha : acc = (l.take i).map f := ha
      rw [List.getElem?_map] at hw
      cases q : l[i]? with
      | none => rw [q] at hw; cases hw
      | some x =>
        rw [q] at hw
        have ew := Option.some.inj hw
        subst ew
        obtain ⟨us, hg, body⟩ := ht x (List.mem_of_getElem? q)
        refine ⟨us, hg, fun σ' H' e hE' => ⟨fun b => b = true, fun N H1 _ Q q => q true H1 (Ex.refl _) rfl, fun _ => (body σ' H' e hE').imp fun w hw => ⟨f x, hw, ?_⟩, fun z => by cases z⟩⟩
        show acc ++ [f x] = (l.take (i + 1)).map f
        rw [ha, List.take_add_one, q, List.map_append]
        rfl
/-- [e for x in ds if c]: the test evaluates to p of the item -/
theorem d_filter {wi : TI} {g : TG} {vs js : List Nat} {α : Type} {l : List α} {enc : α → W} {f : α → PyData} {p : α → Bool} (hE : Env σ H ρ) (hi : EvI wi σ H fun ws => ws = l.map enc) (hj : ∀ j ∈ js, j ∈ vs) (hlen : l.length ≤ 60000)
    (ht : ∀ x, x ∈ l → ∃ us, Tg g js (enc x) us ∧ ∀ σ' H', Exw H H' → Env σ' H' (setr (wip ρ vs) js us) → Eb tt σ' H' (p x) ∧ (p x = true → Ed te σ' H' (.d (f x)))) :
    Ed (tLc wi g tt te vs) σ H (.d (.list ((l.filter p).map f))) :=
  ev_lc hE hi hj fun ws tw => by
    subst tw
    refine ⟨by rw [List.length_map]; exact hlen, fun i acc => acc = ((l.take i).filter p).map f, rfl, fun acc ha => ?_, fun i w acc hw ha => ?_⟩
    · have ha : acc = ((l.take (l.map enc).length).filter p).map f := ha
      rw [List.length_map, List.take_length] at ha
      rw [ha]
    · have ha : acc = ((l.take i).filter p).map f := ha
      rw [List.getElem?_map] at hw
      cases q : l[i]? with
      | none => rw [q] at hw; cases hw
      | some x =>
        rw [q] at hw
        have ew := Option.some.inj hw
        subst ew
        obtain ⟨us, hg, body⟩ := ht x (List.mem_of_getElem? q)
        refine ⟨us, hg, fun σ' H' e hE' => ?_⟩
        obtain ⟨b1, b2⟩ := body σ' H' e hE'
        refine ⟨fun b => b = p x, b1, fun ep => (b2 ep.symm).imp fun w hw => ⟨f x, hw, ?_⟩, fun ep => ?_⟩
        · show acc ++ [f x] = ((l.take (i + 1)).filter p).map f
          rw [ha, List.take_add_one, q, List.filter_append, List.map_append]
          simp [← ep]
        · show acc = ((l.take (i + 1)).filter p).map f
          rw [ha, List.take_add_one, q, List.filter_append, List.map_append]
          simp [← ep]
end
theorem all_map {α : Type} (l : List α) (p : α → Bool) : ((l.map p).all id) = l.all p := by
  induction l with
  | nil => rfl
  | cons a l ih => rw [List.map_cons, List.all_cons, List.all_cons, ih]; rfl
/-- all([.. for x in l]) -/
theorem cs_allp {K : Frg} {S : W → Prop} {α : Type} {l : List α} {p : α → Bool} (s : S (.d (.bool (l.all p)))) : CaS (rAll K) [.d (.list (l.map fun x => PyData.bool (p x)))] S := by
  have e : (l.map fun x => PyData.bool (p x)) = (l.map p).map PyData.bool := by rw [List.map_map]; rfl
  rw [e]
  exact cs_all (by rw [all_map]; exact s)
theorem p_ty {X : Cx} {x : Str} {pos : Pos} (n : String) (hg : Gl X x) (hm : X.mg x = none) (hv : bootBuiltins x = some (.type n)) (hn : x ≠ "__name__" := by decide) (hd : (x == ("__debug__" : Str)) = false := by decide) : PE X (.Name x pos) (tC (.ty n)) := pe_bltn hg hm hv rfl hn hd
end Kl
set_option Elab.async false
set_option linter.all false
set_option maxRecDepth 100000
set_option maxHeartbeats 4000000
/-! KN: data that is small enough: == , in, repr. -/
namespace Kl
open PySem PySem.Spec PyProof.Rows L2
mutual
def niceB : PyData → Bool
  | .none | .bool _ => true
  | .int i => decide (i.natAbs < 10 ^ 80)
  | .str z => PySem.PyData.strOk z && decide (z.length ≤ 100)
  | .list xs | .tuple xs => niceAll xs
  | .dict _ => false
def niceAll : List PyData → Bool
  | [] => true
  | x :: xs => niceB x && niceAll xs
end
mutual
def wt : PyData → Nat
  | .none | .bool _ => 7
  | .int _ => 90
  | .str z => 10 * z.length + 6
  | .list xs | .tuple xs => 6 + wtAll xs
  | .dict _ => 0
def wtAll : List PyData → Nat
  | [] => 0
  | x :: xs => wt x + 2 + wtAll xs
end
structure Nice (d : PyData) : Prop where
  ok : niceB d = true
  wt : wt d ≤ 400000
  depth : d.depth ≤ 30

mutual
theorem nice_lay : ∀ d : PyData, niceB d = true → d.canLay0 = true
  | .none, _ => rfl
  | .bool _, _ => rfl
  | .int _, _ => rfl
  | .str z, h => by
    have h : (PySem.PyData.strOk z && decide (z.length ≤ 100)) = true := h
    show PySem.PyData.strOk z = true
    simp only [Bool.and_eq_true] at h
    exact h.1
  | .list xs, h => nice_lays xs h
  | .tuple xs, h => nice_lays xs h
  | .dict _, h => by cases h
theorem nice_lays : ∀ ds : List PyData, niceAll ds = true → PyData.canLayAll0 ds = true
  | [], _ => rfl
  | d :: ds, h => by
    have h : (niceB d && niceAll ds) = true := h
    simp only [Bool.and_eq_true] at h
    show (d.canLay0 && PyData.canLayAll0 ds) = true
    rw [nice_lay d h.1, nice_lays ds h.2]
    rfl
end
mutual
theorem nice_show : ∀ d : PyData, niceB d = true → d.showable = true
  | .none, _ => rfl
  | .bool _, _ => rfl
  | .int i, h => by
    have h : decide (i.natAbs < 10 ^ 80) = true := h
    show decide (i.natAbs.log2 < 1920) = true
    have h1 := of_decide_eq_true h
    refine decide_eq_true ?_
    by_cases h0 : i.natAbs = 0
    · rw [h0]; decide
    · refine (Nat.log2_lt h0).mpr (Nat.lt_of_lt_of_le h1 ?_)
      decide +kernel
  | .str z, h => rfl
  | .list xs, h => nice_shows xs h
  | .tuple xs, h => nice_shows xs h
  | .dict _, h => by cases h
theorem nice_shows : ∀ ds : List PyData, niceAll ds = true → PyData.showableAll ds = true
  | [], _ => rfl
  | d :: ds, h => by
    have h : (niceB d && niceAll ds) = true := h
    simp only [Bool.and_eq_true] at h
    show (d.showable && PyData.showableAll ds) = true
    rw [nice_show d h.1, nice_shows ds h.2]
    rfl
end
theorem listText_len (ts : List Str) : (listText ts).length ≤ piled ts + 4 := by
  cases ts with
  | nil => decide +kernel
  | cons t r =>
    have h := textFrom_length_pos r 1 (("[" : Str) ++ (if (0 : Nat) > 0 then ", " else "" : String) ++ t) (Nat.succ_pos 0)
    have e : (("[" : Str) ++ (if (0 : Nat) > 0 then ", " else "" : String) ++ t).length = 1 + t.length := by
      rw [strLen_append, strLen_append]
      rfl
    show (textFrom 1 (("[" : Str) ++ (if (0 : Nat) > 0 then ", " else "" : String) ++ t) r ++ "]").length ≤ _
    rw [strLen_append, h, e, piled_cons]
    show 1 + t.length + piled r + 1 ≤ _
    omega
theorem tupText_len (ts : List Str) : (tupleText ts).length ≤ piled ts + 4 := by
  have e3 : (((if ts.length == 1 then ",)" else ")" : String) : Str)).length ≤ 2 := by split <;> decide +kernel
  have e1 : ((("(" : String) : Str)).length = 1 := rfl
  unfold tupleText
  rw [strLen_append, strLen_append, e1]
  by_cases h : ts = []
  · subst h
    decide +kernel
  · have := join_length_add ts h
    omega
mutual
theorem nice_len : ∀ d : PyData, niceB d = true → d.shown.length ≤ wt d
  | .none, _ => by decide +kernel
  | .bool b, _ => by cases b <;> decide +kernel
  | .int i, h => by
    have h : decide (i.natAbs < 10 ^ 80) = true := h
    show (Str.ofString (toString i)).length ≤ 90
    rw [PySem.ofString_length]
    exact Nat.le_trans (int_text_length_le10 (k := 80) (by decide) (of_decide_eq_true h)) (by decide)
  | .str z, h => by
    have h : (PySem.PyData.strOk z && decide (z.length ≤ 100)) = true := h
    simp only [Bool.and_eq_true] at h
    show (reprText z).length ≤ 10 * z.length + 6
    refine Nat.le_trans (StrLaws.reprText_len z fun c hc => ?_) (by omega)
    have h1 : z.cps.all (· < 0x110000) = true := h.1
    rw [Array.all_eq_true'] at h1
    have := of_decide_eq_true (h1 c (by simpa using hc))
    exact Nat.lt_trans this (by decide)
  | .list xs, h => by
    have q := nice_lens xs h
    show (listText (PyData.shownAll xs)).length ≤ 6 + wtAll xs
    exact Nat.le_trans (listText_len _) (by omega)
  | .tuple xs, h => by
    have q := nice_lens xs h
    show (tupleText (PyData.shownAll xs)).length ≤ 6 + wtAll xs
    exact Nat.le_trans (tupText_len _) (by omega)
  | .dict _, h => by cases h
theorem nice_lens : ∀ ds : List PyData, niceAll ds = true → piled (PyData.shownAll ds) ≤ wtAll ds
  | [], _ => Nat.zero_le _
  | d :: ds, h => by
    have h : (niceB d && niceAll ds) = true := h
    simp only [Bool.and_eq_true] at h
    show piled (d.shown :: PyData.shownAll ds) ≤ wt d + 2 + wtAll ds
    rw [piled_cons]
    have h1 := nice_len d h.1
    have h2 := nice_lens ds h.2
    omega
end
theorem Nice.shaped {d : PyData} (n : Nice d) : SeqAt.shaped d = true := by
  show (d.canLay0 && decide (d.depth ≤ 64)) = true
  rw [nice_lay d n.ok, decide_eq_true (Nat.le_trans n.depth (by decide))]
  rfl
/-! ### typed data is nice -/
theorem niceAll_map {α : Type} {f : α → PyData} : ∀ {l : List α}, (∀ x ∈ l, niceB (f x) = true) → niceAll (l.map f) = true
  | [], _ => rfl
  | x :: l, h => by
    show (niceB (f x) && niceAll (l.map f)) = true
    rw [h x List.mem_cons_self, niceAll_map fun y hy => h y (List.mem_cons_of_mem _ hy)]
    rfl
theorem wtAll_map {α : Type} {f : α → PyData} {c : Nat} : ∀ {l : List α}, (∀ x ∈ l, wt (f x) ≤ c) → wtAll (l.map f) ≤ l.length * (c + 2)
  | [], _ => Nat.zero_le _
  | x :: l, h => by
    have h1 := h x List.mem_cons_self
    have h2 := wtAll_map fun y hy => h y (List.mem_cons_of_mem x hy)
    show wt (f x) + 2 + wtAll (l.map f) ≤ (l.length + 1) * (c + 2)
    rw [Nat.succ_mul]
    omega
theorem depthAll_map {α : Type} {f : α → PyData} {c : Nat} : ∀ {l : List α}, (∀ x ∈ l, (f x).depth ≤ c) → PyData.depthAll (l.map f) ≤ c
  | [], _ => Nat.zero_le _
  | x :: l, h => by
    have h1 := h x List.mem_cons_self
    have h2 := depthAll_map fun y hy => h y (List.mem_cons_of_mem x hy)
    show max (f x).depth (PyData.depthAll (l.map f)) ≤ c
    omega
theorem nice_lst {α : Type} {f : α → PyData} {l : List α} {c k : Nat} (h : ∀ x ∈ l, Nice (f x) ∧ wt (f x) ≤ c ∧ (f x).depth ≤ k) (hc : l.length * (c + 2) ≤ 300000) (hk : k ≤ 29) : Nice (.list (l.map f)) :=
  ⟨niceAll_map fun x hx => (h x hx).1.ok, by
    show 6 + wtAll (l.map f) ≤ 400000
    have := wtAll_map fun x hx => (h x hx).2.1
    omega, by
    show PyData.depthAll (l.map f) + 1 ≤ 30
    have := depthAll_map fun x hx => (h x hx).2.2
    omega⟩
theorem nice_str {z : Str} (h : PySem.PyData.strOk z = true) (hl : z.length ≤ 100) : Nice (.str z) :=
  ⟨by show (PySem.PyData.strOk z && decide (z.length ≤ 100)) = true; rw [h, decide_eq_true hl]; rfl, by show 10 * z.length + 6 ≤ 400000; omega, Nat.zero_le _⟩
/-! ### names among names -/
theorem eqv_str (a b : Str) : PyData.eqv (.str a) (.str b) = decide (a = b) := by
  show (a == b) = decide (a = b)
  by_cases h : a = b
  · subst h; simp
  · rw [decide_eq_false h]
    exact beq_eq_false_iff_ne.mpr h
theorem any_str (l : List Str) (s : Str) : ((l.map PyData.str).any fun z => PyData.eqv z (.str s)) = decide (s ∈ l) := by
  induction l with
  | nil => rfl
  | cons a l ih =>
    rw [List.map_cons, List.any_cons, ih, eqv_str]
    by_cases h : a = s
    · subst h; simp
    · rw [decide_eq_false h, Bool.false_or]
      have : (s ∈ a :: l) ↔ s ∈ l := by
        rw [List.mem_cons]
        exact ⟨fun q => q.resolve_left fun e => h e.symm, .inr⟩
      simp only [this]
end Kl
set_option Elab.async false
set_option linter.all false
set_option maxRecDepth 100000
set_option maxHeartbeats 4000000
namespace Kl
open PySem PySem.Spec PyProof.Rows L2
def isIntD : PyData → Bool
  | .int _ => true
  | _ => false
def isNumD : PyData → Bool
  | .int i => decide (0 ≤ i)
  | _ => false
def isCntD : PyData → Bool
  | .int i => decide (1 ≤ i)
  | _ => false
def lettersS : Str := "abcdefghijklmnopqrstuvwxyz"
def isNameS (z : Str) : Bool := decide (1 ≤ z.length) && decide (z.length ≤ 8) && z.cps.toList.all fun c => decide (c ∈ lettersS.cps.toList)
def isNameD : PyData → Bool
  | .str z => isNameS z
  | _ => false
def isTupD (n : Int) : PyData → Bool
  | .tuple ds => decide ((ds.length : Int) = n)
  | _ => false
theorem isInt_eq : ∀ d : PyData, (dInt d && !dBool d) = isIntD d
  | .none => rfl
  | .bool _ => rfl
  | .int _ => rfl
  | .str _ => rfl
  | .list _ => rfl
  | .tuple _ => rfl
  | .dict _ => rfl
section
variable {P : Program} {w : World} {K : Frg} {mg : Str → Option Value} {base : Heap}
abbrev s_is_integer : Stmt := topS 4
abbrev n_is_integer : List Str := ["thing"]
theorem sc_is_integer : FnScope n_is_integer ["thing"] (defScope s_is_integer) := ⟨rfl, rfl, rfl, by decide +kernel, rfl, by decide +kernel, by decide +kernel⟩
def F_is_integer : List W → (W → Prop) → Prop := fun ws S => ∃ d, ws = [.d d] ∧ S (.d (.bool (isIntD d)))
theorem cl_is_integer (D : Def K mg "is_integer" s_is_integer) (G : Gm mg) : Cl P w K mg base CX0 1 "is_integer" [] (SpF F_is_integer) := by
  refine D.ok sc_is_integer (fun _ _ _ _ _ _ us hl => match us, hl with | [_], _ => rfl) (fun ws S ⟨_, e, _⟩ => by rw [e]; rfl) ?_
  rintro f cdv A outer s H M vs ws T Q E hr ⟨d, rfl, hS⟩ h k
  refine ⟨_, (pss_one (ps_ret (pe_and (pe_callB (r := rIsi K) call_isi (by rfl) G.isinstance_ (by decide +kernel) (pa_cons (pv 0) (pa_cons (p_ty "int" (by rfl) G.int_ (by decide +kernel)) pa_nil))) (pe_one (pe_not (pe_callB (r := rIsi K) call_isi (by rfl) G.isinstance_ (by decide +kernel) (pa_cons (pv 0) (pa_cons (p_ty "bool" (by rfl) G.bool_ (by decide +kernel)) pa_nil)))))))), ?_⟩
  refine s_ret h (S := T) (d_to (d_and (d_cb (a_2 (d_var h.env rfl) d_v) (cs_isiInt rfl)) fun _ => d_not (d_cb (a_2 (d_var h.env rfl) d_v) (cs_isiBool rfl))) ?_) (fun v w H' e s i => k v H' w e s i)
  rw [isInt_eq]
  exact hS
abbrev s_is_number : Stmt := topS 5
abbrev n_is_number : List Str := ["thing"]
theorem sc_is_number : FnScope n_is_number ["thing"] (defScope s_is_number) := ⟨rfl, rfl, rfl, by decide +kernel, rfl, by decide +kernel, by decide +kernel⟩
def F_is_number : List W → (W → Prop) → Prop := fun ws S => ∃ d, ws = [.d d] ∧ S (.d (.bool (isNumD d)))
theorem isInt_of : ∀ {d : PyData}, isIntD d = true → ∃ i, d = .int i
  | .int i, _ => ⟨i, rfl⟩
  | .none, h => by cases h
  | .bool _, h => by cases h
  | .str _, h => by cases h
  | .list _, h => by cases h
  | .tuple _, h => by cases h
  | .dict _, h => by cases h
theorem isNum_eq : ∀ d : PyData, (isIntD d && isNumD d) = isNumD d
  | .none => rfl
  | .bool _ => rfl
  | .int _ => rfl
  | .str _ => rfl
  | .list _ => rfl
  | .tuple _ => rfl
  | .dict _ => rfl
theorem isCnt_eq : ∀ d : PyData, (isIntD d && isCntD d) = isCntD d
  | .none => rfl
  | .bool _ => rfl
  | .int _ => rfl
  | .str _ => rfl
  | .list _ => rfl
  | .tuple _ => rfl
  | .dict _ => rfl
theorem cl_is_number (D : Def K mg "is_number" s_is_number) (G : Gm mg) (C_is_integer : Cl P w K mg base CX0 1 "is_integer" [] (SpF F_is_integer)) : Cl P w K mg base CX0 2 "is_number" [] (SpF F_is_number) := by
  refine D.ok sc_is_number (fun _ _ _ _ _ _ us hl => match us, hl with | [_], _ => rfl) (fun ws S ⟨_, e, _⟩ => by rw [e]; rfl) ?_
  rintro f cdv A outer s H M vs ws T Q E hr ⟨d, rfl, hS⟩ h k
  refine ⟨_, (pss_one (ps_ret (pe_and (pe_cl C_is_integer (hr.mono (by decide)) (by rfl) pass0 (pa_cons (pv 0) pa_nil)) (pe_one (pe_cmpR op_ge (pv 0) pe_int (nomark _)))))), ?_⟩
  refine s_ret h (S := T) (d_to (d_and (d_call (a_1 (d_var h.env rfl)) ⟨d, rfl, rfl⟩) (b := isNumD d) fun e => ?_) ?_) (fun v w H' e s i => k v H' w e s i)
  · obtain ⟨i, rfl⟩ := isInt_of e
    exact d_op (d_var h.env rfl) d_i (os_I0 (fun _ => .bl _) rfl)
  · rw [isNum_eq]
    exact hS
abbrev s_is_count : Stmt := topS 6
abbrev n_is_count : List Str := ["thing"]
theorem sc_is_count : FnScope n_is_count ["thing"] (defScope s_is_count) := ⟨rfl, rfl, rfl, by decide +kernel, rfl, by decide +kernel, by decide +kernel⟩
def F_is_count : List W → (W → Prop) → Prop := fun ws S => ∃ d, ws = [.d d] ∧ S (.d (.bool (isCntD d)))
theorem cl_is_count (D : Def K mg "is_count" s_is_count) (G : Gm mg) (C_is_integer : Cl P w K mg base CX0 1 "is_integer" [] (SpF F_is_integer)) : Cl P w K mg base CX0 2 "is_count" [] (SpF F_is_count) := by
  refine D.ok sc_is_count (fun _ _ _ _ _ _ us hl => match us, hl with | [_], _ => rfl) (fun ws S ⟨_, e, _⟩ => by rw [e]; rfl) ?_
  rintro f cdv A outer s H M vs ws T Q E hr ⟨d, rfl, hS⟩ h k
  refine ⟨_, (pss_one (ps_ret (pe_and (pe_cl C_is_integer (hr.mono (by decide)) (by rfl) pass0 (pa_cons (pv 0) pa_nil)) (pe_one (pe_cmpR op_ge (pv 0) pe_int (nomark _)))))), ?_⟩
  refine s_ret h (S := T) (d_to (d_and (d_call (a_1 (d_var h.env rfl)) ⟨d, rfl, rfl⟩) (b := isCntD d) fun e => ?_) ?_) (fun v w H' e s i => k v H' w e s i)
  · obtain ⟨i, rfl⟩ := isInt_of e
    exact d_op (d_var h.env rfl) d_i (os_I0 (fun _ => .bl _) rfl)
  · rw [isCnt_eq]
    exact hS
abbrev s_is_name : Stmt := topS 7
abbrev n_is_name : List Str := ["thing", "sign"]
theorem sc_is_name : FnScope n_is_name ["thing"] (defScope s_is_name) := ⟨rfl, rfl, rfl, by decide +kernel, rfl, by decide +kernel, by decide +kernel⟩
def F_is_name : List W → (W → Prop) → Prop := fun ws S => ∃ d, ws = [.d d] ∧ (∀ z, d = .str z → z.length ≤ 50000) ∧ S (.d (.bool (isNameD d)))
theorem str_of : ∀ {d : PyData}, dStr d = true → ∃ z, d = .str z
  | .str z, _ => ⟨z, rfl⟩
  | .none, h => by cases h
  | .bool _, h => by cases h
  | .int _, h => by cases h
  | .list _, h => by cases h
  | .tuple _, h => by cases h
  | .dict _, h => by cases h
theorem name_str : ∀ {d : PyData}, dStr d = false → isNameD d = false
  | .str z, h => by cases h
  | .none, _ => rfl
  | .bool _, _ => rfl
  | .int _, _ => rfl
  | .list _, _ => rfl
  | .tuple _, _ => rfl
  | .dict _, _ => rfl
def lenD : PyData → Nat
  | .str z => z.length
  | _ => 0
theorem cl_is_name (D : Def K mg "is_name" s_is_name) (G : Gm mg) : Cl P w K mg base CX0 1 "is_name" [] (SpF F_is_name) := by
  refine D.ok sc_is_name (fun _ _ _ _ _ _ us hl => match us, hl with | [_], _ => rfl) (fun ws S ⟨_, e, _⟩ => by rw [e]; rfl) ?_
  rintro f cdv A outer s H M vs ws T Q E hr ⟨d, rfl, hz, hS⟩ h k
  have nd := sc_is_name.nd
  refine ⟨_, (pss_cons (ps_if (PW.pt (pw_or (pt_not (pt_val (pe_callB (r := rIsi K) call_isi (by rfl) G.isinstance_ (by decide +kernel) (pa_cons (pv 0) (pa_cons (p_ty "str" (by rfl) G.str_ (by decide +kernel)) pa_nil))))) (pw_or1 (pt_not (pt_chain op_le op_le pe_int (pe_callB (r := rLen K) call_len (by rfl) G.len_ PySem.boot_len (pa_cons (pv 0) pa_nil)) (p_glob (by rfl) G.c_LONGEST_NAME)))))) (pss_one (ps_ret pe_bl)) pss_nil)
      (pss_one (ps_ret (pe_callB (r := rAll K) (cr_all rfl) (by rfl) G.all_ (by decide +kernel) (pa_cons (pe_lc (own := [("sign", 1)]) rfl nd (pi_str (pv 0)) (blkOk_by (own := [("sign", 1)]) (by kernel_rfl)) (fun _ _ _ _ _ => (pg_name (i := 1) nd rfl (.inl rfl))) (fun _ _ _ _ _ => pts_nil) (fun _ _ _ _ _ => (pe_cmpR op_in_sign (pv 1) (p_glob (by rfl) G.c_LETTERS) (by rfl)))) pa_nil))))), ?_⟩
  refine q_when h (b_or (b_not (b_B (d_cb (a_2 (d_var h.env rfl) d_v) (cs_isiStr rfl)))) (b := !(decide ((1 : Int) ≤ (lenD d : Nat)) && decide (((lenD d : Nat) : Int) ≤ 8))) fun e => ?_) (fun e H1 e1 h1 => ?_) (fun e H1 e1 h1 => ?_)
  · obtain ⟨z, rfl⟩ := str_of (by simpa using e)
    exact b_not (b_test (d_chain d_i (d_cb (a_1 (d_var h.env rfl)) (cs_lenS (Nat.le_trans (hz z rfl) (by decide)) rfl)) d_i (os_I0 (fun _ => .bl _) rfl) (os_I0 (fun _ => .bl _) rfl)))
  · refine s_ret h1 (S := T) (d_to d_b ?_) (fun v w H' e s i => k v H' w e s i)
    have e2 : isNameD d = false := by
      cases q : dStr d with
      | false => exact name_str q
      | true =>
        obtain ⟨z, rfl⟩ := str_of q
        have e : true = (!true || !(decide ((1 : Int) ≤ (z.length : Nat)) && decide (((z.length : Nat) : Int) ≤ 8))) := e
        show isNameS z = false
        unfold isNameS
        simp only [Bool.not_true, Bool.false_or] at e
        have e3 : (decide (1 ≤ z.length) && decide (z.length ≤ 8)) = false := by
          cases h1 : decide (1 ≤ z.length) with
          | false => rfl
          | true =>
            cases h2 : decide (z.length ≤ 8) with
            | false => rfl
            | true =>
              simp at h1 h2
              rw [decide_eq_true (by omega), decide_eq_true (by omega)] at e
              cases e
        rw [e3, Bool.false_and]
    rw [← e2]
    exact hS
  · have hd : dStr d = true := by
      cases q : dStr d with
      | true => rfl
      | false => rw [q] at e; cases e
    obtain ⟨z, rfl⟩ := str_of hd
    have e : false = (!true || !(decide ((1 : Int) ≤ (z.length : Nat)) && decide (((z.length : Nat) : Int) ≤ 8))) := e
    refine s_ret h1 (S := T) (d_to (d_cb (a_1 (d_map (f := fun c => PyData.bool (decide (c ∈ lettersS.cps.toList))) h1.env (i_str (d_var h1.env rfl)) (js := [1]) (by decide) ?_ fun c hc => ⟨_, tg_name, fun σ' H' e' h' => d_op (d_var h' rfl) d_s (os_inC rfl)⟩)) (cs_allp rfl)) ?_) (fun v w H' e s i => k v H' w e s i)
    · exact Nat.le_trans (by rw [Array.length_toList]; exact hz z rfl) (by decide)
    · have e2 : isNameD (.str z) = z.cps.toList.all fun c => decide (c ∈ lettersS.cps.toList) := by
        show isNameS z = _
        unfold isNameS
        have e3 : (decide (1 ≤ z.length) && decide (z.length ≤ 8)) = true := by
          simp only [Bool.not_true, Bool.false_or] at e
          have e := congrArg (!·) e
          simp only [Bool.not_false, Bool.not_not] at e
          have e := e.symm
          simp only [Bool.and_eq_true, decide_eq_true_eq] at e
          rw [decide_eq_true (by omega : 1 ≤ z.length), decide_eq_true (by omega : z.length ≤ 8)]; rfl
        rw [e3, Bool.true_and]
      rw [← e2]
      exact hS
end
end Kl
set_option Elab.async false
set_option linter.all false
set_option maxRecDepth 100000
set_option maxHeartbeats 4000000
namespace Kl
open PySem PySem.Spec PyProof.Rows L2
/-! ### zip of two tuples -/
theorem walkd_zipT {K : Frg} {V0 : Hp} {a b : Addr} {xs ys : List V} {ds es : List PyData} (ha : TupA V0 a xs) (hb : TupA V0 b ys) (hx : DqAll V0 xs ds) (hy : DqAll V0 ys es) :
    WalkD V0 (RZ.ItzT K a b) ((ds.zip es).map fun p => pairW p.1 p.2) := by
  have l1 := dps_len hx
  have l2 := dps_len hy
  have sa : ∀ {N H}, Vw N V0 H → SqT K H a xs := fun v => ((vis v).ta ha).t
  have sb : ∀ {N H}, Vw N V0 H → SqT K H b ys := fun v => ((vis v).ta hb).t
  refine ⟨fun i H N hi v => ?_, fun H N v => ⟨xs, ys, sa v, sb v, ?_⟩, fun i H N x H' hi v y => ?_⟩
  · have hi : i < min ds.length es.length := by simpa using hi
    exact ⟨xs, ys, xs[i]'(by omega), ys[i]'(by omega), sa v, sb v, by simp, by simp⟩
  · simp only [List.length_map, List.length_zip]
    omega
  · obtain ⟨T, u, z, rfl, hT, rfl, h1, h2⟩ := y
    obtain ⟨d, q1, q2⟩ := dps_getV hx (h1 xs (sa v))
    obtain ⟨e, q3, q4⟩ := dps_getV hy (h2 ys (sb v))
    refine ⟨Ex.new hT, pairW d e, ?_, new_pair v.al hT (dp_mono v.ex d u q2) (dp_mono v.ex e z q4)⟩
    rw [List.getElem?_map, show (ds.zip es)[i]? = some (d, e) from List.getElem?_zip_eq_some.mpr ⟨q1, q3⟩]
    rfl
theorem i_zipT {K : Frg} {ta : TA} {σ : L2.St} {H : Hp} {ds es : List PyData} (h : Ea ta σ H [.d (.tuple ds), .d (.tuple es)]) : EvI (RZ.iZipA K ta) σ H fun ws => ws = (ds.zip es).map fun p => pairW p.1 p.2 := fun N H1 vw R r =>
  h N H1 vw _ fun vs H2 ws e2 s iv => by
    subst s
    cases iv with
    | cons i1 i2 =>
      cases i2 with
      | cons i3 i4 =>
        cases i4
        obtain ⟨a, xs, rfl, h1, n1, d1⟩ := hid_tup i1
        obtain ⟨b, ys, rfl, h2, n2, d2⟩ := hid_tup i3
        exact ⟨a, b, xs, ys, rfl, .inr ⟨h1.t, h2.t, r _ H2 _ e2 rfl (walkd_zipT (ta_hid h1 n1) (ta_hid h2 n2) d1 d2)⟩⟩
theorem cutG_one {α : Type} (xs : List α) : cutG xs (some 1) none = xs.drop 1 := by
  unfold cutG
  rw [show HT.sIx xs.length 0 (some 1) = min 1 xs.length from HT.sIx_nat xs.length 0 1, HT.sIx_none]
  cases xs with
  | nil => rfl
  | cons x r =>
    rw [show min 1 (x :: r).length = 1 by rw [List.length_cons]; omega]
    exact List.take_of_length_le (by simp)
def risingB (ss : List Str) : Bool := (ss.zip (ss.drop 1)).all fun p => ltS p.1 p.2
def isNamesB (ss : List Str) : Bool := (ss.all isNameS) && risingB ss
theorem isTup_shape : ∀ {d : PyData}, dTup d = true → ∃ ds, d = .tuple ds
  | .tuple ds, _ => ⟨ds, rfl⟩
  | .none, h => by cases h
  | .bool _, h => by cases h
  | .int _, h => by cases h
  | .list _, h => by cases h
  | .str _, h => by cases h
  | .dict _, h => by cases h
theorem eqv_int (a b : Int) : PyData.eqv (.int a) (.int b) = decide (a = b) := by
  show (a == b) = decide (a = b)
  rfl
theorem isTup_eq (n : Int) : ∀ d : PyData, (dTup d && isTupD n d) = isTupD n d
  | .none => rfl
  | .bool _ => rfl
  | .int _ => rfl
  | .str _ => rfl
  | .list _ => rfl
  | .tuple _ => rfl
  | .dict _ => rfl
section
variable {P : Program} {w : World} {K : Frg} {mg : Str → Option Value} {base : Heap}
abbrev s_is_tuple_of : Stmt := topS 8
abbrev n_is_tuple_of : List Str := ["thing", "many"]
theorem sc_is_tuple_of : FnScope n_is_tuple_of ["thing", "many"] (defScope s_is_tuple_of) := ⟨rfl, rfl, rfl, by decide +kernel, rfl, by decide +kernel, by decide +kernel⟩
def F_is_tuple_of : List W → (W → Prop) → Prop := fun ws S => ∃ d n, ws = [.d d, .d (.int n)] ∧ S (.d (.bool (isTupD n d)))
theorem cl_is_tuple_of (D : Def K mg "is_tuple_of" s_is_tuple_of) (G : Gm mg) : Cl P w K mg base CX0 1 "is_tuple_of" [] (SpF F_is_tuple_of) := by
  refine D.ok sc_is_tuple_of (fun _ _ _ _ _ _ us hl => match us, hl with | [_, _], _ => rfl) (fun ws S ⟨_, _, e, _⟩ => by rw [e]; rfl) ?_
  rintro f cdv A outer s H M vs ws T Q E hr ⟨d, n, rfl, hS⟩ h k
  refine ⟨_, (pss_one (ps_ret (pe_and (pe_callB (r := rIsi K) call_isi (by rfl) G.isinstance_ (by decide +kernel) (pa_cons (pv 0) (pa_cons (p_ty "tuple" (by rfl) G.tuple_ (by decide +kernel)) pa_nil))) (pe_one (pe_cmpR (r := rEqD K) (op_eqD hr.units) (pe_callB (r := rLen K) call_len (by rfl) G.len_ PySem.boot_len (pa_cons (pv 0) pa_nil)) (pv 1) (nomark _)))))), ?_⟩
  refine s_ret h (S := T) (d_to (d_and (d_cb (a_2 (d_var h.env rfl) d_v) (cs_isiTup rfl)) (b := isTupD n d) fun e => ?_) ?_) (fun v w H' e s i => k v H' w e s i)
  · obtain ⟨ds, rfl⟩ := isTup_shape e
    exact d_op (d_cb (a_1 (d_var h.env rfl)) (cs_lenT rfl)) (d_var h.env rfl) (os_eqD rfl rfl (by rw [eqv_int]; rfl))
  · rw [isTup_eq]
    exact hS
abbrev s_is_names : Stmt := topS 9
abbrev n_is_names : List Str := ["thing", "one", "other"]
theorem sc_is_names : FnScope n_is_names ["thing"] (defScope s_is_names) := ⟨rfl, rfl, rfl, by decide +kernel, rfl, by decide +kernel, by decide +kernel⟩
def F_is_names : List W → (W → Prop) → Prop := fun ws S => ∃ ss : List Str, ws = [.d (.tuple (ss.map PyData.str))] ∧ (∀ z ∈ ss, z.length ≤ 100) ∧ ss.length ≤ 1000 ∧ S (.d (.bool (isNamesB ss)))
theorem cl_is_names (D : Def K mg "is_names" s_is_names) (G : Gm mg) (C_is_name : Cl P w K mg base CX0 1 "is_name" [] (SpF F_is_name)) : Cl P w K mg base CX0 2 "is_names" [] (SpF F_is_names) := by
  refine D.ok sc_is_names (fun _ _ _ _ _ _ us hl => match us, hl with | [_], _ => rfl) (fun ws S ⟨_, e, _⟩ => by rw [e]; rfl) ?_
  rintro f cdv A outer s H M vs ws T Q E hr ⟨ss, rfl, hz, hl, hS⟩ h k
  have nd := sc_is_names.nd
  refine ⟨_, (pss_cons (ps_if (PW.pt (pw_or (pt_not (pt_val (pe_callB (r := rIsi K) call_isi (by rfl) G.isinstance_ (by decide +kernel) (pa_cons (pv 0) (pa_cons (p_ty "tuple" (by rfl) G.tuple_ (by decide +kernel)) pa_nil))))) (pw_or1 (pt_not (pt_val (pe_callB (r := rAll K) (cr_all rfl) (by rfl) G.all_ (by decide +kernel) (pa_cons (pe_lc (own := [("one", 1)]) rfl nd (pi_tup (pv 0)) (blkOk_by (own := [("one", 1)]) (by kernel_rfl)) (fun _ _ _ _ _ => (pg_name (i := 1) nd rfl (.inl rfl))) (fun _ _ _ _ _ => pts_nil) (fun _ _ _ _ _ => (pe_cl C_is_name (hr.mono (by decide)) (by rfl) pass0 (pa_cons (pv 1) pa_nil)))) pa_nil))))))) (pss_one (ps_ret pe_bl)) pss_nil)
      (pss_one (ps_ret (pe_callB (r := rAll K) (cr_all rfl) (by rfl) G.all_ (by decide +kernel) (pa_cons (pe_lc (own := [("one", 1), ("other", 2)]) (g := gTup K 2 (gCons (gName 1) (gCons (gName 2) gNil))) rfl nd (RZ.pi_zipA (by rfl) G.zip_ (pa_cons (pv 0) (pa_cons (pe_slice (r := rSlB K) sl_tupB (pv 0) (po_some pe_int) po_none) pa_nil))) (blkOk_by (own := [("one", 1), ("other", 2)]) (by kernel_rfl)) (fun _ _ _ _ _ => (pg_tup rfl (pgs_cons (pg_name (i := 1) nd rfl (.inl rfl)) (pgs_cons (pg_name (i := 2) nd rfl (.inl rfl)) pgs_nil)))) (fun _ _ _ _ _ => pts_nil) (fun _ _ _ _ _ => (pe_cmpR op_lt_str (pv 1) (pv 2) (nomark _)))) pa_nil))))), ?_⟩
  refine q_when h (b_or (b_not (b_B (d_cb (a_2 (d_var h.env rfl) d_v) (cs_isiTup rfl)))) (b := !ss.all isNameS) fun e => b_not (b_B (d_cb (a_1 (d_is (d_map (l := ss) (enc := fun z => .d (.str z)) (f := fun z => PyData.bool (isNameS z)) h.env ?_ (js := [1]) (by decide) (Nat.le_trans hl (by decide)) fun z hm => ⟨_, tg_name, fun σ' H' e' h' => d_call (a_1 (d_var h' rfl)) ⟨.str z, rfl, fun z' ez => ?_, rfl⟩⟩) rfl)) (cs_allp rfl)))) (fun e H1 e1 h1 => ?_) (fun e H1 e1 h1 => ?_)
  · exact List.map_map (f := PyData.str) (g := W.d) (l := ss) ▸ i_tup (d_var h.env rfl)
  · have ez : z = z' := PyData.str.inj ez
    subst ez
    exact Nat.le_trans (hz z hm) (by decide)
  · refine s_ret h1 (S := T) (d_to d_b ?_) (fun v w H' e s i => k v H' w e s i)
    have e : true = (false || !ss.all isNameS) := e
    have e2 : isNamesB ss = false := by
      unfold isNamesB
      cases q : ss.all isNameS with
      | true => rw [q] at e; cases e
      | false => rfl
    rw [← e2]
    exact hS
  · have e : false = (false || !ss.all isNameS) := e
    have e2 : ss.all isNameS = true := by
      cases q : ss.all isNameS with
      | false => rw [q] at e; cases e
      | true => rfl
    refine s_ret h1 (S := T) (d_to (d_cb (a_1 (d_is (d_map (l := ss.zip (ss.drop 1)) (enc := fun p => pairW (.str p.1) (.str p.2)) (f := fun p => PyData.bool (ltS p.1 p.2)) h1.env ?_ (js := [1, 2]) (by decide) (by rw [List.length_zip]; omega) fun p hm => ⟨_, tg_pair, fun σ' H' e' h' => d_op (d_var h' rfl) (d_var h' rfl) (os_ltS rfl)⟩) rfl)) (cs_allp rfl)) ?_) (fun v w H' e s i => k v H' w e s i)
    · have q := i_zipT (K := K) (a_2 (d_var h1.env (i := 0) rfl) (d_sl (d_var h1.env (i := 0) rfl) (o_some d_i) o_none (ss_T (K := K) (lo := some 1) (hi := none) rfl)))
      have e3 : ((ss.map PyData.str).zip (cutG (ss.map PyData.str) (some 1) none)).map (fun p => pairW p.1 p.2) = (ss.zip (ss.drop 1)).map fun p => pairW (.str p.1) (.str p.2) := by
        rw [cutG_one, ← List.map_drop, List.zip_map, List.map_map]
        rfl
      rw [← e3]
      exact q
    · have e3 : isNamesB ss = (ss.zip (ss.drop 1)).all fun p => ltS p.1 p.2 := by
        unfold isNamesB
        rw [e2]
        rfl
      rw [← e3]
      exact hS
end
end Kl
set_option Elab.async false
set_option linter.all false
set_option maxRecDepth 100000
set_option maxHeartbeats 4000000
namespace Kl
open PySem PySem.Spec PyProof.Rows L2
theorem at_zero {α : Type} (x : α) (l : List α) : atI (x :: l) 0 = some x := atI_nat (j := 0) rfl
theorem at_1 {α : Type} (x y : α) (l : List α) : atI (x :: y :: l) 1 = some y := atI_nat (j := 1) rfl
theorem at_2 {α : Type} (x y z : α) (l : List α) : atI (x :: y :: z :: l) 2 = some z := atI_nat (j := 2) rfl
theorem at_3 {α : Type} (x y z u : α) (l : List α) : atI (x :: y :: z :: u :: l) 3 = some u := atI_nat (j := 3) rfl
/-- a tuple whose first item is a text -/
abbrev hd (p : Str × List PyData) : PyData := .tuple (.str p.1 :: p.2)
section
variable {P : Program} {w : World} {K : Frg} {mg : Str → Option Value} {base : Heap}
abbrev s_is_counted : Stmt := topS 10
abbrev n_is_counted : List Str := ["thing"]
theorem sc_is_counted : FnScope n_is_counted ["thing"] (defScope s_is_counted) := ⟨rfl, rfl, rfl, by decide +kernel, rfl, by decide +kernel, by decide +kernel⟩
def F_is_counted : List W → (W → Prop) → Prop := fun ws S => ∃ (z : Str) (i : Int), ws = [.d (.tuple [.str z, .int i])] ∧ z.length ≤ 100 ∧ S (.d (.bool (isNameS z && decide (1 ≤ i))))
theorem cl_is_counted (D : Def K mg "is_counted" s_is_counted) (G : Gm mg) (C_is_tuple_of : Cl P w K mg base CX0 1 "is_tuple_of" [] (SpF F_is_tuple_of)) (C_is_name : Cl P w K mg base CX0 1 "is_name" [] (SpF F_is_name)) (C_is_count : Cl P w K mg base CX0 2 "is_count" [] (SpF F_is_count)) : Cl P w K mg base CX0 3 "is_counted" [] (SpF F_is_counted) := by
  refine D.ok sc_is_counted (fun _ _ _ _ _ _ us hl => match us, hl with | [_], _ => rfl) (fun ws S ⟨_, _, e, _⟩ => by rw [e]; rfl) ?_
  rintro f cdv A outer s H M vs ws T Q E hr ⟨z, i, rfl, hz, hS⟩ h k
  refine ⟨_, (pss_one (ps_ret (pe_and (pe_cl C_is_tuple_of (hr.mono (by decide)) (by rfl) pass0 (pa_cons (pv 0) (pa_cons pe_int pa_nil))) (pe_and (pe_cl C_is_name (hr.mono (by decide)) (by rfl) pass0 (pa_cons (pe_ix (r := rIxT K) ix_tup (pv 0) pe_int (fun _ _ => rfl)) pa_nil)) (pe_one (pe_cl C_is_count (hr.mono (by decide)) (by rfl) pass0 (pa_cons (pe_ix (r := rIxT K) ix_tup (pv 0) pe_int (fun _ _ => rfl)) pa_nil))))))), ?_⟩
  exact s_ret h (S := T) (d_to (d_and (d_call (a_2 (d_var h.env rfl) d_i) ⟨_, _, rfl, rfl⟩) fun _ => d_and (d_call (a_1 (d_op (d_var h.env rfl) d_i (os_ixT (at_zero _ _) rfl))) ⟨_, rfl, fun z' ez => (PyData.str.inj ez) ▸ Nat.le_trans hz (by decide), rfl⟩) fun _ => d_call (a_1 (d_op (d_var h.env rfl) d_i (os_ixT (at_1 _ _ _) rfl))) ⟨_, rfl, rfl⟩) hS) (fun v w H' e s i => k v H' w e s i)
abbrev s_is_stock : Stmt := topS 11
abbrev n_is_stock : List Str := ["thing"]
theorem sc_is_stock : FnScope n_is_stock ["thing"] (defScope s_is_stock) := ⟨rfl, rfl, rfl, by decide +kernel, rfl, by decide +kernel, by decide +kernel⟩
def F_is_stock : List W → (W → Prop) → Prop := fun ws S => ∃ (z : Str) (i : Int), ws = [.d (.tuple [.str z, .int i])] ∧ z.length ≤ 100 ∧ S (.d (.bool (isNameS z && decide (0 ≤ i))))
theorem cl_is_stock (D : Def K mg "is_stock" s_is_stock) (G : Gm mg) (C_is_tuple_of : Cl P w K mg base CX0 1 "is_tuple_of" [] (SpF F_is_tuple_of)) (C_is_name : Cl P w K mg base CX0 1 "is_name" [] (SpF F_is_name)) (C_is_number : Cl P w K mg base CX0 2 "is_number" [] (SpF F_is_number)) : Cl P w K mg base CX0 3 "is_stock" [] (SpF F_is_stock) := by
  refine D.ok sc_is_stock (fun _ _ _ _ _ _ us hl => match us, hl with | [_], _ => rfl) (fun ws S ⟨_, _, e, _⟩ => by rw [e]; rfl) ?_
  rintro f cdv A outer s H M vs ws T Q E hr ⟨z, i, rfl, hz, hS⟩ h k
  refine ⟨_, (pss_one (ps_ret (pe_and (pe_cl C_is_tuple_of (hr.mono (by decide)) (by rfl) pass0 (pa_cons (pv 0) (pa_cons pe_int pa_nil))) (pe_and (pe_cl C_is_name (hr.mono (by decide)) (by rfl) pass0 (pa_cons (pe_ix (r := rIxT K) ix_tup (pv 0) pe_int (fun _ _ => rfl)) pa_nil)) (pe_one (pe_cl C_is_number (hr.mono (by decide)) (by rfl) pass0 (pa_cons (pe_ix (r := rIxT K) ix_tup (pv 0) pe_int (fun _ _ => rfl)) pa_nil))))))), ?_⟩
  exact s_ret h (S := T) (d_to (d_and (d_call (a_2 (d_var h.env rfl) d_i) ⟨_, _, rfl, rfl⟩) fun _ => d_and (d_call (a_1 (d_op (d_var h.env rfl) d_i (os_ixT (at_zero _ _) rfl))) ⟨_, rfl, fun z' ez => (PyData.str.inj ez) ▸ Nat.le_trans hz (by decide), rfl⟩) fun _ => d_call (a_1 (d_op (d_var h.env rfl) d_i (os_ixT (at_1 _ _ _) rfl))) ⟨_, rfl, rfl⟩) hS) (fun v w H' e s i => k v H' w e s i)
abbrev s_are_options : Stmt := topS 12
abbrev n_are_options : List Str := ["thing", "known", "one"]
theorem sc_are_options : FnScope n_are_options ["thing", "known"] (defScope s_are_options) := ⟨rfl, rfl, rfl, by decide +kernel, rfl, by decide +kernel, by decide +kernel⟩
def areOptsB (ss ks : List Str) : Bool := isNamesB ss && (decide (2 ≤ ss.length) && ss.all fun z => decide (z ∈ ks))
def F_are_options : List W → (W → Prop) → Prop := fun ws S => ∃ (ss ks : List Str), ws = [.d (.tuple (ss.map PyData.str)), .d (.list (ks.map PyData.str))] ∧ (∀ z ∈ ss, Nice (.str z) ∧ z.length ≤ 100) ∧ (∀ z ∈ ks, Nice (.str z) ∧ z.length ≤ 100) ∧ ss.length ≤ 100 ∧ ks.length ≤ 100 ∧ S (.d (.bool (areOptsB ss ks)))
theorem nice_strs {ks : List Str} (h : ∀ z ∈ ks, Nice (.str z) ∧ z.length ≤ 100) (hl : ks.length ≤ 100) : Nice (.list (ks.map PyData.str)) :=
  nice_lst (c := 1006) (k := 0) (fun z hz => ⟨(h z hz).1, by have := (h z hz).2; show 10 * z.length + 6 ≤ 1006; omega, Nat.zero_le _⟩) (Nat.le_trans (Nat.mul_le_mul_right _ hl) (by decide)) (by decide)
theorem cl_are_options (D : Def K mg "are_options" s_are_options) (G : Gm mg) (C_is_names : Cl P w K mg base CX0 2 "is_names" [] (SpF F_is_names)) : Cl P w K mg base CX0 3 "are_options" [] (SpF F_are_options) := by
  refine D.ok sc_are_options (fun _ _ _ _ _ _ us hl => match us, hl with | [_, _], _ => rfl) (fun ws S ⟨_, _, e, _⟩ => by rw [e]; rfl) ?_
  rintro f cdv A outer s H M vs ws T Q E hr ⟨ss, ks, rfl, hz, hk, hl, hlk, hS⟩ h k
  have nd := sc_are_options.nd
  refine ⟨_, (pss_one (ps_ret (pe_and (pe_cl C_is_names (hr.mono (by decide)) (by rfl) pass0 (pa_cons (pv 0) pa_nil)) (pe_and (pe_cmpR op_ge (pe_callB (r := rLen K) call_len (by rfl) G.len_ PySem.boot_len (pa_cons (pv 0) pa_nil)) (p_glob (by rfl) G.c_LEAST_OPTIONS) (nomark _)) (pe_one (pe_callB (r := rAll K) (cr_all rfl) (by rfl) G.all_ (by decide +kernel) (pa_cons (pe_lc (own := [("one", 2)]) rfl nd (pi_tup (pv 0)) (blkOk_by (own := [("one", 2)]) (by kernel_rfl)) (fun _ _ _ _ _ => (pg_name (i := 2) nd rfl (.inl rfl))) (fun _ _ _ _ _ => pts_nil) (fun _ _ _ _ _ => (pe_cmpR (r := rInD K) (op_inD (r65 hr)) (pv 2) (pv 1) (by rfl)))) pa_nil))))))), ?_⟩
  refine s_ret h (S := T) (d_to (d_and (d_call (a_1 (d_var h.env rfl)) ⟨ss, rfl, fun z hm => (hz z hm).2, Nat.le_trans hl (by decide), rfl⟩) fun _ => d_and (d_op (d_cb (a_1 (d_var h.env rfl)) (cs_lenT rfl)) d_i (os_I0 (fun _ => .bl _) rfl)) fun _ => d_cb (a_1 (d_map (l := ss) (enc := fun z => .d (.str z)) (f := fun z => PyData.bool (decide (z ∈ ks))) h.env ?_ (js := [2]) (by decide) (Nat.le_trans hl (by decide)) fun z hm => ⟨_, tg_name, fun σ' H' e' h' => d_op (d_var h' rfl) (d_var h' rfl) (os_inD (hz z hm).1.shaped (nice_strs hk hlk).shaped (by rw [any_str]))⟩)) (cs_allp rfl)) ?_) (fun v w H' e s i => k v H' w e s i)
  · exact List.map_map (f := PyData.str) (g := W.d) (l := ss) ▸ i_tup (d_var h.env rfl)
  · have e : decide ((2 : Int) ≤ ((ss.map PyData.str).length : Nat)) = decide (2 ≤ ss.length) := by
      rw [List.length_map]
      exact decide_eq_decide.mpr (by omega)
    rw [e]
    exact hS
abbrev s_is_packing : Stmt := topS 13
abbrev n_is_packing : List Str := ["thing"]
theorem sc_is_packing : FnScope n_is_packing ["thing"] (defScope s_is_packing) := ⟨rfl, rfl, rfl, by decide +kernel, rfl, by decide +kernel, by decide +kernel⟩
def F_is_packing : List W → (W → Prop) → Prop := fun ws S => ∃ (z : Str) (i : Int) (b : Bool) (ds : List PyData), ws = [.d (.tuple [.str z, .int i, .bool b, .tuple ds])] ∧ z.length ≤ 100 ∧ S (.d (.bool (isNameS z && decide (0 ≤ i) && decide (0 < ds.length))))
theorem cl_is_packing (D : Def K mg "is_packing" s_is_packing) (G : Gm mg) (C_is_tuple_of : Cl P w K mg base CX0 1 "is_tuple_of" [] (SpF F_is_tuple_of)) (C_is_name : Cl P w K mg base CX0 1 "is_name" [] (SpF F_is_name)) (C_is_number : Cl P w K mg base CX0 2 "is_number" [] (SpF F_is_number)) : Cl P w K mg base CX0 3 "is_packing" [] (SpF F_is_packing) := by
  refine D.ok sc_is_packing (fun _ _ _ _ _ _ us hl => match us, hl with | [_], _ => rfl) (fun ws S ⟨_, _, _, _, e, _⟩ => by rw [e]; rfl) ?_
  rintro f cdv A outer s H M vs ws T Q E hr ⟨z, i, b, ds, rfl, hz, hS⟩ h k
  refine ⟨_, (pss_cons (ps_if (PW.pt (pw_or (pt_not (pt_val (pe_cl C_is_tuple_of (hr.mono (by decide)) (by rfl) pass0 (pa_cons (pv 0) (pa_cons pe_int pa_nil))))) (pw_or (pt_not (pt_val (pe_cl C_is_name (hr.mono (by decide)) (by rfl) pass0 (pa_cons (pe_ix (r := rIxT K) ix_tup (pv 0) pe_int (fun _ _ => rfl)) pa_nil)))) (pw_or1 (pt_not (pt_val (pe_cl C_is_number (hr.mono (by decide)) (by rfl) pass0 (pa_cons (pe_ix (r := rIxT K) ix_tup (pv 0) pe_int (fun _ _ => rfl)) pa_nil)))))))) (pss_one (ps_ret pe_bl)) pss_nil)
      (pss_one (ps_ret (pe_and (pe_callB (r := rIsi K) call_isi (by rfl) G.isinstance_ (by decide +kernel) (pa_cons (pe_ix (r := rIxT K) ix_tup (pv 0) pe_int (fun _ _ => rfl)) (pa_cons (p_ty "bool" (by rfl) G.bool_ (by decide +kernel)) pa_nil))) (pe_and (pe_callB (r := rIsi K) call_isi (by rfl) G.isinstance_ (by decide +kernel) (pa_cons (pe_ix (r := rIxT K) ix_tup (pv 0) pe_int (fun _ _ => rfl)) (pa_cons (p_ty "tuple" (by rfl) G.tuple_ (by decide +kernel)) pa_nil))) (pe_one (pe_cmpR op_gt (pe_callB (r := rLen K) call_len (by rfl) G.len_ PySem.boot_len (pa_cons (pe_ix (r := rIxT K) ix_tup (pv 0) pe_int (fun _ _ => rfl)) pa_nil)) pe_int (nomark _)))))))), ?_⟩
  refine q_when h (b_or (b_not (b_B (d_call (a_2 (d_var h.env rfl) d_i) ⟨_, _, rfl, rfl⟩))) fun _ => b_or (b_not (b_B (d_call (a_1 (d_op (d_var h.env rfl) d_i (os_ixT (at_zero _ _) rfl))) ⟨_, rfl, fun z' ez => (PyData.str.inj ez) ▸ Nat.le_trans hz (by decide), rfl⟩))) fun _ => b_not (b_B (d_call (a_1 (d_op (d_var h.env rfl) d_i (os_ixT (at_1 _ _ _) rfl))) ⟨_, rfl, rfl⟩))) (fun e H1 e1 h1 => ?_) (fun e H1 e1 h1 => ?_)
  · refine s_ret h1 (S := T) (d_to d_b ?_) (fun v w H' e s i => k v H' w e s i)
    have e : true = (!true || (!isNameS z || !decide (0 ≤ i))) := e
    have e2 : (isNameS z && decide (0 ≤ i) && decide (0 < ds.length)) = false := by
      cases q1 : isNameS z <;> cases q2 : decide (0 ≤ i) <;> rw [q1, q2] at e <;> first | rfl | cases e
    rw [← e2]
    exact hS
  · refine s_ret h1 (S := T) (d_to (d_and (d_cb (a_2 (d_op (d_var h1.env rfl) d_i (os_ixT (at_2 _ _ _ _) rfl)) d_v) (cs_isiBool rfl)) fun _ => d_and (d_cb (a_2 (d_op (d_var h1.env rfl) d_i (os_ixT (at_3 _ _ _ _ _) rfl)) d_v) (cs_isiTup rfl)) fun _ => d_op (d_cb (a_1 (d_op (d_var h1.env rfl) d_i (os_ixT (at_3 _ _ _ _ _) rfl))) (cs_lenT rfl)) d_i (os_I0 (fun _ => .bl _) rfl)) ?_) (fun v w H' e s i => k v H' w e s i)
    have e : false = (!true || (!isNameS z || !decide (0 ≤ i))) := e
    have e2 : (isNameS z && decide (0 ≤ i) && decide (0 < ds.length)) = (true && (true && decide ((0 : Int) < (ds.length : Nat)))) := by
      have e3 : decide ((0 : Int) < (ds.length : Nat)) = decide (0 < ds.length) := decide_eq_decide.mpr (by omega)
      rw [e3]
      cases q1 : isNameS z <;> cases q2 : decide (0 ≤ i) <;> rw [q1, q2] at e <;> first | rfl | cases e
    rw [e2] at hS
    exact hS
abbrev s_first_names : Stmt := topS 14
abbrev n_first_names : List Str := ["things", "thing"]
theorem sc_first_names : FnScope n_first_names ["things"] (defScope s_first_names) := ⟨rfl, rfl, rfl, by decide +kernel, rfl, by decide +kernel, by decide +kernel⟩
def F_first_names : List W → (W → Prop) → Prop := fun ws S => ∃ (xs : List (Str × List PyData)), ws = [.d (.tuple (xs.map hd))] ∧ xs.length ≤ 1000 ∧ S (.d (.list (xs.map fun p => .str p.1)))
theorem cl_first_names (D : Def K mg "first_names" s_first_names) (G : Gm mg) : Cl P w K mg base CX0 1 "first_names" [] (SpF F_first_names) := by
  refine D.ok sc_first_names (fun _ _ _ _ _ _ us hl => match us, hl with | [_], _ => rfl) (fun ws S ⟨_, e, _⟩ => by rw [e]; rfl) ?_
  rintro f cdv A outer s H M vs ws T Q E hr ⟨xs, rfl, hl, hS⟩ h k
  have nd := sc_first_names.nd
  refine ⟨_, (pss_one (ps_ret (pe_lc (own := [("thing", 1)]) rfl nd (pi_tup (pv 0)) (blkOk_by (own := [("thing", 1)]) (by kernel_rfl)) (fun _ _ _ _ _ => (pg_name (i := 1) nd rfl (.inl rfl))) (fun _ _ _ _ _ => pts_nil) (fun _ _ _ _ _ => (pe_ix (r := rIxT K) ix_tup (pv 1) pe_int (fun _ _ => rfl)))))), ?_⟩
  refine s_ret h (S := T) (d_to (d_map (l := xs) (enc := fun p => .d (hd p)) (f := fun p => .str p.1) h.env ?_ (js := [1]) (by decide) (Nat.le_trans hl (by decide)) fun p hm => ⟨_, tg_name, fun σ' H' e' h' => d_op (d_var h' rfl) d_i (os_ixT (at_zero _ _) rfl)⟩) hS) (fun v w H' e s i => k v H' w e s i)
  exact List.map_map (f := hd) (g := W.d) (l := xs) ▸ i_tup (d_var h.env rfl)
abbrev s_is_behind : Stmt := topS 15
abbrev n_is_behind : List Str := ["things", "k"]
theorem sc_is_behind : FnScope n_is_behind ["things", "k"] (defScope s_is_behind) := ⟨rfl, rfl, rfl, by decide +kernel, rfl, by decide +kernel, by decide +kernel⟩
def behindB (xs : List Str) (i : Nat) : Bool := match i with
  | 0 => true
  | j + 1 => ltS (xs.getD j ("" : Str)) (xs.getD (j + 1) "")
def F_is_behind : List W → (W → Prop) → Prop := fun ws S => ∃ (xs : List (Str × List PyData)) (i : Nat), ws = [.d (.tuple (xs.map hd)), .d (.int (i : Nat))] ∧ i < xs.length ∧ S (.d (.bool (behindB (xs.map fun p => p.1) i)))
theorem cl_is_behind (D : Def K mg "is_behind" s_is_behind) (G : Gm mg) : Cl P w K mg base CX0 1 "is_behind" [] (SpF F_is_behind) := by
  refine D.ok sc_is_behind (fun _ _ _ _ _ _ us hl => match us, hl with | [_, _], _ => rfl) (fun ws S ⟨_, _, e, _⟩ => by rw [e]; rfl) ?_
  rintro f cdv A outer s H M vs ws T Q E hr ⟨xs, i, rfl, hi, hS⟩ h k
  refine ⟨_, (pss_one (ps_ret (pe_or (pe_cmpR (r := rEqD K) (op_eqD hr.units) (pv 1) pe_int (nomark _)) (pe_one (pe_cmpR op_lt_str (pe_ix (r := rIxT K) ix_tup (pe_ix (r := rIxT K) ix_tup (pv 0) (pe_op op_sub (pv 1) pe_int) (fun _ _ => rfl)) pe_int (fun _ _ => rfl)) (pe_ix (r := rIxT K) ix_tup (pe_ix (r := rIxT K) ix_tup (pv 0) (pv 1) (fun _ _ => rfl)) pe_int (fun _ _ => rfl)) (nomark _)))))), ?_⟩
  refine s_ret h (S := T) (d_to (d_or (d_op (d_var h.env rfl) d_i (os_eqD rfl rfl (by rw [eqv_int]))) (b := behindB (xs.map fun p => p.1) i) fun e => ?_) ?_) (fun v w H' e s i => k v H' w e s i)
  · cases i with
    | zero => cases e
    | succ j =>
      have h1 : j < xs.length := by omega
      have g : ∀ (n : Nat), n < xs.length → atI (xs.map hd) (n : Int) = some (hd (xs.getD n (("" : Str), []))) := fun n hn => atI_nat (by simp [hn])
      have g1 := g j h1
      have g2 := g (j + 1) hi
      have ej : (((j + 1 : Nat) : Int) - 1) = (j : Int) := by omega
      refine d_op (d_op (d_op (d_var h.env rfl) (d_op (d_var h.env rfl) d_i (os_I0 (d := .int (j : Int)) (fun _ => by rw [ej]; exact .int _) rfl)) (os_ixT g1 rfl)) d_i (os_ixT (at_zero _ _) rfl)) (d_op (d_op (d_var h.env rfl) (d_var h.env rfl) (os_ixT g2 rfl)) d_i (os_ixT (at_zero _ _) rfl)) (os_ltS ?_)
      have e1 : (xs.map fun p => p.1).getD j ("" : Str) = (xs.getD j (("" : Str), [])).1 := by simp [h1]
      have e2 : (xs.map fun p => p.1).getD (j + 1) ("" : Str) = (xs.getD (j + 1) (("" : Str), [])).1 := by simp [hi]
      show _ = W.d (.bool (ltS _ _))
      rw [e1, e2]
  · have e : (decide (((i : Nat) : Int) = 0) || behindB (xs.map fun p => p.1) i) = behindB (xs.map fun p => p.1) i := by
      cases i with
      | zero => rfl
      | succ j => rw [decide_eq_false (by omega)]; rfl
    rw [e]
    exact hS
end
end Kl
set_option Elab.async false
set_option linter.all false
set_option maxRecDepth 100000
set_option maxHeartbeats 4000000
/-! F1: enumerate(tuple). -/
namespace Kl
open PySem PySem.Spec PyProof.Rows L2
theorem meets_enT (v : Value) {o : Obj} {Hh : Heap → Prop} (B : Begins v o Hh) :
    Meets (Builtin.«enumerate.__new__» ⟨[.type "enumerate", v], []⟩) (fun _ R s => Hh s.heap ∧
      R (.ok (.ret (.ref (s.heap.push o).objs.size))) { s with heap := (s.heap.push o).push { cls := .type "enumerate", data := .fields #[.none, .bool false, .ref s.heap.objs.size, rawInt 0, .none, .none] } }) :=
  .of_wp fun prog w A R s h => by
    obtain ⟨hp, g, dr, tk, os⟩ := s; obtain ⟨b1, h⟩ := h
    have hsub := sub_enumerate
    have pit : ∀ {A' : Around} {E : Value → Shared → Prop} {Q : Value → Shared → Prop}, Q (.ref hp.objs.size) ⟨hp.push o, g, dr, tk, os⟩ → wpAny (model prog w) A' (pyIter v) Q E ⟨hp, g, dr, tk, os⟩ := fun q => B.iter prog w _ _ ⟨hp, g, dr, tk, os⟩ _ b1 q
    wp_walk using pit
    refine wpAny_stack_any fun st' => wpAny_pure ?_
    split
    · rename_i c' _ _ _ _ _
      cases (c' == Value.type "enumerate") <;> (wp_walk using pit; exact ⟨_, rfl, h⟩)
    · wp_walk using pit
      exact ⟨_, rfl, h⟩
section
variable {prog : Program} {w : World} {A : Around} {E : Value → Shared → Prop} {s : Shared}
theorem call_enT {v : Value} {o : Obj} {Hh : Heap → Prop} {Q : Value → Shared → Prop} (B : Begins v o Hh) (b1 : Hh s.heap)
    (h : ∀ h', IsEnum h' (s.heap.objs.size + 1) s.heap.objs.size 0 .none → h'.get? s.heap.objs.size = some o → h'.objs.size = s.heap.objs.size + 2 → (∀ b o, s.heap.get? b = some o → h'.get? b = some o) → Q (.ref (s.heap.objs.size + 1)) { s with heap := h' }) :
    wpAny (model prog w) A (call (.type "enumerate") [v]) Q E s := by
  refine callType_new F.called_enumerate (by decide) (F.typeCall_enumerate_1 _) (F.newCall_enumerate_1 _) (fun obj => F.args_object_init_2 obj _) F.entry_enumerate_new (meets_enT v B) ⟨b1, ?_⟩
  have sz : (s.heap.push o).objs.size = s.heap.objs.size + 1 := Heap.size_push ..
  show _ ∧ _
  rw [sz]
  have hen : IsEnum ((s.heap.push o).push { cls := .type "enumerate", data := .fields #[.none, .bool false, .ref s.heap.objs.size, rawInt 0, .none, .none] }) (s.heap.objs.size + 1) s.heap.objs.size 0 .none := by
    have q := Heap.get?_push_size (s.heap.push o) (o := { cls := .type "enumerate", data := .fields #[.none, .bool false, .ref s.heap.objs.size, rawInt 0, .none, .none] }) rfl
    rw [sz] at q; exact q
  refine ⟨⟨_, hen, rfl⟩, h _ hen (Heap.get?_push_of_some _ (Heap.get?_push_size _ B.free)) (by rw [Heap.size_push, sz]) fun b o x => Heap.get?_push_of_some _ (Heap.get?_push_of_some _ x)⟩
end
/-- the tuple at a as it stands at each turn, each item in a new pair -/
def IteT (K : Frg) (a : Addr) : It :=
  ⟨fun i H => ∃ (xs : List V) (x : V), SqT K H a xs ∧ xs[i]? = some x, fun i H v H' => ∃ T x, v = .ref T ∧ H T = none ∧ H' = upd H T (.tup [.int (i : Nat), x]) ∧ ∀ xs, SqT K H a xs → xs[i]? = some x, fun i H => ∃ xs : List V, SqT K H a xs ∧ xs.length = i⟩
theorem turn_enT {P : Program} {w : World} {K : Frg} {elts : List Expr} {kk : Nat} {tpos : Pos} (a e it : Addr) :
    Turn P w K (.Tuple elts kk tpos) (IteT K a) [e, it] e (fun i h => (∃ old, IsEnum h e it ((i : Nat) : Int) old) ∧ h.IsTupleIter it a i ∧ e ≠ it) where
  mem := by simp
  obj := fun i h st b hb => by
    obtain ⟨⟨old, he⟩, ⟨o, ho, hc, hd⟩, _⟩ := st
    have e' : b = e ∨ b = it := by simpa using hb
    rcases e' with z | z
    · rw [z]; exact ⟨_, he, nofun⟩
    · rw [z]; exact ⟨o, ho, fun v q => by rw [hd] at q; cases q⟩
  keep := fun i h h' st k => by
    obtain ⟨⟨old, he⟩, hi, hne⟩ := st
    exact ⟨⟨old, k e (by simp) _ he⟩, hi.at fun o q => k it (by simp) o q, hne⟩
  item := by
    intro X hP hw hK hc i pins s σ H E I hf st hg
    subst hP hw hK
    obtain ⟨⟨old, he⟩, ht, hne⟩ := st
    obtain ⟨xs, x, hq, hx⟩ := hg
    obtain ⟨its, rv, p, hz⟩ := I.tuple hq
    obtain ⟨u, hu, ru⟩ := rv.get hx
    have l1 : e < s.heap.objs.size := Heap.lt_size he
    have l2 : it < s.heap.objs.size := by obtain ⟨_, q, _⟩ := ht; exact Heap.lt_size q
    have nai : a ≠ it := fun z => by
      obtain ⟨o1, q1, c1, _⟩ := ht
      obtain ⟨o2, q2, c2, _⟩ := p
      rw [z, q1] at q2
      cases q2
      exact absurd (Value.type.inj (c1.symm.trans c2)) (by decide)
    have nea : e ≠ a := fun z => by
      obtain ⟨o2, q2, c2, _⟩ := p
      rw [← z, he] at q2
      cases q2
      exact absurd (Value.type.inj c2) (by decide)
    have D := Draws.tuple (prog := X.prog) (w := X.w) (A := X.A.in1) (I.ok.hd hc) it a nai its.toArray
    have hlt : i < its.toArray.size := by
      have q := rv.length
      have q2 := (List.getElem?_eq_some_iff.mp hx).1
      show i < its.length
      omega
    refine wpAny_pyNext_enum_itemC D he ⟨ht, p⟩ hlt hne (by simp [hne, nea]) fun y h' tk py ho st' hT hsz hk => ?_
    have ey : y = u := by
      have py : its.toArray[i]? = some y := py
      rw [show its.toArray[i]? = some u by simpa using hu] at py
      exact (Option.some.inj py).symm
    subst ey
    refine ⟨_, rfl, wpAny_letOwnedTupleGo_enum (s := { s with heap := h', toks := tk + 1 }) ho fun h'' he' sb => ?_⟩
    have hT2 : h''.get? s.heap.objs.size = some { cls := .type "tuple", data := .seq #[.int i tk, y] } := (sb.2 _ (Nat.ne_of_gt l1)).trans hT
    have new : ObjOk X.prog X.w (upd H s.heap.objs.size (.tup [.int (i : Nat), x])) h'' s.heap.objs.size (.tup [.int (i : Nat), x]) := ⟨by show 2 ≤ sizeLine; decide, [.int i tk, y], .cons ⟨_, rfl⟩ (.cons ru .nil), ⟨_, hT2, rfl, _, rfl⟩⟩
    have I1 : Inv X pins σ (upd H s.heap.objs.size (.tup [.int (i : Nat), x])) { s with heap := h'', toks := tk + 1 } :=
      I.turnedNew (ch := [e, it]) (fun b ob hb q => (sb.2 b (fun z => hb (by simp [z]))).trans (hk b ob (fun z => hb (by simp [z])) (fun z => hb (by simp [z])) q)) hf (Nat.le_refl _) new
    refine ⟨.ref s.heap.objs.size, _, I1, rfl, ⟨_, x, rfl, I.hok.fresh (Nat.le_refl _), rfl, fun ys hy => by rw [I.tuple_inj hy hq]; exact hx⟩, ⟨⟨y, ?_⟩, st'.1.at fun o q => (sb.2 it (Ne.symm hne)).trans q, hne⟩, fun b hb => ?_⟩
    · have e1 : ((i + 1 : Nat) : Int) = (i : Int) + 1 := by omega
      rw [e1]; exact he'
    · have lb : b < s.heap.objs.size := by
        have e' : b = e ∨ b = it := by simpa using hb
        rcases e' with z | z <;> rw [z] <;> assumption
      rw [upd_ne (Nat.ne_of_lt lb)]
      exact (hf b hb).1
  done := by
    intro X hP hw hK hc i pins s σ H E I hf st hg
    subst hP hw hK
    obtain ⟨⟨old, he⟩, ht, hne⟩ := st
    obtain ⟨xs, hq, hx⟩ := hg
    obtain ⟨its, rv, p, hz⟩ := I.tuple hq
    have hl := rv.length
    have nai : a ≠ it := fun z => by
      obtain ⟨o1, q1, c1, _⟩ := ht
      obtain ⟨o2, q2, c2, _⟩ := p
      rw [z, q1] at q2
      cases q2
      exact absurd (Value.type.inj (c1.symm.trans c2)) (by decide)
    have nea : e ≠ a := fun z => by
      obtain ⟨o2, q2, c2, _⟩ := p
      rw [← z, he] at q2
      cases q2
      exact absurd (Value.type.inj c2) (by decide)
    obtain ⟨f0, f1, f2, f3, f4, f5⟩ := hf it (by simp)
    have D := Draws.tuple (prog := X.prog) (w := X.w) (A := X.A.in1) (I.ok.hd hc) it a nai its.toArray
    have hi : its.toArray.size = i := by show its.length = i; omega
    exact wpAny_pyNext_enum_endD D he (by rw [hi]; exact ⟨ht, p⟩) fun h' eb => ⟨rfl, I.turned (t' := s.toks) (fun b o hb q => eb b o hb q) f0 f1 f3 f4 f5⟩
  self := fun A i s Q E st h => let ⟨⟨_, he⟩, _⟩ := st; wpAny_pyIter_enum he h
def iEnT (K : Frg) (ta : TA) : TI := fun σ H R => ta σ H fun vs H1 => ∃ a xs, vs = [.ref a] ∧ SqT K H1 a xs ∧ R (IteT K a) H1
theorem pi_enumT {X : Cx} {e : Expr} {ta : TA} {p pos tpos : Pos} {elts : List Expr} {kk : Nat} (hg : Gl X "enumerate") (hm : X.mg "enumerate" = none) (ha : PA X [e] ta) (hs : starEach [e] X.env = [(false, eval e X.env)] := by rfl) :
    PI X (.Tuple elts kk tpos) (.Call (.Name "enumerate" p) [e] [] pos) (iEnT X.K ta) := by
  refine ⟨fun pins s σ H R I h => ?_⟩
  refine Call_ (ld_blt I hg hm boot_enumerate (PyProof.Rows.callWith_type1 (thn (ha.run pos pins s σ H _ I h) fun us s1 ⟨vs, H1, I1, r1, q1⟩ => ?_) hs rfl))
  obtain ⟨a, xs, ex, hq, q⟩ := q1
  subst ex
  cases r1 with
  | cons r rr =>
    cases rr
    cases r
    obtain ⟨its, rv, p', hz⟩ := I1.tuple hq
    refine call_enT (begins_tuple a its.toArray) p' fun h' he hit hsz hk => wpAny_pyIter_enum he ?_
    have I2 : Inv X pins σ H1 { s1 with heap := h' } := I1.kept (t' := s1.toks) hk
    refine ⟨s1.heap.objs.size + 1, [s1.heap.objs.size + 1, s1.heap.objs.size], _, _, H1, rfl, I2, turn_enT a (s1.heap.objs.size + 1) s1.heap.objs.size, ⟨⟨.none, he⟩, ⟨_, hit, rfl, rfl⟩, Nat.succ_ne_self _⟩, fun b hb => ?_, q⟩
    have e' : b = s1.heap.objs.size + 1 ∨ b = s1.heap.objs.size := by simpa using hb
    have hle : s1.heap.objs.size ≤ b := by rcases e' with z | z <;> rw [z] <;> first | exact Nat.le_refl _ | exact Nat.le_add_right _ _
    exact I1.fpOk hle (I1.hok.fresh hle)
theorem walkd_enT {K : Frg} {V0 : Hp} {a : Addr} {xs : List V} {ds : List PyData} (hs0 : TupA V0 a xs) (ha : DqAll V0 xs ds) : WalkD V0 (IteT K a) (ds.zipIdx.map fun p => pairW (.int (p.2 : Nat)) p.1) := by
  have hs : SqT K V0 a xs := hs0.t
  have hl := dps_len ha
  refine ⟨fun i H N hi v => ⟨xs, xs[i]'(by rw [hl]; simpa using hi), (vis v).t hs, by simp⟩, fun H N v => ⟨xs, (vis v).t hs, by simp [hl]⟩, fun i H N x H' hi v y => ?_⟩
  obtain ⟨T, u, rfl, hT, rfl, y⟩ := y
  obtain ⟨d, h1, h2⟩ := dps_getV ha (y xs ((vis v).t hs))
  refine ⟨Ex.new hT, pairW (.int (i : Nat)) d, ?_, new_pair v.al hT (.int _) (dp_mono v.ex d u h2)⟩
  rw [List.getElem?_map, List.getElem?_zipIdx, h1]
  simp
theorem i_enT {K : Frg} {ta : TA} {σ : L2.St} {H : Hp} {ds : List PyData} (h : Ea ta σ H [.d (.tuple ds)]) : EvI (iEnT K ta) σ H fun ws => ws = ds.zipIdx.map fun p => pairW (.int (p.2 : Nat)) p.1 := fun N H1 vw R r =>
  h N H1 vw _ fun vs H2 ws e2 s iv => by
    subst s
    cases iv with
    | cons i1 i2 =>
      cases i2
      obtain ⟨a, xs, rfl, h1, n1, d1⟩ := hid_tup i1
      exact ⟨a, xs, rfl, h1.t, r _ H2 _ e2 rfl (walkd_enT (ta_hid h1 n1) d1)⟩
end Kl
set_option Elab.async false
set_option linter.all false
set_option maxRecDepth 100000
set_option maxHeartbeats 4000000
/-! F2: loops over typed lists. -/
namespace Kl
open PySem PySem.Spec PyProof.Rows L2
section
variable {K : Frg} {N : List Addr} {B V0 : Hp} {σ : L2.St} {H H' : Hp} {ρ ρ0 : List (Option W)}
theorem Env.lose (h : Env σ H ρ) : ∀ vs : List Nat, Env σ H (wip ρ vs)
  | [] => h
  | v :: vs => (Env.lose h vs).forget v
theorem At.lose (h : At N B σ H ρ) (vs : List Nat) : At N B σ H (wip ρ vs) := ⟨h.al, h.ex, h.env.lose vs⟩
theorem At.sets {xs : List V} {us : List W} (h : At N B σ H ρ) (js : List Nat) (q : IsAll (hid N H) xs us) : At N B (Kl.sets σ js xs) H (setr ρ js us) := ⟨h.al, h.ex, h.env.sets q⟩
theorem Vw.mut {l : Addr} {o : HO} (h : Vw N V0 H) (m : l ∈ N) : Vw N V0 (upd H l o) := ⟨mem_al h.al, by rw [hid_upd m]; exact h.ex⟩
variable {α : Type} {tb tz : TS} {D : Ends} {js : List Nat} {l : List α} {enc : α → W} {wi : TI} {g : TG}
/-- a loop over a typed list: the slots vs are forgotten at each turn -/
theorem q_scan (h : At N B σ H ρ) (hi : EvI wi σ (hid N H) fun ws => ws = l.map enc) (vs : List Nat) (P : Nat → Hp → Prop) (e0 : wip ρ vs = ρ0)
    (pm : ∀ i H H', P i H → Ex H H' → P i H') (p0 : ∀ H1, Ex H H1 → P 0 H1) (fin : ∀ σ' H', At N B σ' H' ρ0 → P l.length H' → tz D σ' H')
    (turn : ∀ (i : Nat) (x : α) (V0 : Hp) σ' H', l[i]? = some x → Vw N V0 H' → At N B σ' H' ρ0 → P i H' → ∃ us, Tg g js (enc x) us ∧ ∀ σ2, At N B σ2 H' (setr ρ0 js us) → ∀ nx : L2.St → Hp → Prop,
      (∀ σ3 H3 ρ3, At N B σ3 H3 ρ3 → Vw N V0 H3 → wip ρ3 vs = ρ0 → P (i + 1) H3 → nx σ3 H3) → tb { D with nx := nx, ct := nx, bk := tz D } σ2 H') :
    tSeq (tFor wi g tb) tz D σ H := by
  refine q_for (js := js) h hi fun ws H1 tw e1 h1 => ?_
  subst tw
  refine ⟨fun i σ' H' => At N B σ' H' ρ0 ∧ P i H', ⟨by rw [← e0]; exact h1.lose vs, p0 H1 e1⟩, fun i σ' H' H2 ⟨a, b⟩ e => ⟨a.mono e, pm i _ _ b e⟩, fun σ' H' _ ⟨a, b⟩ => fin σ' H' a (by rw [List.length_map] at b; exact b), fun i w σ' H' hw v ⟨a, b⟩ => ?_⟩
  rw [List.getElem?_map] at hw
  cases q : l[i]? with
  | none => rw [q] at hw; cases hw
  | some x =>
    rw [q] at hw
    have ew := Option.some.inj hw
    subst ew
    obtain ⟨us, hg, body⟩ := turn i x (hid N H1) σ' H' q v a b
    refine ⟨us, hg, fun xs ixs => body _ (a.sets js ixs) _ fun σ3 H3 ρ3 a3 v3 e3 p3 => ⟨v3, ?_, p3⟩⟩
    rw [← e3]
    exact a3.lose vs
theorem i_enTm {enc : α → PyData} {ta : TA} (h : Ea ta σ H [.d (.tuple (l.map enc))]) : EvI (iEnT K ta) σ H fun ws => ws = l.zipIdx.map fun p => pairW (.int (p.2 : Nat)) (enc p.1) := by
  have q := i_enT (K := K) h
  have e : ((l.map enc).zipIdx.map fun p => pairW (.int (p.2 : Nat)) p.1) = l.zipIdx.map fun p => pairW (.int (p.2 : Nat)) (enc p.1) := by
    rw [List.zipIdx_map, List.map_map]
    rfl
  rw [← e]
  exact q
/-- for k, x in enumerate(l) -/
theorem q_scanE {enc : α → PyData} {ta : TA} {j k : Nat} (h : At N B σ H ρ) (hi : Ea ta σ (hid N H) [.d (.tuple (l.map enc))]) (vs : List Nat) (P : Nat → Hp → Prop) (e0 : wip ρ vs = ρ0)
    (pm : ∀ i H H', P i H → Ex H H' → P i H') (p0 : ∀ H1, Ex H H1 → P 0 H1) (fin : ∀ σ' H', At N B σ' H' ρ0 → P l.length H' → tz D σ' H')
    (turn : ∀ (i : Nat) (x : α) (V0 : Hp) σ2 H', l[i]? = some x → Vw N V0 H' → P i H' → At N B σ2 H' (setr ρ0 [j, k] [.d (.int (i : Nat)), .d (enc x)]) → ∀ nx : L2.St → Hp → Prop,
      (∀ σ3 H3 ρ3, At N B σ3 H3 ρ3 → Vw N V0 H3 → wip ρ3 vs = ρ0 → P (i + 1) H3 → nx σ3 H3) → tb { D with nx := nx, ct := nx, bk := tz D } σ2 H') :
    tSeq (tFor (iEnT K ta) (gTup K 2 (gCons (gName j) (gCons (gName k) gNil))) tb) tz D σ H := by
  refine q_scan (js := [j, k]) (l := l.zipIdx) h (i_enTm hi) vs P e0 pm p0 (fun σ' H' a b => fin σ' H' a (by rw [List.length_zipIdx] at b; exact b)) fun i p V0 σ' H' hp v a b => ?_
  rw [List.getElem?_zipIdx] at hp
  cases q : l[i]? with
  | none => rw [q] at hp; cases hp
  | some x =>
    rw [q] at hp
    have ep : (x, 0 + i) = p := Option.some.inj hp
    subst ep
    refine ⟨_, tg_pair, fun σ2 a2 nx hn => turn i x V0 σ2 H' q v b ?_ nx hn⟩
    have e : (0 + i : Nat) = i := Nat.zero_add i
    rw [← e]
    exact a2
theorem s_scan (h : At N B σ H ρ) (hi : EvI wi σ (hid N H) fun ws => ws = l.map enc) (vs : List Nat) (P : Nat → Hp → Prop) (e0 : wip ρ vs = ρ0)
    (pm : ∀ i H H', P i H → Ex H H' → P i H') (p0 : ∀ H1, Ex H H1 → P 0 H1) (fin : ∀ σ' H', At N B σ' H' ρ0 → P l.length H' → D.nx σ' H')
    (turn : ∀ (i : Nat) (x : α) (V0 : Hp) σ' H', l[i]? = some x → Vw N V0 H' → At N B σ' H' ρ0 → P i H' → ∃ us, Tg g js (enc x) us ∧ ∀ σ2, At N B σ2 H' (setr ρ0 js us) → ∀ nx : L2.St → Hp → Prop,
      (∀ σ3 H3 ρ3, At N B σ3 H3 ρ3 → Vw N V0 H3 → wip ρ3 vs = ρ0 → P (i + 1) H3 → nx σ3 H3) → tb { D with nx := nx, ct := nx, bk := D.nx } σ2 H') :
    tFor wi g tb D σ H := q_scan (js := js) (tz := fun _ => D.nx) h hi vs P e0 pm p0 fin turn
theorem s_scanE {enc : α → PyData} {ta : TA} {j k : Nat} (h : At N B σ H ρ) (hi : Ea ta σ (hid N H) [.d (.tuple (l.map enc))]) (vs : List Nat) (P : Nat → Hp → Prop) (e0 : wip ρ vs = ρ0)
    (pm : ∀ i H H', P i H → Ex H H' → P i H') (p0 : ∀ H1, Ex H H1 → P 0 H1) (fin : ∀ σ' H', At N B σ' H' ρ0 → P l.length H' → D.nx σ' H')
    (turn : ∀ (i : Nat) (x : α) (V0 : Hp) σ2 H', l[i]? = some x → Vw N V0 H' → P i H' → At N B σ2 H' (setr ρ0 [j, k] [.d (.int (i : Nat)), .d (enc x)]) → ∀ nx : L2.St → Hp → Prop,
      (∀ σ3 H3 ρ3, At N B σ3 H3 ρ3 → Vw N V0 H3 → wip ρ3 vs = ρ0 → P (i + 1) H3 → nx σ3 H3) → tb { D with nx := nx, ct := nx, bk := D.nx } σ2 H') :
    tFor (iEnT K ta) (gTup K 2 (gCons (gName j) (gCons (gName k) gNil))) tb D σ H := q_scanE (tz := fun _ => D.nx) h hi vs P e0 pm p0 fin turn
end
/-! ### the shop -/
structure Shp where
  ps : List (Str × Int)
  cs : List (Str × List Str)
  ks : List (Str × Int × Bool × List (Str × Int))
abbrev eP (p : Str × Int) : PyData := .tuple [.str p.1, .int p.2]
abbrev eC (c : Str × List Str) : PyData := .tuple [.str c.1, .tuple (c.2.map PyData.str)]
abbrev eB (b : List (Str × Int)) : PyData := .tuple (b.map eP)
abbrev eK (k : Str × Int × Bool × List (Str × Int)) : PyData := .tuple [.str k.1, .int k.2.1, .bool k.2.2.1, eB k.2.2.2]
abbrev enc (s : Shp) : PyData := .tuple [.tuple (s.ps.map eP), .tuple (s.cs.map eC), .tuple (s.ks.map eK)]
namespace Shp
abbrev pn (s : Shp) : List Str := s.ps.map fun p => p.1
abbrev cn (s : Shp) : List Str := s.cs.map fun p => p.1
abbrev kn (s : Shp) : List Str := s.ks.map fun p => p.1
abbrev nm (s : Shp) : List Str := s.pn ++ s.cn ++ s.kn
end Shp
structure Pre (s : Shp) : Prop where
  np : ∀ p ∈ s.ps, isNameS p.1 = true ∧ 0 ≤ p.2 ∧ p.2 < 10 ^ 79
  nc : ∀ c ∈ s.cs, isNameS c.1 = true ∧ isNamesB c.2 = true ∧ 2 ≤ c.2.length ∧ c.2.length ≤ 20
  nk : ∀ k ∈ s.ks, isNameS k.1 = true ∧ 0 ≤ k.2.1 ∧ k.2.1 < 10 ^ 79 ∧ 0 < k.2.2.2.length ∧ k.2.2.2.length ≤ 20 ∧ risingB (k.2.2.2.map fun e => e.1) = true ∧
    (∀ e ∈ k.2.2.2, isNameS e.1 = true ∧ 1 ≤ e.2 ∧ e.2 < 10 ^ 79 ∧ e.1 ≠ k.1 ∧ (k.2.2.1 = true → e.1 ∉ s.cn))
  rp : risingB s.pn = true
  rc : risingB s.cn = true
  rk : risingB s.kn = true
  dc : ∀ z ∈ s.cn, z ∉ s.pn
  dk : ∀ z ∈ s.kn, z ∉ s.pn ∧ z ∉ s.cn
  lp : s.ps.length ≤ 20
  lc : s.cs.length ≤ 20
  lk : s.ks.length ≤ 20
  rank : ∃ r : Str → Nat, ∀ k ∈ s.ks, ∀ e ∈ k.2.2.2, r e.1 < r k.1
theorem name_len {z : Str} (h : isNameS z = true) : z.length ≤ 8 := by
  unfold isNameS at h
  simp only [Bool.and_eq_true, decide_eq_true_eq] at h
  exact h.1.2
theorem letters_small : ∀ c ∈ lettersS.cps.toList, c < 0x110000 := by decide +kernel
theorem name_ok {z : Str} (h : isNameS z = true) : PySem.PyData.strOk z = true := by
  unfold isNameS at h
  rw [Bool.and_eq_true] at h
  have h2 := List.all_eq_true.mp h.2
  show z.cps.all (· < 0x110000) = true
  rw [Array.all_eq_true']
  intro c hc
  have h3 := h2 c (by simpa using hc)
  exact decide_eq_true (letters_small c (of_decide_eq_true h3))
theorem name_nice {z : Str} (h : isNameS z = true) : Nice (.str z) := nice_str (name_ok h) (Nat.le_trans (name_len h) (by decide))
end Kl
set_option Elab.async false
set_option linter.all false
set_option maxRecDepth 100000
set_option maxHeartbeats 4000000
/-! K4: forms_fault, names_fault, fits_sheet, sheets_fault. -/
namespace Kl
open PySem PySem.Spec PyProof.Rows L2
theorem risingB_cons {a b : Str} {l : List Str} : risingB (a :: b :: l) = (ltS a b && risingB (b :: l)) := rfl
theorem behind_of {xs : List Str} : ∀ {i : Nat}, risingB xs = true → i < xs.length → behindB xs i = true := by
  induction xs with
  | nil => intro i _ h; simp at h
  | cons a l ih =>
    intro i hr hi
    cases i with
    | zero => rfl
    | succ j =>
      cases l with
      | nil => simp at hi
      | cons b l =>
        rw [risingB_cons, Bool.and_eq_true] at hr
        cases j with
        | zero => exact hr.1
        | succ j =>
          have q := ih (i := j + 1) hr.2 (by simpa using hi)
          exact q
theorem fb_t {α : Type} {l : List α} (nm : α → Str) (rest : α → List PyData) {i : Nat} (hi : i < l.length) : F_is_behind [.d (.tuple (l.map fun x => hd (nm x, rest x))), .d (.int (i : Nat))] fun w => w = .d (.bool (behindB (l.map nm) i)) :=
  ⟨l.map fun x => (nm x, rest x), i, by rw [List.map_map]; rfl, by simpa using hi, by rw [List.map_map]; rfl⟩
theorem ff_t {α : Type} {l : List α} (nm : α → Str) (rest : α → List PyData) (hl : l.length ≤ 1000) : F_first_names [.d (.tuple (l.map fun x => hd (nm x, rest x)))] fun w => w = .d (.list ((l.map nm).map PyData.str)) :=
  ⟨l.map fun x => (nm x, rest x), by rw [List.map_map]; rfl, by simpa using hl, by rw [List.map_map, List.map_map]; rfl⟩
def optsIn (s : Shp) : Bool := s.cs.all fun c => c.2.all fun z => decide (z ∈ s.pn)
theorem take_all {α : Type} {l : List α} {p : α → Bool} {i : Nat} {x : α} (h : (l.take i).all p = true) (hx : l[i]? = some x) (px : p x = true) : (l.take (i + 1)).all p = true := by
  rw [List.take_add_one, hx, List.all_append, h]
  simp [px]
theorem all_false {α : Type} {l : List α} {p : α → Bool} {i : Nat} {x : α} (hx : l[i]? = some x) (px : p x = false) : l.all p = false := by
  cases q : l.all p with
  | false => rfl
  | true =>
    have := List.all_eq_true.mp q x (List.mem_of_getElem? hx)
    rw [px] at this
    cases this
theorem idx_lt {α : Type} {l : List α} {i : Nat} {x : α} (h : l[i]? = some x) : i < l.length := (List.getElem?_eq_some_iff.mp h).1
section
variable {P : Program} {w : World} {K : Frg} {mg : Str → Option Value} {base : Heap}
abbrev s_forms_fault : Stmt := topS 16
abbrev n_forms_fault : List Str := ["thing", "k", "one", "known"]
theorem sc_forms_fault : FnScope n_forms_fault ["thing"] (defScope s_forms_fault) := ⟨rfl, rfl, rfl, by decide +kernel, rfl, by decide +kernel, by decide +kernel⟩
def F_forms_fault : List W → (W → Prop) → Prop := fun ws S => ∃ s, ws = [.d (enc s)] ∧ Pre s ∧ ∀ d, isNone d = optsIn s → S (.d d)
theorem cl_forms_fault (D : Def K mg "forms_fault" s_forms_fault) (G : Gm mg) (C_is_stock : Cl P w K mg base CX0 3 "is_stock" [] (SpF F_is_stock)) (C_is_behind : Cl P w K mg base CX0 1 "is_behind" [] (SpF F_is_behind)) (C_first_names : Cl P w K mg base CX0 1 "first_names" [] (SpF F_first_names)) (C_is_tuple_of : Cl P w K mg base CX0 1 "is_tuple_of" [] (SpF F_is_tuple_of)) (C_is_name : Cl P w K mg base CX0 1 "is_name" [] (SpF F_is_name))
    (C_are_options : Cl P w K mg base CX0 3 "are_options" [] (SpF F_are_options)) (C_is_packing : Cl P w K mg base CX0 3 "is_packing" [] (SpF F_is_packing)) : Cl P w K mg base CX0 4 "forms_fault" [] (SpF F_forms_fault) := by
  refine D.ok sc_forms_fault (fun _ _ _ _ _ _ us hl => match us, hl with | [_], _ => rfl) (fun ws S ⟨_, e, _⟩ => by rw [e]; rfl) ?_
  rintro f cdv A outer s H M vs ws T Q E hr ⟨t, rfl, hp, hS⟩ h k
  have nd := sc_forms_fault.nd
  refine ⟨_, (pss_cons (ps_for PassesOwn.never rfl (pi_enumT (by rfl) G.enumerate_ (pa_cons (pe_ix (r := rIxT K) ix_tup (pv 0) pe_int (fun _ _ => rfl)) pa_nil)) (pg_tup rfl (pgs_cons (pg_name (i := 1) nd rfl (.inl rfl)) (pgs_cons (pg_name (i := 2) nd rfl (.inl rfl)) pgs_nil))) (pss_one (ps_if (PW.pt (pw_or (pt_not (pt_val (pe_cl C_is_stock (hr.mono (by decide)) (by rfl) pass0 (pa_cons (pv 2) pa_nil)))) (pw_or1 (pt_not (pt_val (pe_cl C_is_behind (hr.mono (by decide)) (by rfl) pass0 (pa_cons (pe_ix (r := rIxT K) ix_tup (pv 0) pe_int (fun _ _ => rfl)) (pa_cons (pv 1) pa_nil)))))))) (pss_one (ps_ret (pe_tupB (pa_cons pe_str (pa_cons (pv 1) pa_nil))))) pss_nil)))
      (pss_cons (ps_set (i := 3) nd rfl (.inl rfl) (pe_cl C_first_names (hr.mono (by decide)) (by rfl) pass0 (pa_cons (pe_ix (r := rIxT K) ix_tup (pv 0) pe_int (fun _ _ => rfl)) pa_nil)))
      (pss_cons (ps_for PassesOwn.never rfl (pi_enumT (by rfl) G.enumerate_ (pa_cons (pe_ix (r := rIxT K) ix_tup (pv 0) pe_int (fun _ _ => rfl)) pa_nil)) (pg_tup rfl (pgs_cons (pg_name (i := 1) nd rfl (.inl rfl)) (pgs_cons (pg_name (i := 2) nd rfl (.inl rfl)) pgs_nil))) (pss_cons (ps_if (PW.pt (pw_or (pt_not (pt_val (pe_cl C_is_tuple_of (hr.mono (by decide)) (by rfl) pass0 (pa_cons (pv 2) (pa_cons pe_int pa_nil))))) (pw_or (pt_not (pt_val (pe_cl C_is_name (hr.mono (by decide)) (by rfl) pass0 (pa_cons (pe_ix (r := rIxT K) ix_tup (pv 2) pe_int (fun _ _ => rfl)) pa_nil)))) (pw_or1 (pt_not (pt_val (pe_cl C_are_options (hr.mono (by decide)) (by rfl) pass0 (pa_cons (pe_ix (r := rIxT K) ix_tup (pv 2) pe_int (fun _ _ => rfl)) (pa_cons (pv 3) pa_nil))))))))) (pss_one (ps_ret (pe_tupB (pa_cons pe_str (pa_cons (pv 1) pa_nil))))) pss_nil)
      (pss_one (ps_if (pt_not (pt_val (pe_cl C_is_behind (hr.mono (by decide)) (by rfl) pass0 (pa_cons (pe_ix (r := rIxT K) ix_tup (pv 0) pe_int (fun _ _ => rfl)) (pa_cons (pv 1) pa_nil))))) (pss_one (ps_ret (pe_tupB (pa_cons pe_str (pa_cons (pv 1) pa_nil))))) pss_nil))))
      (pss_cons (ps_for PassesOwn.never rfl (pi_enumT (by rfl) G.enumerate_ (pa_cons (pe_ix (r := rIxT K) ix_tup (pv 0) pe_int (fun _ _ => rfl)) pa_nil)) (pg_tup rfl (pgs_cons (pg_name (i := 1) nd rfl (.inl rfl)) (pgs_cons (pg_name (i := 2) nd rfl (.inl rfl)) pgs_nil))) (pss_one (ps_if (PW.pt (pw_or (pt_not (pt_val (pe_cl C_is_packing (hr.mono (by decide)) (by rfl) pass0 (pa_cons (pv 2) pa_nil)))) (pw_or1 (pt_not (pt_val (pe_cl C_is_behind (hr.mono (by decide)) (by rfl) pass0 (pa_cons (pe_ix (r := rIxT K) ix_tup (pv 0) pe_int (fun _ _ => rfl)) (pa_cons (pv 1) pa_nil)))))))) (pss_one (ps_ret (pe_tupB (pa_cons pe_str (pa_cons (pv 1) pa_nil))))) pss_nil)))
      (pss_one (ps_ret pe_non)))))), ?_⟩
  refine q_scanE (l := t.ps) (enc := eP) h (a_1 (d_op (d_var h.env rfl) d_i (os_ixT (at_zero _ _) rfl))) [1, 2] (fun _ _ => True) rfl (fun _ _ _ _ _ => trivial) (fun _ _ => trivial) (fun σ1 H1 h1 _ => ?_) (fun i x V0 σ2 H2 hx v _ h2 nx hn => ?_)
  rotate_left
  · have m := List.mem_of_getElem? hx
    have q := hp.np x m
    refine s_when h2 (b_is (b_or (b_not (b_B (d_call (a_1 (d_var h2.env rfl)) ⟨x.1, x.2, rfl, Nat.le_trans (name_len q.1) (by decide), rfl⟩))) fun _ => b_not (b_B (d_call (a_2 (d_op (d_var h2.env rfl) d_i (os_ixT (at_zero _ _) rfl)) (d_var h2.env rfl)) (fb_t (fun p => p.1) (fun p => [.int p.2]) (idx_lt hx))))) (b := false) ?_) (fun e => by cases e) (fun _ H3 e3 h3 => hn _ _ _ h3 (v.step e3) rfl trivial)
    rw [q.1, decide_eq_true q.2.1, behind_of hp.rp (by rw [Shp.pn, List.length_map]; exact idx_lt hx)]
    rfl
  refine q_asg h1 (d_call (S := fun w => w = .d (.list (t.pn.map PyData.str))) (a_1 (d_op (d_var h1.env rfl) d_i (os_ixT (at_zero _ _) rfl))) (ff_t (fun p => p.1) (fun p => [.int p.2]) (Nat.le_trans hp.lp (by decide)))) (fun v w H2 e2 ew iw h2 => ?_)
  subst ew
  refine q_scanE (l := t.cs) (enc := eC) h2 (a_1 (d_op (d_var h2.env rfl) d_i (os_ixT (at_1 _ _ _) rfl))) [1, 2] (fun i _ => (t.cs.take i).all (fun c => c.2.all fun z => decide (z ∈ t.pn)) = true) rfl (fun _ _ _ a _ => a) (fun _ _ => rfl) (fun σ3 H3 h3 p3 => ?_) (fun i x V0 σ3 H3 hx v p3 h3 nx hn => ?_)
  rotate_left
  · have m := List.mem_of_getElem? hx
    have q := hp.nc x m
    have nn : ∀ z ∈ x.2, Nice (.str z) ∧ z.length ≤ 100 := fun z hz => by
      have q2 := q.2.1
      unfold isNamesB at q2
      rw [Bool.and_eq_true] at q2
      have q3 := List.all_eq_true.mp q2.1 z hz
      exact ⟨name_nice q3, Nat.le_trans (name_len q3) (by decide)⟩
    have nk : ∀ z ∈ t.pn, Nice (.str z) ∧ z.length ≤ 100 := fun z hz => by
      obtain ⟨p, hp1, rfl⟩ := List.mem_map.mp hz
      have q3 := (hp.np p hp1).1
      exact ⟨name_nice q3, Nat.le_trans (name_len q3) (by decide)⟩
    have ea : areOptsB x.2 t.pn = x.2.all fun z => decide (z ∈ t.pn) := by
      unfold areOptsB
      rw [q.2.1, decide_eq_true q.2.2.1]
      rfl
    refine q_when h3 (b_is (b_or (b_not (b_B (d_call (a_2 (d_var h3.env rfl) d_i) ⟨_, _, rfl, rfl⟩))) fun _ => b_or (b_not (b_B (d_call (a_1 (d_op (d_var h3.env rfl) d_i (os_ixT (at_zero _ _) rfl))) ⟨_, rfl, fun z' ez => (PyData.str.inj ez) ▸ Nat.le_trans (name_len q.1) (by decide), rfl⟩))) fun _ => b_not (b_B (d_call (a_2 (d_op (d_var h3.env rfl) d_i (os_ixT (at_1 _ _ _) rfl)) (d_var h3.env rfl)) ⟨x.2, t.pn, rfl, nn, nk, Nat.le_trans q.2.2.2 (by decide), by rw [Shp.pn, List.length_map]; exact Nat.le_trans hp.lp (by decide), rfl⟩))) (b := !(x.2.all fun z => decide (z ∈ t.pn))) ?_) (fun e H4 e4 h4 => ?_) (fun e H4 e4 h4 => ?_)
    · rw [ea]
      show (!true || (!isNameS x.1 || _)) = _
      rw [q.1]
      rfl
    · have ef : (x.2.all fun z => decide (z ∈ t.pn)) = false := by
        have e := congrArg (!·) e
        simpa using e.symm
      have eo : optsIn t = false := by
        unfold optsIn
        exact all_false (l := t.cs) (i := i) hx ef
      exact s_ret h4 (d_tup (ds := [.str "choice", .int (i : Nat)]) (a_2 d_s (d_var h4.env rfl)) (by simp)) (fun v w H' e s i => k v H' w e (by rw [s]; exact hS _ (by rw [eo]; rfl)) i)
    · refine s_when h4 (b_is (b_not (b_B (d_call (a_2 (d_op (d_var h4.env rfl) d_i (os_ixT (at_1 _ _ _) rfl)) (d_var h4.env rfl)) (fb_t (fun p => p.1) (fun p => [.tuple (p.2.map PyData.str)]) (idx_lt hx))))) (b := false) ?_) (fun e => by cases e) (fun _ H5 e5 h5 => hn _ _ _ h5 (v.step (e4.trans e5)) rfl (take_all p3 hx ?_))
      · rw [behind_of hp.rc (by rw [Shp.cn, List.length_map]; exact idx_lt hx)]
        rfl
      · have e := congrArg (!·) e
        simpa using e.symm
  rw [List.take_length] at p3
  refine q_scanE (l := t.ks) (enc := eK) h3 (a_1 (d_op (d_var h3.env rfl) d_i (os_ixT (at_2 _ _ _ _) rfl))) [1, 2] (fun _ _ => True) rfl (fun _ _ _ _ _ => trivial) (fun _ _ => trivial) (fun σ4 H4 h4 _ => ?_) (fun i x V0 σ4 H4 hx v _ h4 nx hn => ?_)
  rotate_left
  · have m := List.mem_of_getElem? hx
    have q := hp.nk x m
    refine s_when h4 (b_is (b_or (b_not (b_B (d_call (a_1 (d_var h4.env rfl)) ⟨x.1, x.2.1, x.2.2.1, _, rfl, Nat.le_trans (name_len q.1) (by decide), rfl⟩))) fun _ => b_not (b_B (d_call (a_2 (d_op (d_var h4.env rfl) d_i (os_ixT (at_2 _ _ _ _) rfl)) (d_var h4.env rfl)) (fb_t (fun p => p.1) (fun p => [.int p.2.1, .bool p.2.2.1, eB p.2.2.2]) (idx_lt hx))))) (b := false) ?_) (fun e => by cases e) (fun _ H5 e5 h5 => hn _ _ _ h5 (v.step e5) rfl trivial)
    rw [q.1, decide_eq_true q.2.1, List.length_map, decide_eq_true q.2.2.2.1, behind_of hp.rk (by rw [Shp.kn, List.length_map]; exact idx_lt hx)]
    rfl
  refine s_ret h4 d_n (fun v w H' e s i => k v H' w e (by rw [s]; exact hS _ p3.symm) i)
end
end Kl
set_option Elab.async false
set_option linter.all false
set_option maxRecDepth 100000
set_option maxHeartbeats 4000000
/-! K5: names_fault, fits_sheet, sheets_fault. -/
namespace Kl
open PySem PySem.Spec PyProof.Rows L2
theorem Pre.pn_ok {t : Shp} (h : Pre t) : ∀ z ∈ t.pn, isNameS z = true := fun z hz => by
  obtain ⟨p, hp, rfl⟩ := List.mem_map.mp hz
  exact (h.np p hp).1
theorem Pre.cn_ok {t : Shp} (h : Pre t) : ∀ z ∈ t.cn, isNameS z = true := fun z hz => by
  obtain ⟨p, hp, rfl⟩ := List.mem_map.mp hz
  exact (h.nc p hp).1
theorem Pre.kn_ok {t : Shp} (h : Pre t) : ∀ z ∈ t.kn, isNameS z = true := fun z hz => by
  obtain ⟨p, hp, rfl⟩ := List.mem_map.mp hz
  exact (h.nk p hp).1
theorem Pre.lpn {t : Shp} (h : Pre t) : t.pn.length ≤ 100 := by rw [Shp.pn, List.length_map]; exact Nat.le_trans h.lp (by decide)
theorem Pre.lcn {t : Shp} (h : Pre t) : t.cn.length ≤ 100 := by rw [Shp.cn, List.length_map]; exact Nat.le_trans h.lc (by decide)
theorem Pre.lkn {t : Shp} (h : Pre t) : t.kn.length ≤ 100 := by rw [Shp.kn, List.length_map]; exact Nat.le_trans h.lk (by decide)
theorem os_inN {K : Frg} {z : Str} {ks : List Str} (hz : isNameS z = true) (hk : ∀ z ∈ ks, isNameS z = true) (hl : ks.length ≤ 100) : OpS (rInD K) (.d (.str z)) (.d (.list (ks.map PyData.str))) fun w => w = .d (.bool (decide (z ∈ ks))) :=
  os_inD (name_nice hz).shaped (nice_strs (fun y hy => ⟨name_nice (hk y hy), Nat.le_trans (name_len (hk y hy)) (by decide)⟩) hl).shaped (by rw [any_str])
theorem os_notInN {K : Frg} {z : Str} {ks : List Str} (hz : isNameS z = true) (hk : ∀ z ∈ ks, isNameS z = true) (hl : ks.length ≤ 100) : OpS (rNotInD K) (.d (.str z)) (.d (.list (ks.map PyData.str))) fun w => w = .d (.bool (!decide (z ∈ ks))) :=
  os_notInD (name_nice hz).shaped (nice_strs (fun y hy => ⟨name_nice (hk y hy), Nat.le_trans (name_len (hk y hy)) (by decide)⟩) hl).shaped (by rw [any_str])
section
variable {P : Program} {w : World} {K : Frg} {mg : Str → Option Value} {base : Heap}
abbrev s_names_fault : Stmt := topS 17
abbrev n_names_fault : List Str := ["thing", "known", "k", "one"]
theorem sc_names_fault : FnScope n_names_fault ["thing"] (defScope s_names_fault) := ⟨rfl, rfl, rfl, by decide +kernel, rfl, by decide +kernel, by decide +kernel⟩
def F_names_fault : List W → (W → Prop) → Prop := fun ws S => ∃ t, ws = [.d (enc t)] ∧ Pre t ∧ S (.d .none)
theorem cl_names_fault (D : Def K mg "names_fault" s_names_fault) (G : Gm mg) (C_first_names : Cl P w K mg base CX0 1 "first_names" [] (SpF F_first_names)) : Cl P w K mg base CX0 2 "names_fault" [] (SpF F_names_fault) := by
  refine D.ok sc_names_fault (fun _ _ _ _ _ _ us hl => match us, hl with | [_], _ => rfl) (fun ws S ⟨_, e, _⟩ => by rw [e]; rfl) ?_
  rintro f cdv A outer s H M vs ws T Q E hr ⟨t, rfl, hp, hS⟩ h k
  have nd := sc_names_fault.nd
  refine ⟨_, (pss_cons (ps_set (i := 1) nd rfl (.inl rfl) (pe_cl C_first_names (hr.mono (by decide)) (by rfl) pass0 (pa_cons (pe_ix (r := rIxT K) ix_tup (pv 0) pe_int (fun _ _ => rfl)) pa_nil)))
      (pss_cons (ps_for PassesOwn.never rfl (pi_enumT (by rfl) G.enumerate_ (pa_cons (pe_ix (r := rIxT K) ix_tup (pv 0) pe_int (fun _ _ => rfl)) pa_nil)) (pg_tup rfl (pgs_cons (pg_name (i := 2) nd rfl (.inl rfl)) (pgs_cons (pg_name (i := 3) nd rfl (.inl rfl)) pgs_nil))) (pss_one (ps_if (pt_cmpR (r := rInD K) (op_inD (r65 hr)) (pe_ix (r := rIxT K) ix_tup (pv 3) pe_int (fun _ _ => rfl)) (pv 1) (by rfl)) (pss_one (ps_ret (pe_tupB (pa_cons pe_str (pa_cons (pe_tupB (pa_cons pe_int (pa_cons (pv 2) pa_nil))) pa_nil))))) pss_nil)))
      (pss_cons (ps_for PassesOwn.never rfl (pi_enumT (by rfl) G.enumerate_ (pa_cons (pe_ix (r := rIxT K) ix_tup (pv 0) pe_int (fun _ _ => rfl)) pa_nil)) (pg_tup rfl (pgs_cons (pg_name (i := 2) nd rfl (.inl rfl)) (pgs_cons (pg_name (i := 3) nd rfl (.inl rfl)) pgs_nil))) (pss_one (ps_if (PW.pt (pw_or (pt_cmpR (r := rInD K) (op_inD (r65 hr)) (pe_ix (r := rIxT K) ix_tup (pv 3) pe_int (fun _ _ => rfl)) (pv 1) (by rfl)) (pw_or1 (pt_cmpR (r := rInD K) (op_inD (r65 hr)) (pe_ix (r := rIxT K) ix_tup (pv 3) pe_int (fun _ _ => rfl)) (pe_cl C_first_names (hr.mono (by decide)) (by rfl) pass0 (pa_cons (pe_ix (r := rIxT K) ix_tup (pv 0) pe_int (fun _ _ => rfl)) pa_nil)) (by rfl))))) (pss_one (ps_ret (pe_tupB (pa_cons pe_str (pa_cons (pe_tupB (pa_cons pe_int (pa_cons (pv 2) pa_nil))) pa_nil))))) pss_nil)))
      (pss_one (ps_ret pe_non))))), ?_⟩
  refine q_asg h (d_call (S := fun w => w = .d (.list (t.pn.map PyData.str))) (a_1 (d_op (d_var h.env rfl) d_i (os_ixT (at_zero _ _) rfl))) (ff_t (fun p => p.1) (fun p => [.int p.2]) (Nat.le_trans hp.lp (by decide)))) (fun v w H2 e2 ew iw h2 => ?_)
  subst ew
  refine q_scanE (l := t.cs) (enc := eC) h2 (a_1 (d_op (d_var h2.env rfl) d_i (os_ixT (at_1 _ _ _) rfl))) [2, 3] (fun i _ => True) rfl (fun _ _ _ a _ => a) (fun _ _ => trivial) (fun σ3 H3 h3 p3 => ?_) (fun i x V0 σ3 H3 hx v p3 h3 nx hn => ?_)
  rotate_left
  · have m := List.mem_of_getElem? hx
    refine s_when h3 (b_is (b_test (d_op (d_op (d_var h3.env rfl) d_i (os_ixT (at_zero _ _) rfl)) (d_var h3.env rfl) (os_inN (hp.nc x m).1 hp.pn_ok hp.lpn))) (b := false) (decide_eq_false (hp.dc _ (List.mem_map_of_mem m)))) (fun e => by cases e) (fun _ H4 e4 h4 => hn _ _ _ h4 (v.step e4) rfl trivial)
  refine q_scanE (l := t.ks) (enc := eK) h3 (a_1 (d_op (d_var h3.env rfl) d_i (os_ixT (at_2 _ _ _ _) rfl))) [2, 3] (fun i _ => True) rfl (fun _ _ _ a _ => a) (fun _ _ => trivial) (fun σ4 H4 h4 p4 => ?_) (fun i x V0 σ4 H4 hx v p4 h4 nx hn => ?_)
  rotate_left
  · have m := List.mem_of_getElem? hx
    have dk := hp.dk _ (List.mem_map_of_mem m)
    refine s_when h4 (b_is (b_or (b_test (d_op (d_op (d_var h4.env rfl) d_i (os_ixT (at_zero _ _) rfl)) (d_var h4.env rfl) (os_inN (hp.nk x m).1 hp.pn_ok hp.lpn))) fun _ => b_test (d_op (d_op (d_var h4.env rfl) d_i (os_ixT (at_zero _ _) rfl)) (d_call (a_1 (d_op (d_var h4.env rfl) d_i (os_ixT (at_1 _ _ _) rfl))) (ff_t (fun p => p.1) (fun p => [.tuple (p.2.map PyData.str)]) (Nat.le_trans hp.lc (by decide)))) (os_inN (hp.nk x m).1 hp.cn_ok hp.lcn))) (b := false) ?_) (fun e => by cases e) (fun _ H5 e5 h5 => hn _ _ _ h5 (v.step e5) rfl trivial)
    rw [decide_eq_false dk.1, decide_eq_false dk.2]
    rfl
  exact s_ret h4 d_n (fun v w H' e s i => k v H' w e (by rw [s]; exact hS) i)
abbrev s_fits_sheet : Stmt := topS 18
abbrev n_fits_sheet : List Str := ["thing", "one", "pack"]
theorem sc_fits_sheet : FnScope n_fits_sheet ["thing", "one", "pack"] (defScope s_fits_sheet) := ⟨rfl, rfl, rfl, by decide +kernel, rfl, by decide +kernel, by decide +kernel⟩
def fitB (t : Shp) (z : Str) : Bool := decide (z ∈ t.cn) || (decide (z ∈ t.pn) || decide (z ∈ t.kn))
def F_fits_sheet : List W → (W → Prop) → Prop := fun ws S => ∃ t x e, ws = [.d (enc t), .d (eP e), .d (eK x)] ∧ Pre t ∧ x ∈ t.ks ∧ e ∈ x.2.2.2 ∧ S (.d (.bool (fitB t e.1)))
theorem cl_fits_sheet (D : Def K mg "fits_sheet" s_fits_sheet) (G : Gm mg) (C_is_counted : Cl P w K mg base CX0 3 "is_counted" [] (SpF F_is_counted)) (C_first_names : Cl P w K mg base CX0 1 "first_names" [] (SpF F_first_names)) : Cl P w K mg base CX0 4 "fits_sheet" [] (SpF F_fits_sheet) := by
  refine D.ok sc_fits_sheet (fun _ _ _ _ _ _ us hl => match us, hl with | [_, _, _], _ => rfl) (fun ws S ⟨_, _, _, e, _⟩ => by rw [e]; rfl) ?_
  rintro f cdv A outer s H M vs ws T Q E hr ⟨t, x, y, rfl, hp, hx, hy, hS⟩ h k
  refine ⟨_, (pss_cons (ps_if (PW.pt (pw_or (pt_not (pt_val (pe_cl C_is_counted (hr.mono (by decide)) (by rfl) pass0 (pa_cons (pv 1) pa_nil)))) (pw_or1 (pt_cmpR (r := rEqD K) (op_eqD hr.units) (pe_ix (r := rIxT K) ix_tup (pv 1) pe_int (fun _ _ => rfl)) (pe_ix (r := rIxT K) ix_tup (pv 2) pe_int (fun _ _ => rfl)) (nomark _))))) (pss_one (ps_ret pe_bl)) pss_nil)
      (pss_cons (ps_if (pt_cmpR (r := rInD K) (op_inD (r65 hr)) (pe_ix (r := rIxT K) ix_tup (pv 1) pe_int (fun _ _ => rfl)) (pe_cl C_first_names (hr.mono (by decide)) (by rfl) pass0 (pa_cons (pe_ix (r := rIxT K) ix_tup (pv 0) pe_int (fun _ _ => rfl)) pa_nil)) (by rfl)) (pss_one (ps_ret (pe_not (pe_ix (r := rIxT K) ix_tup (pv 2) pe_int (fun _ _ => rfl))))) pss_nil)
      (pss_one (ps_ret (pe_or (pe_cmpR (r := rInD K) (op_inD (r65 hr)) (pe_ix (r := rIxT K) ix_tup (pv 1) pe_int (fun _ _ => rfl)) (pe_cl C_first_names (hr.mono (by decide)) (by rfl) pass0 (pa_cons (pe_ix (r := rIxT K) ix_tup (pv 0) pe_int (fun _ _ => rfl)) pa_nil)) (by rfl)) (pe_one (pe_cmpR (r := rInD K) (op_inD (r65 hr)) (pe_ix (r := rIxT K) ix_tup (pv 1) pe_int (fun _ _ => rfl)) (pe_cl C_first_names (hr.mono (by decide)) (by rfl) pass0 (pa_cons (pe_ix (r := rIxT K) ix_tup (pv 0) pe_int (fun _ _ => rfl)) pa_nil)) (by rfl)))))))), ?_⟩
  have nk := hp.nk x hx
  obtain ⟨n1, n2, n3, n4, n5⟩ := nk.2.2.2.2.2.2 y hy
  refine q_when h (b_is (b_or (b_not (b_B (d_call (a_1 (d_var h.env rfl)) ⟨y.1, y.2, rfl, Nat.le_trans (name_len n1) (by decide), rfl⟩))) fun _ => b_test (d_op (d_op (d_var h.env rfl) d_i (os_ixT (at_zero _ _) rfl)) (d_op (d_var h.env rfl) d_i (os_ixT (at_zero _ _) rfl)) (os_eqD (name_nice n1).shaped (name_nice nk.1).shaped (by rw [eqv_str])))) (b := false) ?_) (fun e => by cases e) (fun _ H1 e1 h1 => ?_)
  · rw [n1, decide_eq_true n2, decide_eq_false n4]
    rfl
  refine q_when h1 (b_test (d_op (d_op (d_var h1.env rfl) d_i (os_ixT (at_zero _ _) rfl)) (d_call (a_1 (d_op (d_var h1.env rfl) d_i (os_ixT (at_1 _ _ _) rfl))) (ff_t (fun p => p.1) (fun p => [.tuple (p.2.map PyData.str)]) (Nat.le_trans hp.lc (by decide)))) (os_inN n1 hp.cn_ok hp.lcn))) (fun e H2 e2 h2 => ?_) (fun e H2 e2 h2 => ?_)
  · have hc : y.1 ∈ t.cn := of_decide_eq_true e.symm
    have hb : x.2.2.1 = false := by
      cases q : x.2.2.1 with
      | false => rfl
      | true => exact absurd hc (n5 q)
    refine s_ret h2 (d_not (d_op (d_var h2.env rfl) d_i (os_ixT (at_2 _ _ _ _) rfl))) (fun v w H' e s i => k v H' w e ?_ i)
    rw [s, hb]
    have e3 : fitB t y.1 = true := by unfold fitB; rw [decide_eq_true hc]; rfl
    rw [e3] at hS
    exact hS
  · refine s_ret h2 (d_or (d_op (d_op (d_var h2.env rfl) d_i (os_ixT (at_zero _ _) rfl)) (d_call (a_1 (d_op (d_var h2.env rfl) d_i (os_ixT (at_zero _ _) rfl))) (ff_t (fun p => p.1) (fun p => [.int p.2]) (Nat.le_trans hp.lp (by decide)))) (os_inN n1 hp.pn_ok hp.lpn)) fun _ => d_op (d_op (d_var h2.env rfl) d_i (os_ixT (at_zero _ _) rfl)) (d_call (a_1 (d_op (d_var h2.env rfl) d_i (os_ixT (at_2 _ _ _ _) rfl))) (ff_t (fun p => p.1) (fun p => [.int p.2.1, .bool p.2.2.1, eB p.2.2.2]) (Nat.le_trans hp.lk (by decide)))) (os_inN n1 hp.kn_ok hp.lkn)) (fun v w H' e' s i => k v H' w e' ?_ i)
    rw [s]
    have e3 : fitB t y.1 = (decide (y.1 ∈ t.pn) || decide (y.1 ∈ t.kn)) := by unfold fitB; rw [← e]; rfl
    rw [e3] at hS
    exact hS
abbrev s_sheets_fault : Stmt := topS 19
abbrev n_sheets_fault : List Str := ["thing", "k", "pack", "j", "one"]
theorem sc_sheets_fault : FnScope n_sheets_fault ["thing"] (defScope s_sheets_fault) := ⟨rfl, rfl, rfl, by decide +kernel, rfl, by decide +kernel, by decide +kernel⟩
def sheetsIn (t : Shp) : Bool := t.ks.all fun x => x.2.2.2.all fun e => fitB t e.1
def F_sheets_fault : List W → (W → Prop) → Prop := fun ws S => ∃ t, ws = [.d (enc t)] ∧ Pre t ∧ ∀ d, isNone d = sheetsIn t → S (.d d)
theorem cl_sheets_fault (D : Def K mg "sheets_fault" s_sheets_fault) (G : Gm mg) (C_fits_sheet : Cl P w K mg base CX0 4 "fits_sheet" [] (SpF F_fits_sheet)) (C_is_behind : Cl P w K mg base CX0 1 "is_behind" [] (SpF F_is_behind)) : Cl P w K mg base CX0 5 "sheets_fault" [] (SpF F_sheets_fault) := by
  refine D.ok sc_sheets_fault (fun _ _ _ _ _ _ us hl => match us, hl with | [_], _ => rfl) (fun ws S ⟨_, e, _⟩ => by rw [e]; rfl) ?_
  rintro f cdv A outer s H M vs ws T Q E hr ⟨t, rfl, hp, hS⟩ h k
  have nd := sc_sheets_fault.nd
  refine ⟨_, (pss_cons (ps_for PassesOwn.never rfl (pi_enumT (by rfl) G.enumerate_ (pa_cons (pe_ix (r := rIxT K) ix_tup (pv 0) pe_int (fun _ _ => rfl)) pa_nil)) (pg_tup rfl (pgs_cons (pg_name (i := 1) nd rfl (.inl rfl)) (pgs_cons (pg_name (i := 2) nd rfl (.inl rfl)) pgs_nil))) (pss_one (ps_for PassesOwn.never rfl (pi_enumT (by rfl) G.enumerate_ (pa_cons (pe_ix (r := rIxT K) ix_tup (pv 2) pe_int (fun _ _ => rfl)) pa_nil)) (pg_tup rfl (pgs_cons (pg_name (i := 3) nd rfl (.inl rfl)) (pgs_cons (pg_name (i := 4) nd rfl (.inl rfl)) pgs_nil))) (pss_one (ps_if (PW.pt (pw_or (pt_not (pt_val (pe_cl C_fits_sheet (hr.mono (by decide)) (by rfl) pass0 (pa_cons (pv 0) (pa_cons (pv 4) (pa_cons (pv 2) pa_nil)))))) (pw_or1 (pt_not (pt_val (pe_cl C_is_behind (hr.mono (by decide)) (by rfl) pass0 (pa_cons (pe_ix (r := rIxT K) ix_tup (pv 2) pe_int (fun _ _ => rfl)) (pa_cons (pv 3) pa_nil)))))))) (pss_one (ps_ret (pe_tupB (pa_cons pe_str (pa_cons (pe_tupB (pa_cons (pv 1) (pa_cons (pv 3) pa_nil))) pa_nil))))) pss_nil)))))
      (pss_one (ps_ret pe_non))), ?_⟩
  refine q_scanE (l := t.ks) (enc := eK) h (a_1 (d_op (d_var h.env rfl) d_i (os_ixT (at_2 _ _ _ _) rfl))) [1, 2, 3, 4] (fun i _ => ((t.ks.take i).all fun x => x.2.2.2.all fun e => fitB t e.1) = true) rfl (fun _ _ _ a _ => a) (fun _ _ => rfl) (fun σ3 H3 h3 p3 => ?_) (fun i x V0 σ3 H3 hx v p3 h3 nx hn => ?_)
  · rw [List.take_length] at p3
    exact s_ret h3 d_n (fun v w H' e s i => k v H' w e (by rw [s]; exact hS _ p3.symm) i)
  · have m := List.mem_of_getElem? hx
    have nk := hp.nk x m
    refine s_scanE (l := x.2.2.2) (enc := eP) h3 (a_1 (d_op (d_var h3.env rfl) d_i (os_ixT (at_3 _ _ _ _ _) rfl))) [3, 4] (fun i H' => Vw M V0 H' ∧ ((x.2.2.2.take i).all fun e => fitB t e.1) = true) rfl (fun _ _ _ a e => ⟨a.1.step e, a.2⟩) (fun _ e => ⟨v.step e, rfl⟩) (fun σ4 H4 h4 p4 => ?_) (fun j y V1 σ4 H4 hy v4 p4 h4 nx2 hn2 => ?_)
    · rw [List.take_length] at p4
      exact hn _ _ _ h4 p4.1 rfl (take_all p3 hx p4.2)
    · have my := List.mem_of_getElem? hy
      refine s_when h4 (b_is (b_or (b_not (b_B (d_call (a_3 (d_var h4.env rfl) (d_var h4.env rfl) (d_var h4.env rfl)) ⟨t, x, y, rfl, hp, m, my, rfl⟩))) fun _ => b_not (b_B (d_call (a_2 (d_op (d_var h4.env rfl) d_i (os_ixT (at_3 _ _ _ _ _) rfl)) (d_var h4.env rfl)) (fb_t (fun p => p.1) (fun p => [.int p.2]) (idx_lt hy))))) (b := !fitB t y.1) ?_) (fun e H5 e5 h5 => ?_) (fun e H5 e5 h5 => hn2 _ _ _ h5 (v4.step e5) rfl ⟨p4.1.step e5, take_all p4.2 hy ?_⟩)
      · rw [behind_of nk.2.2.2.2.2.1 (by rw [List.length_map]; exact idx_lt hy)]
        cases fitB t y.1 <;> rfl
      · have ef : fitB t y.1 = false := by
          have e := congrArg (!·) e
          simpa using e.symm
        have eo : sheetsIn t = false := by
          unfold sheetsIn
          exact all_false (l := t.ks) (i := i) hx (all_false (l := x.2.2.2) (i := j) hy ef)
        exact s_ret h5 (d_tup (ds := [.str "sheet", .tuple [.int (i : Nat), .int (j : Nat)]]) (a_2 d_s (d_tup (a_2 (d_var h5.env rfl) (d_var h5.env rfl)) (by simp))) (by simp)) (fun v w H' e s i => k v H' w e (by rw [s]; exact hS _ (by rw [eo]; rfl)) i)
      · have e := congrArg (!·) e
        simpa using e.symm
end
end Kl
set_option Elab.async false
set_option linter.all false
set_option maxRecDepth 100000
set_option maxHeartbeats 4000000
/-! F3: {**d, k: v}. -/
namespace Kl
open PySem PySem.Spec PyProof.Rows L2
section
variable {prog : Program} {w : World} {κ : Type} [DecidableEq κ] {knd : KeyKind prog w κ} {A : Around} {E : Value → Shared → Prop} {s : Shared}
theorem put_pairs {d : Addr} {kvs : List (κ × Value)} {k : κ} {key v : Value} {Q : Unit → Shared → Prop} (hkey : knd.is k key = true) (hm : s.heap.DictOf knd d kvs) (hl : kvs.length ≤ sizeLine)
    (hQ : ∀ h', h'.DictOf knd d (stored kvs k v) → Heap.SameBut d s.heap h' → Q () { s with heap := h' }) : wpAny (model prog w) A (dictPut d (knd.hash k) key v) Q E s := by
  obtain ⟨o, es, ep, ho, hc, hd, hk, hp, hn⟩ := hm
  have hes : es.size ≤ sizeLine := by
    have e1 := hp.length
    have e2 : es.toList.length = es.size := by simp
    omega
  unfold dictPut
  refine wpAny_bind (wpAny_dictFind_of hkey ho hd hk ?_)
  have hx : (es.findIdx? fun e => knd.is k e.key) = kvs.findIdx? fun kv => decide (kv.1 = k) := by rw [← hp.findIdx k]; obtain ⟨l⟩ := es; simp
  cases hi : es.findIdx? fun e => knd.is k e.key with
  | some i =>
    refine wpAny_updateDict ho hd (hQ _ ⟨_, _, ep, Heap.get?_update_self _ ho (Obj.isFreed_of_dict (Obj.data_mapDict hd _)), hc.mapDict _, Obj.data_mapDict hd _, hk.modify _ _, ?_, ?_⟩ (Heap.SameBut.update ..))
    · rw [stored, if_pos (any_of_findIdx_some (hx ▸ hi))]
      have hf : (es.toList.findIdx? fun e => knd.is k e.key) = some i := by rw [← hi]; obtain ⟨l⟩ := es; simp
      have q := hp.modify hn hf v
      obtain ⟨l⟩ := es
      simpa using q
    · rw [stored, if_pos (any_of_findIdx_some (hx ▸ hi)), keys_map_store]
      exact hn
  | none =>
    have hnot : k ∉ kvs.map (·.1) := not_mem_of_findIdx_none (hx ▸ hi)
    have hany : ¬ (kvs.any fun kv => decide (kv.1 = k)) = true := fun ha => by
      obtain ⟨kv, hkv, he⟩ := List.any_eq_true.mp ha
      exact hnot (List.mem_map.mpr ⟨kv, hkv, of_decide_eq_true he⟩)
    refine wpAny_updateDictKeys (hz := hes) ho hd (hQ _ ⟨_, _, ep + 1, Heap.get?_update_self _ ho (Obj.isFreed_of_dict (Obj.data_mapDictKeys hd _)), hc.mapDictKeys _, Obj.data_mapDictKeys hd _, hk.push hkey _, ?_, ?_⟩ (Heap.SameBut.update ..))
    · rw [stored, if_neg hany]
      have q := hp.append hkey (knd.hash k) v
      obtain ⟨l⟩ := es
      simpa using q
    · rw [stored, if_neg hany, List.map_append, List.nodup_append]
      refine ⟨hn, by simp, fun a ha b hb => ?_⟩
      simp only [List.map_cons, List.map_nil, List.mem_singleton] at hb
      subst hb
      exact fun e => hnot (e ▸ ha)
theorem both {α : Type} {M : Model} {c : Bool} {a b : Sem α} {Q : α → Shared → Prop} (h1 : wpAny M A b Q E s) (h2 : wpAny M A b Q E s → c = true → wpAny M A a Q E s) : wpAny M A (if c = true then a else b) Q E s := by
  cases c with
  | true => exact h2 h1 rfl
  | false => exact h1
theorem not_ref_of {v : Value} (h : carriedByValue v = true) : ∀ a, v ≠ .ref a := fun a e => by rw [e] at h; exact absurd h Bool.false_ne_true
theorem merge_pairs {d o : Addr} {kvs more : List (κ × Value)} {Q : Unit → Shared → Prop} (hdo : d ≠ o) (hoS : (o == sysModules) = false) (hd : s.heap.DictOf knd d kvs) (ho : s.heap.DictOf knd o more) (hsz : kvs.length + more.length ≤ sizeLine)
    (hQ : ∀ h', h'.DictOf knd d (merged kvs more) → h'.DictOf knd o more → Heap.SameBut d s.heap h' → Q () { s with heap := h' }) : wpAny (model prog w) A (mergeMapping d (.ref o) false) Q E s := by
  obtain ⟨od, esd, epd, hod, hcd, hdd, hkd, hpd, hnd⟩ := id hd
  obtain ⟨oo, eso, epo, hoo, hco, hdo', hko, hpo, hno⟩ := id ho
  unfold mergeMapping
  refine wpAny_bind (wpAny_isInstance ho.typeIs isSubtype_dict_dict ?_)
  rw [if_pos rfl]
  refine wpAny_bind (wpAny_specialOf ho.typeIs F.slot_dict_iter.lookup ?_)
  show wpAny _ _ (if (o == sysModules) = true then _ else _) _ _ s
  rw [if_neg (by rw [hoS]; exact Bool.false_ne_true)]
  refine wpAny_bind (wpAny_dictEntries hod hdd ?_)
  have hlen : more.length = eso.size := by rw [← hpo.length]; simp
  dsimp only
  refine both ?_ (fun loop hc => ?_)
  · refine wpAny_bind (wpAny_dictEntries hoo hdo' ?_)
    refine wpAny_bind (wpAny_dictEpoch hoo hdo' ?_)
    refine wpAny_bind ?_
    rw [List.range_eq_range']
    refine wpAny_forIn_list _
      (fun rest _ s' => ∃ h' i, s' = { s with heap := h' } ∧ rest = List.range' i (eso.size - i) ∧ i ≤ eso.size ∧ h'.DictOf knd d (merged kvs (more.take i)) ∧ h'.get? o = some oo ∧ Heap.SameBut d s.heap h')
      _ ?_ ?_ _ _ ⟨s.heap, 0, rfl, by simp, Nat.zero_le _, by simpa [merged] using hd, hoo, Heap.SameBut.refl _ _⟩
    · rintro x rest b s' ⟨h', i, rfl, hr, hi, hd', hoo', hs'⟩
      have hlt : i < eso.size := by
        rcases Nat.lt_or_ge i eso.size with z | z
        · exact z
        · rw [Nat.sub_eq_zero_of_le z] at hr; simp at hr
      obtain ⟨rfl, hrest⟩ : x = i ∧ rest = List.range' (i + 1) (eso.size - (i + 1)) := by
        rw [show eso.size - i = (eso.size - (i + 1)) + 1 by omega, List.range'_succ] at hr
        injection hr with h1 h2
        exact ⟨h1, h2⟩
      refine wpAny_bind (wpAny_dictEntries hoo' hdo' ?_)
      rw [Array.getElem?_eq_getElem hlt]
      obtain ⟨⟨k, v⟩, hkv⟩ : ∃ kv, more[x]? = some kv := ⟨more[x]'(by rw [hlen]; exact hlt), List.getElem?_eq_getElem _⟩
      obtain ⟨hkey, hval⟩ := hpo.get? (e := eso[x]) (by simp [hlt]) hkv
      obtain ⟨k', hkey', hhash⟩ := hko eso[x] (Array.getElem_mem hlt)
      obtain rfl : k' = k := knd.inj _ _ _ hkey' hkey
      have hmx : (merged kvs (more.take x)).length ≤ sizeLine := by
        have e1 := merged_length_le kvs (more.take x)
        have e2 : (more.take x).length ≤ more.length := by rw [List.length_take]; omega
        omega
      refine wpAny_bind (wpAny_holding ?_)
      rw [if_neg (by decide), hhash, hval]
      refine put_pairs hkey hd' hmx fun h'' hd'' hs'' => ?_
      have hoo'' : h''.get? o = some oo := (hs''.2 o (Ne.symm hdo)).trans hoo'
      refine wpAny_bind (wpAny_dictEpoch hoo'' hdo' ?_)
      rw [if_neg (by simp)]
      exact wpAny_pure ⟨h'', x + 1, rfl, hrest, hlt, by rw [merged_take_succ kvs more x (k', v) hkv]; exact hd'', hoo'', hs'.trans hs''⟩
    · rintro b s' ⟨h', i, rfl, hr, hi, hd', hoo', hs'⟩
      have hin : i = eso.size := by
        rcases Nat.lt_or_ge i eso.size with z | z
        · rw [show eso.size - i = (eso.size - (i + 1)) + 1 by omega, List.range'_succ] at hr; exact nomatch hr
        · exact Nat.le_antisymm hi z
      refine wpAny_pure (hQ h' ?_ ⟨oo, eso, epo, hoo', hco, hdo', hko, hpo, hno⟩ hs')
      rw [hin, ← hlen, List.take_length] at hd'
      exact hd'
  · refine wpAny_bind (wpAny_dictEntries hoo hdo' ?_)
    refine wpAny_bind (wpAny_of_eq (a := PUnit.unit) ?_ loop)
    rw [← Array.forIn_toList]
    refine forIn_yield_id _ fun e he c => ?_
    obtain ⟨k, hkey, _⟩ := hko e (Array.mem_toList_iff.mp he)
    have nr := not_ref_of (knd.byValue k _ hkey)
    split
    · rename_i a ea
      exact absurd ea (nr a)
    · rfl
end
/-- {**d, k: v} -/
def tDispS (te tk tv : TE) : TE := fun σ H Q => ∀ p, H p = none → te σ (upd H p (.dK [])) fun x H1 => ∃ a kvs, x = .ref a ∧ a ≠ p ∧ H1 p = some (.dK []) ∧ H1 a = some (.dK kvs) ∧ kvs.length ≤ 1000 ∧
  ∀ p2, H1 p2 = none → tk σ (upd (upd H1 p (.dK (mergeK [] kvs))) p2 (.dK [])) fun y H2 => tv σ H2 fun z H3 => H3 p2 = some (.dK []) ∧ H3 p = some (.dK (mergeK [] kvs)) ∧ ∃ k, y = kV k ∧
    Q (.ref p) (upd (upd H3 p2 (.dK [(k, z)])) p (.dK (putK (mergeK [] kvs) k z)))
theorem pe_dispS {X : Cx} {pos : Pos} {e k v : Expr} {te tk tv : TE} (he : PE X e te) (hk : PE X k tk) (hv : PE X v tv) : PE X (.Dict [none, some k] [e, v] pos) (tDispS te tk tv) := by
  refine ⟨fun pins s σ H Q I q => ?_⟩
  rw [arm_eval_Dict]
  refine wpAny_bind (wpAny_standAt ?_)
  show wpAny _ _ (dictDisplay [(none, do let x ← eval e X.env; standAt pos; pure x), (some (eval k X.env), do let x ← eval v X.env; standAt pos; pure x)]) _ _ s
  unfold dictDisplay
  simp only [List.forIn_cons, List.forIn_nil]
  refine wpAny_bind (wpAny_bind (wpAny_bind ?_))
  rw [if_pos (by rfl)]
  refine wpAny_pure ?_
  refine wpAny_bind (wpAny_alloc ?_)
  have hn := I.hok.fresh (Nat.le_refl s.heap.objs.size)
  have I1 := I.laid (a := s.heap.objs.size) (o := .dK []) (h' := s.heap.push { cls := .type "dict", data := .dict #[] }) (t' := s.toks) (fun _ _ q => Heap.get?_push_of_some _ q) (Nat.le_refl _) (dk_empty s.heap I.big)
  refine wpAny_bind (wpAny_holding (wpAny_bind (thn (he.run pins _ σ _ _ I1 (q _ hn)) fun xv s1 ⟨x, H1, I2, rx, a, kvs, ex, hne, hp, ha, hl, q1⟩ => ?_)))
  subst ex
  obtain rfl : xv = Value.ref a := rx
  refine wpAny_bind (wpAny_standAt (wpAny_pure ?_))
  obtain ⟨_, hb, vs, rel, dd⟩ := dk_of I2.hok ha
  obtain ⟨z0, hb0, vs0, rel0, dd0⟩ := dk_of I2.hok hp
  cases rel0
  have hlv : vs.length = kvs.length := rel.length.symm
  refine wpAny_bind (wpAny_onRaise (wpAny_tryCatch (wpAny_onRaise (wpAny_holding (merge_pairs (Ne.symm hne) hb dd0 dd (by rw [sizeLine_eq, List.length_nil]; omega) fun h' dd1 dd2 hs => ?_)))))
  refine wpAny_pure ?_
  have rk : KV (mergeK [] kvs) (merged [] vs) := rel.merge .nil
  have lk : (mergeK [] kvs).length ≤ 1000 := by have := length_mergeK kvs []; rw [List.length_nil] at this; omega
  have I3 : L2.Inv X pins σ (upd H1 s.heap.objs.size (.dK (mergeK [] kvs))) { s1 with heap := h' } :=
    d_write (t' := s1.toks) I2 (by rw [hp]; exact True.intro) hs (let ⟨o, _, _, ho, _⟩ := dd1; ⟨o, ho⟩) (dk_new (by rw [sizeLine_eq]; omega) hb0 rk dd1)
  refine wpAny_bind ?_
  rw [if_neg (by simp)]
  refine wpAny_pure (wpAny_pure (wpAny_bind ?_))
  rw [if_neg (by simp)]
  have hn2 : (upd H1 s.heap.objs.size (.dK (mergeK [] kvs))) h'.objs.size = none := I3.hok.fresh (Nat.le_refl _)
  have hn1 : H1 h'.objs.size = none := by
    cases z : H1 h'.objs.size with
    | none => rfl
    | some u =>
      by_cases e : h'.objs.size = s.heap.objs.size
      · rw [e, upd_same] at hn2; cases hn2
      · rw [upd_ne e, z] at hn2; cases hn2
  have I4 := I3.laid (a := h'.objs.size) (o := .dK []) (h' := h'.push { cls := .type "dict", data := .dict #[] }) (t' := s1.toks) (fun _ _ q => Heap.get?_push_of_some _ q) (Nat.le_refl _) (dk_empty h' I3.big)
  refine wpAny_bind (wpAny_holding (wpAny_subDict (knd := mixKind X.prog X.w) (s := { s1 with heap := h' }) (by simp) ?_))
  show wpAny _ _ (evalPairs (pairTrees [some k] [v] X.env pos)) _ _ _
  refine pairTrees_cons_walk (thn (hk.run pins _ σ _ _ I4 (q1 _ hn1)) fun u s2 ⟨y, H2, I5, ry, q2⟩ => thn (hv.run pins s2 σ H2 _ I5 q2) fun w2 s3 ⟨z, H3, I6, rz, hp2, hp3, ky, ey, q3⟩ => pairTrees_nil_walk ?_)
  subst ey
  obtain ⟨_, hb2, vs2, rel2, dd3⟩ := dk_of I6.hok hp2
  cases rel2
  have c1 : Carries (mixKind X.prog X.w) [(u, w2)] [(ky, w2)] := ⟨kV_is ry, rfl, True.intro⟩
  refine ⟨[(ky, w2)], c1, dd3, fun h2 dd4 hs2 => ?_⟩
  have hne2 : s.heap.objs.size ≠ h'.objs.size := fun e => by rw [e, upd_same] at hn2; cases hn2
  have I7 : L2.Inv X pins σ (upd H3 h'.objs.size (.dK [(ky, z)])) { s3 with heap := h2, toks := s3.toks + 1 } :=
    d_write (t' := s3.toks + 1) I6 (by rw [hp2]; exact True.intro) hs2 (let ⟨o, _, _, ho, _⟩ := dd4; ⟨o, ho⟩) (dk_new (show 1 ≤ sizeLine by decide) hb2 (.cons ⟨rfl, rz⟩ .nil) dd4)
  have hp4 : (upd H3 h'.objs.size (.dK [(ky, z)])) s.heap.objs.size = some (.dK (mergeK [] kvs)) := by rw [upd_ne hne2]; exact hp3
  obtain ⟨_, hb3, vs3, rel3, dd5⟩ := dk_of I7.hok hp4
  have l3 : vs3.length = (mergeK [] kvs).length := rel3.length.symm
  refine wpAny_bind (wpAny_onRaise (wpAny_holding (merge_pairs (s := { s3 with heap := h2, toks := s3.toks + 1 }) hne2 hb2 dd5 dd4 (by rw [sizeLine_eq]; show vs3.length + 1 ≤ _; omega) fun h5 dd6 dd7 hs5 => ?_)))
  refine wpAny_pure (wpAny_pure ⟨.ref s.heap.objs.size, _, ?_, rfl, q3⟩)
  have r8 : KV (mergeK (mergeK [] kvs) [(ky, z)]) (merged vs3 [(ky, w2)]) := KV.merge (.cons ⟨rfl, rz⟩ .nil) rel3
  have l8 : (mergeK (mergeK [] kvs) [(ky, z)]).length ≤ sizeLine := by
    have q := length_mergeK [(ky, z)] (mergeK [] kvs)
    rw [List.length_singleton] at q
    rw [sizeLine_eq]
    omega
  exact d_write (t' := s3.toks + 1) I7 (by rw [hp4]; exact True.intro) hs5 (let ⟨o, _, _, ho, _⟩ := dd6; ⟨o, ho⟩) (dk_new l8 hb3 r8 dd6)
end Kl
set_option Elab.async false
set_option linter.all false
set_option maxRecDepth 100000
set_option maxHeartbeats 4000000
/-! F4: dicts of texts. -/
namespace Kl
open PySem PySem.Spec PyProof.Rows L2
def lk (kvs : List (Str × PyData)) (k : Str) : Option PyData := (kvs.find? fun p => decide (p.1 = k)).map fun p => p.2
theorem inr_inj {a b : Str} (h : (.inr a : Key) = .inr b) : a = b := by injection h
theorem val_lk {H : Hp} (k : Str) : ∀ {kvs : List (Str × PyData)} {es : List (Key × V)}, es.map (fun p => p.1) = kvs.map (fun p => (.inr p.1 : Key)) → DqAll H (es.map fun p => p.2) (kvs.map fun p => p.2) →
    (∀ d, lk kvs k = some d → ∃ v, valV es (.inr k) = some v ∧ Dq H v d) ∧ (lk kvs k = none → valV es (.inr k) = none)
  | [], [], _, _ => ⟨fun d h => (by cases h), fun _ => rfl⟩
  | [], _ :: _, h, _ => by cases h
  | _ :: _, [], h, _ => by cases h
  | (a, x) :: kvs, (b, y) :: es, h, hd => by
    injection h with h1 h2
    have h1 : b = .inr a := h1
    cases hd with
    | cons hx hr =>
      obtain ⟨q1, q2⟩ := val_lk k h2 hr
      by_cases e : a = k
      · subst e
        have e1 : lk ((a, x) :: kvs) a = some x := by simp [lk]
        rw [e1, valV_pos h1]
        exact ⟨fun d hd => by cases hd; exact ⟨_, rfl, hx⟩, fun z => by cases z⟩
      · have e1 : lk ((a, x) :: kvs) k = lk kvs k := by simp [lk, e]
        have e2 : ¬ b = .inr k := fun z => e (inr_inj (h1.symm.trans z))
        rw [e1, valV_neg e2]
        exact ⟨q1, q2⟩
theorem hid_m {N : List Addr} {H : Hp} {v : V} {kvs : List (Str × PyData)} (i : Is (hid N H) v (.m kvs)) :
    ∃ (a : Addr) (es : List (Key × V)), v = .ref a ∧ H a = some (.dK es) ∧ a ∉ N ∧ es.map (fun p => p.1) = kvs.map (fun p => (.inr p.1 : Key)) ∧ DqAll (hid N H) (es.map fun p => p.2) (kvs.map fun p => p.2) ∧ (kvs.all fun p => noInt p.2) = true := by
  obtain ⟨a, es, h1, h2, h3, h4, h5⟩ := i
  exact ⟨a, es, h1, (hid_get h2).1, (hid_get h2).2, h3, h4, h5⟩
theorem new_m {N : List Addr} {H : Hp} {p : Addr} {es : List (Key × V)} {kvs : List (Str × PyData)} (al : ∀ l ∈ N, H l ≠ none) (hp : H p = none) (h3 : es.map (fun p => p.1) = kvs.map (fun p => (.inr p.1 : Key))) (h4 : DqAll (hid N H) (es.map fun p => p.2) (kvs.map fun p => p.2)) (h5 : (kvs.all fun p => noInt p.2) = true) :
    Is (hid N (upd H p (.dK es))) (.ref p) (.m kvs) := ⟨p, es, rfl, hid_of upd_same fun m => al p m hp, h3, dps_mono (hid_mono (Exw.new hp)) _ _ h4, h5⟩
section
variable {K : Frg} {σ : L2.St} {H : Hp} {ρ : List (Option W)} {td ty tx : TE} {kvs : List (Str × PyData)} {k : Str} {d e : PyData} {S : W → Prop}
theorem d_dget (hd : Ed td σ H (.m kvs)) (hy : Ed ty σ H (.d (.str k))) (hk : lk kvs k = some d) : Ed (tDGet td ty) σ H (.d d) := fun N H1 vw Q q =>
  hd N H1 vw _ fun x H2 w e2 s i => by
    subst s
    refine hy N H2 (vw.step e2) _ fun y H3 w e3 s j => ?_
    subst s
    obtain ⟨a, es, rfl, h2, n2, h3, h4, _⟩ := hid_m (is_mono (hid_mono e3.w) i)
    cases j
    obtain ⟨v, q1, q2⟩ := (val_lk k h3 h4).1 d hk
    refine ⟨a, v, rfl, .inl ⟨es, .inr k, .inl h2, rfl, q1.symm⟩, q v H3 _ (e2.trans e3) rfl q2⟩
theorem d_dget2 (hd : Ed td σ H (.m kvs)) (hy : Ed ty σ H (.d (.str k))) (hx : Ed tx σ H (.d e)) : Ed (tDGet2 td ty tx) σ H (.d ((lk kvs k).getD e)) := fun N H1 vw Q q =>
  hd N H1 vw _ fun x H2 w e2 s i => by
    subst s
    obtain ⟨a, es, rfl, h2, n2, _⟩ := hid_m i
    refine ⟨a, rfl, .inl ⟨es, .inl h2⟩, hy N H2 (vw.step e2) _ fun y H3 w e3 s j => ?_⟩
    subst s
    refine hx N H3 ((vw.step e2).step e3) _ fun z H4 w e4 s j2 => ?_
    subst s
    cases j
    obtain ⟨a', es', ea, h2', n2', h3', h4', _⟩ := hid_m (is_mono (hid_mono (e3.trans e4).w) i)
    injection ea with ea
    subst ea
    obtain ⟨q1, q2⟩ := val_lk k h3' h4'
    refine ⟨valV es' (.inr k), .inl ⟨es', .inr k, .inl h2', rfl, rfl⟩, ?_⟩
    cases hq : lk kvs k with
    | none =>
      rw [hq] at q
      rw [q2 hq]
      exact q z H4 _ ((e2.trans e3).trans e4) rfl j2
    | some d =>
      rw [hq] at q
      obtain ⟨v, r1, r2⟩ := q1 d hq
      rw [r1]
      exact q v H4 _ ((e2.trans e3).trans e4) rfl r2
def rListD : List V → Hp → VK → Prop := fun xs H Q => ∃ (a : Addr) (kvs : List (Key × V)), xs = [.ref a] ∧ Rd H a (.dK kvs) ∧ ∀ p, H p = none → Q (.ref p) (upd H p (.lst (kvs.map fun kv => kV kv.1)))
theorem cs_m {r : List V → Hp → VK → Prop} (h : ∀ (N : List Addr) (H : Hp), (∀ l ∈ N, H l ≠ none) → ∀ v, Is (hid N H) v (.m kvs) → ∀ Q : VK, (∀ z H2 w, Ex H H2 → S w → Is (hid N H2) z w → Q z H2) → r [v] H Q) : CaS r [.m kvs] S := fun N H al vs iv Q q => by
  cases iv with
  | cons i1 i2 =>
    cases i2
    exact h N H al _ i1 Q q
theorem keys_list {es : List (Key × V)} {kvs : List (Str × PyData)} (h3 : es.map (fun p => p.1) = kvs.map (fun p => (.inr p.1 : Key))) : (es.map fun kv => kV kv.1) = (kvs.map fun p => p.1).map V.str := by
  have e := congrArg (List.map kV) h3
  rw [List.map_map, List.map_map] at e
  rw [List.map_map]
  exact e
theorem cs_listD (s : S (.d (.list ((kvs.map fun p => p.1).map PyData.str)))) : CaS rListD [.m kvs] S := cs_m fun N H al v i Q q => by
  obtain ⟨a, es, rfl, h2, n2, h3, h4, _⟩ := hid_m i
  refine ⟨a, es, rfl, .inl h2, fun p hp => ?_⟩
  rw [keys_list h3]
  exact q _ _ _ (Ex.new hp) s (new_lst al hp (dps_str _))
def rLenD : List V → Hp → VK → Prop := fun xs H Q => ∃ a kvs, xs = [V.ref a] ∧ H a = some (.dK kvs) ∧ Q (.int kvs.length) H
theorem cs_lenD (s : S (.d (.int (kvs.length : Nat)))) : CaS rLenD [.m kvs] S := cs_m fun N H al v i Q q => by
  obtain ⟨a, es, rfl, h2, n2, h3, h4, _⟩ := hid_m i
  refine ⟨a, es, rfl, h2, ?_⟩
  have e := congrArg List.length h3
  rw [List.length_map, List.length_map] at e
  rw [e]
  exact q _ H _ (Ex.refl _) s (.int _)
theorem valV_none {es : List (Key × V)} {k : Key} (h : k ∉ es.map fun p => p.1) : valV es k = none := by
  have e : (es.find? fun kv => decide (kv.1 = k)) = none := List.find?_eq_none.mpr fun p hp => by
    have : p.1 ≠ k := fun z => h (List.mem_map.mpr ⟨p, hp, z⟩)
    simp [this]
  unfold valV
  rw [e]
  rfl
theorem mergeK_app : ∀ (more acc : List (Key × V)), ((acc ++ more).map fun p => p.1).Nodup → mergeK acc more = acc ++ more
  | [], acc, _ => by rw [List.append_nil]; rfl
  | p :: more, acc, hn => by
    have hk : p.1 ∉ acc.map fun p => p.1 := fun m => by
      rw [List.map_append, List.nodup_append] at hn
      exact hn.2.2 _ m _ (by simp) rfl
    show mergeK (putK acc p.1 p.2) more = _
    rw [putK_new p.2 (valV_none hk)]
    have h2 : (((acc ++ [(p.1, p.2)]) ++ more).map fun p => p.1).Nodup := by
      rw [List.append_assoc]
      exact hn
    rw [mergeK_app more _ h2, List.append_assoc]
    rfl
theorem mergeK_nil {more : List (Key × V)} (hn : (more.map fun p => p.1).Nodup) : mergeK [] more = more := mergeK_app more [] hn
theorem nodup_keys {es : List (Key × V)} {kvs : List (Str × PyData)} (h3 : es.map (fun p => p.1) = kvs.map (fun p => (.inr p.1 : Key))) (hn : (kvs.map fun p => p.1).Nodup) : (es.map fun p => p.1).Nodup := by
  rw [h3]
  have e : (kvs.map fun p => (.inr p.1 : Key)) = (kvs.map fun p => p.1).map fun z => (.inr z : Key) := by rw [List.map_map]; rfl
  rw [e]
  exact List.Pairwise.map (fun z => (.inr z : Key)) (fun a b h z => h (inr_inj z)) hn
theorem no_feed {H : Hp} {es : List (Key × V)} {ds : List PyData} (h : DqAll H (es.map fun p => p.2) ds) (hno : ∀ d ∈ ds, noInt d = true) : ∀ c s l d, HO.dK es ≠ feedO c s l d := fun c s l d z => by
  unfold feedO at z
  injection z with z
  subst z
  cases h with
  | cons _ h =>
    cases h with
    | cons h1 _ =>
      have h1 : Dq H (.int s) _ := h1
      cases h1
      have := hno (.int s) (by simp)
      cases this
theorem wipe_sub {ρ : List (Option W)} : wip ρ [] = ρ := rfl
/-- {f x: g x for x in l} -/
theorem d_dc {wi : TI} {g : TG} {vs js : List Nat} {α : Type} {l : List α} {enc : α → W} {f : α → Str} {f2 : α → PyData} {tk tv : TE} (hE : Env σ H ρ) (hi : EvI wi σ H fun ws => ws = l.map enc) (hj : ∀ j ∈ js, j ∈ vs) (hlen : l.length ≤ 1000)
    (hn : (l.map f).Nodup) (hno : ∀ x ∈ l, noInt (f2 x) = true)
    (ht : ∀ x, x ∈ l → ∃ us, Tg g js (enc x) us ∧ ∀ σ' H', Exw H H' → Env σ' H' (setr (wip ρ vs) js us) → Ed tk σ' H' (.d (.str (f x))) ∧ Ed tv σ' H' (.d (f2 x))) :
    Ed (tDc wi g tYes tk tv vs) σ H (.m (l.map fun x => (f x, f2 x))) := by
  intro N H1 vw Q q
  refine hi N H1 vw _ fun J H2 ws e2 tw wk => ?_
  subst tw
  intro D hD
  have v2 := vw.step e2
  have nD : D ∉ N := v2.new hD
  refine ⟨fun i m H' => m = l.length - i ∧ i ≤ l.length ∧ Vw (D :: N) (hid N H2) H' ∧ Exw H2 (fun a => if a = D then none else H' a) ∧ (∀ T, LamX.Tabs T H2 → LamX.Tabs T H') ∧ ∃ es : List (Key × V), H' D = some (.dK es) ∧ es.map (fun p => p.1) = (l.take i).map (fun x => (.inr (f x) : Key)) ∧ DqAll (hid (D :: N) H') (es.map fun p => p.2) ((l.take i).map f2),
    ⟨l.length, by simp, Nat.zero_le _, ⟨fun a m => ?_, ?_⟩, fun a o ha => .inl ?_, fun T t => (Ex.new hD).tb T t, [], upd_same, rfl, .nil⟩, ?_⟩
  · by_cases e : a = D
    · rw [e, upd_same]; nofun
    · rw [upd_ne e]
      rcases List.mem_cons.mp m with z | z
      · exact absurd z e
      · exact v2.al a z
  · rw [hid_new hD]
    exact Exw.refl _
  · show (if a = D then none else upd H2 D (.dK []) a) = some o
    rw [if_neg (ne_of_none ha hD), upd_ne (ne_of_none ha hD)]
    exact ha
  · rintro i m H3 ⟨rfl, hi', vD, eD, tD, es, hes, hk, hda⟩
    have e23 : Ex H2 H3 := ⟨fun a o ha => by
      rcases eD a o ha with z | ⟨c, s, l, d, s', l', d', z1, z⟩ | ⟨ps, ps', z1, z⟩
      · have z : (if a = D then none else H3 a) = some o := z
        rw [if_neg (ne_of_none ha hD)] at z
        exact .inl z
      · have z : (if a = D then none else H3 a) = some (feedO c s' l' d') := z
        rw [if_neg (ne_of_none ha hD)] at z
        exact .inr (.inl ⟨c, s, l, d, s', l', d', z1, z⟩)
      · have z : (if a = D then none else H3 a) = some (.tbl ps') := z
        rw [if_neg (ne_of_none ha hD)] at z
        exact .inr (.inr ⟨ps, ps', z1, z⟩), tD⟩
    by_cases hlt : i < l.length
    · refine .inr ⟨wk.goes i H3 (D :: N) (by rw [List.length_map]; exact hlt) vD, fun H' => ∃ m', m' = l.length - (i + 1) ∧ i + 1 ≤ l.length ∧ Vw (D :: N) (hid N H2) H' ∧ Exw H2 (fun a => if a = D then none else H' a) ∧ (∀ T, LamX.Tabs T H2 → LamX.Tabs T H') ∧ ∃ es : List (Key × V), H' D = some (.dK es) ∧ es.map (fun p => p.1) = (l.take (i + 1)).map (fun x => (.inr (f x) : Key)) ∧ DqAll (hid (D :: N) H') (es.map fun p => p.2) ((l.take (i + 1)).map f2),
        fun H' ⟨m', a, b⟩ => ⟨m', by omega, a, b⟩, fun x H4 y => ?_⟩
      obtain ⟨e34, w, hw, iw⟩ := wk.yields i H3 (D :: N) x H4 (by rw [List.length_map]; exact hlt) vD y
      have hx : l[i]? = some l[i] := List.getElem?_eq_getElem hlt
      rw [List.getElem?_map, hx] at hw
      have ew := Option.some.inj hw
      subst ew
      obtain ⟨us, hg, body⟩ := ht l[i] (List.getElem_mem hlt)
      refine hg (D :: N) H4 x _ iw _ fun xs' ixs => ⟨by rw [sets_wipe hj, wipe_wipe], ?_⟩
      have v4 : Vw (D :: N) (hid N H2) H4 := vD.step e34
      have hE4 : Env (sets (L2.wipe σ vs) js xs') (hid (D :: N) H4) (setr (wip ρ vs) js us) := (((hE.mono v2.ex).mono v4.ex).wipe vs).sets ixs
      obtain ⟨bk, bv⟩ := body _ _ (v2.ex.trans v4.ex) hE4
      have hb : Eb tYes (Kl.sets (L2.wipe σ vs) js xs') (hid (D :: N) H4) true := fun N H1 _ Q q => q true H1 (Ex.refl _) rfl
      refine hb (D :: N) H4 ⟨v4.al, Exw.refl _⟩ _ fun b H4' e44 cb => ?_
      subst cb
      show tk _ H4' _
      replace bk := bk.mono (hid_mono e44.w)
      replace bv := bv.mono (hid_mono e44.w)
      replace v4 := v4.step e44
      replace e34 := e34.trans e44
      refine bk (D :: N) H4' ⟨v4.al, Exw.refl _⟩ _ fun y H5 w e45 s i5 => ?_
      subst s
      refine bv (D :: N) H5 ⟨fun a m => e45.some (v4.al a m), hid_mono e45⟩ _ fun z H6 w e56 s i6 => ?_
      subst s
      cases i5
      have e46 := e45.trans e56
      have hD6 : H6 D = some (.dK es) := (e34.trans e46).keep hes (no_feed hda fun d hd => by
        obtain ⟨y, hy, rfl⟩ := List.mem_map.mp hd
        exact hno y (List.mem_of_mem_take hy))
      · have hnk : (.inr (f l[i]) : Key) ∉ es.map fun p => p.1 := by
          rw [hk]
          intro hm
          obtain ⟨y, hy, ey⟩ := List.mem_map.mp hm
          have ey := inr_inj ey
          obtain ⟨j, hj1, hj2⟩ := List.mem_take_iff_getElem.mp hy
          have hp := List.pairwise_iff_getElem.mp hn j i (by rw [List.length_map]; omega) (by rw [List.length_map]; exact hlt) (by omega)
          rw [List.getElem_map, List.getElem_map, hj2] at hp
          exact hp ey
        have lk2 := congrArg List.length hk
        rw [List.length_map, List.length_map, List.length_take] at lk2
        refine ⟨es, .inr (f l[i]), rfl, hD6, Nat.lt_of_le_of_lt (by omega : es.length ≤ 1000) (by decide), _, rfl, hlt, ⟨mem_al (v4.step e46).al, by rw [hid_upd List.mem_cons_self]; exact (v4.step e46).ex⟩, fun a o ha => ?_, fun T t => tabs_upd ((e23.trans (e34.trans e46)).tb T t) (plain_dK hD6), es ++ [(.inr (f l[i]), z)], ?_, ?_, ?_⟩
        · have ne := ne_of_none ha hD
          rcases (e23.trans (e34.trans e46)).w a o ha with q1 | ⟨c, s, l, d, s', l', d', z1, q1⟩ | ⟨ps, ps', z1, q1⟩
          · refine .inl ?_
            show (if a = D then none else upd H6 D _ a) = some o
            rw [if_neg ne, upd_ne ne]; exact q1
          · refine .inr (.inl ⟨c, s, l, d, s', l', d', z1, ?_⟩)
            show (if a = D then none else upd H6 D _ a) = _
            rw [if_neg ne, upd_ne ne]; exact q1
          · refine .inr (.inr ⟨ps, ps', z1, ?_⟩)
            show (if a = D then none else upd H6 D _ a) = _
            rw [if_neg ne, upd_ne ne]; exact q1
        · rw [upd_same, putK_new z (valV_none hnk)]
        · rw [List.map_append, hk, List.take_add_one, hx, List.map_append]
          rfl
        · rw [hid_upd List.mem_cons_self, List.map_append, List.take_add_one, hx, List.map_append]
          exact dps_app (dps_mono (hid_mono (e34.trans e46)) _ _ hda) (.cons i6 .nil)
    · have e : i = l.length := by omega
      subst e
      have hd2 := dps_mono (hid_cons D N H3) _ _ hda
      rw [List.take_length] at hk hd2
      refine .inl ⟨by have := wk.stops H3 (D :: N) vD; rw [List.length_map] at this; exact this, q _ H3 _ (e2.trans e23) rfl ⟨D, es, rfl, hid_of hes nD, ?_, ?_, ?_⟩⟩
      · rw [hk, List.map_map]; rfl
      · rw [List.map_map]; exact hd2
      · rw [List.all_map]
        exact List.all_eq_true.mpr hno
end
end Kl
set_option Elab.async false
set_option linter.all false
set_option maxRecDepth 100000
set_option maxHeartbeats 4000000
/-! F5: {**d, k: v}; dict(pairs). -/
namespace Kl
open PySem PySem.Spec PyProof.Rows L2
section
variable {K : Frg} {σ : L2.St} {H : Hp} {ρ : List (Option W)} {te tk tv : TE} {kvs : List (Str × PyData)} {k : Str} {d : PyData} {S : W → Prop}
theorem hid2 {a b : Addr} {N : List Addr} {H : Hp} : Exw (hid (a :: b :: N) H) (hid N H) := (hid_cons a (b :: N) H).trans (hid_cons b N H)
theorem al_new {N : List Addr} {H : Hp} {p : Addr} {o : HO} (al : ∀ l ∈ N, H l ≠ none) : ∀ l ∈ p :: N, upd H p o l ≠ none := fun a m => by
  by_cases e : a = p
  · rw [e, upd_same]; nofun
  · rw [upd_ne e]
    rcases List.mem_cons.mp m with z | z
    · exact absurd z e
    · exact al a z
theorem d_dispS (he : Ed te σ H (.m kvs)) (hk : Ed tk σ H (.d (.str k))) (hv : Ed tv σ H (.d d)) (hn : (kvs.map fun p => p.1).Nodup) (hk2 : k ∉ kvs.map fun p => p.1) (hd : noInt d = true) (hl : kvs.length ≤ 900) :
    Ed (tDispS te tk tv) σ H (.m (kvs ++ [(k, d)])) := fun N H1 vw Q q => fun p hp => by
  have np : p ∉ N := vw.new hp
  have v1 : Vw (p :: N) H (upd H1 p (.dK [])) := ⟨al_new vw.al, by rw [hid_new hp]; exact vw.ex⟩
  refine he (p :: N) _ v1 _ fun x H2 w e2 s i => ?_
  subst s
  obtain ⟨a, es, rfl, h2, n2, h3, h4, h5⟩ := hid_m i
  have hes : mergeK [] es = es := mergeK_nil (nodup_keys h3 hn)
  have le : es.length = kvs.length := by have := congrArg List.length h3; rwa [List.length_map, List.length_map] at this
  have hp2 : H2 p = some (.dK []) := e2.keep upd_same (fun _ _ _ _ z => by unfold feedO at z; cases z)
  refine ⟨a, es, rfl, fun z => n2 (by rw [z]; exact List.mem_cons_self), hp2, h2, by omega, fun p2 hn2 => ?_⟩
  rw [hes]
  have ne : p2 ≠ p := fun z => by rw [z, hp2] at hn2; cases hn2
  have v2 := v1.step e2
  have v3 : Vw (p :: N) H (upd H2 p (.dK es)) := v2.mut List.mem_cons_self
  have hn3 : (upd H2 p (.dK es)) p2 = none := by rw [upd_ne ne]; exact hn2
  have v4 : Vw (p2 :: p :: N) H (upd (upd H2 p (.dK es)) p2 (.dK [])) := ⟨al_new v3.al, by rw [hid_new hn3]; exact v3.ex⟩
  refine hk (p2 :: p :: N) _ v4 _ fun y H5 w e5 s j => ?_
  subst s
  refine hv (p2 :: p :: N) _ (v4.step e5) _ fun z H6 w e6 s j2 => ?_
  subst s
  cases j
  have e56 := e5.trans e6
  have q1 : H6 p2 = some (.dK []) := e56.keep upd_same (fun _ _ _ _ z => by unfold feedO at z; cases z)
  have q2 : H6 p = some (.dK es) := e56.keep (by rw [upd_ne (Ne.symm ne)]; exact upd_same) (no_feed h4 fun d hd => by
    obtain ⟨y, hy, rfl⟩ := List.mem_map.mp hd
    exact List.all_eq_true.mp h5 y hy)
  refine ⟨q1, q2, .inr k, rfl, ?_⟩
  have hnk : (.inr k : Key) ∉ es.map fun p => p.1 := by
    rw [h3]
    intro m
    obtain ⟨y, hy, ey⟩ := List.mem_map.mp m
    exact hk2 (List.mem_map.mpr ⟨y, hy, inr_inj ey⟩)
  rw [putK_new z (valV_none hnk)]
  have eH : hid (p2 :: p :: N) (upd (upd H6 p2 (.dK [(.inr k, z)])) p (.dK (es ++ [(.inr k, z)]))) = hid (p2 :: p :: N) H6 := by rw [hid_upd (List.mem_cons_of_mem _ List.mem_cons_self), hid_upd List.mem_cons_self]
  have e24 : Exw (hid (p :: N) H2) (hid (p2 :: p :: N) H6) := by
    have a1 : hid (p2 :: p :: N) (upd (upd H2 p (.dK es)) p2 (.dK [])) = hid (p :: N) H2 := by rw [hid_new hn3, hid_upd List.mem_cons_self]
    rw [← a1]
    exact hid_mono e56
  have eF : Exw (hid (p2 :: p :: N) H6) (hid N (upd (upd H6 p2 (.dK [(.inr k, z)])) p (.dK (es ++ [(.inr k, z)])))) := by
    rw [← eH]
    exact hid2
  refine q _ _ _ (?_ : Ex H1 _) rfl ⟨p, _, rfl, hid_of upd_same np, ?_, ?_, ?_⟩
  · have b1 : Ex H1 H2 := (Ex.new hp).trans e2
    have b2 : Ex H1 (upd H2 p (.dK es)) := b1.mut hp (plain_dK hp2)
    have b3 : H1 p2 = none := b2.back hn3
    have b4 : Ex H1 H6 := (b2.mut b3 (plain_none hn3)).trans e56
    exact (b4.mut b3 (plain_dK q1)).mut hp (plain_dK (by rw [upd_ne (Ne.symm ne)]; exact q2))
  · rw [List.map_append, h3, List.map_append]
    rfl
  · rw [List.map_append, List.map_append]
    exact dps_app (dps_mono (e24.trans eF) _ _ h4) (.cons (dp_mono eF d z j2) .nil)
  · rw [List.all_append, h5]
    simp [hd]
/-! ### dict(pairs) -/
abbrev eS (p : Str × Str) : PyData := .tuple [.str p.1, .str p.2]
theorem pairs_dq {H : Hp} : ∀ {l : List (Str × Str)} {vs : List V}, DqAll H vs (l.map eS) → ∃ ps : List Addr, vs = ps.map V.ref ∧ Paired (fun (p : Addr) (q : Str × Str) => TupA H p [.str q.1, .str q.2]) ps l
  | [], _, h => by cases h; exact ⟨[], rfl, .nil⟩
  | x :: l, _, h => by
    cases h with
    | cons h1 h2 =>
      obtain ⟨ps, e, r⟩ := pairs_dq h2
      cases h1 with
      | tup hs ha =>
        cases ha with
        | cons a1 a2 =>
          cases a2 with
          | cons a3 a4 =>
            cases a4
            cases a1
            cases a3
            exact ⟨_ :: ps, by rw [e]; rfl, .cons hs r⟩
theorem paired_imp {α β γ : Type} {R : α → β → Prop} {S : α → γ → Prop} {f : β → γ} (h : ∀ a b, R a b → S a (f b)) : ∀ {l : List α} {m : List β}, Paired R l m → Paired S l (m.map f)
  | _, _, .nil => .nil
  | _, _, .cons r t => .cons (h _ _ r) (paired_imp h t)
def strK (p : Str × Str) : Key × V := (.inr p.1, .str p.2)
def rDictL (K : Frg) : List V → Hp → VK → Prop := fun xs H Q => ∃ (a : Addr) (ps : List Addr) (kvs : List (Key × V)), xs = [.ref a] ∧ SqL K H a (ps.map V.ref) ∧ Paired (fun p kv => SqT K H p [kV kv.1, kv.2]) ps kvs ∧ ∀ p, H p = none → Q (.ref p) (upd H p (.dK (mergeK [] kvs)))
theorem strk_m {H : Hp} {l : List (Str × Str)} : (l.map strK).map (fun p => p.1) = (l.map fun p => (p.1, PyData.str p.2)).map (fun p => (.inr p.1 : Key)) ∧ DqAll H ((l.map strK).map fun p => p.2) ((l.map fun p => (p.1, PyData.str p.2)).map fun p => p.2) ∧ ((l.map fun p => (p.1, PyData.str p.2)).all fun p => noInt p.2) = true := by
  refine ⟨by rw [List.map_map, List.map_map]; rfl, ?_, by rw [List.all_map]; exact List.all_eq_true.mpr fun _ _ => rfl⟩
  rw [List.map_map, List.map_map]
  induction l with
  | nil => exact .nil
  | cons x l ih => exact .cons (.str _) ih
theorem cs_dictL {l : List (Str × Str)} (hn : (l.map fun p => p.1).Nodup) (s : S (.m (l.map fun p => (p.1, PyData.str p.2)))) : CaS (rDictL K) [.d (.list (l.map eS))] S := ca1 fun N H al v i Q q => by
  obtain ⟨a, us, rfl, h1, n1, d1⟩ := hid_lst i
  obtain ⟨ps, rfl, r⟩ := pairs_dq d1
  refine ⟨a, ps, l.map strK, rfl, .inl (.inl h1), paired_imp (S := fun (p : Addr) (kv : Key × V) => SqT K H p [kV kv.1, kv.2]) (f := strK) (fun p q h => (hid_ta h).1.t) r, fun p hp => ?_⟩
  obtain ⟨m1, m2, m3⟩ := strk_m (H := hid N H) (l := l)
  rw [mergeK_nil (nodup_keys m1 (by rw [List.map_map]; exact hn))]
  exact q _ _ _ (Ex.new hp) s (new_m al hp m1 m2 m3)
def rDictT (K : Frg) : List V → Hp → VK → Prop := fun xs H Q => ∃ (a : Addr) (ps : List Addr) (l : List (Str × Str)), xs = [.ref a] ∧ TupA H a (ps.map V.ref) ∧ Paired (fun (p : Addr) (q : Str × Str) => TupA H p [.str q.1, .str q.2]) ps l ∧ ∀ p, H p = none → Q (.ref p) (upd H p (.dK (mergeK [] (l.map strK))))
theorem cs_dictT {l : List (Str × Str)} (hn : (l.map fun p => p.1).Nodup) (s : S (.m (l.map fun p => (p.1, PyData.str p.2)))) : CaS (rDictT K) [.d (.tuple (l.map eS))] S := ca1 fun N H al v i Q q => by
  obtain ⟨a, us, rfl, h1, n1, d1⟩ := hid_tup i
  obtain ⟨ps, rfl, r⟩ := pairs_dq d1
  have r2 := paired_imp (S := fun (p : Addr) (q : Str × Str) => TupA H p [.str q.1, .str q.2]) (f := id) (fun p q h => (hid_ta h).1) r
  rw [List.map_id] at r2
  refine ⟨a, ps, l, rfl, h1, r2, fun p hp => ?_⟩
  obtain ⟨m1, m2, m3⟩ := strk_m (H := hid N H) (l := l)
  rw [mergeK_nil (nodup_keys m1 (by rw [List.map_map]; exact hn))]
  exact q _ _ _ (Ex.new hp) s (new_m al hp m1 m2 m3)
end
section
variable {X : Cx}
theorem pairs_val {pins : List (Addr × Obj)} {σ : L2.St} {H : Hp} {s : Shared} (I : L2.Inv X pins σ H s) : ∀ {ps : List Addr} {l : List (Str × Str)}, Paired (fun (p : Addr) (q : Str × Str) => TupA H p [.str q.1, .str q.2]) ps l →
    ∃ (prs : List (Key × Value)) (vps : List (Value × Value)), KV (l.map strK) prs ∧ prs.length = ps.length ∧ vps.length = ps.length ∧ ∀ (j : Nat) (k v : Value), vps[j]? = some (k, v) → ∃ (b : Addr) (kk : Key), ps[j]? = some b ∧ PairAt s.heap b k v ∧ prs[j]? = some (kk, v) ∧ (mixKind X.prog X.w).is kk k = true
  | _, _, .nil => ⟨[], [], .nil, rfl, rfl, fun j k v e => by simp at e⟩
  | _, _, .cons (a := p) (b := x) h t => by
    obtain ⟨prs, vps, r, l1, l2, hp⟩ := pairs_val I t
    obtain ⟨its, rv, ht, _⟩ := I.tuple (h.t (K := X.K))
    obtain ⟨u, y, ei, ru, ry⟩ := vals2 rv
    subst ei
    refine ⟨(.inr x.1, y) :: prs, (u, y) :: vps, .cons ⟨rfl, ry⟩ r, by rw [List.length_cons, List.length_cons, l1], by rw [List.length_cons, List.length_cons, l2], fun j k v e => ?_⟩
    cases j with
    | zero =>
      have e' := Option.some.inj e
      injection e' with e1 e2
      subst e1 e2
      exact ⟨p, .inr x.1, rfl, .inl ht, rfl, kV_is (P := X.prog) (w := X.w) (k := .inr x.1) ru⟩
    | succ j =>
      obtain ⟨b, kk, e1, e2, e3, e4⟩ := hp j k v (by simpa using e)
      exact ⟨b, kk, by simpa using e1, e2, by simpa using e3, e4⟩
theorem call_dictT (hcalm : X.calm = true) : CallR X (.type "dict") (rDictT X.K) := by
  intro pins s σ H xs us Q I r q
  obtain ⟨a, ps, l, ex, hq, hp, q⟩ := q
  subst ex
  obtain ⟨u, eu, rx⟩ := vals1 r
  subst eu
  cases rx
  obtain ⟨its, rv, pl, hz⟩ := I.tuple (hq.t (K := X.K))
  have ei := refs_at rv
  subst ei
  rw [List.length_map] at hz
  obtain ⟨prs, vps, rel, l1, l2, hpr⟩ := pairs_val I hp
  obtain ⟨o, ho1, to⟩ := hq
  have hok := I.hok a _ ho1
  obtain ⟨hga, _, its2, rv2, o2, hg2, hc2, n2, hd2⟩ := hok
  rw [hga] at hg2
  cases hg2
  have ei2 := refs_at rv2
  subst ei2
  have ts : PlainSeq "tuple" s.heap a (ps.map Value.ref).toArray := ⟨o, n2, hga, to.cls, to.bare, hd2⟩
  have hpi : PairItems s.heap (ps.map Value.ref).toArray (fun j => (ps[j]?).getD 0) vps := by
    refine ⟨by simp [l2], fun j k v e => ?_⟩
    obtain ⟨b, kk, e1, e2, _, _⟩ := hpr j k v e
    simp only [e1, Option.getD_some]
    exact ⟨by simp [e1], e2⟩
  have hl : prs.length = l.length := by rw [← rel.length, List.length_map]
  refine PySem.call_dict_pairs (knd := mixKind X.prog X.w) (kvs := prs) (PairArg.tuple a _ _ vps) (I.ok.hd hcalm) ⟨ts, hpi⟩ ⟨by rw [l1, l2], fun i key v e => ?_⟩ (by rw [l2]; exact hz) fun h' tk hd' k => ?_
  · obtain ⟨b, kk, _, _, e3, e4⟩ := hpr i key v e
    exact ⟨kk, e3, e4⟩
  · have hm : (s.heap.objs.size == sysModules) = false := beq_eq_false_iff_ne.mpr (Nat.ne_of_gt I.big)
    have hlen : (mergeK [] (l.map strK)).length ≤ sizeLine := by
      refine Nat.le_trans (length_mergeK _ []) ?_
      rw [List.length_nil, Nat.zero_add, List.length_map, ← hl, l1]
      exact hz
    exact ⟨.ref s.heap.objs.size, _, I.laid (t' := tk) (fun b o e => k b o (by simp) e) (Nat.le_refl _) (show ObjOk X.prog X.w _ _ _ (.dK (mergeK [] (l.map strK))) from ⟨hlen, hm, merged [] prs, KV.merge rel .nil, hd'⟩), rfl, q _ (I.hok.fresh (Nat.le_refl _))⟩
end
end Kl
set_option Elab.async false
set_option linter.all false
set_option maxRecDepth 100000
set_option maxHeartbeats 4000000
/-! F6: hidden lists, while. -/
namespace Kl
open PySem PySem.Spec PyProof.Rows L2
section
variable {K : Frg} {N : List Addr} {B V0 : Hp} {σ : L2.St} {H H' : Hp} {ρ ρ0 : List (Option W)} {te : TE} {tt : TT} {tb tu tw tz : TS} {D : Ends} {S : W → Prop} {C : Bool → Prop}
theorem At.unhide {l : Addr} (h : At (l :: N) B σ H ρ) : At N B σ H ρ := ⟨fun a m => h.al a (List.mem_cons_of_mem _ m), h.ex, h.env.mono (hid_cons l N H)⟩
theorem ML.unhide {l a : Addr} {ds : List PyData} (m : ML (a :: N) B H l ds) (ne : l ≠ a) : ML N B H l ds := by
  obtain ⟨xs, h1, h3⟩ := m.is
  refine ⟨?_, m.new, xs, h1, dps_mono (hid_cons a N H) ds xs h3⟩
  rcases List.mem_cons.mp m.mem with z | z
  · exact absurd z ne
  · exact z
theorem WalkD.mono {V1 : Hp} {J : It} {ws : List W} (h : WalkD V0 J ws) (e : Exw V0 V1) : WalkD V1 J ws :=
  ⟨fun i H N hi v => h.goes i H N hi ⟨v.al, e.trans v.ex⟩, fun H N v => h.stops H N ⟨v.al, e.trans v.ex⟩, fun i H N x H' hi v y => h.yields i H N x H' hi ⟨v.al, e.trans v.ex⟩ y⟩
def iJ (J : It) : TI := fun _ H R => R J H
theorem i_J {J : It} {ws : List W} (h : WalkD V0 J ws) : EvI (iJ J) σ V0 fun w => w = ws := fun N H1 vw R r => r J H1 ws (Ex.refl _) rfl (h.mono vw.ex)
/-- y = [e, ..]: hidden -/
theorem q_newA {i : Nat} {t : TA} {ds : List PyData} (h : At N B σ H ρ) (ha : Ea t σ (hid N H) (ds.map W.d)) (hl : ds.length ≤ 100000)
    (k : ∀ l H', H' l = none → l ∉ N → ∀ xs, Ex H H' → At (l :: N) B (σ.set i (some (.ref l))) (upd H' l (.lst xs)) (ρ.set i (some (.v (.ref l)))) → ML (l :: N) B (upd H' l (.lst xs)) l ds → tz D (σ.set i (some (.ref l))) (upd H' l (.lst xs))) :
    tSeq (tAsg (tLst t) (gName i)) tz D σ H := by
  refine ha N H h.vw _ fun vs H1 ws e s iv => ?_
  subst s
  have hd := isa_dps iv
  have h1 := h.mono e
  refine ⟨by rw [dps_len hd]; exact Nat.le_trans hl (by decide), fun l hn => k l H1 hn (fun m => h1.al l m hn) vs e (h1.hide hn i _) ⟨List.mem_cons_self, h1.ex.back hn, vs, upd_same, ?_⟩⟩
  rw [hid_new hn]
  exact hd
theorem q_while (P : Nat → L2.St → Hp → Prop) {m0 : Nat} (h0 : P m0 σ H) (hc : ∀ m σ' H', P m σ' H' → ∃ N V b, Vw N V H' ∧ Eb tt σ' V b ∧ (b = false → ∀ H2, Ex H' H2 → tz D σ' H2) ∧
      (b = true → ∀ H2, Ex H' H2 → ∀ nx : L2.St → Hp → Prop, (∀ m' σ3 H3, m' < m → P m' σ3 H3 → nx σ3 H3) → tb { D with nx := nx, ct := nx, bk := tz D } σ' H2)) :
    tSeq (tWhile tt tb) tz D σ H := by
  refine ⟨P, ⟨m0, h0⟩, fun m σ' H' p => ?_⟩
  obtain ⟨N, V, b, vw, hb, stop, go⟩ := hc m σ' H' p
  refine hb N H' vw _ fun c H1 e sb => ?_
  subst sb
  cases c with
  | true =>
    rw [if_pos rfl]
    exact ⟨fun σ3 H3 => ∃ m', m' < m ∧ P m' σ3 H3, fun _ _ z => z, go rfl H1 e _ fun m' σ3 H3 l p3 => ⟨m', l, p3⟩⟩
  | false =>
    rw [if_neg (by decide)]
    exact stop rfl H1 e
end
section
variable {X : Cx}
/-- y = {k: v for ..} -/
theorem ps_setDc {i : Nat} {y : Str} {py : Pos} {kx vx tg iter : Expr} {ifs : List Expr} {scope : Scope} {own : List (Str × Nat)} {pos spos : Pos} {wi : TI} {g : TG} {tt : TT} {tk tv : TE} (hc : X.calm = true) (hN : X.N.Nodup) (hy : X.N[i]? = some y) (hyl : X.env.scope.names.lookup y = some .local)
    (hsw : swapsWith (.DictComp kx vx [⟨tg, iter, ifs, 0⟩] scope pos) (some (.Name y py)) spos.line X.env = pure true) (hi : PI X tg iter wi) (ok : BlkOk X.N X.env.scope scope own)
    (hg : ∀ (s : Shared) (H : Hp) (C : Addr) (cl : List (Str × Addr)) (fp : List Addr), PG (X.blk s H scope (compEnvC scope cl C X.env) fp) tg g) (ht : ∀ (s : Shared) (H : Hp) (C : Addr) (cl : List (Str × Addr)) (fp : List Addr), PTs (X.blk s H scope (compEnvC scope cl C X.env) fp) ifs tt)
    (hk : ∀ (s : Shared) (H : Hp) (C : Addr) (cl : List (Str × Addr)) (fp : List Addr), PE (X.blk s H scope (compEnvC scope cl C X.env) fp) kx tk)
    (he : ∀ (s : Shared) (H : Hp) (C : Addr) (cl : List (Str × Addr)) (fp : List Addr), PE (X.blk s H scope (compEnvC scope cl C X.env) fp) vx tv) (hs : ∀ x, foldedSetIterable iter X.env x = pure x := by intro _; rfl) :
    PS X (.Assign [.Name y py] (.DictComp kx vx [⟨tg, iter, ifs, 0⟩] scope pos) spos) (tAsg (tDc wi g tt tk tv (own.map (·.2))) (gName i)) := by
  refine ⟨fun pins s σ H D I h => ?_⟩
  rw [exec_Assign_Name_used _ _ _ _ hsw]
  refine wpAny_bind (wpAny_standAt (wpAny_bind ?_))
  show wpAny _ X.A (do let _ ← comprehension (.DictComp kx vx [⟨tg, iter, ifs, 0⟩] scope pos) scope X.env (firstIterPos [⟨tg, iter, ifs, 0⟩] pos) newDict false (eval iter X.env) (some (assign (.Name y py) X.env))) _ _ s
  have h : tDc wi g tt tk tv (own.map (·.2)) σ H (fun x H1 => gName i x σ H1 D.nx) := h
  refine wpAny_bind (thn (dc_core (Qf := fun _ s' => SP X pins D .next s') hc hN I hi ok hg ht hk he hs h fun L C s' m H' I' q hn f => ?_) fun _ s' hq => wpAny_pure (wpAny_pure hq))
  show wpAny _ _ (assign (.Name y py) X.env (.ref L)) _ _ _
  refine wpAny_assign_Name (store_ok2 (v := V.ref L) I' hN hy (.inl hyl) rfl (fun s2 I2 ⟨a, sb, ha⟩ => ?_) (.inr hyl))
  obtain ⟨f0, f1, f2, f3, f4, f5⟩ := f
  have nCa : C ≠ a := by
    rcases ha with z | z
    · rw [z]; exact f1
    · exact fun e => f4 y a z e.symm
  exact ⟨m, hn.sameBut sb nCa, fun h3 sb3 => ⟨_, H', I2.turned (t' := s2.toks) (fun b o hb e => (sb3.2 b hb).trans e) f0 f1 f3 f4 f5, q⟩⟩
theorem sw_trueD {kx vx : Expr} {gs : List Comprehension} {scope : Scope} {pos py : Pos} {y : Str} {l : Nat} {env : PySem.Env} (hk : env.scope.kind = .function) (hy : env.scope.names.lookup y = some .local) (hl : (py.line == pos.line) = true)
    (ha : (scope.names.any fun (n, k) => n == y && (k == .local || k == .cell)) = false) : swapsWith (.DictComp kx vx gs scope pos) (some (.Name y py)) l env = pure true := by
  have ky : env.kindOf y = some .local := hy
  have hb : env.blockKind = .function := by unfold Env.blockKind; rw [hk]; rfl
  unfold swapsWith
  simp only [hb, ky, ha, Expr.pos, hl]
  rfl
end
end Kl
set_option Elab.async false
set_option linter.all false
set_option maxRecDepth 100000
set_option maxHeartbeats 4000000
/-! K6: names_inside. -/
namespace Kl
open PySem PySem.Spec PyProof.Rows L2
theorem s_whenV {N : List Addr} {V0 H : Hp} {σ : L2.St} {tt : TT} {tu : TS} {D : Ends} {b : Bool} (v : Vw N V0 H) (hb : Eb tt σ V0 b) (h1 : b = true → ∀ H', Ex H H' → tu D σ H') (h2 : b = false → ∀ H', Ex H H' → D.nx σ H') : tIfS tt tu tNext D σ H :=
  hb N H v _ fun c H' e sb => by
    subst sb
    cases c with
    | true => exact h1 rfl H' e
    | false => exact h2 rfl H' e
def shOf (ks : List (Str × Int × Bool × List (Str × Int))) (y : Str) : List (Str × Int) := ((ks.find? fun x => decide (x.1 = y)).map fun x => x.2.2.2).getD []
theorem lk_sh (ks : List (Str × Int × Bool × List (Str × Int))) (y : Str) : (lk (ks.map fun x => (x.1, eB x.2.2.2)) y).getD (.tuple []) = eB (shOf ks y) := by
  unfold lk shOf
  rw [List.find?_map]
  have e : ((fun p : Str × PyData => decide (p.1 = y)) ∘ fun x : Str × Int × Bool × List (Str × Int) => (x.1, eB x.2.2.2)) = fun x => decide (x.1 = y) := rfl
  rw [e]
  cases ks.find? fun x => decide (x.1 = y) <;> rfl
theorem sh_mem {ks : List (Str × Int × Bool × List (Str × Int))} {y : Str} {e : Str × Int} (h : e ∈ shOf ks y) : ∃ x ∈ ks, x.1 = y ∧ e ∈ x.2.2.2 := by
  unfold shOf at h
  cases q : ks.find? fun x => decide (x.1 = y) with
  | none => rw [q] at h; cases h
  | some x =>
    rw [q] at h
    exact ⟨x, List.mem_of_find?_eq_some q, by simpa using List.find?_some q, h⟩
theorem rising_nodup : ∀ {xs : List Str}, risingB xs = true → (∀ x ∈ xs, True) → xs.Nodup := by
  have lt_trans : ∀ a b c : Str, ltS a b = true → ltS b c = true → ltS a c = true := fun a b c h1 h2 => decide_eq_true (List.lt_trans (of_decide_eq_true h1) (of_decide_eq_true h2))
  have key : ∀ (xs : List Str) (a : Str), risingB (a :: xs) = true → ∀ x ∈ xs, ltS a x = true := by
    intro xs
    induction xs with
    | nil => intro a _ x hx; cases hx
    | cons b l ih =>
      intro a h x hx
      rw [risingB_cons, Bool.and_eq_true] at h
      rcases List.mem_cons.mp hx with e | hx
      · rw [e]; exact h.1
      · exact lt_trans a b x h.1 (ih b h.2 x hx)
  intro xs
  induction xs with
  | nil => intro _ _; exact .nil
  | cons a l ih =>
    intro h _
    refine List.nodup_cons.mpr ⟨fun m => ?_, ih ?_ fun _ _ => trivial⟩
    · have q := of_decide_eq_true (key l a h a m)
      exact absurd q (List.lt_irrefl _)
    · cases l with
      | nil => rfl
      | cons b l =>
        rw [risingB_cons, Bool.and_eq_true] at h
        exact h.2
theorem nodup_sub_le {α : Type} [DecidableEq α] : ∀ {l m : List α}, l.Nodup → (∀ x ∈ l, x ∈ m) → l.length ≤ m.length
  | [], _, _, _ => Nat.zero_le _
  | a :: l, m, hn, hs => by
    obtain ⟨h1, h2⟩ := List.nodup_cons.mp hn
    have q := nodup_sub_le (l := l) (m := m.erase a) h2 fun x hx => (List.mem_erase_of_ne (fun e => h1 (by rw [← e]; exact hx))).mpr (hs x (List.mem_cons_of_mem _ hx))
    rw [List.length_erase_of_mem (hs a List.mem_cons_self)] at q
    have := List.length_pos_of_mem (hs a List.mem_cons_self)
    rw [List.length_cons]
    omega
section
variable {P : Program} {w : World} {K : Frg} {mg : Str → Option Value} {base : Heap}
abbrev s_names_inside : Stmt := topS 20
abbrev n_names_inside : List Str := ["packings", "pack", "sheets", "found", "tasks", "one", "count"]
theorem sc_names_inside : FnScope n_names_inside ["packings", "pack"] (defScope s_names_inside) := ⟨rfl, rfl, rfl, by decide +kernel, rfl, by decide +kernel, by decide +kernel⟩
def F_names_inside : List W → (W → Prop) → Prop := fun ws S => ∃ t z, ws = [.d (.tuple (t.ks.map eK)), .d (.str z)] ∧ Pre t ∧ isNameS z = true ∧ sheetsIn t = true ∧ ∀ ys : List Str, (∀ y ∈ ys, isNameS y = true) → ys.length ≤ 100 → z ∉ ys → S (.d (.tuple (ys.map PyData.str)))
theorem cl_names_inside (D : Def K mg "names_inside" s_names_inside) (G : Gm mg) : Cl P w K mg base CX0 1 "names_inside" [] (SpF F_names_inside) := by
  refine D.ok sc_names_inside (fun _ _ _ _ _ _ us hl => match us, hl with | [_, _], _ => rfl) (fun ws S ⟨_, _, e, _⟩ => by rw [e]; rfl) ?_
  rintro f cdv A outer s H M vs ws T Q E hr ⟨t, z, rfl, hp, hz, hsi, hS⟩ h k
  have nd := sc_names_inside.nd
  refine ⟨_, (pss_cons (ps_setDc (i := 2) (own := [("one", 5)]) rfl nd rfl rfl (sw_trueD rfl rfl rfl (by decide +kernel)) (pi_tup (pv 0)) (blkOk_by (own := [("one", 5)]) (by kernel_rfl)) (fun _ _ _ _ _ => (pg_name (i := 5) nd rfl (.inl rfl))) (fun _ _ _ _ _ => pts_nil) (fun _ _ _ _ _ => (pe_ix (r := rIxT K) ix_tup (pv 5) pe_int (fun _ _ => rfl))) (fun _ _ _ _ _ => (pe_ix (r := rIxT K) ix_tup (pv 5) pe_int (fun _ _ => rfl))))
      (pss_cons (ps_set (i := 3) nd rfl (.inl rfl) (pe_lst pa_nil))
      (pss_cons (ps_set (i := 4) nd rfl (.inl rfl) (pe_lst (pa_cons (pv 1) pa_nil)))
      (pss_cons (ps_while PassesOwn.never (pt_cmpR op_gt (pe_callB (r := rLen K) call_len (by rfl) G.len_ PySem.boot_len (pa_cons (pv 4) pa_nil)) pe_int (nomark _)) (pss_one (ps_for PassesOwn.never rfl (pi_tup (pe_dget2 (hu_of hr) (pv 2) (pe_bm0 PySem.F.plainAttrs_list PySem.F.slot_list_pop PySem.F.type_list_pop mt_pop (pv 4)) (pe_tupB pa_nil) ⟨rfl, rfl, rfl, rfl⟩)) (pg_tup rfl (pgs_cons (pg_name (i := 5) nd rfl (.inl rfl)) (pgs_cons (pg_name (i := 6) nd rfl (.inl rfl)) pgs_nil))) (pss_one (ps_if (pt_cmpR (r := rNotInD K) (op_notInD (r65 hr)) (pv 5) (pv 3) (by rfl)) (pss_cons (ps_expr (pe_bm PySem.F.plainAttrs_list PySem.F.slot_list_append PySem.F.type_list_append mt_append (pv 3) (pa_cons (pv 5) pa_nil)))
      (pss_one (ps_expr (pe_bm PySem.F.plainAttrs_list PySem.F.slot_list_append PySem.F.type_list_append mt_append (pv 4) (pa_cons (pv 5) pa_nil))))) pss_nil)))))
      (pss_one (ps_ret (pe_callTy (r := rTupB K) call_tupB (by rfl) G.tuple_ (by decide +kernel) (pa_cons (pe_callB (r := rSortedS K) cr_sortedS (by rfl) G.sorted_ (by decide +kernel) (pa_cons (pv 3) pa_nil)) pa_nil)))))))), ?_⟩
  obtain ⟨r, hrank⟩ := hp.rank
  have kn := rising_nodup hp.rk fun _ _ => trivial
  refine q_asg h (d_dc (l := t.ks) (enc := fun x => .d (eK x)) (f := fun x => x.1) (f2 := fun x => eB x.2.2.2) h.env ?_ (js := [5]) (by decide) (Nat.le_trans hp.lk (by decide)) kn (fun _ _ => rfl) fun x hx => ⟨_, tg_name, fun σ' H' e' h' => ⟨d_op (d_var h' rfl) d_i (os_ixT (at_zero _ _) rfl), d_op (d_var h' rfl) d_i (os_ixT (at_3 _ _ _ _ _) rfl)⟩⟩) (fun v w H2 e2 ew iw h2 => ?_)
  · exact List.map_map (f := eK) (g := W.d) (l := t.ks) ▸ i_tup (d_var h.env rfl)
  subst ew
  refine q_newA (ds := []) h2 a_nil (by decide) (fun l1 H3 hn3 nm1 xs3 e3 h3 m3 => ?_)
  refine q_newA (ds := [.str z]) h3 (a_1 (d_var h3.env rfl)) (by simp) (fun l2 H4 hn4 nm2 xs4 e4 h4 m4 => ?_)
  have ne12 : l1 ≠ l2 := fun e => nm2 (by rw [← e]; exact List.mem_cons_self)
  have m34 := (m3.mono e4).more (o := .lst xs4) hn4
  have hnl : t.nm.length ≤ 60 := by
    have := hp.lp; have := hp.lc; have := hp.lk
    simp only [Shp.nm, Shp.pn, Shp.cn, Shp.kn, List.length_append, List.length_map]; omega
  have hnok : ∀ y ∈ t.nm, isNameS y = true := fun y hy => by
    rcases List.mem_append.mp hy with hy | hy
    · rcases List.mem_append.mp hy with hy | hy
      · exact hp.pn_ok y hy
      · exact hp.cn_ok y hy
    · exact hp.kn_ok y hy
  refine q_while (m0 := 2 * (t.nm.length - 0) + 1) (fun m σ' H' => ∃ fs ts : List Str, m = 2 * (t.nm.length - fs.length) + ts.length ∧ fs.Nodup ∧ (∀ y ∈ fs, y ∈ t.nm ∧ r y < r z) ∧ (∀ y ∈ ts, r y ≤ r z ∧ isNameS y = true) ∧ ts.length ≤ fs.length + 1 ∧
      At (l2 :: l1 :: M) H σ' H' [some (.d (.tuple (t.ks.map eK))), some (.d (.str z)), some (.m (t.ks.map fun x => (x.1, eB x.2.2.2))), some (.v (.ref l1)), some (.v (.ref l2)), none, none] ∧ ML (l2 :: l1 :: M) H H' l1 (fs.map PyData.str) ∧ ML (l2 :: l1 :: M) H H' l2 (ts.map PyData.str))
    ⟨[], [z], rfl, .nil, fun y hy => (by cases hy), fun y hy => ?_, Nat.le_refl _, h4, m34, m4⟩ ?_
  · rcases List.mem_cons.mp hy with e | hy
    · rw [e]; exact ⟨Nat.le_refl _, hz⟩
    · cases hy
  rintro m σ5 H5 ⟨fs, ts, rfl, fnd, fin, tin, tl, h5, m5, m6⟩
  have hfl : fs.length ≤ t.nm.length := nodup_sub_le fnd fun y hy => (fin y hy).1
  have hsh := h5.show_ m6 nm2 (i := 4) rfl
  refine ⟨l1 :: M, _, decide (0 < ts.length), hsh.vw, b_is (b_test (d_op (d_cb (a_1 (d_var hsh.env (i := 4) rfl)) (cs_lenL rfl)) d_i (os_I0 (fun _ => .bl _) rfl))) ?_, fun hb H6 e6 => ?_, fun hb H6 e6 nx hn => ?_⟩
  · rw [List.length_map]
    exact decide_eq_decide.mpr (by omega)
  · have h6 := (h5.mono e6).unhide
    have m7 := (m5.mono e6).unhide ne12
    have h7 := h6.show_ m7 nm1 (i := 3) rfl
    have hsorted : Ev (tCB (rSortedS K) (tCons (tVar 3) tNil)) σ5 (hid M H6) fun w => ∃ ys : List Str, w = .d (.list (ys.map PyData.str)) ∧ ys.Perm fs := d_cb (a_1 (d_var h7.env (i := 3) rfl)) (cs_sortS (by omega) fun ys p so => ⟨ys, rfl, p⟩)
    refine s_ret h7 (S := T) (ev_cb (T := fun xs => ∃ ys : List Str, xs = [.d (.list (ys.map PyData.str))] ∧ ys.Perm fs) (ea1 (hsorted.imp fun w ⟨ys, e, p⟩ => ⟨ys, by rw [e], p⟩)) fun xs ⟨ys, e, p⟩ => ?_) (fun v w H' e s i => k v H' w e s i)
    subst e
    exact cs_tupL (hS ys (fun y hy => hnok y (fin y (p.mem_iff.mp hy)).1) (by rw [p.length_eq]; omega) fun hzy => absurd (fin z (p.mem_iff.mp hzy)).2 (Nat.lt_irrefl _))
  · have hpos : 0 < ts.length := of_decide_eq_true hb
    obtain ⟨ts0, y, rfl⟩ : ∃ ts0 y, ts = ts0 ++ [y] := ⟨ts.dropLast, ts.getLast (List.length_pos_iff.mp hpos), (List.dropLast_concat_getLast _).symm⟩
    have h6 := h5.mono e6
    have n5 := m5.mono e6
    have n6 := m6.mono e6
    obtain ⟨v0, ev0, iv0⟩ := h6.env.at_ 2 _ rfl
    obtain ⟨a0, es0, rfl, hh0, nn0, k30, k40, _⟩ := hid_m iv0
    obtain ⟨v4, ev4, iv4⟩ := h6.env.at_ 4 _ rfl
    have iv4 : v4 = .ref l2 := iv4
    subst iv4
    obtain ⟨xs6, hx6, hd6⟩ := n6.is
    have ex6 := of_dps_str hd6
    subst ex6
    have hlast : ((ts0 ++ [y]).map V.str)[((ts0 ++ [y]).map V.str).length - 1]? = some (.str y) := by simp
    have hdl : ((ts0 ++ [y]).map V.str).dropLast = ts0.map V.str := by simp
    refine ⟨.ref a0, ev0, a0, rfl, .inl ⟨es0, .inl hh0⟩, .ref l2, ev4, .inl ⟨rfl, _, .inl (.inl hx6)⟩, l2, _, .str y, rfl, rfl, hx6, hlast, ?_⟩
    rw [hdl]
    refine ⟨by simp, fun p o hpn to => ?_⟩
    have h7 := (h6.upd (o := .lst (ts0.map V.str)) n6.mem n6.new (plain_lst hx6)).mono (Ex.new hpn (o := .frz o (.tup [])))
    have np : p ∉ l2 :: l1 :: M := fun m => (h6.upd (o := .lst (ts0.map V.str)) n6.mem n6.new (plain_lst hx6)).al p m hpn
    have n57 := (n5.upd (o := .lst (ts0.map V.str)) n6.mem ne12).mono (Ex.new hpn (o := .frz o (.tup [])))
    have n67 : ML (l2 :: l1 :: M) H (upd (upd H6 l2 (.lst (ts0.map V.str))) p (.frz o (.tup []))) l2 (ts0.map PyData.str) := by
      refine ML.mono ⟨n6.mem, n6.new, ts0.map V.str, upd_same, ?_⟩ (Ex.new hpn)
      exact dps_str ts0
    obtain ⟨v0, ev1, iv1⟩ := h7.env.at_ 2 _ rfl
    rw [ev0] at ev1
    have ev1 := Option.some.inj (Option.some.inj ev1)
    subst ev1
    obtain ⟨a1, es1, ea1, hh1, nn1, k31, k41, _⟩ := hid_m iv1
    injection ea1 with ea1
    subst ea1
    obtain ⟨q1, q2⟩ := val_lk y k31 k41
    have hval : Dq (hid (l2 :: l1 :: M) (upd (upd H6 l2 (.lst (ts0.map V.str))) p (.frz o (.tup [])))) ((valV es1 (.inr y)).getD (.ref p)) (eB (shOf t.ks y)) := by
      rw [← lk_sh]
      cases hq : lk (t.ks.map fun x => (x.1, eB x.2.2.2)) y with
      | none =>
        rw [q2 hq]
        exact .tup ⟨o, hid_of upd_same np, to⟩ .nil
      | some d =>
        obtain ⟨u, r1, r2⟩ := q1 d hq
        rw [r1]
        exact r2
    refine ⟨valV es1 (.inr y), .inl ⟨es1, .inr y, .inl hh1, rfl, rfl⟩, ?_⟩
    generalize (valV es1 (.inr y)).getD (.ref p) = vv at hval
    cases hval with
    | tup hs ha =>
      rename_i aa xs
      refine ⟨aa, rfl, ⟨_, (hid_ta hs).1.t⟩, ?_⟩
      have wk := walkd_tup (K := K) hs ha
      rw [List.map_map] at wk
      have hsy : r y ≤ r z := (tin y (by simp)).1
      have lt0 : (ts0 ++ [y]).length = ts0.length + 1 := by simp
      refine s_scan (wi := iJ (Itt K aa)) (l := shOf t.ks y) (enc := fun e => W.d (eP e)) (js := [5, 6]) h7 (i_J wk) [5, 6] (fun i H' => ∃ fs2 ts2 : List Str, fs2.Nodup ∧ (∀ y ∈ fs2, y ∈ t.nm ∧ r y < r z) ∧ (∀ y ∈ ts2, r y ≤ r z ∧ isNameS y = true) ∧ ts2.length ≤ fs2.length + 1 ∧
        2 * (t.nm.length - fs2.length) + ts2.length ≤ 2 * (t.nm.length - fs.length) + ts0.length ∧ ML (l2 :: l1 :: M) H H' l1 (fs2.map PyData.str) ∧ ML (l2 :: l1 :: M) H H' l2 (ts2.map PyData.str)) rfl
        (fun i H1 H2 ⟨fs2, ts2, c1, c2, c3, c4, c5, c6, c7⟩ e => ⟨fs2, ts2, c1, c2, c3, c4, c5, c6.mono e, c7.mono e⟩)
        (fun H1 e => ⟨fs, ts0, fnd, fin, fun y hy => tin y (by simp [hy]), by omega, Nat.le_refl _, n57.mono e, n67.mono e⟩)
        (fun σ8 H8 h8 ⟨fs2, ts2, c1, c2, c3, c4, c5, c6, c7⟩ => hn (2 * (t.nm.length - fs2.length) + ts2.length) _ _ (by omega) ⟨fs2, ts2, rfl, c1, c2, c3, c4, h8, c6, c7⟩)
        (fun i e V0 σ8 H8 he v _ ⟨fs2, ts2, c1, c2, c3, c4, c5, c6, c7⟩ => ⟨_, tg_two, fun σ9 h9 nx2 hn2 => ?_⟩)
      obtain ⟨x, hx, hxy, hex⟩ := sh_mem (List.mem_of_getElem? he)
      have nke := (hp.nk x hx).2.2.2.2.2.2 e hex
      have hlt : r e.1 < r z := by
        have q := hrank x hx e hex
        rw [hxy] at q
        omega
      have hnm : e.1 ∈ t.nm := by
        have q := List.all_eq_true.mp (List.all_eq_true.mp hsi x hx) e hex
        unfold fitB at q
        simp only [Bool.or_eq_true, decide_eq_true_eq] at q
        simp only [Shp.nm, List.mem_append]
        rcases q with q | q | q
        · exact .inl (.inr q)
        · exact .inl (.inl q)
        · exact .inr q
      have lf1 : ∀ l : List Str, (l ++ [e.1]).length = l.length + 1 := fun l => by simp
      have lfs : fs2.length ≤ t.nm.length := nodup_sub_le c1 fun y hy => (c2 y hy).1
      have hshow := h9.unhide.show_ (c6.unhide ne12) nm1 (i := 3) rfl
      refine s_whenV hshow.vw (b_test (d_op (d_var hshow.env (i := 5) rfl) (d_var hshow.env (i := 3) rfl) (os_notInN nke.1 (fun y hy => hnok y (c2 y hy).1) (by omega)))) (fun hb9 H10 e10 => ?_) (fun hb9 H10 e10 => ?_)
      · have hnot : e.1 ∉ fs2 := by simpa using hb9
        have h10 := h9.mono e10
        have c61 := c6.mono e10
        have c71 := c7.mono e10
        have lf2 : fs2.length + 1 ≤ t.nm.length := nodup_sub_le (l := e.1 :: fs2) (List.nodup_cons.mpr ⟨hnot, c1⟩) fun y hy => by
          rcases List.mem_cons.mp hy with z | hy
          · rw [z]; exact hnm
          · exact (c2 y hy).1
        refine q_app h10 c61 (i := 3) rfl (S := fun w => w = .d (.str e.1)) ((d_var h10.env (i := 5) rfl).imp fun w hw => ⟨_, hw, hw⟩) (by rw [List.length_map]; omega) (fun d H11 xs11 e11 sd h11 c62 => ?_)
        injection sd with sd
        subst sd
        have c72 := (c71.mono e11).upd (o := .lst xs11) c61.mem (Ne.symm ne12)
        have v11 := ((v.step e10).step e11).mut (o := .lst xs11) c61.mem
        refine s_app h11 c72 (i := 4) rfl (S := fun w => w = .d (.str e.1)) ((d_var h11.env (i := 5) rfl).imp fun w hw => ⟨_, hw, hw⟩) (by rw [List.length_map]; omega) (fun d H12 xs12 e12 sd h12 c73 => ?_)
        injection sd with sd
        subst sd
        have c63 := (c62.mono e12).upd (o := .lst xs12) c72.mem ne12
        refine hn2 _ _ _ h12 ((v11.step e12).mut c72.mem) rfl ⟨fs2 ++ [e.1], ts2 ++ [e.1], ?_, ?_, ?_, ?_, ?_, by rw [List.map_append]; exact c63, by rw [List.map_append]; exact c73⟩
        · rw [List.nodup_append]
          refine ⟨c1, by simp, fun a ha b hb => ?_⟩
          rw [List.mem_singleton] at hb
          subst hb
          exact fun q => hnot (by rw [← q]; exact ha)
        · intro y hy
          rcases List.mem_append.mp hy with hy | hy
          · exact c2 y hy
          · rw [List.mem_singleton] at hy
            rw [hy]; exact ⟨hnm, hlt⟩
        · intro y hy
          rcases List.mem_append.mp hy with hy | hy
          · exact c3 y hy
          · rw [List.mem_singleton] at hy
            rw [hy]; exact ⟨Nat.le_of_lt hlt, nke.1⟩
        · rw [List.length_append, List.length_append]; exact Nat.add_le_add_right c4 1
        · rw [lf1 fs2, lf1 ts2]; omega
      · exact hn2 _ _ _ (h9.mono e10) (v.step e10) rfl ⟨fs2, ts2, c1, c2, c3, c4, c5, c6.mono e10, c7.mono e10⟩
end
end Kl
set_option Elab.async false
set_option linter.all false
set_option maxRecDepth 100000
set_option maxHeartbeats 4000000
/-! K7: shop_fault, is_shop. -/
namespace Kl
open PySem PySem.Spec PyProof.Rows L2
theorem inV_str (z : Str) (ys : List Str) : inV (.str z) (ys.map V.str) = decide (z ∈ ys) := by
  unfold inV
  induction ys with
  | nil => rfl
  | cons a l ih =>
    have e : eqV (.str a) (.str z) = decide (a = z) := by
      show (a == z) = decide (a = z)
      by_cases h : a = z
      · subst h; simp
      · rw [decide_eq_false h]
        exact beq_eq_false_iff_ne.mpr h
    rw [List.map_cons, List.any_cons, ih, e]
    by_cases h : a = z
    · subst h; simp
    · have : (z ∈ a :: l) ↔ z ∈ l := by
        rw [List.mem_cons]
        exact ⟨fun q => q.resolve_left fun e => h e.symm, .inr⟩
      simp only [this, decide_eq_false h, Bool.false_or]
theorem flat_strs (ys : List Str) : (ys.map V.str).all flatV = true := by
  rw [List.all_map]
  exact List.all_eq_true.mpr fun _ _ => rfl
theorem os_inTup {K : Frg} {z : Str} {ys : List Str} : OpS (rIn K false) (.d (.str z)) (.d (.tuple (ys.map PyData.str))) fun w => w = .d (.bool (decide (z ∈ ys))) := fun N H al v u iv iu Q q => by
  obtain ⟨a, xs, rfl, h1, n1, d1⟩ := hid_tup iu
  have ex := of_dps_str d1
  subst ex
  cases iv
  refine ⟨a, _, rfl, .inr h1.t, rfl, flat_strs ys, ?_⟩
  show Q (.bl (inV _ _)) H
  rw [inV_str]
  exact q _ H _ (Ex.refl _) rfl (.bl _)
theorem q_seq {D : Ends} {ts tz : TS} {σ : L2.St} {H : Hp} (R : L2.St → Hp → Prop) (h1 : ∀ nx : L2.St → Hp → Prop, (∀ σ' H', R σ' H' → nx σ' H') → ts { D with nx := nx } σ H) (h2 : ∀ σ' H', R σ' H' → tz D σ' H') : tSeq ts tz D σ H := h1 (tz D) h2
def shopB (t : Shp) : Bool := !t.ps.isEmpty && (optsIn t && sheetsIn t)
theorem isN_of {d : PyData} (h : isNone d = true) : d = .none := by cases d <;> first | rfl | cases h
section
variable {P : Program} {w : World} {K : Frg} {mg : Str → Option Value} {base : Heap}
abbrev s_shop_fault : Stmt := topS 21
abbrev n_shop_fault : List Str := ["thing", "fault", "k", "pack", "one"]
theorem sc_shop_fault : FnScope n_shop_fault ["thing"] (defScope s_shop_fault) := ⟨rfl, rfl, rfl, by decide +kernel, rfl, by decide +kernel, by decide +kernel⟩
def F_shop_fault : List W → (W → Prop) → Prop := fun ws S => ∃ t, ws = [.d (enc t)] ∧ Pre t ∧ ∀ d, isNone d = shopB t → S (.d d)
theorem cl_shop_fault (D : Def K mg "shop_fault" s_shop_fault) (G : Gm mg) (C_is_tuple_of : Cl P w K mg base CX0 1 "is_tuple_of" [] (SpF F_is_tuple_of)) (C_forms_fault : Cl P w K mg base CX0 4 "forms_fault" [] (SpF F_forms_fault)) (C_names_fault : Cl P w K mg base CX0 2 "names_fault" [] (SpF F_names_fault)) (C_sheets_fault : Cl P w K mg base CX0 5 "sheets_fault" [] (SpF F_sheets_fault))
    (C_names_inside : Cl P w K mg base CX0 1 "names_inside" [] (SpF F_names_inside)) : Cl P w K mg base CX0 6 "shop_fault" [] (SpF F_shop_fault) := by
  refine D.ok sc_shop_fault (fun _ _ _ _ _ _ us hl => match us, hl with | [_], _ => rfl) (fun ws S ⟨_, e, _⟩ => by rw [e]; rfl) ?_
  rintro f cdv A outer s H M vs ws T Q E hr ⟨t, rfl, hp, hS⟩ h k
  have nd := sc_shop_fault.nd
  refine ⟨_, (pss_cons (ps_if (PW.pt (pw_or (pt_not (pt_val (pe_cl C_is_tuple_of (hr.mono (by decide)) (by rfl) pass0 (pa_cons (pv 0) (pa_cons pe_int pa_nil))))) (pw_or (pt_not (pt_val (pe_callB (r := rAll K) (cr_all rfl) (by rfl) G.all_ (by decide +kernel) (pa_cons (pe_lc (own := [("one", 4)]) rfl nd (pi_tup (pv 0)) (blkOk_by (own := [("one", 4)]) (by kernel_rfl)) (fun _ _ _ _ _ => (pg_name (i := 4) nd rfl (.inl rfl))) (fun _ _ _ _ _ => pts_nil) (fun _ _ _ _ _ => (pe_callB (r := rIsi K) call_isi (by rfl) G.isinstance_ (by decide +kernel) (pa_cons (pv 4) (pa_cons (p_ty "tuple" (by rfl) G.tuple_ (by decide +kernel)) pa_nil))))) pa_nil)))) (pw_or1 (pt_cmpR (r := rEqD K) (op_eqD hr.units) (pe_callB (r := rLen K) call_len (by rfl) G.len_ PySem.boot_len (pa_cons (pe_ix (r := rIxT K) ix_tup (pv 0) pe_int (fun _ _ => rfl)) pa_nil)) pe_int (nomark _)))))) (pss_one (ps_ret (pe_tupB (pa_cons pe_str (pa_cons (pe_un un_neg pe_int) pa_nil))))) pss_nil)
      (pss_cons (ps_set (i := 1) nd rfl (.inl rfl) (pe_cl C_forms_fault (hr.mono (by decide)) (by rfl) pass0 (pa_cons (pv 0) pa_nil)))
      (pss_cons (ps_if (pt_cmpR op_isN (pv 1) pe_non (nomark _)) (pss_one (ps_set (i := 1) nd rfl (.inl rfl) (pe_cl C_names_fault (hr.mono (by decide)) (by rfl) pass0 (pa_cons (pv 0) pa_nil)))) pss_nil)
      (pss_cons (ps_if (pt_cmpR op_isN (pv 1) pe_non (nomark _)) (pss_one (ps_set (i := 1) nd rfl (.inl rfl) (pe_cl C_sheets_fault (hr.mono (by decide)) (by rfl) pass0 (pa_cons (pv 0) pa_nil)))) pss_nil)
      (pss_cons (ps_if (pt_cmpR op_notN (pv 1) pe_non (nomark _)) (pss_one (ps_ret (pv 1))) pss_nil)
      (pss_cons (ps_for PassesOwn.never rfl (pi_enumT (by rfl) G.enumerate_ (pa_cons (pe_ix (r := rIxT K) ix_tup (pv 0) pe_int (fun _ _ => rfl)) pa_nil)) (pg_tup rfl (pgs_cons (pg_name (i := 2) nd rfl (.inl rfl)) (pgs_cons (pg_name (i := 3) nd rfl (.inl rfl)) pgs_nil))) (pss_one (ps_if (pt_cmpR (r := rIn K false) op_in_seq (pe_ix (r := rIxT K) ix_tup (pv 3) pe_int (fun _ _ => rfl)) (pe_cl C_names_inside (hr.mono (by decide)) (by rfl) pass0 (pa_cons (pe_ix (r := rIxT K) ix_tup (pv 0) pe_int (fun _ _ => rfl)) (pa_cons (pe_ix (r := rIxT K) ix_tup (pv 3) pe_int (fun _ _ => rfl)) pa_nil))) (by rfl)) (pss_one (ps_ret (pe_tupB (pa_cons pe_str (pa_cons (pv 2) pa_nil))))) pss_nil)))
      (pss_one (ps_ret pe_non)))))))), ?_⟩
  refine q_when h (b_is (b_or (b_not (b_B (d_call (a_2 (d_var h.env rfl) d_i) ⟨_, _, rfl, rfl⟩))) fun _ => b_or (b_not (b_B (d_cb (a_1 (d_map (l := [.tuple (t.ps.map eP), .tuple (t.cs.map eC), .tuple (t.ks.map eK)]) (enc := W.d) (f := fun d => PyData.bool (dTup d)) h.env (i_tup (d_var h.env rfl)) (js := [4]) (by decide) (by simp) fun d hd => ⟨_, tg_name, fun σ' H' e' h' => d_cb (a_2 (d_var h' rfl) d_v) (cs_isiTup rfl)⟩)) (cs_allp rfl)))) fun _ =>
    b_test (d_op (d_cb (a_1 (d_op (d_var h.env rfl) d_i (os_ixT (at_zero _ _) rfl))) (cs_lenT rfl)) d_i (os_eqD rfl rfl (by rw [eqv_int])))) (b := t.ps.isEmpty) ?_) (fun e H1 e1 h1 => ?_) (fun e H1 e1 h1 => ?_)
  · have e2 : decide (((t.ps.map eP).length : Int) = 0) = t.ps.isEmpty := by
      rw [List.length_map]
      cases t.ps with
      | nil => rfl
      | cons a l => exact decide_eq_false (by simp; omega)
    rw [e2]
    rfl
  · have eo : shopB t = false := by unfold shopB; rw [← e]; rfl
    exact s_ret h1 (d_tup (ds := [.str "shape", .int (-1)]) (a_2 d_s (d_un d_i (us_neg rfl))) (by simp)) (fun v w H' e s i => k v H' w e (by rw [s]; exact hS _ (by rw [eo]; rfl)) i)
  have es : shopB t = (optsIn t && sheetsIn t) := by unfold shopB; rw [← e]; rfl
  refine q_asg h1 (d_call (S := fun w => ∃ d, w = .d d ∧ isNone d = optsIn t) (a_1 (d_var h1.env rfl)) ⟨t, rfl, hp, fun d hd => ⟨d, rfl, hd⟩⟩) (fun v w H2 e2 ⟨d2, ew, hd2⟩ iw h2 => ?_)
  subst ew
  refine q_seq (fun σ' H' => ∃ d, At M H σ' H' [some (.d (enc t)), some (.d d), none, none, none] ∧ isNone d = optsIn t) (fun nx hn => ?_) (fun σ6 H6 ⟨d6, h6, hd6⟩ => ?_)
  · refine s_if h2 (b_test (d_op (d_var h2.env (i := 1) rfl) d_n (os_isN rfl))) (fun e H3 e3 h3 => ?_) (fun e H3 e3 h3 => hn _ _ ⟨d2, h3, hd2⟩)
    refine s_asg h3 (d_call (S := fun w => w = .d .none) (a_1 (d_var h3.env (i := 0) rfl)) ⟨t, rfl, hp, rfl⟩) (fun v w H4 e4 ew iw h4 => ?_)
    subst ew
    exact hn _ _ ⟨.none, h4, by rw [← hd2, ← e]; rfl⟩
  refine q_seq (fun σ' H' => ∃ d, At M H σ' H' [some (.d (enc t)), some (.d d), none, none, none] ∧ isNone d = (optsIn t && sheetsIn t)) (fun nx hn => ?_) (fun σ7 H7 ⟨d7, h7, hd7⟩ => ?_)
  · refine s_if h6 (b_test (d_op (d_var h6.env (i := 1) rfl) d_n (os_isN rfl))) (fun e H3 e3 h3 => ?_) (fun e H3 e3 h3 => hn _ _ ⟨d6, h3, by rw [← hd6, ← e]; rfl⟩)
    refine s_asg h3 (d_call (S := fun w => ∃ d, w = .d d ∧ isNone d = sheetsIn t) (a_1 (d_var h3.env (i := 0) rfl)) ⟨t, rfl, hp, fun d hd => ⟨d, rfl, hd⟩⟩) (fun v w H4 e4 ⟨d4, ew, hd4⟩ iw h4 => ?_)
    subst ew
    exact hn _ _ ⟨d4, h4, by rw [hd4, ← hd6, ← e]; rfl⟩
  refine q_when h7 (b_test (d_op (d_var h7.env (i := 1) rfl) d_n (os_notN rfl))) (fun e H3 e3 h3 => ?_) (fun e H3 e3 h3 => ?_)
  · refine s_ret h3 (d_var h3.env (i := 1) rfl) (fun v w H' e s i => k v H' w e (by rw [s]; exact hS _ (by rw [es]; exact hd7)) i)
  have hdt : (optsIn t && sheetsIn t) = true := by rw [← hd7]; simpa using e.symm
  rw [Bool.and_eq_true] at hdt
  refine q_scanE (l := t.ks) (enc := eK) h3 (a_1 (d_op (d_var h3.env (i := 0) rfl) d_i (os_ixT (at_2 _ _ _ _) rfl))) [2, 3] (fun i _ => True) rfl (fun _ _ _ a _ => a) (fun _ _ => trivial) (fun σ4 H4 h4 p4 => ?_) (fun i x V0 σ4 H4 hx v p4 h4 nx hn => ?_)
  · exact s_ret h4 d_n (fun v w H' e s i => k v H' w e (by rw [s]; exact hS _ (by rw [es, hdt.1, hdt.2]; rfl)) i)
  · have m := List.mem_of_getElem? hx
    refine s_when h4 (eb_test (B := fun b => b = false) (ev_op (Sa := fun w => w = .d (.str x.1)) (Sb := fun w => ∃ ys : List Str, w = .d (.tuple (ys.map PyData.str)) ∧ x.1 ∉ ys) (d_op (d_var h4.env (i := 3) rfl) d_i (os_ixT (at_zero _ _) rfl)) (d_call (a_2 (d_op (d_var h4.env (i := 0) rfl) d_i (os_ixT (at_2 _ _ _ _) rfl)) (d_op (d_var h4.env (i := 3) rfl) d_i (os_ixT (at_zero _ _) rfl))) ⟨t, x.1, rfl, hp, (hp.nk x m).1, hdt.2, fun ys _ _ h3 => ⟨ys, rfl, h3⟩⟩) fun a b ea ⟨ys, eb, hn⟩ => ?_)) (fun e => by cases e) (fun _ H5 e5 h5 => hn _ _ _ h5 (v.step e5) rfl trivial)
    subst ea eb
    intro N H al v u iv iu Q q
    exact os_inTup N H al v u iv iu Q fun z H2 w e s i => q z H2 w e (by rw [s]; exact ⟨_, rfl, decide_eq_false hn⟩) i
abbrev s_is_shop : Stmt := topS 22
abbrev n_is_shop : List Str := ["thing"]
theorem sc_is_shop : FnScope n_is_shop ["thing"] (defScope s_is_shop) := ⟨rfl, rfl, rfl, by decide +kernel, rfl, by decide +kernel, by decide +kernel⟩
def F_is_shop : List W → (W → Prop) → Prop := fun ws S => ∃ t, ws = [.d (enc t)] ∧ Pre t ∧ S (.d (.bool (shopB t)))
theorem cl_is_shop (D : Def K mg "is_shop" s_is_shop) (G : Gm mg) (C_shop_fault : Cl P w K mg base CX0 6 "shop_fault" [] (SpF F_shop_fault)) : Cl P w K mg base CX0 7 "is_shop" [] (SpF F_is_shop) := by
  refine D.ok sc_is_shop (fun _ _ _ _ _ _ us hl => match us, hl with | [_], _ => rfl) (fun ws S ⟨_, e, _⟩ => by rw [e]; rfl) ?_
  rintro f cdv A outer s H M vs ws T Q E hr ⟨t, rfl, hp, hS⟩ h k
  refine ⟨_, (pss_one (ps_ret (pe_cmpR op_isN (pe_cl C_shop_fault (hr.mono (by decide)) (by rfl) pass0 (pa_cons (pv 0) pa_nil)) pe_non (nomark _)))), ?_⟩
  refine s_ret h (S := T) (ev_op (Sb := fun w => w = .d .none) (d_call (S := fun w => ∃ d, w = .d d ∧ isNone d = shopB t) (a_1 (d_var h.env rfl)) ⟨t, rfl, hp, fun d hd => ⟨d, rfl, hd⟩⟩) d_n fun a b ⟨d, ea, hd⟩ eb => ?_) (fun v w H' e s i => k v H' w e s i)
  subst ea eb
  exact os_isN (by rw [hd]; exact hS)
end
end Kl
set_option Elab.async false
set_option linter.all false
set_option maxRecDepth 100000
set_option maxHeartbeats 4000000
/-! X1: an exception's own __init__ that begins with super().__init__(..). -/
namespace Kl
open PySem PySem.Spec PyProof.Rows L2 NdefX
/-- what the written part says of the class D, its __init__ at f and the cell of __class__ -/
structure SupK (P : Program) (K : Frg) (mg : Str → Option Value) (D f cc cda : Addr) (F : NF) (doc pm ctv : Value) : Prop where
  fo : ∃ oc od osl, K.lookup f = some ⟨oc, od, .func (F.fd doc pm ctv), osl⟩
  qual : PySem.W.codeIn K (.ref F.c) F.qual = true
  cl : F.cl = [(("__class__" : Str), cc)]
  c : F.c = cda
  code : ∃ (oc : Obj) (vs : Array Value) (file : Str) (tf : Tok), K.lookup cda = some oc ∧ oc.data = .fields vs ∧ vs[2]? = some (.str file tf) ∧ (P.main.file == file) = true
  cell : ∃ (oc : Obj), K.lookup cc = some oc ∧ oc.data = .cell (some (.ref D))
  cls : ∃ cd, PySem.W.clsIn K D = some cd ∧ PySem.W.alongIn K "__init__" ((cd.mro.dropWhile (· != .ref D)).drop 1) = some (some (.builtin "ValueError.__init__"))
  oex : OexC K D
  sub : PySem.W.mroIn K D (.ref D) = some true
  subV : PySem.W.subIn K (.ref D) (.type "ValueError") = some true
  opq : PySem.W.nsIn K cStatics "thirdparty.any" = some none
  sup : mg "super" = none
  top : (P.main.scope.names.lookup ("super" : Str)).isSome = false
  ar : ∃ ar, (F.params.posonlyargs ++ F.params.args).head? = some ar ∧ ar.arg = "self"
  sc : NScope ["self", "word", "at", "__class__"] ["self", "word", "at"] ["__class__"] F.scope
  ks : F.scope.names.lookup ("super" : Str) = some .globalImplicit
def spInit (D : Addr) : Sp := fun vs H Q _ => ∃ a x y, vs = [.ref a, x, y] ∧ H a = some (exo a D none) ∧
  ∀ dx, H dx = none → dx ≠ a → Q .non (upd (upd (upd H dx (exd dx [("word", x)])) a (exo a D (some dx))) dx (exd dx [("at", y), ("word", x)]))
section
variable {prog : Program} {w : World} {A : Around} {E : Value → Shared → Prop} {h : Heap} {g : Array GenState} {d : Drawn} {t : Nat} {os : OsState}
variable {nm q : Str} {C N : Addr} {bs bm : List Value} {hdct : Bool} {sn : List Str} {sub : List Value} {ab : Bool} {col : Option Bool} {dd : Option Addr} {k0 k1 k2 k3 k5 : Option Value}
theorem call_mw {u e t0 : Addr} {rest : List Value} {Q : Value → Shared → Prop}
    (hC : h.get? C = some (excClassObj nm q C N bs bm hdct sn sub ab col dd k0 k1 k2 k3 k5 "ValueError.__new__")) (he : h.get? e = some (HandSPX.excO C t0)) (hu : h.get? u = some (PySem.W.kxs_mw "ValueError.__init__" e)) (hr : rest.length ≤ sizeLine)
    (hq : ∀ h' t1, (∀ b o, b ≠ e → h.get? b = some o → h'.get? b = some o) → h'.get? e = some (HandSPX.excO C t1) → Q .none ⟨h', g, d, t, os⟩) :
    wpAny (model prog w) A (call (.ref u) rest) Q E ⟨h, g, d, t, os⟩ := by
  refine wpAny_call (codeAny_of_tree ?_)
  show wpAny _ A.in1 (callAny (.ref u) ⟨rest, []⟩) _ _ _
  simp only [callAny]
  refine wpAny_bind (wpAny_load hu ?_)
  simp only [PySem.W.kxs_mw, show (Value.type "method-wrapper" == Value.type "method" || Value.type "method-wrapper" == Value.type "builtin_function_or_method" || Value.type "method-wrapper" == Value.type "method-wrapper") = true by decide, if_true]
  refine W.KFB.if_so (by decide) ?_
  refine wpAny_bind (W.check_bound_init F.excBase_ValueError.toExcCallFacts hC he rfl ?_)
  refine wpAny_bind (wpAny_pure (wpAny_pure ?_))
  refine ⟨plainId_quiet F.excBase_ValueError.init.plain _, codeAny_builtin F.excBase_ValueError.initEntry ?_⟩
  rw [Around.under_plainId F.excBase_ValueError.init.plain _]
  wp_walk
  refine hq _ h.objs.size (fun b o hb ho => ?_) ?_
  · rw [Heap.get?_update_other _ _ (Ne.symm hb)]
    exact Heap.get?_push_of_some _ ho
  · rw [Heap.get?_update_self _ (Heap.get?_push_of_some _ he) rfl] <;> rfl
end
section
variable {P : Program} {w : World} {K : Frg} {mg : Str → Option Value} {base : Heap} {D f cc cda : Addr} {F : NF} {doc pm ctv : Value} {CX : CXT} {k : Nat}
theorem init_ok (S : SupK P K mg D f cc cda F doc pm ctv) {p0 p1 p2 p3 p4 p5 p6 : Pos} {rest : List Stmt}
    (hbd : F.body = .Expr (.Call (.Attribute (.Call (.Name "super" p0) [] [] p1) "__init__" p2) [.Name "word" p3, .Name "at" p4] [] p5) p6 :: rest)
    {pl : Addr → Sem Bool} (he : ∀ L : Addr, eval (.Call (.Attribute (.Call (.Name "super" p0) [] [] p1) "__init__" p2) [.Name "word" p3, .Name "at" p4] [] p5) (envF F f L) = (do
      let ov ← attributeBase (.Call (.Name "super" p0) [] [] p1) "__init__" (envF F f L) (eval (.Call (.Name "super" p0) [] [] p1) (envF F f L))
      standAt p2.atName
      let (g, first) ← holding [ov] (getMethod ov "__init__" (pl L))
      callWith p5 g first (backTo p5 (starEach [.Name "word" p3, .Name "at" p4] (envF F f L))) []))
    (hin : ∀ L : Addr, interactive (envF F f L) = false) (hsw : ∀ L : Addr, swapsWith (.Call (.Attribute (.Call (.Name "super" p0) [] [] p1) "__init__" p2) [.Name "word" p3, .Name "at" p4] [] p5) none p6.line (envF F f L) = pure false)
    (hrest : ∀ (A : Around) (outer : List PySem.Env) (s : Shared) (H : Hp) (vs : List V) (ws : List (Option V)) (Q : VK) (E : XK), Room k (A.deeper (envF F f s.heap.objs.size)) → spInit D vs H Q E →
      ∃ t, PSs (ncx CX P w K mg base ["self", "word", "at", "__class__"] F f A outer s H E) rest t ∧ t { nx := fun _ H' => Q .non H', rt := Q } (startF ["self", "word", "at", "__class__"] vs [some (.ref D)]) H) :
    FnOk P w K mg base CX (k + 1) f (F.fd doc pm ctv) ["self", "word", "at"] (spInit D) := by
  refine ⟨fun vs H Q E ⟨_, _, _, e, _⟩ => by rw [e]; rfl, fun A outer s H args us vs Q E hr e0 hb r hsp => ?_⟩
  obtain ⟨a, x, y, rfl, ha, hq0⟩ := id hsp
  have KX : K.In s.heap := e0.mod.kin.keeps fun b o e => (e0.bs b o e).1
  have KB : K.In base := e0.mod.kin
  have lim : s.heap.NoLimit := e0.mod.nolimit.keeps fun b o e => (e0.bs b o e).1
  obtain ⟨oc, od, osl, hf⟩ := S.fo
  have hl : us.length = 3 := r.length.symm
  refine codeAny_call_function hr.depth (KX _ _ hf) rfl S.sc.co S.sc.gen rfl (PySem.W.codeRec_of KX S.qual) (hb _ _ _ _ ?_)
  refine wpAny_newFunctionEnv S.sc.nocell (fun ⟨n, _⟩ hy => S.sc.par n (List.of_mem_zip hy).1) (fun h₁ hns hsb => ⟨lim.fresh _ hsb, ?_⟩) S.sc.kind
  show codeAny _ _ (.func F.body (envF F f s.heap.objs.size)) _ _
  refine ks_codeAny_funcAt ?_
  have kp : ∀ b o, s.heap.get? b = some o → h₁.get? b = some o := fun b o e => hsb.extBut b o (Nat.ne_of_lt (Heap.lt_size e)) (Heap.get?_push_of_some _ e)
  obtain ⟨occ, hcell, hcd⟩ := S.cell
  have hcc : base.get? cc = some occ := KB _ _ hcell
  have C : CellsAt F.cl ["__class__"] [some (.ref D)] s.heap H := by
    refine ⟨rfl, fun z c e => ?_, fun z z' c e1 e2 => ?_, fun i z e => ?_⟩
    · rw [S.cl] at e
      have e := PySem.mem_of_lookup e
      simp only [List.mem_singleton, Prod.mk.injEq] at e
      rw [e.2]
      exact ⟨(e0.bs _ _ hcc).2, _, occ, (e0.bs _ _ hcc).1, hcd⟩
    · rw [S.cl] at e1 e2
      have e1 := PySem.mem_of_lookup e1
      have e2 := PySem.mem_of_lookup e2
      simp only [List.mem_singleton, Prod.mk.injEq] at e1 e2
      rw [e1.1, e2.1]
    · cases i with
      | zero =>
        have e := Option.some.inj e
        subst e
        refine ⟨cc, by rw [S.cl]; rfl, fun v ev => ?_⟩
        have ev := Option.some.inj (Option.some.inj ev)
        subst ev
        exact ⟨.ref D, rfl, occ, (e0.bs _ _ hcc).1, hcd⟩
      | succ i => simp at e
  have I : L2.Inv (ncx CX P w K mg base ["self", "word", "at", "__class__"] F f A outer s H E) [] (startF ["self", "word", "at", "__class__"] [.ref a, x, y] [some (.ref D)]) H { s with heap := h₁, toks := s.toks + ((["self", "word", "at"] : List Str).zip us).length } := inv_startN S.sc hr.hd e0 rfl r C hns kp
  obtain ⟨t, ht, hq⟩ := hrest A outer s H _ [some (.ref D)] Q E (hr.deeper _) hsp
  generalize hs1 : ({ s with heap := h₁, toks := s.toks + ((["self", "word", "at"] : List Str).zip us).length } : Shared) = s1 at I ⊢
  rw [hbd]
  have fin : ∀ {σ' : L2.St} {H' : Hp} {v : V} {u : Value} {s' : Shared}, L2.Inv (ncx CX P w K mg base ["self", "word", "at", "__class__"] F f A outer s H E) [] σ' H' s' → L2.RelV v u → Q v H' → CE outer P w H s Q u s' := fun {σ' H' v u s'} J rv q => ⟨v, H', J.os, J.bare, J.base, J.hok, rv, q⟩
  have tail : ∀ s2, L2.Inv (ncx CX P w K mg base ["self", "word", "at", "__class__"] F f A outer s H E) [] (startF ["self", "word", "at", "__class__"] [.ref a, x, y] [some (.ref D)]) H s2 → wpAny (model P w) (A.deeper (envF F f s.heap.objs.size)) (execs rest (envF F f s.heap.objs.size))
      (fun fl s' => CR CX outer P w H s Q E (.ok (.ret (match fl with | .ret v => v | _ => .none))) s') (fun e s' => wpAny (model P w) (A.deeper (envF F f s.heap.objs.size)) (leaving (envF F f s.heap.objs.size) e) (fun _ s'' => CX outer H s E e s'') (fun e' s'' => CX outer H s E e' s'') s') s2 := fun s2 I2 => by
    refine wpAny_mono (ht.run [] s2 _ H _ I2 hq) (fun fl s' hs => ?_) fun e s' hs => hs
    cases fl with
    | ret u =>
      obtain ⟨v, σ', H', J, rv, q⟩ := hs
      exact fin J rv q
    | next =>
      obtain ⟨σ', H', J, q⟩ := hs
      exact fin (v := V.non) (u := Value.none) J rfl q
    | brk =>
      obtain ⟨_, _, _, q⟩ := hs
      exact False.elim q
    | cont =>
      obtain ⟨_, _, _, q⟩ := hs
      exact False.elim q
  refine ks_wpAt_execs_cons (ks_wpAt_Expr_any (hi := hin _) (hs := hsw _) (ks_wpAt_MethodCall (he := he _) ?_))
  obtain ⟨oca, cvs, file, tf, hca, hcv, hvs, hfile⟩ := S.code
  obtain ⟨ar, har, harg⟩ := S.ar
  have KX1 : K.In s1.heap := I.kIn
  refine ks_wpAt_super_base (env := envF F f s.heap.objs.size) S.ks (S.sc.frk _ (by simp)) (by decide) rfl (KX1 _ _ hf) rfl har rfl (show s1.heap.get? F.c = some oca by rw [S.c]; exact KX1 _ _ hca) hcv hvs hfile S.top ?_
  rw [harg]
  refine PySem.W.ks_loadName_global S.sc.kind S.ks ?_
  obtain ⟨mb, hb1, hb2⟩ := I.mod.blt
  refine Calls.loadGlobal_builtin (I.mod.glob.keeps I.bk) S.sup (hb1.keeps I.bk) ((hb2 "super" (by decide)).trans (by first | rfl | kernel_rfl)) ⟨rfl, ?_⟩
  have cellD : s1.heap.IsCell cc (some (.ref D)) := ⟨occ, KX1 _ _ hcell, hcd⟩
  refine wpAny_loadName_free S.sc.kind (S.sc.frk _ (by simp)) (by show F.cl.lookup _ = _; rw [S.cl]; rfl) cellD ?_
  obtain ⟨m, hn, hlook⟩ := I.loc
  have look : ∀ (i : Nat) (z : Str) (v : V), (["self", "word", "at", "__class__"] : List Str)[i]? = some z → z ∈ (["self", "word", "at"] : List Str) → (startF ["self", "word", "at", "__class__"] [.ref a, x, y] [some (.ref D)])[i]? = some (some v) → ∃ u, L2.RelV v u ∧ m z = some u := fun i z v h1 h2 h3 => by
    have hk := S.sc.par z h2
    obtain ⟨u, ru, hu⟩ := hlook i z v h1 h3 (.inl hk)
    rcases hu with ⟨_, hu⟩ | ⟨hk2 | hk2, _⟩
    · exact ⟨u, ru, hu⟩
    · have : F.scope.names.lookup z = some .cell := hk2
      rw [hk] at this; cases this
    · have : F.scope.names.lookup z = some .free := hk2
      rw [hk] at this; cases this
  obtain ⟨ua, rua, hua⟩ := look 0 "self" (.ref a) rfl (by simp) rfl
  obtain rfl : ua = Value.ref a := rua
  refine wpAny_loadName_local S.sc.kind (S.sc.par _ (by simp)) hn hua ?_
  obtain ⟨cd, hcls, halong⟩ := S.cls
  obtain ⟨oD, hD1, hD2⟩ : ∃ oD, K.lookup D = some oD ∧ oD.data = .cls cd := by
    unfold PySem.W.clsIn at hcls
    split at hcls
    · rename_i c d cd' sl ho
      cases hcls
      exact ⟨_, ho, rfl⟩
    · cases hcls
  obtain ⟨t1, hoa⟩ := exo_at I.hok ha
  obtain ⟨hp, g, dr, tk, os⟩ := s1
  refine ks_wpAny_isType_cls (KX1 _ _ hD1) hD2 ⟨rfl, ?_⟩
  refine ks_wpAny_call_super (KX1 _ _ hD1) hD2 hoa rfl (fun c e => by cases e) (PySem.W.looks_mroIn KX1 S.sub) (fun h2 e2 k2 => ?_)
  have KX2 : K.In h2 := fun b o e => k2 b o (KX1 b o e)
  have hoa2 := k2 _ _ hoa
  have Ia : PySem.W.InstAt h2 a _ D none := ⟨hoa2, rfl, rfl, trivial⟩
  have hne : a ≠ D := PySem.W.ks_ne KX2 Ia hcls
  refine PySem.W.kxs_getMethod PySem.W.kxs_ValueError (l₀ := cd.mro) e2 (PySem.W.looks_opaque KX2 S.opq) ?_ rfl KX2 halong (Ia.type.andThen (PySem.W.looks_subIn KX2 S.subV)) hne (by decide) ?_
  · exact fun A Q E s k q => wpAny_bind ((PySem.W.looks_clsIn KX2 hcls) A _ E s k (wpAny_pure q))
  have kk : ∀ b o, hp.get? b = some o → (h2.push (PySem.W.kxs_mw "ValueError.__init__" a)).get? b = some o := fun b o e => Heap.get?_push_of_some _ (k2 b o e)
  have I3 : L2.Inv (ncx CX P w K mg base ["self", "word", "at", "__class__"] F f A outer s H E) [] (startF ["self", "word", "at", "__class__"] [.ref a, x, y] [some (.ref D)]) H ⟨h2.push (PySem.W.kxs_mw "ValueError.__init__" a), g, dr, tk + 1, os⟩ := I.kept (t' := tk + 1) kk
  obtain ⟨m3, hn3, hlook3⟩ := I3.loc
  have look3 : ∀ (i : Nat) (z : Str) (v : V), (["self", "word", "at", "__class__"] : List Str)[i]? = some z → z ∈ (["self", "word", "at"] : List Str) → (startF ["self", "word", "at", "__class__"] [.ref a, x, y] [some (.ref D)])[i]? = some (some v) → ∃ u, L2.RelV v u ∧ m3 z = some u := fun i z v h1 h2 h3 => by
    have hk := S.sc.par z h2
    obtain ⟨u, ru, hu⟩ := hlook3 i z v h1 h3 (.inl hk)
    rcases hu with ⟨_, hu⟩ | ⟨hk2 | hk2, _⟩
    · exact ⟨u, ru, hu⟩
    · have : F.scope.names.lookup z = some .cell := hk2
      rw [hk] at this; cases this
    · have : F.scope.names.lookup z = some .free := hk2
      rw [hk] at this; cases this
  obtain ⟨uw, ruw, huw⟩ := look3 1 "word" x rfl (by simp) rfl
  obtain ⟨uy, ruy, huy⟩ := look3 2 "at" y rfl (by simp) rfl
  have hmw : (h2.push (PySem.W.kxs_mw "ValueError.__init__" a)).get? h2.objs.size = some (PySem.W.kxs_mw "ValueError.__init__" a) := Heap.get?_push_size _ rfl
  show wpAny _ _ (callWith p5 (.ref h2.objs.size) [] (backTo p5 (starEach [.Name "word" p3, .Name "at" p4] (envF F f s.heap.objs.size))) []) _ _ _
  refine PySem.W.kxs_callWith (i := "ValueError.__init__") (x := a) rfl (Calls.evalArgs_plain (Calls.spliced_cons (wpAny_Name (wpAny_loadName_local S.sc.kind (S.sc.par _ (by simp)) hn3 huw
    (Calls.spliced_cons (wpAny_Name (wpAny_loadName_local S.sc.kind (S.sc.par _ (by simp)) hn3 huy (Calls.spliced_nil ⟨hmw, ?_⟩))))))))
  obtain ⟨nm, q, N, bs, bm, sn, sub, ab, col, dd, k0, k1, k2', k3, k5, hC, hbm⟩ := S.oex.cls
  obtain ⟨t3, hoa3⟩ := exo_at I3.hok ha
  refine call_mw (I3.kIn _ _ hC) hoa3 hmw (show 2 ≤ sizeLine by decide) fun h' t2 k hx => ?_
  have J := I3.write (t' := tk + 1) (x := a) (e := a) (o := exo a D none) (by rw [ha]; exact True.intro) (.inl rfl) k ⟨_, hx⟩ (exo_ok hx)
  have eu : upd H a (exo a D none) = H := by
    funext b
    by_cases hb : b = a
    · rw [hb, upd_same, ha]
    · rw [upd_ne hb]
  rw [eu] at J
  exact wpAt_of_wpAny (tail _ J)
end
end Kl
set_option Elab.async false
set_option linter.all false
set_option maxRecDepth 100000
set_option maxHeartbeats 4000000
/-! X2: defs that may raise NotUsable(word, -1). -/
namespace Kl
open PySem PySem.Spec PyProof.Rows L2
theorem Ex.of {H H' : Hp} (e : ∀ b o, H b = Option.some o → H' b = Option.some o) : Ex H H' := ⟨fun b o h => .inl (e b o h), fun T t => t.ext e⟩
/-- normal: S; or NotUsable with a word of R -/
def SpX (C : Addr) (F : List W → (W → Prop) → (Str → Prop) → Prop) : Sp := fun vs H Q E => ∃ (N : List Addr) (ws : List W) (S : W → Prop) (R : Str → Prop), (∀ l ∈ N, H l ≠ none) ∧ IsAll (hid N H) vs ws ∧ F ws S R ∧ (∀ v H' w, Ex H H' → S w → Is (hid N H') v w → Q v H') ∧
  ∀ dx H' z, Ex H H' → R z → H' dx = some (.xd [("at", .int (-1)), ("word", .str z)]) → E (.ref C) (some dx) H'
structure Exn (P : Program) (w : World) (K : Frg) (mg : Str → Option Value) (base : Heap) (C : Addr) : Prop where
  oex : OexC K C
  mki : ∃ (fI : Addr) (fd : FuncData), PySem.W.findIn K (.ref C) "__init__" = some (some (.ref fI)) ∧ PySem.W.typeIn K (.ref fI) = some (.type "function") ∧ FnOk P w K mg base CX0 1 fI fd ["self", "word", "at"] (spInit C) ∧ Binds K fd ["self", "word", "at"] []
  nm : mg "NotUsable" = some (.ref C)
abbrev CXl (P : Program) (w : World) : CXT := L2.CX P w
section
variable {P : Program} {w : World} {K : Frg} {mg : Str → Option Value} {base : Heap} {C : Addr}
/-- a def that may raise, by its body -/
theorem Def.okX {x : Str} {st : Stmt} {N ps : List Str} {k : Nat} {F : List W → (W → Prop) → (Str → Prop) → Prop} (D : Def K mg x st) (S : FnScope N ps (defScope st))
    (hb : ∀ (kV doc pm : Value) (an : Option Addr) (cdv ct : Value) (us : List Value), us.length = ps.length → bindArgs (PySem.W.fnOf x x (defArgs st) (defBody st) (defScope st) .none kV doc pm an cdv ct) ⟨us, []⟩ = pure (ps.zip us))
    (len : ∀ ws S R, F ws S R → ws.length = ps.length)
    (body : ∀ (f : Addr) (cdv : Value) (A : Around) (outer : List PySem.Env) (s : Shared) (H : Hp) (M : List Addr) (vs : List V) (ws : List W) (T : W → Prop) (R : Str → Prop) (Q : VK) (E : XK), Room k (A.deeper (envOfC x (defScope st) s.heap.objs.size f cdv)) → F ws T R →
      At M H (L2.start N vs) H (ws.map some ++ List.replicate (N.length - ws.length) none) → (∀ v H' w, Ex H H' → T w → Is (hid M H') v w → Q v H') → (∀ dx H' z, Ex H H' → R z → H' dx = some (.xd [("at", .int (-1)), ("word", .str z)]) → E (.ref C) (some dx) H') →
      ∃ t, PSs (cxOf (CXl P w) P w K mg base N x (defScope st) f cdv A outer s H E) (defBody st) t ∧ t { nx := fun _ H' => Q .non H', rt := Q } (L2.start N vs) H) :
    Cl P w K mg base (CXl P w) (k + 1) x [] (SpX C F) := by
  obtain ⟨f, fd, Fn, hm⟩ := D.ex
  have hpl : ps.length ≤ N.length := by have := congrArg List.length S.pre; rw [List.length_take] at this; omega
  refine ⟨f, fd, ps, [], Fn.okX S (fun vs H Q E h => ?_) (fun cdv A outer s H vs Q E hr h => ?_), hm, Fn.kp, Fn.binds hb, .nil⟩
  · obtain ⟨M, ws, T, R, _, ia, hF, _⟩ := h
    rw [isa_len ia, len ws T R hF]
  · obtain ⟨M, ws, T, R, al, ia, hF, q, qx⟩ := h
    exact body f cdv A outer s H M vs ws T R Q E hr hF ⟨al, Ex.refl _, env_start ia (by rw [len ws T R hF]; exact hpl)⟩ q qx
/-- its outer wish, taken -/
theorem takesE {N : List Str} {x : Str} {sc : Scope} {f : Addr} {cdv : Value} {A : Around} {outer : List PySem.Env} {s : Shared} {H : Hp} {E : XK} : Takes (cxOf (CXl P w) P w K mg base N x sc f cdv A outer s H E) (fun cls d _ H => E cls d H) := takes_of rfl rfl rfl rfl
theorem passE {N : List Str} {x : Str} {sc : Scope} {f : Addr} {cdv : Value} {A : Around} {outer : List PySem.Env} {s : Shared} {H : Hp} {E : XK} : Passes (CXl P w) (cxOf (CXl P w) P w K mg base N x sc f cdv A outer s H E) E := passes_call takesE fun _ _ _ _ h => h
/-- raise NotUsable(z, -1) -/
theorem s_raise {N : List Addr} {B : Hp} {σ : L2.St} {H : Hp} {ρ : List (Option W)} {ta : TA} {D : Ends} {E : XK} {z : Str} (h : At N B σ H ρ) (ha : Ea ta σ (hid N H) [.d (.str z), .d (.int (-1))])
    (kx : ∀ dx H', Ex B H' → H' dx = some (.xd [("at", .int (-1)), ("word", .str z)]) → E (.ref C) (some dx) H') : tMkO C (spInit C) [] ta σ H fun cls d H' => E cls d H' := by
  refine ha N H h.vw _ fun vs H1 ws e s iv => ?_
  subst s
  cases iv with
  | cons i1 i2 =>
    cases i2 with
    | cons i3 i4 =>
      cases i4
      cases i1
      cases i3
      refine ⟨by simp, fun a hn => ⟨a, .str z, .int (-1), rfl, upd_same, fun dx hdx ne => ⟨rfl, dx, [("at", .int (-1)), ("word", .str z)], ?_, upd_same, ?_, ?_⟩⟩⟩
      · rw [upd_ne (Ne.symm ne), upd_same]
      · rw [upd_ne ne] at hdx
        exact hdx
      · rw [upd_ne ne] at hdx
        refine kx dx _ ((h.ex.trans e).trans (Ex.of fun b o hb => ?_)) upd_same
        have n1 : b ≠ a := ne_of_none hb hn
        have n2 : b ≠ dx := ne_of_none hb hdx
        rw [upd_ne n2, del_ne n1, upd_ne n2, upd_ne n1, upd_ne n2, upd_ne n1]
        exact hb
/-- a call that may raise, as a statement -/
theorem at_callX {N : List Addr} {B : Hp} {σ : L2.St} {H : Hp} {ρ : List (Option W)} {t : TA} {F : List W → (W → Prop) → (Str → Prop) → Prop} {ws dws : List W} {dvs : List V} {S : W → Prop} {R : Str → Prop} {E : XK} {Q : VK} (h : At N B σ H ρ) (ha : Ea t σ (hid N H) ws) (hd : ∀ H, IsAll H dvs dws) (hF : F (ws ++ dws) S R)
    (kx : ∀ dx H' z, Ex B H' → R z → H' dx = some (.xd [("at", .int (-1)), ("word", .str z)]) → E (.ref C) (some dx) H') (k : ∀ v H' w, Ex H H' → S w → Is (hid N H') v w → At N B σ H' ρ → Q v H') : tCall (SpX C F) dvs E t σ H Q := by
  refine ha N H h.vw _ fun vs H1 ws' e s iv => ?_
  subst s
  exact ⟨N, ws' ++ dws, S, R, (h.mono e).al, isa_app iv (hd _), hF, fun v H2 w e2 sw iw => k v H2 w (e.trans e2) sw iw (h.mono (e.trans e2)), fun dx H2 z e2 hz hx => kx dx H2 z (h.ex.trans (e.trans e2)) hz hx⟩
theorem q_dropX {N : List Addr} {B : Hp} {σ : L2.St} {H : Hp} {ρ : List (Option W)} {t : TA} {F : List W → (W → Prop) → (Str → Prop) → Prop} {ws dws : List W} {dvs : List V} {S : W → Prop} {R : Str → Prop} {E : XK} {tz : TS} {D : Ends} (h : At N B σ H ρ) (ha : Ea t σ (hid N H) ws) (hd : ∀ H, IsAll H dvs dws) (hF : F (ws ++ dws) S R)
    (kx : ∀ dx H' z, Ex B H' → R z → H' dx = some (.xd [("at", .int (-1)), ("word", .str z)]) → E (.ref C) (some dx) H') (k : ∀ w H', Ex H H' → S w → At N B σ H' ρ → tz D σ H') : tSeq (tDrop (tCall (SpX C F) dvs E t)) tz D σ H :=
  at_callX (Q := fun _ H' => tz D σ H') h ha hd hF kx fun v H' w e s i a => k w H' e s a
theorem s_dropX {N : List Addr} {B : Hp} {σ : L2.St} {H : Hp} {ρ : List (Option W)} {t : TA} {F : List W → (W → Prop) → (Str → Prop) → Prop} {ws dws : List W} {dvs : List V} {S : W → Prop} {R : Str → Prop} {E : XK} {D : Ends} (h : At N B σ H ρ) (ha : Ea t σ (hid N H) ws) (hd : ∀ H, IsAll H dvs dws) (hF : F (ws ++ dws) S R)
    (kx : ∀ dx H' z, Ex B H' → R z → H' dx = some (.xd [("at", .int (-1)), ("word", .str z)]) → E (.ref C) (some dx) H') (k : ∀ w H', Ex H H' → S w → At N B σ H' ρ → D.nx σ H') : tDrop (tCall (SpX C F) dvs E t) D σ H :=
  at_callX (Q := fun _ H' => D.nx σ H') h ha hd hF kx fun v H' w e s i a => k w H' e s a
theorem s_retX {N : List Addr} {B : Hp} {σ : L2.St} {H : Hp} {ρ : List (Option W)} {t : TA} {F : List W → (W → Prop) → (Str → Prop) → Prop} {ws dws : List W} {dvs : List V} {S : W → Prop} {R : Str → Prop} {E : XK} {D : Ends} (h : At N B σ H ρ) (ha : Ea t σ (hid N H) ws) (hd : ∀ H, IsAll H dvs dws) (hF : F (ws ++ dws) S R)
    (kx : ∀ dx H' z, Ex B H' → R z → H' dx = some (.xd [("at", .int (-1)), ("word", .str z)]) → E (.ref C) (some dx) H') (k : ∀ v H' w, Ex B H' → S w → Is (hid N H') v w → D.rt v H') : tRet (tCall (SpX C F) dvs E t) D σ H :=
  at_callX (Q := D.rt) h ha hd hF kx fun v H' w e s i a => k v H' w a.ex s i
/-- a call that never raises here -/
theorem ev_callX {σ : L2.St} {H : Hp} {t : TA} {F : List W → (W → Prop) → (Str → Prop) → Prop} {ws : List W} {S : W → Prop} {E : XK} (ha : Ea t σ H ws) (hF : F ws S fun _ => False) : Ev (tCall (SpX C F) [] E t) σ H S := fun N H1 vw Q q =>
  ha N H1 vw _ fun vs H2 ws' e2 s iw => by
    subst s
    exact ⟨N, ws' ++ [], S, fun _ => False, (vw.step e2).al, isa_app iw .nil, by rw [List.append_nil]; exact hF, fun v H3 w e3 s3 i3 => q v H3 w (e2.trans e3) s3 i3, fun _ _ _ _ z => z.elim⟩
/-! ### want -/
abbrev s_want : Stmt := topS 31
abbrev n_want : List Str := ["is_right", "word", "at"]
theorem sc_want : FnScope n_want ["is_right", "word", "at"] (defScope s_want) := ⟨rfl, rfl, rfl, by decide +kernel, rfl, by decide +kernel, by decide +kernel⟩
def F_want : List W → (W → Prop) → (Str → Prop) → Prop := fun ws S R => ∃ b z, ws = [.d (.bool b), .d (.str z), .d (.int (-1))] ∧ (b = true → S (.d .none)) ∧ (b = false → R z)
/-- the def as it stands: one default -/
def DefW (K : Frg) (mg : Str → Option Value) : Prop := ∃ (f : Addr) (fd : FuncData), FunD K "want" "want" (defArgs s_want) (defBody s_want) (defScope s_want) [.int (-1)] [] f fd ∧ mg "want" = some (.ref f)
theorem cl_want (D : DefW K mg) (X : Exn P w K mg base C) : Cl P w K mg base (CXl P w) 3 "want" [.int (-1)] (SpX C F_want) := by
  obtain ⟨f, fd, Fn, hm⟩ := D
  obtain ⟨ds, rd, hb⟩ := Fn.binds1 (ps := ["is_right", "word", "at"]) 2 0 (by simp) rfl (fun T kV doc pm an cdv ct us its hu hi => by
    match us, its, hu, hi with
    | [_, _], [_], _, _ => exact ⟨_, rfl, rfl⟩)
  refine ⟨f, fd, ["is_right", "word", "at"], ds, Fn.ok (k := 2) sc_want (fun vs H Q E h => ?_) (fun cdv A outer s H vs Q E hr h => ?_), hm, Fn.kp, hb, rd⟩
  · obtain ⟨M, ws, T, R, _, ia, ⟨_, _, e, _⟩, _⟩ := h
    rw [isa_len ia, e]
    rfl
  · obtain ⟨M, ws, T, R, al, ia, ⟨b, z, rfl, h1, h2⟩, q, qx⟩ := h
    have h : At M H (L2.start n_want vs) H [some (.d (.bool b)), some (.d (.str z)), some (.d (.int (-1)))] := ⟨al, Ex.refl _, env_start (N := n_want) ia (by simp)⟩
    obtain ⟨fI, fdI, iC, tI, FI, hbI⟩ := X.mki
    refine ⟨_, pss_one (ps_if (pt_not (pt_val (pv 0))) (pss_one (ps_raise (W := fun cls d _ H => E cls d H) rfl takesE (pmk_oex (x := "NotUsable") (CX := CX0) X.oex iC tI FI (hr.mono (by decide)) hbI .nil (fun _ _ _ _ _ _ _ h => h.elim) (by rfl) X.nm (pa_cons (pv 1) (pa_cons (pv 2) pa_nil))))) pss_nil), ?_⟩
    refine s_when h (b_not (b_B (d_var h.env rfl))) (fun e H1 e1 h1' => ?_) (fun e H1 e1 h1' => ?_)
    · have hbf : b = false := by cases b <;> first | rfl | cases e
      exact s_raise (D := { nx := fun _ H' => Q .non H', rt := Q }) h1' (a_2 (d_var h1'.env rfl) (d_var h1'.env rfl)) (fun dx H' e' hx => qx dx H' z e' (h2 hbf) hx)
    · have hbt : b = true := by cases b <;> first | rfl | cases e
      exact q .non H1 (.d .none) e1 (h1 hbt) .non
end
end Kl
set_option Elab.async false
set_option linter.all false
set_option maxRecDepth 100000
set_option maxHeartbeats 4000000
/-! F7: sorted(list of tuples whose first texts differ). -/
namespace Kl
open PySem PySem.Spec PyProof.Rows L2
section
variable {K : Frg}
/-- what is sorted: values with what they are -/
def rSortD (K : Frg) : List V → Hp → VK → Prop := fun xs H Q => ∃ (a : Addr) (ps : List (V × PyData)), xs = [.ref a] ∧ SqL K H a (ps.map fun p => p.1) ∧ (∀ p ∈ ps, Dp K H p.1 p.2) ∧ PySem.W.AllAlike (ps.map fun p => p.2) ∧ PySem.W.Sortable (ps.map fun p => p.2) ∧ ps.length ≤ 10000 ∧ (∀ p ∈ ps, p.2.depth ≤ 30) ∧
  ∀ qs : List (V × PyData), qs.Perm ps → qs.Pairwise (fun a b => PySem.W.dataLt b.2 a.2 = false) → ∀ p, H p = none → Q (.ref p) (upd H p (.lst (qs.map fun p => p.1)))
end
section
variable {X : Cx}
theorem each_of {H : Hp} {pins : List (Addr × Obj)} {σ : L2.St} {s : Shared} (I : L2.Inv X pins σ H s) : ∀ {ps : List (V × PyData)} {us : List Value}, Vals (ps.map fun p => p.1) us → (∀ p ∈ ps, Dp X.K H p.1 p.2) →
    PySem.W.EachIs (fun v (b : V × PyData) => L2.RelV b.1 v) us ps ∧ PySem.W.EachIs (fun v (b : V × PyData) => ∃ as, Reads s.heap v b.2 as) us ps
  | [], _, r, _ => by cases r; exact ⟨.nil, .nil⟩
  | p :: ps, _, r, h => by
    cases r with
    | cons r1 r2 =>
      obtain ⟨q1, q2⟩ := each_of I r2 fun q hq => h q (List.mem_cons_of_mem _ hq)
      exact ⟨.cons r1 q1, .cons (Dp.reads I p.2 p.1 _ (h p List.mem_cons_self) r1) q2⟩
theorem each_vals : ∀ {us : List Value} {ps : List (V × PyData)}, PySem.W.EachIs (fun v (b : V × PyData) => L2.RelV b.1 v) us ps → Vals (ps.map fun p => p.1) us
  | _, _, .nil => .nil
  | _, _, .cons h t => .cons h (each_vals t)
theorem cr_sortedD (hu : X.A.units + 65 < cLine) : CallR X (.builtin "sorted") (rSortD X.K) := by
  intro pins s σ H xs us Q I r h
  obtain ⟨a, ps, rfl, hq, hd, al, so, hl, dp, q⟩ := h
  obtain ⟨its, rv, pl, _⟩ := I.list hq
  rw [Vals.ref1 r]
  obtain ⟨e1, e2⟩ := each_of I rv hd
  refine PySem.W.sorted_data (bs := ps) (enc := fun p => p.2) pl.isList e1 e2 al so (by rw [sizeLine_eq]; omega) (fun b hb => by have := dp b hb; omega) fun out h1 h2 => ?_
  obtain ⟨ep, he'⟩ := PyProof.Rows.sortedAll_at s.heap its out.toArray
  have hp := List.mergeSort_perm ps (PySem.W.dataLe false fun p : V × PyData => p.2)
  have T := PySem.W.sortLe_total (listOrd itemOrd) false fun p : V × PyData => PySem.W.keyToks p.2
  have hw := List.pairwise_mergeSort (le := PySem.W.dataLe false fun p : V × PyData => p.2) (fun a b c x y => T.trans a b c x y) (fun a b => Bool.or_eq_true_iff.mpr (T.total a b)) ps
  have hlen : ((ps.mergeSort (PySem.W.dataLe false fun p : V × PyData => p.2)).map fun p => p.1).length ≤ sizeLine := by rw [List.length_map, hp.length_eq, sizeLine_eq]; omega
  refine ⟨.ref _, _, I.laid (t' := s.toks) (fun _ _ => PyProof.Rows.sortedAll_old) (Nat.le_succ _) (show ObjOk X.prog X.w _ _ _ (.lst _) from ⟨hlen, out, ep, each_vals h2, he'⟩), rfl, q _ hp (hw.imp fun {a b} hab => ?_) _ (I.hok.fresh (Nat.le_succ _))⟩
  have hab : (!PySem.W.dataLt b.2 a.2) = true := hab
  simpa using hab
end
theorem dqs_zip {K : Frg} {H : Hp} : ∀ {us : List V} {ds : List PyData}, DqAll H us ds → ∀ p ∈ us.zip ds, Dq H p.1 p.2
  | [], [], _, p, hp => by cases hp
  | [], _ :: _, h, _, _ => by cases h
  | _ :: _, [], h, _, _ => by cases h
  | u :: us, d :: ds, h, p, hp => by
    cases h with
    | cons h1 h2 =>
      rw [List.zip_cons_cons] at hp
      rcases List.mem_cons.mp hp with e | hp
      · rw [e]; exact h1
      · exact dqs_zip (K := K) h2 p hp
theorem zip_dqs {H : Hp} : ∀ {ps : List (V × PyData)}, (∀ p ∈ ps, Dq H p.1 p.2) → DqAll H (ps.map fun p => p.1) (ps.map fun p => p.2)
  | [], _ => .nil
  | p :: ps, h => .cons (h p List.mem_cons_self) (zip_dqs fun q hq => h q (List.mem_cons_of_mem _ hq))
theorem dl_str (a b : Str) : PySem.W.dataLt (.str a) (.str b) = ltS a b := PySem.W.dataLt_str a b
theorem dl_hd {a b : Str} {xs ys : List PyData} (h : a ≠ b) : PySem.W.dataLt (hd (a, xs)) (hd (b, ys)) = ltS a b := by
  have e := PySem.W.dataLt_cons (x := .str a) (y := .str b) rfl xs ys
  have e2 : PyData.eqv (.str a) (.str b) = false := by rw [eqv_str, decide_eq_false h]
  rw [e2, if_neg (by decide), dl_str] at e
  exact e
theorem rising_of_pw : ∀ {ss : List Str}, ss.Pairwise (fun a b => ltS a b = true) → risingB ss = true
  | [], _ => rfl
  | [_], _ => rfl
  | a :: b :: l, h => by
    rw [risingB_cons, Bool.and_eq_true]
    cases h with
    | cons h1 h2 => exact ⟨h1 b List.mem_cons_self, rising_of_pw h2⟩
theorem ltS_tri {a b : Str} (h : a ≠ b) (h2 : ltS b a = false) : ltS a b = true := by
  have h2 := of_decide_eq_false h2
  have hne : a.cps.toList ≠ b.cps.toList := fun e => h (PySem.W.str_of_cps e)
  refine decide_eq_true ?_
  have hle : a.cps.toList ≤ b.cps.toList := List.not_lt.mp h2
  exact Std.lt_of_le_of_ne hle hne
theorem perm_lift {α β : Type} {f : α → β} : ∀ {ds : List β} {l : List α}, ds.Perm (l.map f) → ∃ l' : List α, l'.Perm l ∧ l'.map f = ds := by
  intro ds
  induction ds with
  | nil =>
    intro l h
    have := h.symm.eq_nil
    exact ⟨l, .refl _, this⟩
  | cons d ds ih =>
    intro l h
    have hm : d ∈ l.map f := h.mem_iff.mp List.mem_cons_self
    obtain ⟨x, hx, rfl⟩ := List.mem_map.mp hm
    obtain ⟨l1, l2, rfl⟩ := List.append_of_mem hx
    have h2 : (f x :: ds).Perm (f x :: (l1 ++ l2).map f) := by
      refine h.trans ?_
      rw [List.map_append, List.map_cons, List.map_append]
      exact List.perm_middle
    obtain ⟨l', p', e'⟩ := ih (List.Perm.cons_inv h2)
    exact ⟨x :: l', (p'.cons x).trans List.perm_middle.symm, by rw [List.map_cons, e']⟩
section
variable {K : Frg} {S : W → Prop} {α : Type} {l : List α} {enc : α → PyData} {nm : α → Str} {rest : α → List PyData}
theorem cs_sortT (he : ∀ x ∈ l, enc x = hd (nm x, rest x)) (hn : (l.map nm).Nodup) (al : ∀ x ∈ l, ∀ y ∈ l, PySem.W.alike (enc x) (enc y) = true) (hl : l.length ≤ 10000) (dp : ∀ x ∈ l, (enc x).depth ≤ 30)
    (s : ∀ l' : List α, l'.Perm l → risingB (l'.map nm) = true → S (.d (.list (l'.map enc)))) : CaS (rSortD K) [.d (.list (l.map enc))] S := ca1 fun N H al' v i Q q => by
  obtain ⟨a, us, rfl, h1, n1, d1⟩ := hid_lst i
  have hlen := dps_len d1
  rw [List.length_map] at hlen
  have z1 : (us.zip (l.map enc)).map (fun p => p.1) = us := List.map_fst_zip (by rw [List.length_map]; omega)
  have z2 : (us.zip (l.map enc)).map (fun p => p.2) = l.map enc := List.map_snd_zip (by rw [List.length_map]; omega)
  have dz := dqs_zip (K := K) d1
  refine ⟨a, us.zip (l.map enc), rfl, by rw [z1]; exact .inl (.inl h1), fun p hp => dq_dp p.2 p.1 (dp_mono (hid_ex N H) p.2 p.1 (dz p hp)), ?_, ?_, by rw [List.length_zip, List.length_map]; omega, ?_, fun qs hp hw p hpn => ?_⟩
  · rw [z2]
    intro d hd d' hd'
    obtain ⟨x, hx, rfl⟩ := List.mem_map.mp hd
    obtain ⟨y, hy, rfl⟩ := List.mem_map.mp hd'
    exact al x hx y hy
  · rw [z2]
    refine .inl fun d hd => ?_
    obtain ⟨x, hx, rfl⟩ := List.mem_map.mp hd
    exact ⟨_, _, he x hx⟩
  · intro p hp
    have : p.2 ∈ l.map enc := by rw [← z2]; exact List.mem_map_of_mem hp
    obtain ⟨x, hx, e⟩ := List.mem_map.mp this
    rw [← e]
    exact dp x hx
  · have hp2 : (qs.map fun p => p.2).Perm (l.map enc) := by
      have := hp.map fun p => p.2
      rw [z2] at this
      exact this
    obtain ⟨l', hl', e'⟩ : ∃ l' : List α, l'.Perm l ∧ l'.map enc = qs.map fun p => p.2 := by
      clear hw q s
      generalize (qs.map fun p => p.2) = ds at hp2
      clear z1 z2 dz hlen d1 i dp al hn he hl hp
      exact perm_lift hp2
    have hr : risingB (l'.map nm) = true := by
      refine rising_of_pw ?_
      have hw2 : (qs.map fun p => p.2).Pairwise fun a b => PySem.W.dataLt b a = false := List.Pairwise.map _ (fun a b h => h) hw
      rw [← e', List.pairwise_map] at hw2
      rw [List.pairwise_map]
      have hnd : l'.Pairwise fun a b => nm a ≠ nm b := by
        have : (l'.map nm).Nodup := (hl'.map nm).nodup_iff.mpr hn
        exact List.pairwise_map.mp this
      have hm : ∀ x ∈ l', x ∈ l := fun x hx => hl'.mem_iff.mp hx
      refine (hw2.and hnd).imp_of_mem fun {a b} ha hb hab => ?_
      have hab1 := hab.1
      rw [he a (hm a ha), he b (hm b hb), dl_hd (Ne.symm hab.2)] at hab1
      exact ltS_tri hab.2 hab1
    refine q _ _ _ (Ex.new hpn) (s l' hl' hr) (new_lst al' hpn ?_)
    rw [e']
    exact zip_dqs fun p hp' => dz p (hp.mem_iff.mp hp')
end
end Kl
set_option Elab.async false
set_option linter.all false
set_option maxRecDepth 100000
set_option maxHeartbeats 4000000
/-! M1: lists in the order of their names. -/
namespace Kl
open PySem PySem.Spec PyProof.Rows L2
theorem ltS_trans {a b c : Str} (h1 : ltS a b = true) (h2 : ltS b c = true) : ltS a c = true := decide_eq_true (List.lt_trans (of_decide_eq_true h1) (of_decide_eq_true h2))
theorem ltS_irr (a : Str) : ltS a a = false := decide_eq_false (List.lt_irrefl _)
theorem ltS_ne {a b : Str} (h : ltS a b = true) : a ≠ b := fun e => by rw [e, ltS_irr] at h; cases h
theorem ltS_asym {a b : Str} (h : ltS a b = true) : ltS b a = false := by
  cases q : ltS b a with
  | false => rfl
  | true => have := ltS_trans h q; rw [ltS_irr] at this; cases this
theorem pw_of_rising : ∀ {ss : List Str}, risingB ss = true → ss.Pairwise (fun a b => ltS a b = true)
  | [], _ => .nil
  | [a], _ => List.pairwise_singleton _ _
  | a :: b :: l, h => by
    rw [risingB_cons, Bool.and_eq_true] at h
    have ih := pw_of_rising h.2
    refine List.pairwise_cons.mpr ⟨fun x hx => ?_, ih⟩
    rcases List.mem_cons.mp hx with e | hx
    · rw [e]; exact h.1
    · exact ltS_trans h.1 ((List.pairwise_cons.mp ih).1 x hx)
theorem rising_iff {ss : List Str} : risingB ss = true ↔ ss.Pairwise (fun a b => ltS a b = true) := ⟨pw_of_rising, rising_of_pw⟩
section
variable {α : Type} {nm : α → Str}
theorem rise_nodup {l : List α} (h : risingB (l.map nm) = true) : (l.map nm).Nodup := (pw_of_rising h).imp fun h => ltS_ne h
/-- the order is one -/
theorem rise_eq : ∀ {l m : List α}, l.Perm m → risingB (l.map nm) = true → risingB (m.map nm) = true → l = m := by
  intro l m p h1 h2
  have a1 := List.pairwise_map.mp (pw_of_rising h1)
  have a2 := List.pairwise_map.mp (pw_of_rising h2)
  refine List.Perm.eq_of_pairwise (le := fun a b => ltS (nm a) (nm b) = true) (fun a b _ _ x y => ?_) a1 a2 p
  rw [ltS_asym x] at y
  cases y
def sortN (nm : α → Str) (l : List α) : List α := l.mergeSort fun a b => !ltS (nm b) (nm a)
theorem sortN_perm (l : List α) : (sortN nm l).Perm l := List.mergeSort_perm _ _
theorem sortN_rise {l : List α} (h : (l.map nm).Nodup) : risingB ((sortN nm l).map nm) = true := by
  refine rising_of_pw ?_
  have hw := List.pairwise_mergeSort (le := fun a b => !ltS (nm b) (nm a)) (fun a b c x y => ?_) (fun a b => ?_) l
  · have hn : (sortN nm l).Pairwise fun a b => nm a ≠ nm b := by
      have : ((sortN nm l).map nm).Nodup := ((sortN_perm l).map nm).nodup_iff.mpr h
      exact List.pairwise_map.mp this
    rw [List.pairwise_map]
    refine (List.Pairwise.and hw hn).imp fun {a b} hab => ?_
    exact ltS_tri hab.2 (by simpa using hab.1)
  · have x : ltS (nm b) (nm a) = false := by simpa using x
    have y : ltS (nm c) (nm b) = false := by simpa using y
    show (!ltS (nm c) (nm a)) = true
    cases q : ltS (nm c) (nm a) with
    | false => rfl
    | true =>
      by_cases e : nm a = nm b
      · rw [e] at q; rw [q] at y; cases y
      · have := ltS_trans q (ltS_tri e x)
        rw [this] at y
        cases y
  · cases q : ltS (nm b) (nm a) with
    | false => simp [q]
    | true => simp [ltS_asym q]
theorem sortN_eq {l m : List α} (p : m.Perm l) (h : risingB (m.map nm) = true) : m = sortN nm l :=
  rise_eq (p.trans (sortN_perm l).symm) h (sortN_rise ((p.map nm).nodup_iff.mp (rise_nodup h)))
theorem sortN_self {l : List α} (h : risingB (l.map nm) = true) : sortN nm l = l := (sortN_eq (.refl _) h).symm
theorem rise_filter {l : List α} (p : α → Bool) (h : risingB (l.map nm) = true) : risingB ((l.filter p).map nm) = true :=
  rising_of_pw ((pw_of_rising h).sublist (List.Sublist.map nm List.filter_sublist))
end
theorem rising_sorted : ∀ {ss : List Str}, PyProof.Rows.sortedS ss = true → ss.Nodup → risingB ss = true := by
  have key : ∀ (ss : List Str) (a : Str), PyProof.Rows.risingS a ss = true → (a :: ss).Nodup → risingB (a :: ss) = true := by
    intro ss
    induction ss with
    | nil => intro a _ _; rfl
    | cons b l ih =>
      intro a h hn
      have h : ((!PySem.Spec.ltCps b.cps.toList a.cps.toList) && PyProof.Rows.risingS b l) = true := h
      rw [Bool.and_eq_true, PyProof.Rows.ltCps_eq] at h
      have hb : ltS b a = false := by
        have := h.1
        cases q : ltS b a with
        | false => rfl
        | true =>
          have q : decide (b.cps.toList < a.cps.toList) = true := q
          rw [q] at this
          cases this
      obtain ⟨n1, n2⟩ := List.nodup_cons.mp hn
      rw [risingB_cons, Bool.and_eq_true]
      exact ⟨ltS_tri (fun e => n1 (by rw [e]; exact List.mem_cons_self)) hb, ih b h.2 n2⟩
  intro ss h hn
  cases ss with
  | nil => rfl
  | cons a l => exact key l a h hn
/-- looked up by name -/
theorem lk_mem {kvs : List (Str × PyData)} {k : Str} {d : PyData} (hn : (kvs.map fun p => p.1).Nodup) (h : (k, d) ∈ kvs) : lk kvs k = some d := by
  induction kvs with
  | nil => cases h
  | cons p kvs ih =>
    obtain ⟨n1, n2⟩ := List.nodup_cons.mp hn
    rcases List.mem_cons.mp h with e | h
    · subst e
      simp [lk]
    · have ne : p.1 ≠ k := fun e => n1 (List.mem_map.mpr ⟨(k, d), h, e.symm⟩)
      have := ih n2 h
      unfold lk at this ⊢
      rw [List.find?_cons_of_neg (by simpa using ne)]
      exact this
theorem lk_none {kvs : List (Str × PyData)} {k : Str} (h : k ∉ kvs.map fun p => p.1) : lk kvs k = none := by
  unfold lk
  have e : (kvs.find? fun p => decide (p.1 = k)) = none := List.find?_eq_none.mpr fun p hp => by
    have : p.1 ≠ k := fun z => h (List.mem_map.mpr ⟨p, hp, z⟩)
    simp [this]
  rw [e]
  rfl
end Kl
set_option Elab.async false
set_option linter.all false
set_option maxRecDepth 100000
set_option maxHeartbeats 4000000
/-! K8: all_names, placed, want_new, judged, with_part, with_choice, with_pack. -/
namespace Kl
open PySem PySem.Spec PyProof.Rows L2
/-- what renaming asks of a shop -/
structure Fit (t : Shp) : Prop where
  np : ∀ p ∈ t.ps, isNameS p.1 = true ∧ 0 ≤ p.2 ∧ p.2 < 10 ^ 79
  nc : ∀ c ∈ t.cs, isNameS c.1 = true ∧ c.2.length ≤ 20 ∧ c.2.Nodup ∧ ∀ z ∈ c.2, z ∈ t.nm
  nk : ∀ k ∈ t.ks, isNameS k.1 = true ∧ 0 ≤ k.2.1 ∧ k.2.1 < 10 ^ 79 ∧ k.2.2.2.length ≤ 20 ∧ (k.2.2.2.map fun e => e.1).Nodup ∧ ∀ e ∈ k.2.2.2, e.1 ∈ t.nm ∧ 0 ≤ e.2 ∧ e.2 < 10 ^ 79
  nd : t.nm.Nodup
  lp : t.ps.length ≤ 20
  lc : t.cs.length ≤ 20
  lk : t.ks.length ≤ 20
theorem Fit.ok {t : Shp} (h : Fit t) : ∀ z ∈ t.nm, isNameS z = true := fun z hz => by
  rcases List.mem_append.mp hz with hz | hz
  · rcases List.mem_append.mp hz with hz | hz
    · obtain ⟨p, hp, rfl⟩ := List.mem_map.mp hz
      exact (h.np p hp).1
    · obtain ⟨p, hp, rfl⟩ := List.mem_map.mp hz
      exact (h.nc p hp).1
  · obtain ⟨p, hp, rfl⟩ := List.mem_map.mp hz
    exact (h.nk p hp).1
theorem Fit.ln {t : Shp} (h : Fit t) : t.nm.length ≤ 60 := by
  have := h.lp; have := h.lc; have := h.lk
  simp only [Shp.nm, Shp.pn, Shp.cn, Shp.kn, List.length_append, List.length_map]; omega
section
variable {P : Program} {w : World} {K : Frg} {mg : Str → Option Value} {base : Heap} {C : Addr}
abbrev s_all_names : Stmt := topS 32
abbrev n_all_names : List Str := ["shop"]
theorem sc_all_names : FnScope n_all_names ["shop"] (defScope s_all_names) := ⟨rfl, rfl, rfl, by decide +kernel, rfl, by decide +kernel, by decide +kernel⟩
def F_all_names : List W → (W → Prop) → Prop := fun ws S => ∃ t, ws = [.d (enc t)] ∧ t.ps.length ≤ 20 ∧ t.cs.length ≤ 20 ∧ t.ks.length ≤ 20 ∧ S (.d (.list (t.nm.map PyData.str)))
theorem cl_all_names (D : Def K mg "all_names" s_all_names) (G : Gm mg) (C_first_names : Cl P w K mg base CX0 1 "first_names" [] (SpF F_first_names)) : Cl P w K mg base CX0 2 "all_names" [] (SpF F_all_names) := by
  refine D.ok sc_all_names (fun _ _ _ _ _ _ us hl => match us, hl with | [_], _ => rfl) (fun ws S ⟨_, e, _⟩ => by rw [e]; rfl) ?_
  rintro f cdv A outer s H M vs ws T Q E hr ⟨t, rfl, l1, l2, l3, hS⟩ h k
  refine ⟨_, (pss_one (ps_ret (pe_lst (StX.pa_star (pe_cl C_first_names (hr.mono (by decide)) (by rfl) pass0 (pa_cons (pe_ix (r := rIxT K) ix_tup (pv 0) pe_int (fun _ _ => rfl)) pa_nil)) (StX.pa_star (pe_cl C_first_names (hr.mono (by decide)) (by rfl) pass0 (pa_cons (pe_ix (r := rIxT K) ix_tup (pv 0) pe_int (fun _ _ => rfl)) pa_nil)) (StX.pa_star (pe_cl C_first_names (hr.mono (by decide)) (by rfl) pass0 (pa_cons (pe_ix (r := rIxT K) ix_tup (pv 0) pe_int (fun _ _ => rfl)) pa_nil)) pa_nil)))))), ?_⟩
  refine s_ret h (S := T) (d_to (d_lst (ds := t.nm.map PyData.str) ?_ ?_) hS) (fun v w H' e s i => k v H' w e s i)
  · have e : ((t.nm.map PyData.str).map W.d) = (t.pn.map PyData.str).map W.d ++ ((t.cn.map PyData.str).map W.d ++ ((t.kn.map PyData.str).map W.d ++ [])) := by
      simp only [Shp.nm, List.map_append, List.append_nil, List.append_assoc]
    rw [e]
    exact a_starL  (d_call (S := fun w => w = .d (.list (t.pn.map PyData.str))) (a_1 (d_op (d_var h.env (i := 0) (x := .d (enc t)) rfl) d_i (os_ixT (at_zero _ _) rfl))) (ff_t (fun p => p.1) (fun p => [.int p.2]) (Nat.le_trans l1 (by decide)))) (a_starL  (d_call (S := fun w => w = .d (.list (t.cn.map PyData.str))) (a_1 (d_op (d_var h.env (i := 0) (x := .d (enc t)) rfl) d_i (os_ixT (at_1 _ _ _) rfl))) (ff_t (fun p => p.1) (fun p => [.tuple (p.2.map PyData.str)]) (Nat.le_trans l2 (by decide))))
      (a_starL  (d_call (S := fun w => w = .d (.list (t.kn.map PyData.str))) (a_1 (d_op (d_var h.env (i := 0) (x := .d (enc t)) rfl) d_i (os_ixT (at_2 _ _ _ _) rfl))) (ff_t (fun p => p.1) (fun p => [.int p.2.1, .bool p.2.2.1, eB p.2.2.2]) (Nat.le_trans l3 (by decide)))) a_nil))
  · simp only [Shp.nm, Shp.pn, Shp.cn, Shp.kn, List.length_map, List.length_append]; omega
abbrev s_placed : Stmt := topS 34
abbrev n_placed : List Str := ["things", "late", "rest", "one", "called"]
theorem sc_placed : FnScope n_placed ["things", "late"] (defScope s_placed) := ⟨rfl, rfl, rfl, by decide +kernel, rfl, by decide +kernel, by decide +kernel⟩
abbrev hnm (x : Str × List PyData) : Str := x.1
def F_placed : List W → (W → Prop) → Prop := fun ws S => ∃ (xs : List (Str × List PyData)) (y : Str × List PyData), ws = [.d (.tuple (xs.map hd)), .d (hd y)] ∧ ((xs ++ [y]).map hnm).Nodup ∧ xs.length ≤ 50 ∧ S (.d (.tuple ((sortN hnm (xs ++ [y])).map hd)))
theorem cl_placed (D : Def K mg "placed" s_placed) (G : Gm mg) : Cl P w K mg base CX0 1 "placed" [] (SpF F_placed) := by
  refine D.ok sc_placed (fun _ _ _ _ _ _ us hl => match us, hl with | [_, _], _ => rfl) (fun ws S ⟨_, _, e, _⟩ => by rw [e]; rfl) ?_
  rintro f cdv A outer s H M vs ws T Q E hr ⟨xs, y, rfl, hn, hl, hS⟩ h k
  have nd := sc_placed.nd
  refine ⟨_, (pss_cons (ps_set (i := 2) nd rfl (.inr rfl) (pe_dispS (pe_dc (own := [("one", 3)]) rfl nd (pi_tup (pv 0)) (blkOk_by (own := [("one", 3)]) (by kernel_rfl)) (fun _ _ _ _ _ => (pg_name (i := 3) nd rfl (.inl rfl))) (fun _ _ _ _ _ => pts_nil) (fun _ _ _ _ _ => (pe_ix (r := rIxT K) ix_tup (pv 3) pe_int (fun _ _ => rfl))) (fun _ _ _ _ _ => (pv 3))) (pe_ix (r := rIxT K) ix_tup (pv 1) pe_int (fun _ _ => rfl)) (pv 1)))
      (pss_one (ps_ret (pe_callTy (r := rTupB K) call_tupB (by rfl) G.tuple_ (by decide +kernel) (pa_cons (pe_lc (own := [("called", 4)]) rfl nd (pi_list (pe_callB (r := rSortedS K) cr_sortedS (by rfl) G.sorted_ (by decide +kernel) (pa_cons (pe_callTy (r := rListD) (call_listD rfl) (by rfl) G.list_ (by decide +kernel) (pa_cons (pv 2) pa_nil)) pa_nil))) (blkOk_by (own := [("called", 4)]) (by kernel_rfl)) (fun _ _ _ _ _ => (pg_name (i := 4) nd rfl (.inl rfl))) (fun _ _ _ _ _ => pts_nil) (fun _ _ _ _ _ => (pe_dget (hu_of hr) (pv 2) (pv 4) (fun _ _ => rfl)))) pa_nil))))), ?_⟩
  have hn1 : (xs.map hnm).Nodup := by
    rw [List.map_append] at hn
    exact (List.nodup_append.mp hn).1
  have hny : y.1 ∉ xs.map hnm := fun m => by
    rw [List.map_append] at hn
    exact (List.nodup_append.mp hn).2.2 _ m _ (by simp) rfl
  have e1 : (xs.map fun x => (x.1, hd x)).map (fun p => p.1) = xs.map hnm := by rw [List.map_map]; rfl
  refine q_asg h (d_dispS (d_dc (l := xs) (enc := fun x => .d (hd x)) (f := fun x => x.1) (f2 := fun x => hd x) h.env ?_ (js := [3]) (by decide) (Nat.le_trans hl (by decide)) hn1 (fun _ _ => rfl) fun x hx => ⟨_, tg_name, fun σ' H' e' h' => ⟨d_op (d_var h' rfl) d_i (os_ixT (at_zero _ _) rfl), d_var h' rfl⟩⟩) (d_op (d_var h.env (i := 1) rfl) d_i (os_ixT (at_zero _ _) rfl)) (d_var h.env (i := 1) rfl) (by rw [e1]; exact hn1) (by rw [e1]; exact hny) rfl (by rw [List.length_map]; exact Nat.le_trans hl (by decide))) (fun v w H2 e2 ew iw h2 => ?_)
  · exact List.map_map (f := hd) (g := W.d) (l := xs) ▸ i_tup (d_var h.env (i := 0) rfl)
  subst ew
  have e2' : (xs.map fun x => (x.1, hd x)) ++ [(y.1, hd y)] = (xs ++ [y]).map fun x => (x.1, hd x) := by rw [List.map_append]; rfl
  have e3 : (((xs ++ [y]).map fun x => (x.1, hd x)).map fun p => p.1) = (xs ++ [y]).map hnm := by rw [List.map_map]; rfl
  have hkeys : Ev (tCB (rSortedS K) (tCons (tCB rListD (tCons (tVar 2) tNil)) tNil)) (List.set (L2.start n_placed vs) 2 (some v)) (hid M H2) fun w => w = .d (.list (((sortN hnm (xs ++ [y])).map hnm).map PyData.str)) := by
    have hl1 : Ed (tCB rListD (tCons (tVar 2) tNil)) (List.set (L2.start n_placed vs) 2 (some v)) (hid M H2) (.d (.list (((xs ++ [y]).map hnm).map PyData.str))) := d_cb (a_1 (d_var h2.env (i := 2) rfl)) (cs_listD (by rw [e2', e3]))
    refine d_cb (a_1 hl1) (cs_sortS (by simp; omega) fun ys p so => ?_)
    have hr' : risingB ys = true := rising_sorted so (p.nodup_iff.mpr hn)
    obtain ⟨l', p', rfl⟩ := perm_lift p
    rw [sortN_eq p' hr']
  refine s_ret h2 (S := T) (d_to (d_cb (a_1 (d_map (l := sortN hnm (xs ++ [y])) (enc := fun x => .d (.str x.1)) (f := fun x => hd x) h2.env ?_ (js := [4]) (by decide) (by rw [(sortN_perm _).length_eq]; simp; omega) fun x hx => ⟨_, tg_name, fun σ' H' e' h' => d_dget (d_var h' (i := 2) rfl) (d_var h' (i := 4) rfl) ?_⟩)) (cs_tupL rfl)) hS) (fun v w H' e s i => k v H' w e s i)
  · have q := i_list (K := K) hkeys
    rw [List.map_map, List.map_map] at q
    exact q
  · rw [e2']
    exact lk_mem (by rw [e3]; exact hn) (List.mem_map.mpr ⟨x, (sortN_perm _).mem_iff.mp hx, rfl⟩)
abbrev s_want_new : Stmt := topS 35
abbrev n_want_new : List Str := ["shop", "called", "word"]
theorem sc_want_new : FnScope n_want_new ["shop", "called", "word"] (defScope s_want_new) := ⟨rfl, rfl, rfl, by decide +kernel, rfl, by decide +kernel, by decide +kernel⟩
def F_want_new : List W → (W → Prop) → (Str → Prop) → Prop := fun ws S R => ∃ t z w, ws = [.d (enc t), .d (.str z), .d (.str w)] ∧ Fit t ∧ isNameS z = true ∧ z ∉ t.nm ∧ S (.d .none)
theorem cl_want_new (D : Def K mg "want_new" s_want_new) (G : Gm mg) (C_want : Cl P w K mg base (CXl P w) 3 "want" [.int (-1)] (SpX C F_want)) (C_is_name : Cl P w K mg base CX0 1 "is_name" [] (SpF F_is_name)) (C_all_names : Cl P w K mg base CX0 2 "all_names" [] (SpF F_all_names)) : Cl P w K mg base (CXl P w) 4 "want_new" [] (SpX C F_want_new) := by
  refine D.okX sc_want_new (fun _ _ _ _ _ _ us hl => match us, hl with | [_, _, _], _ => rfl) (fun ws S R ⟨_, _, _, e, _⟩ => by rw [e]; rfl) ?_
  rintro f cdv A outer s H M vs ws T R Q E hr ⟨t, z, w0, rfl, ht, hz, hn, hS⟩ h k kx
  refine ⟨_, (pss_one (ps_expr (pe_cl (E := E) C_want (hr.mono (by decide)) (by rfl) passE (pa_cons (pe_and (pe_cl C_is_name (hr.mono (by decide)) (by rfl) pass0 (pa_cons (pv 1) pa_nil)) (pe_one (pe_cmpR (r := rNotInD K) (op_notInD (r65 hr)) (pv 1) (pe_cl C_all_names (hr.mono (by decide)) (by rfl) pass0 (pa_cons (pv 0) pa_nil)) (by rfl)))) (pa_cons (pv 2) pa_nil))))), ?_⟩
  refine s_dropX (D := { nx := fun _ H' => Q .non H', rt := Q }) (dws := [.d (.int (-1))]) (S := fun _ => True) (R := fun _ => False) h (a_2 (d_is (d_and (d_call (a_1 (d_var h.env (i := 1) rfl)) ⟨.str z, rfl, fun z' ez => (PyData.str.inj ez) ▸ Nat.le_trans (name_len hz) (by decide), rfl⟩) fun _ => d_op (d_var h.env (i := 1) rfl) (d_call (S := fun w => w = .d (.list (t.nm.map PyData.str))) (a_1 (d_var h.env (i := 0) rfl)) ⟨t, rfl, ht.lp, ht.lc, ht.lk, rfl⟩) (os_notInN hz ht.ok (Nat.le_trans ht.ln (by decide)))) (y := .d (.bool true)) ?_) (d_var h.env (i := 2) rfl)) (fun H => .cons (.int _) .nil) ⟨true, w0, rfl, fun _ => trivial, fun e => by cases e⟩ (fun _ _ _ _ z => z.elim) (fun w H' e _ h' => k .non H' _ e hS .non)
  show W.d (.bool (isNameS z && !decide (z ∈ t.nm))) = _
  rw [hz, decide_eq_false hn]
  rfl
abbrev s_judged : Stmt := topS 36
abbrev n_judged : List Str := ["late", "word"]
theorem sc_judged : FnScope n_judged ["late", "word"] (defScope s_judged) := ⟨rfl, rfl, rfl, by decide +kernel, rfl, by decide +kernel, by decide +kernel⟩
def F_judged : List W → (W → Prop) → (Str → Prop) → Prop := fun ws S R => ∃ t w, ws = [.d (enc t), .d (.str w)] ∧ Pre t ∧ (shopB t = true → S (.d (enc t))) ∧ (shopB t = false → R w)
theorem cl_judged (D : Def K mg "judged" s_judged) (G : Gm mg) (C_want : Cl P w K mg base (CXl P w) 3 "want" [.int (-1)] (SpX C F_want)) (C_is_shop : Cl P w K mg base CX0 7 "is_shop" [] (SpF F_is_shop)) : Cl P w K mg base (CXl P w) 8 "judged" [] (SpX C F_judged) := by
  refine D.okX sc_judged (fun _ _ _ _ _ _ us hl => match us, hl with | [_, _], _ => rfl) (fun ws S R ⟨_, _, e, _⟩ => by rw [e]; rfl) ?_
  rintro f cdv A outer s H M vs ws T R Q E hr ⟨t, w0, rfl, ht, h1, h2⟩ h k kx
  refine ⟨_, (pss_cons (ps_expr (pe_cl (E := E) C_want (hr.mono (by decide)) (by rfl) passE (pa_cons (pe_cl C_is_shop (hr.mono (by decide)) (by rfl) pass0 (pa_cons (pv 0) pa_nil)) (pa_cons (pv 1) pa_nil))))
      (pss_one (ps_ret (pv 0)))), ?_⟩
  refine q_dropX (dws := [.d (.int (-1))]) (S := fun _ => shopB t = true) (R := fun z => z = w0 ∧ shopB t = false) h (a_2 (d_call (S := fun w => w = .d (.bool (shopB t))) (a_1 (d_var h.env (i := 0) rfl)) ⟨t, rfl, ht, rfl⟩) (d_var h.env (i := 1) rfl)) (fun H => .cons (.int _) .nil) ⟨shopB t, w0, rfl, fun e => e, fun e => ⟨rfl, e⟩⟩ (fun dx H' z e hz hx => ?_) (fun w H' e hs h' => ?_)
  · exact kx dx H' z e (by rw [hz.1]; exact h2 hz.2) hx
  · exact s_ret h' (d_var h'.env (i := 0) rfl) (fun v w H' e s i => k v H' w e (by rw [s]; exact h1 hs) i)
end
end Kl
set_option Elab.async false
set_option linter.all false
set_option maxRecDepth 100000
set_option maxHeartbeats 4000000
/-! K9: with_part, with_choice, with_pack, without. -/
namespace Kl
open PySem PySem.Spec PyProof.Rows L2
theorem sortN_map {α β : Type} {nm : α → Str} {nb : β → Str} {g : α → β} (hg : ∀ x, nb (g x) = nm x) {l : List α} (hn : (l.map nm).Nodup) : sortN nb (l.map g) = (sortN nm l).map g := by
  have e : ∀ m : List α, (m.map g).map nb = m.map nm := fun m => by rw [List.map_map]; exact List.map_congr_left fun x _ => hg x
  refine (sortN_eq ((sortN_perm l).map g) ?_).symm
  rw [e]
  exact sortN_rise hn
theorem fp_t {α : Type} {l : List α} {y : α} (nm : α → Str) (rest : α → List PyData) (hn : ((l ++ [y]).map nm).Nodup) (hl : l.length ≤ 50) :
    F_placed [.d (.tuple (l.map fun x => hd (nm x, rest x))), .d (hd (nm y, rest y))] fun w => w = .d (.tuple ((sortN nm (l ++ [y])).map fun x => hd (nm x, rest x))) := by
  have e0 : (l.map fun x => (nm x, rest x)) ++ [(nm y, rest y)] = (l ++ [y]).map fun x => (nm x, rest x) := by rw [List.map_append]; rfl
  refine ⟨l.map fun x => (nm x, rest x), (nm y, rest y), by rw [List.map_map]; rfl, ?_, by simpa using hl, ?_⟩
  · rw [e0, List.map_map]
    exact hn
  · rw [e0, sortN_map (nm := nm) (nb := hnm) (g := fun x => (nm x, rest x)) (fun _ => rfl) hn, List.map_map]
    rfl
abbrev pnm (p : Str × Int) : Str := p.1
abbrev cnm (p : Str × List Str) : Str := p.1
abbrev knm (p : Str × Int × Bool × List (Str × Int)) : Str := p.1
abbrev Shp.addP (t : Shp) (p : Str × Int) : Shp := ⟨sortN pnm (t.ps ++ [p]), t.cs, t.ks⟩
abbrev Shp.addC (t : Shp) (c : Str × List Str) : Shp := ⟨t.ps, sortN cnm (t.cs ++ [c]), t.ks⟩
abbrev Shp.addK (t : Shp) (k : Str × Int × Bool × List (Str × Int)) : Shp := ⟨t.ps, t.cs, sortN knm (t.ks ++ [k])⟩
/-- a name taken out -/
abbrev Shp.out (t : Shp) (z : Str) : Shp := ⟨t.ps.filter fun p => decide (p.1 ≠ z), t.cs.filter fun p => decide (p.1 ≠ z), t.ks.filter fun p => decide (p.1 ≠ z)⟩
theorem fit_p {t : Shp} (h : Fit t) {z : Str} (hz : z ∉ t.nm) {n : Int} : ((t.ps ++ [(z, n)]).map pnm).Nodup := by
  rw [List.map_append, List.nodup_append]
  have h1 : t.pn.Nodup := (List.nodup_append.mp (List.nodup_append.mp h.nd).1).1
  refine ⟨h1, by simp, fun a ha b hb => ?_⟩
  simp only [List.map_cons, List.map_nil, List.mem_singleton] at hb
  subst hb
  exact fun e => hz (by rw [← e]; exact List.mem_append_left _ (List.mem_append_left _ ha))
theorem fit_c {t : Shp} (h : Fit t) {z : Str} (hz : z ∉ t.nm) {o : List Str} : ((t.cs ++ [(z, o)]).map cnm).Nodup := by
  rw [List.map_append, List.nodup_append]
  have h1 : t.cn.Nodup := (List.nodup_append.mp (List.nodup_append.mp h.nd).1).2.1
  refine ⟨h1, by simp, fun a ha b hb => ?_⟩
  simp only [List.map_cons, List.map_nil, List.mem_singleton] at hb
  subst hb
  exact fun e => hz (by rw [← e]; exact List.mem_append_left _ (List.mem_append_right _ ha))
theorem fit_k {t : Shp} (h : Fit t) {z : Str} (hz : z ∉ t.nm) {o : Int × Bool × List (Str × Int)} : ((t.ks ++ [(z, o)]).map knm).Nodup := by
  rw [List.map_append, List.nodup_append]
  have h1 : t.kn.Nodup := (List.nodup_append.mp h.nd).2.1
  refine ⟨h1, by simp, fun a ha b hb => ?_⟩
  simp only [List.map_cons, List.map_nil, List.mem_singleton] at hb
  subst hb
  exact fun e => hz (by rw [← e]; exact List.mem_append_right _ ha)
section
variable {P : Program} {w : World} {K : Frg} {mg : Str → Option Value} {base : Heap} {C : Addr}
abbrev s_with_part : Stmt := topS 37
abbrev n_with_part : List Str := ["shop", "part", "stock"]
theorem sc_with_part : FnScope n_with_part ["shop", "part", "stock"] (defScope s_with_part) := ⟨rfl, rfl, rfl, by decide +kernel, rfl, by decide +kernel, by decide +kernel⟩
def F_with_part : List W → (W → Prop) → (Str → Prop) → Prop := fun ws S R => ∃ t z n, ws = [.d (enc t), .d (.str z), .d (.int n)] ∧ Fit t ∧ isNameS z = true ∧ z ∉ t.nm ∧ 0 ≤ n ∧ S (.d (enc (t.addP (z, n))))
theorem cl_with_part (D : Def K mg "with_part" s_with_part) (G : Gm mg) (C_want_new : Cl P w K mg base (CXl P w) 4 "want_new" [] (SpX C F_want_new)) (C_want : Cl P w K mg base (CXl P w) 3 "want" [.int (-1)] (SpX C F_want)) (C_is_number : Cl P w K mg base CX0 2 "is_number" [] (SpF F_is_number)) (C_placed : Cl P w K mg base CX0 1 "placed" [] (SpF F_placed)) : Cl P w K mg base (CXl P w) 5 "with_part" [] (SpX C F_with_part) := by
  refine D.okX sc_with_part (fun _ _ _ _ _ _ us hl => match us, hl with | [_, _, _], _ => rfl) (fun ws S R ⟨_, _, _, e, _⟩ => by rw [e]; rfl) ?_
  rintro f cdv A outer s H M vs ws T R Q E hr ⟨t, z, n, rfl, ht, hz, hn, h0, hS⟩ h k kx
  refine ⟨_, (pss_cons (ps_expr (pe_cl (E := E) C_want_new (hr.mono (by decide)) (by rfl) passE (pa_cons (pv 0) (pa_cons (pv 1) (pa_cons pe_str pa_nil)))))
      (pss_cons (ps_expr (pe_cl (E := E) C_want (hr.mono (by decide)) (by rfl) passE (pa_cons (pe_cl C_is_number (hr.mono (by decide)) (by rfl) pass0 (pa_cons (pv 2) pa_nil)) (pa_cons pe_str pa_nil))))
      (pss_one (ps_ret (pe_tupB (pa_cons (pe_cl C_placed (hr.mono (by decide)) (by rfl) pass0 (pa_cons (pe_ix (r := rIxT K) ix_tup (pv 0) pe_int (fun _ _ => rfl)) (pa_cons (pe_tupB (pa_cons (pv 1) (pa_cons (pv 2) pa_nil))) pa_nil))) (pa_cons (pe_ix (r := rIxT K) ix_tup (pv 0) pe_int (fun _ _ => rfl)) (pa_cons (pe_ix (r := rIxT K) ix_tup (pv 0) pe_int (fun _ _ => rfl)) pa_nil)))))))), ?_⟩
  refine q_dropX (dws := []) (S := fun _ => True) (R := fun _ => False) h (a_3 (d_var h.env (i := 0) rfl) (d_var h.env (i := 1) rfl) d_s) (fun H => .nil) ⟨t, z, _, rfl, ht, hz, hn, trivial⟩ (fun _ _ _ _ z => z.elim) (fun w H1 e1 _ h1 => ?_)
  refine q_dropX (dws := [.d (.int (-1))]) (S := fun _ => True) (R := fun _ => False) h1 (a_2 (d_is (d_call (S := fun w => w = .d (.bool (isNumD (.int n)))) (a_1 (d_var h1.env (i := 2) rfl)) ⟨_, rfl, rfl⟩) (y := .d (.bool true)) (by show W.d (.bool (decide (0 ≤ n))) = _; rw [decide_eq_true h0])) d_s) (fun H => .cons (.int _) .nil) ⟨true, _, rfl, fun _ => trivial, fun e => by cases e⟩ (fun _ _ _ _ z => z.elim) (fun w H2 e2 _ h2 => ?_)
  refine s_ret h2 (S := T) (d_to (d_tup (ds := [.tuple ((sortN pnm (t.ps ++ [(z, n)])).map eP), .tuple (t.cs.map eC), .tuple (t.ks.map eK)]) (a_3 (d_call (a_2 (d_op (d_var h2.env (i := 0) rfl) d_i (os_ixT (at_zero _ _) rfl)) (d_tup (ds := [.str z, .int n]) (a_2 (d_var h2.env (i := 1) rfl) (d_var h2.env (i := 2) rfl)) (by simp))) (fp_t (y := (z, n)) pnm (fun p => [.int p.2]) (fit_p ht hn) (Nat.le_trans ht.lp (by decide)))) (d_op (d_var h2.env (i := 0) rfl) d_i (os_ixT (at_1 _ _ _) rfl)) (d_op (d_var h2.env (i := 0) rfl) d_i (os_ixT (at_2 _ _ _ _) rfl))) (by simp)) hS) (fun v w H' e s i => k v H' w e s i)
abbrev s_with_choice : Stmt := topS 38
abbrev n_with_choice : List Str := ["shop", "choice", "options"]
theorem sc_with_choice : FnScope n_with_choice ["shop", "choice", "options"] (defScope s_with_choice) := ⟨rfl, rfl, rfl, by decide +kernel, rfl, by decide +kernel, by decide +kernel⟩
def F_with_choice : List W → (W → Prop) → (Str → Prop) → Prop := fun ws S R => ∃ t z o, ws = [.d (enc t), .d (.str z), .d (.tuple (o.map PyData.str))] ∧ Fit t ∧ isNameS z = true ∧ z ∉ t.nm ∧ areOptsB o t.pn = true ∧ o.length ≤ 20 ∧ (∀ y ∈ o, isNameS y = true) ∧ S (.d (enc (t.addC (z, o))))
theorem cl_with_choice (D : Def K mg "with_choice" s_with_choice) (G : Gm mg) (C_want_new : Cl P w K mg base (CXl P w) 4 "want_new" [] (SpX C F_want_new)) (C_want : Cl P w K mg base (CXl P w) 3 "want" [.int (-1)] (SpX C F_want)) (C_are_options : Cl P w K mg base CX0 3 "are_options" [] (SpF F_are_options)) (C_first_names : Cl P w K mg base CX0 1 "first_names" [] (SpF F_first_names)) (C_placed : Cl P w K mg base CX0 1 "placed" [] (SpF F_placed)) : Cl P w K mg base (CXl P w) 5 "with_choice" [] (SpX C F_with_choice) := by
  refine D.okX sc_with_choice (fun _ _ _ _ _ _ us hl => match us, hl with | [_, _, _], _ => rfl) (fun ws S R ⟨_, _, _, e, _⟩ => by rw [e]; rfl) ?_
  rintro f cdv A outer s H M vs ws T R Q E hr ⟨t, z, o, rfl, ht, hz, hn, h0, hl, ho, hS⟩ h k kx
  refine ⟨_, (pss_cons (ps_expr (pe_cl (E := E) C_want_new (hr.mono (by decide)) (by rfl) passE (pa_cons (pv 0) (pa_cons (pv 1) (pa_cons pe_str pa_nil)))))
      (pss_cons (ps_expr (pe_cl (E := E) C_want (hr.mono (by decide)) (by rfl) passE (pa_cons (pe_cl C_are_options (hr.mono (by decide)) (by rfl) pass0 (pa_cons (pv 2) (pa_cons (pe_cl C_first_names (hr.mono (by decide)) (by rfl) pass0 (pa_cons (pe_ix (r := rIxT K) ix_tup (pv 0) pe_int (fun _ _ => rfl)) pa_nil)) pa_nil))) (pa_cons pe_str pa_nil))))
      (pss_one (ps_ret (pe_tupB (pa_cons (pe_ix (r := rIxT K) ix_tup (pv 0) pe_int (fun _ _ => rfl)) (pa_cons (pe_cl C_placed (hr.mono (by decide)) (by rfl) pass0 (pa_cons (pe_ix (r := rIxT K) ix_tup (pv 0) pe_int (fun _ _ => rfl)) (pa_cons (pe_tupB (pa_cons (pv 1) (pa_cons (pv 2) pa_nil))) pa_nil))) (pa_cons (pe_ix (r := rIxT K) ix_tup (pv 0) pe_int (fun _ _ => rfl)) pa_nil)))))))), ?_⟩
  refine q_dropX (dws := []) (S := fun _ => True) (R := fun _ => False) h (a_3 (d_var h.env (i := 0) rfl) (d_var h.env (i := 1) rfl) d_s) (fun H => .nil) ⟨t, z, _, rfl, ht, hz, hn, trivial⟩ (fun _ _ _ _ z => z.elim) (fun w H1 e1 _ h1 => ?_)
  have nk : ∀ z ∈ t.pn, Nice (.str z) ∧ z.length ≤ 100 := fun z hz => by
    have q3 := ht.ok z (List.mem_append_left _ (List.mem_append_left _ hz))
    exact ⟨name_nice q3, Nat.le_trans (name_len q3) (by decide)⟩
  refine q_dropX (dws := [.d (.int (-1))]) (S := fun _ => True) (R := fun _ => False) h1 (a_2 (d_is (d_call (S := fun w => w = .d (.bool (areOptsB o t.pn))) (a_2 (d_var h1.env (i := 2) rfl) (d_call (S := fun w => w = .d (.list (t.pn.map PyData.str))) (a_1 (d_op (d_var h1.env (i := 0) (x := .d (enc t)) rfl) d_i (os_ixT (at_zero _ _) rfl))) (ff_t (fun p => p.1) (fun p => [.int p.2]) (Nat.le_trans ht.lp (by decide)))))
    ⟨o, t.pn, rfl, fun y hy => ⟨name_nice (ho y hy), Nat.le_trans (name_len (ho y hy)) (by decide)⟩, nk, Nat.le_trans hl (by decide), by rw [Shp.pn, List.length_map]; exact Nat.le_trans ht.lp (by decide), rfl⟩) (y := .d (.bool true)) (by rw [h0])) d_s) (fun H => .cons (.int _) .nil) ⟨true, _, rfl, fun _ => trivial, fun e => by cases e⟩ (fun _ _ _ _ z => z.elim) (fun w H2 e2 _ h2 => ?_)
  refine s_ret h2 (S := T) (d_to (d_tup (ds := [.tuple (t.ps.map eP), .tuple ((sortN cnm (t.cs ++ [(z, o)])).map eC), .tuple (t.ks.map eK)]) (a_3 (d_op (d_var h2.env (i := 0) rfl) d_i (os_ixT (at_zero _ _) rfl)) (d_call (a_2 (d_op (d_var h2.env (i := 0) rfl) d_i (os_ixT (at_1 _ _ _) rfl)) (d_tup (ds := [.str z, .tuple (o.map PyData.str)]) (a_2 (d_var h2.env (i := 1) rfl) (d_var h2.env (i := 2) rfl)) (by simp))) (fp_t (y := (z, o)) cnm (fun p => [.tuple (p.2.map PyData.str)]) (fit_c ht hn) (Nat.le_trans ht.lc (by decide)))) (d_op (d_var h2.env (i := 0) rfl) d_i (os_ixT (at_2 _ _ _ _) rfl))) (by simp)) hS) (fun v w H' e s i => k v H' w e s i)
abbrev s_with_pack : Stmt := topS 39
abbrev n_with_pack : List Str := ["shop", "pack", "made", "apart", "sheet"]
theorem sc_with_pack : FnScope n_with_pack ["shop", "pack", "made", "apart", "sheet"] (defScope s_with_pack) := ⟨rfl, rfl, rfl, by decide +kernel, rfl, by decide +kernel, by decide +kernel⟩
def F_with_pack : List W → (W → Prop) → (Str → Prop) → Prop := fun ws S R => ∃ t z n b sh, ws = [.d (enc t), .d (.str z), .d (.int n), .d (.bool b), .d (eB sh)] ∧ Fit t ∧ isNameS z = true ∧ z ∉ t.nm ∧ 0 ≤ n ∧ Pre (t.addK (z, n, b, sh)) ∧ shopB (t.addK (z, n, b, sh)) = true ∧ S (.d (enc (t.addK (z, n, b, sh))))
theorem a_4 {σ : L2.St} {H : Hp} {ta tb tc td : TE} {x y z u : W} (ha : Ed ta σ H x) (hb : Ed tb σ H y) (hc : Ed tc σ H z) (hd : Ed td σ H u) : Ea (tCons ta (tCons tb (tCons tc (tCons td tNil)))) σ H [x, y, z, u] := a_cons ha (a_3 hb hc hd)
theorem cl_with_pack (D : Def K mg "with_pack" s_with_pack) (G : Gm mg) (C_want_new : Cl P w K mg base (CXl P w) 4 "want_new" [] (SpX C F_want_new)) (C_want : Cl P w K mg base (CXl P w) 3 "want" [.int (-1)] (SpX C F_want)) (C_is_number : Cl P w K mg base CX0 2 "is_number" [] (SpF F_is_number)) (C_placed : Cl P w K mg base CX0 1 "placed" [] (SpF F_placed)) (C_judged : Cl P w K mg base (CXl P w) 8 "judged" [] (SpX C F_judged)) : Cl P w K mg base (CXl P w) 9 "with_pack" [] (SpX C F_with_pack) := by
  refine D.okX sc_with_pack (fun _ _ _ _ _ _ us hl => match us, hl with | [_, _, _, _, _], _ => rfl) (fun ws S R ⟨_, _, _, _, _, e, _⟩ => by rw [e]; rfl) ?_
  rintro f cdv A outer s H M vs ws T R Q E hr ⟨t, z, n, b, sh, rfl, ht, hz, hn, h0, hp, hsb, hS⟩ h k kx
  refine ⟨_, (pss_cons (ps_expr (pe_cl (E := E) C_want_new (hr.mono (by decide)) (by rfl) passE (pa_cons (pv 0) (pa_cons (pv 1) (pa_cons pe_str pa_nil)))))
      (pss_cons (ps_expr (pe_cl (E := E) C_want (hr.mono (by decide)) (by rfl) passE (pa_cons (pe_cl C_is_number (hr.mono (by decide)) (by rfl) pass0 (pa_cons (pv 2) pa_nil)) (pa_cons pe_str pa_nil))))
      (pss_cons (ps_expr (pe_cl (E := E) C_want (hr.mono (by decide)) (by rfl) passE (pa_cons (pe_callB (r := rIsi K) call_isi (by rfl) G.isinstance_ (by decide +kernel) (pa_cons (pv 3) (pa_cons (p_ty "bool" (by rfl) G.bool_ (by decide +kernel)) pa_nil))) (pa_cons pe_str pa_nil))))
      (pss_one (ps_ret (pe_cl (E := E) C_judged (hr.mono (by decide)) (by rfl) passE (pa_cons (pe_tupB (pa_cons (pe_ix (r := rIxT K) ix_tup (pv 0) pe_int (fun _ _ => rfl)) (pa_cons (pe_ix (r := rIxT K) ix_tup (pv 0) pe_int (fun _ _ => rfl)) (pa_cons (pe_cl C_placed (hr.mono (by decide)) (by rfl) pass0 (pa_cons (pe_ix (r := rIxT K) ix_tup (pv 0) pe_int (fun _ _ => rfl)) (pa_cons (pe_tupB (pa_cons (pv 1) (pa_cons (pv 2) (pa_cons (pv 3) (pa_cons (pv 4) pa_nil))))) pa_nil))) pa_nil)))) (pa_cons pe_str pa_nil)))))))), ?_⟩
  refine q_dropX (dws := []) (S := fun _ => True) (R := fun _ => False) h (a_3 (d_var h.env (i := 0) rfl) (d_var h.env (i := 1) rfl) d_s) (fun H => .nil) ⟨t, z, _, rfl, ht, hz, hn, trivial⟩ (fun _ _ _ _ z => z.elim) (fun w H1 e1 _ h1 => ?_)
  refine q_dropX (dws := [.d (.int (-1))]) (S := fun _ => True) (R := fun _ => False) h1 (a_2 (d_is (d_call (S := fun w => w = .d (.bool (isNumD (.int n)))) (a_1 (d_var h1.env (i := 2) rfl)) ⟨_, rfl, rfl⟩) (y := .d (.bool true)) (by show W.d (.bool (decide (0 ≤ n))) = _; rw [decide_eq_true h0])) d_s) (fun H => .cons (.int _) .nil) ⟨true, _, rfl, fun _ => trivial, fun e => by cases e⟩ (fun _ _ _ _ z => z.elim) (fun w H2 e2 _ h2 => ?_)
  refine q_dropX (dws := [.d (.int (-1))]) (S := fun _ => True) (R := fun _ => False) h2 (a_2 (d_cb (S := fun w => w = .d (.bool true)) (a_2 (d_var h2.env (i := 3) rfl) d_v) (cs_isiBool rfl)) d_s) (fun H => .cons (.int _) .nil) ⟨true, _, rfl, fun _ => trivial, fun e => by cases e⟩ (fun _ _ _ _ z => z.elim) (fun w H3 e3 _ h3 => ?_)
  refine s_retX (dws := []) (S := T) (R := fun _ => False) h3 (a_2 (d_tup (ds := [.tuple (t.ps.map eP), .tuple (t.cs.map eC), .tuple ((sortN knm (t.ks ++ [(z, n, b, sh)])).map eK)]) (a_3 (d_op (d_var h3.env (i := 0) rfl) d_i (os_ixT (at_zero _ _) rfl)) (d_op (d_var h3.env (i := 0) rfl) d_i (os_ixT (at_1 _ _ _) rfl)) (d_call (a_2 (d_op (d_var h3.env (i := 0) rfl) d_i (os_ixT (at_2 _ _ _ _) rfl)) (d_tup (ds := [.str z, .int n, .bool b, eB sh]) (a_4 (d_var h3.env (i := 1) rfl) (d_var h3.env (i := 2) rfl) (d_var h3.env (i := 3) rfl) (d_var h3.env (i := 4) rfl)) (by simp))) (fp_t (y := (z, n, b, sh)) knm (fun p => [.int p.2.1, .bool p.2.2.1, eB p.2.2.2]) (fit_k ht hn) (Nat.le_trans ht.lk (by decide))))) (by simp)) d_s) (fun H => .nil) ⟨t.addK (z, n, b, sh), _, rfl, hp, fun _ => hS, fun e => by rw [hsb] at e; cases e⟩ (fun _ _ _ _ z => z.elim) (fun v H' w e s i => k v H' w e s i)
end
end Kl
set_option Elab.async false
set_option linter.all false
set_option maxRecDepth 100000
set_option maxHeartbeats 4000000
/-! KX: without. -/
namespace Kl
open PySem PySem.Spec PyProof.Rows L2
theorem filt_mem {α : Type} {nm : α → Str} {l : List α} {z : Str} (p : α → Bool) (h : z ∈ (l.filter p).map nm) : z ∈ l.map nm := by
  obtain ⟨x, hx, rfl⟩ := List.mem_map.mp h
  exact List.mem_map_of_mem (List.mem_filter.mp hx).1
theorem pre_out {t : Shp} (h : Pre t) (z : Str) : Pre (t.out z) where
  np := fun p hp => h.np p (List.mem_filter.mp hp).1
  nc := fun c hc => h.nc c (List.mem_filter.mp hc).1
  nk := fun k hk => by
    obtain ⟨a1, a2, a3, a4, a5, a6, a7⟩ := h.nk k (List.mem_filter.mp hk).1
    refine ⟨a1, a2, a3, a4, a5, a6, fun e he => ?_⟩
    obtain ⟨b1, b2, b3, b4, b5⟩ := a7 e he
    exact ⟨b1, b2, b3, b4, fun x m => b5 x (filt_mem _ m)⟩
  rp := rise_filter (nm := pnm) _ h.rp
  rc := rise_filter (nm := cnm) _ h.rc
  rk := rise_filter (nm := knm) _ h.rk
  dc := fun y hy m => h.dc y (filt_mem (nm := cnm) _ hy) (filt_mem (nm := pnm) _ m)
  dk := fun y hy => ⟨fun m => (h.dk y (filt_mem (nm := knm) _ hy)).1 (filt_mem (nm := pnm) _ m), fun m => (h.dk y (filt_mem (nm := knm) _ hy)).2 (filt_mem (nm := cnm) _ m)⟩
  lp := Nat.le_trans (List.length_filter_le _ _) h.lp
  lc := Nat.le_trans (List.length_filter_le _ _) h.lc
  lk := Nat.le_trans (List.length_filter_le _ _) h.lk
  rank := by
    obtain ⟨r, hr⟩ := h.rank
    exact ⟨r, fun k hk => hr k (List.mem_filter.mp hk).1⟩
theorem pi_tupK {X : Cx} {tg e : Expr} {te : TE} {K' : Frg} (hK : X.K = K') (h : PE X e te) : PI X tg e (iTup K' te) := by
  rw [← hK]
  exact pi_tup h
theorem pi_listK {X : Cx} {tg e : Expr} {te : TE} {K' : Frg} (hK : X.K = K') (h : PE X e te) : PI X tg e (iList K' te) := by
  rw [← hK]
  exact pi_list h
/-- is the data a name of the shop -/
def inB (t : Shp) : PyData → Bool
  | .str z => decide (z ∈ t.nm)
  | _ => false
/-- without's answer -/
def outP (t : Shp) (d : PyData) (S : W → Prop) (R : Str → Prop) : Prop := (inB t d = false → R "name") ∧ ∀ z, d = .str z → z ∈ t.nm → (shopB (t.out z) = true → S (.d (enc (t.out z)))) ∧ (shopB (t.out z) = false → R "name")
section
variable {P : Program} {w : World} {K : Frg} {mg : Str → Option Value} {base : Heap} {C : Addr}
theorem Pre.ok {t : Shp} (h : Pre t) : ∀ z ∈ t.nm, isNameS z = true := fun z hz => by
  rcases List.mem_append.mp hz with hz | hz
  · rcases List.mem_append.mp hz with hz | hz
    · exact h.pn_ok z hz
    · exact h.cn_ok z hz
  · exact h.kn_ok z hz
theorem Pre.ln {t : Shp} (h : Pre t) : t.nm.length ≤ 60 := by
  have := h.lp; have := h.lc; have := h.lk
  simp only [Shp.nm, Shp.pn, Shp.cn, Shp.kn, List.length_append, List.length_map]; omega
abbrev s_without : Stmt := topS 40
abbrev n_without : List Str := ["shop", "name", "late", "one", "things"]
theorem sc_without : FnScope n_without ["shop", "name"] (defScope s_without) := ⟨rfl, rfl, rfl, by decide +kernel, rfl, by decide +kernel, by decide +kernel⟩
def F_without : List W → (W → Prop) → (Str → Prop) → Prop := fun ws S R => ∃ t d, ws = [.d (enc t), .d d] ∧ Pre t ∧ Nice d ∧ outP t d S R
/-- [one for one in things if one[0] != name] -/
theorem in_filter {σ : L2.St} {H : Hp} {ρ : List (Option W)} {K : Frg} {α : Type} {l : List α} {nm : α → Str} {rest : α → List PyData} {z : Str} {i j k : Nat} {own : List Nat} (h : Env σ H ρ) (hi : ρ[i]? = some (some (.d (.tuple (l.map fun x => hd (nm x, rest x)))))) (hl : l.length ≤ 50) (hn : ∀ x ∈ l, isNameS (nm x) = true) (hz : isNameS z = true)
    (hk : ∀ x, (setr (wip ρ [j]) [j] [.d (hd (nm x, rest x))])[j]? = some (some (.d (hd (nm x, rest x)))) ∧ (setr (wip ρ [j]) [j] [.d (hd (nm x, rest x))])[k]? = some (some (.d (.str z)))) :
    Ed (tLc (iTup K (tVar i)) (gName j) (tTest (tOp (rNeD K) (tOp (rIxT K) (tVar j) (tC (.int 0))) (tVar k))) (tVar j) [j]) σ H (.d (.list ((l.filter fun x => decide (nm x ≠ z)).map fun x => hd (nm x, rest x)))) := by
  refine d_filter (l := l) (enc := fun x => .d (hd (nm x, rest x))) (f := fun x => hd (nm x, rest x)) h ?_ (js := [j]) (by simp) (Nat.le_trans hl (by decide)) fun x hx => ⟨_, tg_name, fun σ' H' e' h' => ⟨?_, fun _ => d_var h' (hk x).1⟩⟩
  · exact List.map_map (f := fun x => hd (nm x, rest x)) (g := W.d) (l := l) ▸ i_tup (d_var h hi)
  · refine b_is (b_test (d_op (d_op (d_var h' (hk x).1) d_i (os_ixT (at_zero _ _) rfl)) (d_var h' (hk x).2) (os_neD (name_nice (hn x hx)).shaped (name_nice hz).shaped rfl))) ?_
    rw [eqv_str]
    by_cases e : nm x = z
    · rw [decide_eq_true e, decide_eq_false (fun q => q e)]; rfl
    · rw [decide_eq_false e, decide_eq_true e]; rfl
theorem cl_without (D : Def K mg "without" s_without) (G : Gm mg) (C_want : Cl P w K mg base (CXl P w) 3 "want" [.int (-1)] (SpX C F_want)) (C_all_names : Cl P w K mg base CX0 2 "all_names" [] (SpF F_all_names)) (C_judged : Cl P w K mg base (CXl P w) 8 "judged" [] (SpX C F_judged)) : Cl P w K mg base (CXl P w) 9 "without" [] (SpX C F_without) := by
  refine D.okX sc_without (fun _ _ _ _ _ _ us hl => match us, hl with | [_, _], _ => rfl) (fun ws S R ⟨_, _, e, _⟩ => by rw [e]; rfl) ?_
  rintro f cdv A outer s H M vs ws T R Q E hr ⟨t, d, rfl, ht, hd, hS⟩ h k kx
  have nd := sc_without.nd
  refine ⟨_, (pss_cons (ps_expr (pe_cl (E := E) C_want (hr.mono (by decide)) (by rfl) passE (pa_cons (pe_and (pe_callB (r := rIsi K) call_isi (by rfl) G.isinstance_ (by decide +kernel) (pa_cons (pv 1) (pa_cons (p_ty "str" (by rfl) G.str_ (by decide +kernel)) pa_nil))) (pe_one (pe_cmpR (r := rInD K) (op_inD (r65 hr)) (pv 1) (pe_cl C_all_names (hr.mono (by decide)) (by rfl) pass0 (pa_cons (pv 0) pa_nil)) (by rfl)))) (pa_cons pe_str pa_nil))))
      (pss_cons (ps_set (i := 2) nd rfl (.inl rfl) (pe_callTy (r := rTupB K) call_tupB (by rfl) G.tuple_ (by decide +kernel) (pa_cons (pe_lc (own := [("things", 4)]) rfl nd (pi_tup (pv 0)) (blkOk_by (own := [("things", 4)]) (by kernel_rfl)) (fun _ _ _ _ _ => (pg_name (i := 4) nd rfl (.inl rfl))) (fun _ _ _ _ _ => pts_nil) (fun _ _ _ _ _ => (pe_callTy (r := rTupB K) call_tupB (by rfl) G.tuple_ (by decide +kernel) (pa_cons (pe_lc (own := [("one", 3)]) rfl nd (pi_tupK (K' := K) rfl (pv 4)) (blkOk_by (own := [("one", 3)]) (by kernel_rfl)) (fun _ _ _ _ _ => (pg_name (i := 3) nd rfl (.inl rfl))) (fun _ _ _ _ _ => pts_one (pt_cmpR (r := rNeD K) (op_neD hr.units) (pe_ix (r := rIxT K) ix_tup (pv 3) pe_int (fun _ _ => rfl)) (pv 1) (nomark _))) (fun _ _ _ _ _ => (pv 3))) pa_nil)))) pa_nil)))
      (pss_one (ps_ret (pe_cl (E := E) C_judged (hr.mono (by decide)) (by rfl) passE (pa_cons (pv 2) (pa_cons pe_str pa_nil))))))), ?_⟩
  refine q_dropX (dws := [.d (.int (-1))]) (S := fun _ => inB t d = true) (R := fun z => z = ("name" : Str) ∧ inB t d = false) h (a_2 (x := .d (.bool (inB t d))) ?_ d_s) (fun H => .cons (.int _) .nil) ⟨inB t d, _, rfl, fun e => e, fun e => ⟨rfl, e⟩⟩ (fun dx H' z e hz hx => ?_) (fun w H1 e1 hin h1 => ?_)
  · refine d_is (d_and (d_cb (a_2 (d_var h.env (i := 1) rfl) d_v) (cs_isiStr rfl)) (b := inB t d) fun e => ?_) ?_
    · obtain ⟨z, rfl⟩ := str_of e
      refine d_op (d_var h.env (i := 1) rfl) (d_call (S := fun w => w = .d (.list (t.nm.map PyData.str))) (a_1 (d_var h.env (i := 0) rfl)) ⟨t, rfl, ht.lp, ht.lc, ht.lk, rfl⟩) (os_inD hd.shaped (nice_strs (fun y hy => ⟨name_nice (ht.ok y hy), Nat.le_trans (name_len (ht.ok y hy)) (by decide)⟩) (Nat.le_trans ht.ln (by decide))).shaped (by rw [any_str]; rfl))
    · cases d <;> rfl
  · exact kx dx H' z e (by rw [hz.1]; exact hS.1 hz.2) hx
  · obtain ⟨z, rfl, hz⟩ : ∃ z, d = .str z ∧ z ∈ t.nm := by
      cases d with
      | str z => exact ⟨z, rfl, of_decide_eq_true hin⟩
      | _ => cases hin
    have hzn := ht.ok z hz
    obtain ⟨s1, s2⟩ := hS.2 z rfl hz
    have hl3 : Ed (tLc (iTup K (tVar 0)) (gName 4) tYes (tCB (rTupB K) (tCons (tLc (iTup K (tVar 4)) (gName 3) (tTest (tOp (rNeD K) (tOp (rIxT K) (tVar 3) (tC (.int 0))) (tVar 1))) (tVar 3) [3]) tNil)) [4]) (L2.start n_without vs) (hid M H1) (.d (.list [.tuple ((t.out z).ps.map eP), .tuple ((t.out z).cs.map eC), .tuple ((t.out z).ks.map eK)])) := by
      refine d_is (d_map (l := [0, 1, 2]) (enc := fun i => W.d (([.tuple (t.ps.map eP), .tuple (t.cs.map eC), .tuple (t.ks.map eK)] : List PyData).getD i .none)) (f := fun i => ([.tuple ((t.out z).ps.map eP), .tuple ((t.out z).cs.map eC), .tuple ((t.out z).ks.map eK)] : List PyData).getD i .none) h1.env (i_tup (d_var h1.env (i := 0) rfl)) (js := [4]) (by decide) (by simp) fun i hi => ⟨_, tg_name, fun σ' H' e' h' => ?_⟩) rfl
      simp only [List.mem_cons, List.not_mem_nil, or_false] at hi
      rcases hi with e | e | e <;> subst e
      · exact d_cb (a_1 (in_filter (l := t.ps) (nm := fun p => p.1) (rest := fun p => [.int p.2]) (z := z) (k := 1) (own := []) h' rfl (Nat.le_trans ht.lp (by decide)) (fun x hx => (ht.np x hx).1) hzn (fun x => ⟨rfl, rfl⟩))) (cs_tupL rfl)
      · exact d_cb (a_1 (in_filter (l := t.cs) (nm := fun p => p.1) (rest := fun p => [.tuple (p.2.map PyData.str)]) (z := z) (k := 1) (own := []) h' rfl (Nat.le_trans ht.lc (by decide)) (fun x hx => (ht.nc x hx).1) hzn (fun x => ⟨rfl, rfl⟩))) (cs_tupL rfl)
      · exact d_cb (a_1 (in_filter (l := t.ks) (nm := fun p => p.1) (rest := fun p => [.int p.2.1, .bool p.2.2.1, eB p.2.2.2]) (z := z) (k := 1) (own := []) h' rfl (Nat.le_trans ht.lk (by decide)) (fun x hx => (ht.nk x hx).1) hzn (fun x => ⟨rfl, rfl⟩))) (cs_tupL rfl)
    refine q_asg h1 (d_cb (S := fun w => w = .d (enc (t.out z))) (a_1 hl3) (cs_tupL rfl)) (fun v w H2 e2 ew iw h2 => ?_)
    subst ew
    refine s_retX (dws := []) (S := T) (R := fun z => z = ("name" : Str) ∧ R z) h2 (a_2 (d_var h2.env (i := 2) rfl) d_s) (fun H => .nil) ⟨t.out z, _, rfl, pre_out ht z, s1, fun e => ⟨rfl, s2 e⟩⟩ (fun dx H' z e hz hx => kx dx H' z e hz.2 hx) (fun v H' w e s i => k v H' w e s i)
end
end Kl
set_option Elab.async false
set_option linter.all false
set_option maxRecDepth 100000
set_option maxHeartbeats 4000000
/-! K10: is_table. -/
namespace Kl
open PySem PySem.Spec PyProof.Rows L2
theorem i_listM {α : Type} {K : Frg} {σ : L2.St} {H : Hp} {te : TE} {l : List α} {f : α → PyData} {enc : α → W} (h : Ed te σ H (.d (.list (l.map f)))) (he : ∀ x, enc x = W.d (f x) := by intro _; rfl) : EvI (iList K te) σ H fun ws => ws = l.map enc := by
  have e : l.map enc = (l.map f).map W.d := by rw [List.map_map]; exact List.map_congr_left fun x _ => he x
  rw [e]
  exact i_list h
theorem i_tupM {α : Type} {K : Frg} {σ : L2.St} {H : Hp} {te : TE} {l : List α} {f : α → PyData} {enc : α → W} (h : Ed te σ H (.d (.tuple (l.map f)))) (he : ∀ x, enc x = W.d (f x) := by intro _; rfl) : EvI (iTup K te) σ H fun ws => ws = l.map enc := by
  have e : l.map enc = (l.map f).map W.d := by rw [List.map_map]; exact List.map_congr_left fun x _ => he x
  rw [e]
  exact i_tup h
theorem niceAll_mem : ∀ {ds : List PyData} {x : PyData}, niceAll ds = true → x ∈ ds → niceB x = true ∧ wt x ≤ wtAll ds ∧ x.depth ≤ PyData.depthAll ds
  | d :: ds, x, h, hx => by
    have h : (niceB d && niceAll ds) = true := h
    rw [Bool.and_eq_true] at h
    have e1 : wtAll (d :: ds) = wt d + 2 + wtAll ds := rfl
    have e2 : PyData.depthAll (d :: ds) = max d.depth (PyData.depthAll ds) := by simp only [PyData.depthAll]
    rcases List.mem_cons.mp hx with rfl | hx
    · exact ⟨h.1, by omega, by omega⟩
    · obtain ⟨a, b, c⟩ := niceAll_mem h.2 hx
      exact ⟨a, by omega, by omega⟩
theorem Nice.tmem {ds : List PyData} {x : PyData} (h : Nice (.tuple ds)) (hx : x ∈ ds) : Nice x := by
  obtain ⟨a, b, c⟩ := niceAll_mem (show niceAll ds = true from h.ok) hx
  have e1 : Kl.wt (.tuple ds) = 6 + wtAll ds := rfl
  have e2 : (PyData.tuple ds).depth = PyData.depthAll ds + 1 := by simp only [PyData.depth]
  have := h.wt; have := h.depth
  exact ⟨a, by omega, by omega⟩
theorem Nice.strLen {z : Str} (h : Nice (.str z)) : z.length ≤ 100 := by
  have q : (PySem.PyData.strOk z && decide (z.length ≤ 100)) = true := h.ok
  rw [Bool.and_eq_true] at q
  exact of_decide_eq_true q.2
/-- a row of a table -/
def rowB : PyData → Bool
  | .tuple [a, b] => isNameD a && isNameD b
  | _ => false
theorem name_of {d : PyData} (h : isNameD d = true) : ∃ z, d = .str z ∧ isNameS z = true := by
  cases d with
  | str z => exact ⟨z, rfl, h⟩
  | _ => cases h
theorem row_of {d : PyData} (h : rowB d = true) : ∃ p : Str × Str, d = eS p ∧ isNameS p.1 = true ∧ isNameS p.2 = true := by
  unfold rowB at h
  split at h
  · rw [Bool.and_eq_true] at h
    obtain ⟨a, rfl, ha⟩ := name_of h.1
    obtain ⟨b, rfl, hb⟩ := name_of h.2
    exact ⟨(a, b), rfl, ha, hb⟩
  · cases h
theorem rows_of : ∀ {ds : List PyData}, ds.all rowB = true → ∃ l : List (Str × Str), ds = l.map eS ∧ ∀ p ∈ l, isNameS p.1 = true ∧ isNameS p.2 = true
  | [], _ => ⟨[], rfl, fun _ h => by cases h⟩
  | d :: ds, h => by
    rw [List.all_cons, Bool.and_eq_true] at h
    obtain ⟨p, rfl, hp⟩ := row_of h.1
    obtain ⟨l, rfl, hl⟩ := rows_of h.2
    exact ⟨p :: l, rfl, fun q hq => by
      rcases List.mem_cons.mp hq with rfl | hq
      · exact hp
      · exact hl q hq⟩
theorem rows_all {l : List (Str × Str)} (h : ∀ p ∈ l, isNameS p.1 = true ∧ isNameS p.2 = true) : (l.map eS).all rowB = true := by
  rw [List.all_eq_true]
  intro d hd
  obtain ⟨p, hp, rfl⟩ := List.mem_map.mp hd
  show (isNameS p.1 && isNameS p.2) = true
  rw [(h p hp).1, (h p hp).2]; rfl
/-- the table that a thing is -/
structure IsTbl (t : Shp) (d : PyData) (l : List (Str × Str)) : Prop where
  e : d = .tuple (l.map eS)
  nm : ∀ p ∈ l, isNameS p.1 = true ∧ isNameS p.2 = true
  rise : risingB (l.map fun p => p.1) = true
  own : ∀ p ∈ l, p.1 ∈ t.nm
theorem eS_inj {p q : Str × Str} (h : eS p = eS q) : p = q := by
  injection h with h
  injection h with h1 h2
  injection h2 with h2 _
  exact Prod.ext (PyData.str.inj h1) (PyData.str.inj h2)
theorem map_inj {α β : Type} {f : α → β} (hf : ∀ a b, f a = f b → a = b) : ∀ {l m : List α}, l.map f = m.map f → l = m
  | [], [], _ => rfl
  | [], _ :: _, h => by cases h
  | _ :: _, [], h => by cases h
  | a :: l, b :: m, h => by
    rw [List.map_cons, List.map_cons] at h
    injection h with h1 h2
    rw [hf _ _ h1, map_inj hf h2]
def tblB (t : Shp) : PyData → Bool
  | .tuple ds => ds.all rowB && ((ds.map fun d => match d with | .tuple (.str z :: _) => z | _ => ("" : Str)) |> fun ss => risingB ss && ss.all fun z => decide (z ∈ t.nm))
  | _ => false
theorem tblB_of {t : Shp} {d : PyData} (h : tblB t d = true) : ∃ l, IsTbl t d l := by
  cases d with
  | tuple ds =>
    have h : (ds.all rowB && _) = true := h
    rw [Bool.and_eq_true] at h
    obtain ⟨l, rfl, hl⟩ := rows_of h.1
    have h2 := h.2
    rw [List.map_map] at h2
    have h2 : (risingB (l.map fun p => p.1) && (l.map fun p => p.1).all fun z => decide (z ∈ t.nm)) = true := h2
    rw [Bool.and_eq_true] at h2
    exact ⟨l, rfl, hl, h2.1, fun p hp => of_decide_eq_true (List.all_eq_true.mp h2.2 _ (List.mem_map_of_mem hp))⟩
  | _ => cases h
theorem tblB_t {t : Shp} {l : List (Str × Str)} (h : ∀ p ∈ l, isNameS p.1 = true ∧ isNameS p.2 = true) : tblB t (.tuple (l.map eS)) = (risingB (l.map fun p => p.1) && (l.map fun p => p.1).all fun z => decide (z ∈ t.nm)) := by
  show ((l.map eS).all rowB && _) = _
  rw [rows_all h, List.map_map]
  rfl
theorem tblB_iff {t : Shp} {d : PyData} {l : List (Str × Str)} (h : IsTbl t d l) : tblB t d = true := by
  rw [h.e, tblB_t h.nm, h.rise, Bool.true_and, List.all_eq_true]
  intro z hz
  obtain ⟨p, hp, rfl⟩ := List.mem_map.mp hz
  exact decide_eq_true (h.own p hp)
section
variable {P : Program} {w : World} {K : Frg} {mg : Str → Option Value} {base : Heap} {C : Addr}
abbrev s_is_table : Stmt := topS 41
abbrev n_is_table : List Str := ["shop", "thing", "one"]
theorem sc_is_table : FnScope n_is_table ["shop", "thing"] (defScope s_is_table) := ⟨rfl, rfl, rfl, by decide +kernel, rfl, by decide +kernel, by decide +kernel⟩
def F_is_table : List W → (W → Prop) → Prop := fun ws S => ∃ t d, ws = [.d (enc t), .d d] ∧ Pre t ∧ Nice d ∧ (∀ ds, d = .tuple ds → ds.length ≤ 100) ∧ S (.d (.bool (tblB t d)))
theorem cl_is_table (D : Def K mg "is_table" s_is_table) (G : Gm mg) (C_is_tuple_of : Cl P w K mg base CX0 1 "is_tuple_of" [] (SpF F_is_tuple_of)) (C_is_name : Cl P w K mg base CX0 1 "is_name" [] (SpF F_is_name)) (C_is_names : Cl P w K mg base CX0 2 "is_names" [] (SpF F_is_names)) (C_first_names : Cl P w K mg base CX0 1 "first_names" [] (SpF F_first_names)) (C_all_names : Cl P w K mg base CX0 2 "all_names" [] (SpF F_all_names)) : Cl P w K mg base CX0 3 "is_table" [] (SpF F_is_table) := by
  refine D.ok sc_is_table (fun _ _ _ _ _ _ us hl => match us, hl with | [_, _], _ => rfl) (fun ws S ⟨_, _, e, _⟩ => by rw [e]; rfl) ?_
  rintro f cdv A outer s H M vs ws T Q E hr ⟨t, d, rfl, ht, hd, hl, hS⟩ h k
  have nd := sc_is_table.nd
  refine ⟨_, (pss_cons (ps_if (pt_not (pt_val (pe_callB (r := rIsi K) call_isi (by rfl) G.isinstance_ (by decide +kernel) (pa_cons (pv 1) (pa_cons (p_ty "tuple" (by rfl) G.tuple_ (by decide +kernel)) pa_nil))))) (pss_one (ps_ret pe_bl)) pss_nil)
      (pss_cons (ps_if (pt_not (pt_val (pe_callB (r := rAll K) (cr_all rfl) (by rfl) G.all_ (by decide +kernel) (pa_cons (pe_lc (own := [("one", 2)]) rfl nd (pi_tup (pv 1)) (blkOk_by (own := [("one", 2)]) (by kernel_rfl)) (fun _ _ _ _ _ => (pg_name (i := 2) nd rfl (.inl rfl))) (fun _ _ _ _ _ => pts_nil) (fun _ _ _ _ _ => (pe_and (pe_cl C_is_tuple_of (hr.mono (by decide)) (by rfl) pass0 (pa_cons (pv 2) (pa_cons pe_int pa_nil))) (pe_and (pe_cl C_is_name (hr.mono (by decide)) (by rfl) pass0 (pa_cons (pe_ix (r := rIxT K) ix_tup (pv 2) pe_int (fun _ _ => rfl)) pa_nil)) (pe_one (pe_cl C_is_name (hr.mono (by decide)) (by rfl) pass0 (pa_cons (pe_ix (r := rIxT K) ix_tup (pv 2) pe_int (fun _ _ => rfl)) pa_nil))))))) pa_nil)))) (pss_one (ps_ret pe_bl)) pss_nil)
      (pss_one (ps_ret (pe_and (pe_cl C_is_names (hr.mono (by decide)) (by rfl) pass0 (pa_cons (pe_callTy (r := rTupB K) call_tupB (by rfl) G.tuple_ (by decide +kernel) (pa_cons (pe_cl C_first_names (hr.mono (by decide)) (by rfl) pass0 (pa_cons (pv 1) pa_nil)) pa_nil)) pa_nil)) (pe_one (pe_callB (r := rAll K) (cr_all rfl) (by rfl) G.all_ (by decide +kernel) (pa_cons (pe_lc (own := [("one", 2)]) rfl nd (pi_list (pe_cl C_first_names (hr.mono (by decide)) (by rfl) pass0 (pa_cons (pv 1) pa_nil))) (blkOk_by (own := [("one", 2)]) (by kernel_rfl)) (fun _ _ _ _ _ => (pg_name (i := 2) nd rfl (.inl rfl))) (fun _ _ _ _ _ => pts_nil) (fun _ _ _ _ _ => (pe_cmpR (r := rInD K) (op_inD (r65 hr)) (pv 2) (pe_cl C_all_names (hr.mono (by decide)) (by rfl) pass0 (pa_cons (pv 0) pa_nil)) (by rfl)))) pa_nil)))))))), ?_⟩
  refine q_when h (b_not (b_B (d_cb (a_2 (d_var h.env (i := 1) rfl) d_v) (cs_isiTup rfl)))) (fun e H1 e1 h1 => ?_) (fun e H1 e1 h1 => ?_)
  · have e0 : dTup d = false := by
      have e : true = !dTup d := e
      cases q : dTup d with
      | true => rw [q] at e; cases e
      | false => rfl
    refine s_ret h1 (S := T) (d_to d_b ?_) (fun v w H' e s i => k v H' w e s i)
    have : tblB t d = false := by cases d <;> first | rfl | cases e0
    rw [← this]; exact hS
  obtain ⟨ds, rfl⟩ : ∃ ds, d = .tuple ds := isTup_shape (by
    have e : false = !dTup d := e
    cases q : dTup d with
    | true => rfl
    | false => rw [q] at e; cases e)
  have hdl := hl ds rfl
  refine q_when h1 (b_not (b_B (d_cb (a_1 (d_is (d_map (l := ds) (enc := W.d) (f := fun x => PyData.bool (rowB x)) h1.env (i_tup (d_var h1.env (i := 1) rfl)) (js := [2]) (by decide) (Nat.le_trans hdl (by decide)) fun x hx => ⟨_, tg_name, fun σ' H' e' h' => ?_⟩) rfl)) (cs_allp rfl)))) (fun e H2 e2 h2 => ?_) (fun e H2 e2 h2 => ?_)
  · have hnx := hd.tmem hx
    have hq : rowB x = (isTupD 2 x && rowB x) := by
      cases x with
      | tuple zs => match zs with
        | [] => rfl
        | [_] => rfl
        | [_, _] => rfl
        | _ :: _ :: _ :: _ => exact (Bool.and_false _).symm
      | _ => rfl
    refine d_is (d_and (d_call (S := fun w => w = .d (.bool (isTupD 2 x))) (a_2 (d_var h' (i := 2) rfl) d_i) ⟨x, 2, rfl, rfl⟩) (b := rowB x) fun e3 => ?_) (by rw [← hq])
    obtain ⟨a, b, rfl⟩ : ∃ a b, x = .tuple [a, b] := by
      cases x with
      | tuple zs =>
        have e3 : decide ((zs.length : Int) = 2) = true := e3
        have e4 := of_decide_eq_true e3
        match zs, e4 with
        | [a, b], _ => exact ⟨a, b, rfl⟩
        | [], z => cases z
        | [_], z => cases z
        | _ :: _ :: _ :: _, z => simp only [List.length_cons] at z; omega
      | _ => cases e3
    have ha : Nice a := hnx.tmem (by simp)
    have hb : Nice b := hnx.tmem (by simp)
    exact d_and (d_call (S := fun w => w = .d (.bool (isNameD a))) (a_1 (d_op (d_var h' (i := 2) rfl) d_i (os_ixT (at_zero _ _) rfl))) ⟨a, rfl, fun z ez => Nat.le_trans (Nice.strLen (ez ▸ ha)) (by decide), rfl⟩) fun _ => d_call (a_1 (d_op (d_var h' (i := 2) rfl) d_i (os_ixT (at_1 _ _ _) rfl))) ⟨b, rfl, fun z ez => Nat.le_trans (Nice.strLen (ez ▸ hb)) (by decide), rfl⟩
  · have e0 : ds.all rowB = false := by
      have e : true = !ds.all rowB := e
      cases q : ds.all rowB with
      | true => rw [q] at e; cases e
      | false => rfl
    refine s_ret h2 (S := T) (d_to d_b ?_) (fun v w H' e s i => k v H' w e s i)
    have : tblB t (.tuple ds) = false := by
      show (ds.all rowB && _) = false
      rw [e0]; rfl
    rw [← this]; exact hS
  · have e0 : ds.all rowB = true := by
      have e : false = !ds.all rowB := e
      cases q : ds.all rowB with
      | true => rfl
      | false => rw [q] at e; cases e
    obtain ⟨l, rfl, hln⟩ := rows_of e0
    rw [List.length_map] at hdl
    have hff : F_first_names [.d (.tuple (l.map eS))] fun w => w = .d (.list ((l.map fun p => p.1).map PyData.str)) := ff_t (fun p : Str × Str => p.1) (fun p => [.str p.2]) (Nat.le_trans hdl (by decide))
    have hok : ∀ z ∈ l.map fun p => p.1, isNameS z = true := fun z hz => by
      obtain ⟨p, hp, rfl⟩ := List.mem_map.mp hz
      exact (hln p hp).1
    refine s_ret h2 (S := T) (d_to (d_is (d_and (d_call (S := fun w => w = .d (.bool (isNamesB (l.map fun p => p.1)))) (a_1 (d_cb (a_1 (d_call (a_1 (d_var h2.env (i := 1) rfl)) hff)) (cs_tupL rfl))) ⟨_, rfl, fun z hz => Nat.le_trans (name_len (hok z hz)) (by decide), by rw [List.length_map]; exact Nat.le_trans hdl (by decide), rfl⟩) fun _ => d_cb (a_1 (d_is (d_map (l := l.map fun p => p.1) (enc := fun z => .d (.str z)) (f := fun z => PyData.bool (decide (z ∈ t.nm))) h2.env ?_ (js := [2]) (by decide) (by rw [List.length_map]; exact Nat.le_trans hdl (by decide)) fun z hz => ⟨_, tg_name, fun σ' H' e' h' => d_op (d_var h' (i := 2) rfl) (d_call (S := fun w => w = .d (.list (t.nm.map PyData.str))) (a_1 (d_var h' (i := 0) rfl)) ⟨t, rfl, ht.lp, ht.lc, ht.lk, rfl⟩) (os_inN (hok z hz) ht.ok (Nat.le_trans ht.ln (by decide)))⟩) rfl)) (cs_allp rfl)) (y := .d (.bool (tblB t (.tuple (l.map eS))))) ?_) hS) (fun v w H' e s i => k v H' w e s i)
    · exact i_listM (f := PyData.str) (d_call (a_1 (d_var h2.env (i := 1) (x := .d (.tuple (l.map eS))) rfl)) hff)
    · rw [tblB_t hln]
      have : isNamesB (l.map fun p => p.1) = risingB (l.map fun p => p.1) := by
        unfold isNamesB
        rw [List.all_eq_true.mpr hok]; rfl
      rw [this]
end
end Kl
set_option Elab.async false
set_option linter.all false
set_option maxRecDepth 100000
set_option maxHeartbeats 4000000
/-! S1: sets of keys: comprehension, set(list), len. -/
namespace Kl
open PySem PySem.Spec PyProof.Rows L2 PpSet
theorem setK_fresh {h : Heap} (P : Program) (w : World) : (h.push { cls := .type "set", dict := none, data := .set #[] 0 (.fresh 0 0 (!w.params.followText "set-order")) }).SetOf (mixKind P w) h.objs.size (fun _ => false) 0 :=
  ⟨_, #[], 0, _, Heap.get?_push_size _ rfl, ⟨rfl, rfl, rfl⟩, rfl, (fun _ z => by simp at z), (fun _ => by simp), (by decide), (by rfl), rfl⟩
section
variable {X : Cx}
theorem addK_ok {pins : List (Addr × Obj)} {σ : L2.St} {H : Hp} {s : Shared} {E : Value → Shared → Prop} {D : Addr} {S : Key → Bool} {n : Nat} {c : Key} {u : Value} {Q : Value → Shared → Prop} (I : Inv X pins σ H s) (r : RelV (kV c) u) (hD : H D = some (SetK X.prog X.w D S n)) (room : n + 1 < scanBound)
    (h : ∀ s', Inv X pins σ (upd H D (SetK X.prog X.w D (fun j => S j || decide (j = c)) (if S c = true then n else n + 1))) s' → Q .none s') : wpAny (model X.prog X.w) X.A (call (.builtin "set.add") [.ref D, u]) Q E s := by
  refine call_set_add (kV_is r) (key_scan r) (setK_get I hD) room fun g' sb nw => ?_
  have hx : ∃ z, g'.get? D = some z := by
    have ⟨o, _, _, _, ho, _⟩ := nw
    exact ⟨o, ho⟩
  exact h _ (I.write (e := D) (t' := s.toks + 1) (by rw [hD]; trivial) (.inl rfl) (fun b z hb hz => (sb.2 b hb).trans hz) hx (setK_new nw))
/-- a set comprehension whose items are keys -/
def tSk (P : Program) (w : World) (wi : TI) (g : TG) (tt : TT) (te : TE) (vs : List Nat) : TE := fun σ H Q => wi σ H fun J hp1 => ∀ D, hp1 D = none → ∃ W : Nat → Nat → Hp → Prop, (∃ m, W 0 m (upd hp1 D (SetK P w D (fun _ => false) 0))) ∧ ∀ i m H, W i m H →
  (J.stop i H ∧ Q (.ref D) H) ∨ (J.go i H ∧ ∃ Nx : Hp → Prop, (∀ H', Nx H' → ∃ m', m' < m ∧ W (i + 1) m' H') ∧ ∀ x H', J.yld i H x H' → g x (wipe σ vs) H' fun σ2 hp2 => wipe σ2 vs = wipe σ vs ∧ tt σ2 hp2 fun b hp3 =>
    if b = true then te σ2 hp3 fun y hp4 => ∃ (c : Key) (S : Key → Bool) (n : Nat), y = kV c ∧ hp4 D = some (SetK P w D S n) ∧ n + 1 < scanBound ∧ Nx (upd hp4 D (SetK P w D (fun j => S j || decide (j = c)) (if S c = true then n else n + 1))) else Nx hp3)
theorem sk_core {pins : List (Addr × Obj)} {s : Shared} {σ : L2.St} {H : Hp} {Q : VK} {elt tg iter : Expr} {ifs : List Expr} {sco : Scope} {own : List (PySem.Str × Nat)} {pos pos' : Pos} {wi : TI} {g : TG} {tt : TT} {te : TE} {us0 : Option (Value → Sem Unit)} {Qz : Value → Shared → Prop}
    (hc : X.calm = true) (hN : X.N.Nodup) (I : Inv X pins σ H s) (hi : PI X tg iter wi) (ok : BlkOk X.N X.env.scope sco own)
    (hg : ∀ (s : Shared) (H : Hp) (C : Addr) (cl : List (PySem.Str × Addr)) (fs : List Addr), PG (X.blk s H sco (compEnvC sco cl C X.env) fs) tg g) (ht : ∀ (s : Shared) (H : Hp) (C : Addr) (cl : List (PySem.Str × Addr)) (fs : List Addr), PTs (X.blk s H sco (compEnvC sco cl C X.env) fs) ifs tt)
    (he : ∀ (s : Shared) (H : Hp) (C : Addr) (cl : List (PySem.Str × Addr)) (fs : List Addr), PE (X.blk s H sco (compEnvC sco cl C X.env) fs) elt te) (hs : ∀ x, foldedSetIterable iter X.env x = pure x)
    (h : tSk X.prog X.w wi g tt te (own.map (·.2)) σ H Q)
    (hRR : ∀ D C s' m H', Inv X pins σ H' s' → Q (.ref D) H' → s'.heap.Ns C m → FpOk X pins H' C → compPost (model X.prog X.w) X.A X.xe us0 Qz (.ref D) C (.ok .next) s') :
    wpAny (model X.prog X.w) X.A (comprehension (.SetComp elt [⟨tg, iter, ifs, 0⟩] sco pos) sco X.env pos' (newSet (.type "set")) false (eval iter X.env) us0) Qz X.xe s := by
  have hfr : ∀ y ∈ sco.names, y.2 = .free → ∃ c, X.env.cells.lookup y.1 = some c := fun y hy e => by
    rcases ok.free y hy e with k | k
    · exact I.ok.has _ (.inl k)
    · exact I.ok.has _ (.inr k)
  refine wpAny_comprehension_free (use := us0) rfl hs (closure_ok hfr) ok.kind (fun y hy e => by rw [ok.uniq y hy, e])
    (thn (hi.run pins s σ H _ I h) fun xv sh1 hx => thn hx fun itv sh2 h2 => ?_)
  obtain ⟨it, fs, tn, J, hp2, e, iv2, T, sq2, f2, q⟩ := h2
  subst e
  refine newSet_ok (newEnv_comp ?_)
  generalize hD : sh2.heap.objs.size = D
  have hDn : hp2 D = none := iv2.hok.fresh (Nat.le_of_eq hD)
  obtain ⟨W, ⟨m0, w0⟩, turn⟩ := q D hDn
  
  generalize hs3 : ({ sh2 with heap := sh2.heap.push { cls := .type "set", dict := none, data := .set #[] 0 (.fresh 0 0 (!X.w.params.followText "set-order")) } } : Shared) = sh3
  have iv3 : Inv X pins σ (upd hp2 D (SetK X.prog X.w D (fun _ => false) 0)) sh3 := by
    rw [← hs3]
    refine iv2.laid (t' := sh2.toks) (fun b o e => Heap.get?_push_of_some _ e) (Nat.le_of_eq hD) ?_
    rw [← hD]
    exact setK_new (setK_fresh X.prog X.w)
  have h3 : sh3.heap = sh2.heap.push { cls := .type "set", dict := none, data := .set #[] 0 (.fresh 0 0 (!X.w.params.followText "set-order")) } := by rw [← hs3]
  have sz : ∀ b ∈ fs, b < sh2.heap.objs.size := fun b hb => by
    obtain ⟨o, e, _⟩ := T.obj _ _ sq2 b hb
    exact Heap.lt_size e
  have f3 : ∀ b ∈ fs, FpOk X pins (upd hp2 D (SetK X.prog X.w D (fun _ => false) 0)) b ∧ b < sh3.heap.objs.size := fun b hb => by
    have hlt := sz b hb
    refine ⟨⟨?_, (f2 b hb).2⟩, by rw [h3, Heap.size_push]; exact Nat.lt_succ_of_lt hlt⟩
    rw [upd_ne (by rw [← hD]; exact Nat.ne_of_lt hlt)]
    exact (f2 b hb).1
  have sq3 : tn 0 sh3.heap := T.keep _ _ _ sq2 fun b _ o e => by rw [h3]; exact Heap.get?_push_of_some _ e
  have iv4 := block_start iv3 ok hN f3
  have pg := hg sh3 (upd hp2 D (SetK X.prog X.w D (fun _ => false) 0)) sh3.heap.objs.size (cellsFrom (sh3.heap.objs.size + 1) sco.names (cloFrom X.env.cells sco.names [])) fs
  have pt := ht sh3 (upd hp2 D (SetK X.prog X.w D (fun _ => false) 0)) sh3.heap.objs.size (cellsFrom (sh3.heap.objs.size + 1) sco.names (cloFrom X.env.cells sco.names [])) fs
  have pe := he sh3 (upd hp2 D (SetK X.prog X.w D (fun _ => false) 0)) sh3.heap.objs.size (cellsFrom (sh3.heap.objs.size + 1) sco.names (cloFrom X.env.cells sco.names [])) fs
  show codeAny _ _ (.compStart (.SetComp elt [⟨tg, iter, ifs, 0⟩] sco pos) 0 (.ref it) (.ref D) (compEnvC sco (cellsFrom (sh3.heap.objs.size + 1) sco.names (cloFrom X.env.cells sco.names [])) sh3.heap.objs.size X.env)) (compPost (model X.prog X.w) X.A X.xe us0 Qz (.ref D) sh3.heap.objs.size) { sh3 with heap := pushCells (sh3.heap.push { cls := .type "dict", data := .dict #[] }) sco.names }
  have nfp : ∀ b ∈ fs, (upd hp2 D (SetK X.prog X.w D (fun _ => false) 0)) b = none := fun b hb => (f3 b hb).1.1
  generalize hce : compEnvC sco (cellsFrom (sh3.heap.objs.size + 1) sco.names (cloFrom X.env.cells sco.names [])) sh3.heap.objs.size X.env = ce at iv4 pg pt pe ⊢
  have cL : ce.locals = sh3.heap.objs.size := by subst hce; rfl
  generalize hH3 : upd hp2 D (SetK X.prog X.w D (fun _ => false) 0) = hp3 at iv3 iv4 pg pt pe w0 nfp f3
  generalize hs4 : ({ sh3 with heap := pushCells (sh3.heap.push { cls := .type "dict", data := .dict #[] }) sco.names } : Shared) = sh4 at iv4 ⊢
  have sq4 : tn 0 sh4.heap := T.keep _ _ _ sq3 fun b _ o e => by rw [← hs4]; exact pushCells_keeps _ _ _ _ (Heap.get?_push_of_some _ e)
  have stat : ∀ {σ' : L2.St} {H' : Hp} {s' : Shared}, Inv (X.blk sh3 hp3 sco ce fs) [] σ' H' s' → (∀ b ∈ fs, H' b = none) → ∀ b ∈ fs, FpOk (X.blk sh3 hp3 sco ce fs) [] H' b := fun {σ' H' s'} I' hn b hb =>
    ⟨hn b hb, (I'.ok.exf b hb).1, I'.ok.exfs b hb, .inl hb, fun x c e => (I'.ok.exf b hb).2 x c e, fun p hp => absurd (show p ∈ ([] : List (Addr × Obj)) ++ [] from hp) (by simp)⟩
  have loop : codeAny (model X.prog X.w) X.A (.compLoop (.SetComp elt [⟨tg, iter, ifs, 0⟩] sco pos) 0 (.ref it) (.ref D) ce) (compPost (model X.prog X.w) X.A X.xe us0 Qz (.ref D) sh3.heap.objs.size) sh4 := by
    refine compLoopS_any (fun n s' => ∃ i H', Inv (X.blk sh3 hp3 sco ce fs) [] (wipe σ (own.map (·.2))) H' s' ∧ tn i s'.heap ∧ (∀ b ∈ fs, H' b = none) ∧ W i n H') ?_ m0 ⟨0, hp3, iv4, sq4, nfp, w0⟩
    rintro n sh5 ⟨i, hp5, iv5, sq5, n5, w5⟩
    rcases turn i n hp5 w5 with ⟨stop, qq⟩ | ⟨go, Nx, hNx, step⟩
    · have td := T.done (X.blk sh3 hp3 sco ce fs) rfl rfl rfl hc i [] sh5 _ hp5 (fun _ _ => False) iv5 (stat iv5 n5) sq5 stop
      refine thnF td fun r sh6 ⟨hr, iv6⟩ => ?_
      subst hr
      
      have iv7 : Inv X pins σ hp5 sh6 := iv3.call' (ch := fs) iv6.os iv6.base iv6.hok iv6.bare fun b hb => ⟨(f3 b hb).1.2.2.2.1, (f3 b hb).1.2.1, (f3 b hb).1.2.2.2.2.1, (f3 b hb).1.2.2.2.2.2⟩
      have nC : hp5 sh3.heap.objs.size = none := by
        have z : hp5 ce.locals = none := iv6.free
        rw [cL] at z
        exact z
      obtain ⟨m, hn, _⟩ := iv6.loc
      have hn : sh6.heap.Ns ce.locals m := hn
      rw [cL] at hn
      exact hRR D sh3.heap.objs.size sh6 m hp5 iv7 qq hn (iv3.fpOk (Nat.le_refl _) nC)
    · have ti := T.item (X.blk sh3 hp3 sco ce fs) rfl rfl rfl hc i [] sh5 _ hp5 (fun _ _ => False) iv5 (stat iv5 n5) sq5 go
      refine thnF ti fun r sh6 ⟨u, hr, h6⟩ => ?_
      subst hr
      refine thnF h6 fun _ sh7 ⟨x, hp7, iv7, r7, y7, sq7, n7⟩ => ?_
      have iv7' := iv7.pinned (stat iv7 n7) (T.obj _ _ sq7)
      refine thnF (pg.run _ sh7 _ hp7 x u _ iv7' r7 (step x hp7 y7)) fun _ sh8 ⟨σ8, hp8, iv8, hw8, q8⟩ => ?_
      refine thnF (pt.run _ sh8 σ8 hp8 _ iv8 q8) fun b sh9 ⟨hp9, iv9, q9⟩ => ?_
      
      have fin : ∀ {s' : Shared} {H' : Hp}, Inv (X.blk sh3 hp3 sco ce fs) ([] ++ pinsAt fs sh7.heap) σ8 H' s' → Nx H' → ∃ m, m < n ∧ ∃ i H', Inv (X.blk sh3 hp3 sco ce fs) [] (wipe σ (own.map (·.2))) H' s' ∧ tn i s'.heap ∧ (∀ b ∈ fs, H' b = none) ∧ W i m H' := fun {s' H'} I' nx => by
        obtain ⟨m', hm, w'⟩ := hNx H' nx
        have pin' : ∀ b ∈ fs, ∀ o, sh7.heap.get? b = some o → s'.heap.get? b = some o ∧ H' b = none := fun b hb o e =>
          let z := I'.pin (b, o) (List.mem_append_right _ (List.mem_append_right _ (mem_pinsAt hb e)))
          ⟨z.1, z.2.1⟩
        have hl : (wipe σ (own.map (·.2))).length = σ8.length := by rw [← hw8, wipe_length]
        refine ⟨m', hm, i + 1, H', (I'.unpinned (pins := [])).weak hl (fun j v e => ?_), T.keep _ _ _ sq7 fun b hb o e => (pin' b hb o e).1, fun b hb => ?_, w'⟩
        · rw [← hw8] at e
          exact (wipe_some e).1
        · obtain ⟨o, e, _⟩ := T.obj _ _ sq7 b hb
          exact (pin' b hb o e).2
      cases b with
      | false =>
        simp only [Bool.false_eq_true, if_false] at q9 ⊢
        exact fin iv9 q9
      | true =>
        simp only [if_true] at q9 ⊢
        refine thnF (pe.run _ sh9 σ8 hp9 _ iv9 q9) fun z sh10 ⟨yv, hp10, iv10, r10, cb, S0, n0, ey, hD10, hz10, nx⟩ => ?_
        subst ey
        exact addK_ok (X := X.blk sh3 hp3 sco ce fs) iv10 r10 hD10 hz10 fun sh11 iv11 => fin iv11 nx
  exact codeAny_compStart_set loop (T.self X.A 0 _ _ _ sq4 loop)
/-- .. as an expression -/
theorem pe_sk {elt tg iter : Expr} {ifs : List Expr} {sco : Scope} {own : List (PySem.Str × Nat)} {pos : Pos} {wi : TI} {g : TG} {tt : TT} {te : TE} (hc : X.calm = true) (hN : X.N.Nodup) (hi : PI X tg iter wi) (ok : BlkOk X.N X.env.scope sco own)
    (hg : ∀ (s : Shared) (H : Hp) (C : Addr) (cl : List (PySem.Str × Addr)) (fs : List Addr), PG (X.blk s H sco (compEnvC sco cl C X.env) fs) tg g) (ht : ∀ (s : Shared) (H : Hp) (C : Addr) (cl : List (PySem.Str × Addr)) (fs : List Addr), PTs (X.blk s H sco (compEnvC sco cl C X.env) fs) ifs tt)
    (he : ∀ (s : Shared) (H : Hp) (C : Addr) (cl : List (PySem.Str × Addr)) (fs : List Addr), PE (X.blk s H sco (compEnvC sco cl C X.env) fs) elt te) (hs : ∀ x, foldedSetIterable iter X.env x = pure x := by intro _; rfl) :
    PE X (.SetComp elt [⟨tg, iter, ifs, 0⟩] sco pos) (tSk X.prog X.w wi g tt te (own.map (·.2))) := by
  refine ⟨fun pins s σ H Q I h => ?_⟩
  rw [eval_SetComp]
  refine sk_core hc hN I hi ok hg ht he hs h fun D C s' m H' I' q hn f => ⟨m, hn, fun h'' sb => ?_⟩
  obtain ⟨f0, f1, f2, f3, f4, f5⟩ := f
  exact ⟨.ref D, H', I'.turned (t' := s'.toks) (fun b o hb e => (sb.2 b hb).trans e) f0 f1 f3 f4 f5, rfl, q⟩
end
end Kl
set_option Elab.async false
set_option linter.all false
set_option maxRecDepth 100000
set_option maxHeartbeats 4000000
/-! S2: len of a set of keys, set(a list of keys). -/
namespace Kl
open PySem PySem.Spec PyProof.Rows L2 PpSet
/-- the keys met, each once -/
def once {κ : Type} [DecidableEq κ] (l : List κ) : List κ := l.foldl (fun acc k => if k ∈ acc then acc else acc ++ [k]) []
section
variable {κ : Type} [DecidableEq κ]
def memB (l : List κ) (k : κ) : Bool := decide (k ∈ l)
theorem memB_snoc (l : List κ) (k j : κ) : memB (l ++ [k]) j = (memB l j || decide (j = k)) := by
  unfold memB
  by_cases h1 : j ∈ l
  · rw [decide_eq_true h1, decide_eq_true (List.mem_append_left _ h1)]; rfl
  · by_cases h2 : j = k
    · rw [decide_eq_true h2, decide_eq_true (List.mem_append_right _ (by rw [h2]; simp)), Bool.or_true]
    · rw [decide_eq_false h1, decide_eq_false h2, decide_eq_false (fun z => (List.mem_append.mp z).elim h1 fun z => h2 (List.mem_singleton.mp z))]; rfl
theorem once_snoc (l : List κ) (k : κ) : once (l ++ [k]) = if k ∈ once l then once l else once l ++ [k] := by
  unfold once
  rw [List.foldl_append]
  rfl
theorem snocInd {P : List κ → Prop} (h0 : P []) (h1 : ∀ l k, P l → P (l ++ [k])) (l : List κ) : P l := by
  have q : ∀ m : List κ, P m.reverse := fun m => by
    induction m with
    | nil => exact h0
    | cons a m ih => rw [List.reverse_cons]; exact h1 _ _ ih
  have := q l.reverse
  rwa [List.reverse_reverse] at this
theorem once_mem (l : List κ) : ∀ k, k ∈ once l ↔ k ∈ l := by
  refine snocInd (P := fun l => ∀ k, k ∈ once l ↔ k ∈ l) (fun k => Iff.rfl) (fun l a ih k => ?_) l
  rw [once_snoc]
  by_cases h : a ∈ once l
  · rw [if_pos h, ih, List.mem_append, List.mem_singleton]
    exact ⟨.inl, fun z => z.elim id fun e => e ▸ (ih a).mp h⟩
  · rw [if_neg h, List.mem_append, List.mem_append, ih]
theorem once_len (l : List κ) (k : κ) : (once (l ++ [k])).length = if memB l k = true then (once l).length else (once l).length + 1 := by
  rw [once_snoc]
  unfold memB
  by_cases h1 : k ∈ l
  · rw [if_pos (decide_eq_true h1), if_pos ((once_mem _ _).mpr h1)]
  · rw [decide_eq_false h1, if_neg (c := k ∈ once l) fun z => h1 ((once_mem _ _).mp z), List.length_append]; rfl
theorem once_le (l : List κ) : (once l).length ≤ l.length := by
  refine snocInd (P := fun l => (once l).length ≤ l.length) (Nat.le_refl _) (fun l a ih => ?_) l
  rw [once_snoc, List.length_append]
  by_cases h : a ∈ once l
  · rw [if_pos h]; exact Nat.le_trans ih (Nat.le_add_right _ _)
  · rw [if_neg h, List.length_append]; exact Nat.add_le_add_right ih _
theorem once_eq (l : List κ) : (once l).length = l.length ↔ l.Nodup := by
  refine snocInd (P := fun l => (once l).length = l.length ↔ l.Nodup) ⟨fun _ => .nil, fun _ => rfl⟩ (fun l a ih => ?_) l
  rw [once_snoc, List.length_append, List.nodup_append]
  have hle := once_le l
  by_cases h : a ∈ once l
  · rw [if_pos h]
    refine ⟨fun e => ?_, fun n => ?_⟩
    · simp only [List.length_singleton] at e; omega
    · exact absurd rfl (n.2.2 a ((once_mem l a).mp h) a (by simp))
  · rw [if_neg h, List.length_append]
    have hm : a ∉ l := fun z => h ((once_mem l a).mpr z)
    refine ⟨fun e => ⟨ih.mp (by simp only [List.length_singleton] at e; omega), by simp, fun x hx y hy e => ?_⟩, fun n => by rw [ih.mpr n.1]⟩
    rw [List.mem_singleton.mp hy] at e
    exact hm (e ▸ hx)
end
section
variable {X : Cx}
/-- len(a set of keys) -/
def rLenK (P : Program) (w : World) : List V → Hp → VK → Prop := fun xs H Q => ∃ (a : Addr) (S : Key → Bool) (n : Nat), xs = [.ref a] ∧ H a = some (SetK P w a S n) ∧ Q (.int (n : Nat)) H
theorem call_lenK : CallR X (.builtin "len") (rLenK X.prog X.w) := by
  intro pins s σ H xs us Q I r h
  obtain ⟨a, S, n, rfl, ha, q⟩ := h
  obtain rfl := Vals.ref1 r
  obtain ⟨o, es, ep, t, ho, hex, hd, he, hm, hs, hf, hn⟩ := setK_get I ha
  refine call_len_set ho hex hd hf (by unfold scanBound at hs; omega) ?_
  subst hn
  exact ⟨.int (es.size : Nat), H, I.tok _, ⟨_, rfl⟩, q⟩
section
variable {prog : Program} {w : World} {A : Around} {R : Result → Shared → Prop} {J0 : Addr} {fp wr : List Addr} {G : Array GenState → Array GenState → Prop} {n : Nat} {P : Nat → Value → Prop} {St : Nat → Shared → Prop}
theorem set_fill (W : WalksS prog w A.in1 J0 fp wr G n P St) (S : Addr) (hSf : S ∉ fp) (l : List Key) (hn : l.length = n)
    (hv : ∀ i v, P i v → ∃ k, l[i]? = some k ∧ (mixKind prog w).is k v = true ∧ v.scannable = true) (hb : n + 1 < scanBound) :
    ∀ (k i : Nat) (s : Shared), n - i = k → i ≤ n → St i s →
      s.heap.SetOf (mixKind prog w) S (memB (l.take i)) (once (l.take i)).length →
      (∀ s', Moved (S :: wr) G s s' → s'.heap.SetOf (mixKind prog w) S (memB l) (once l).length → R (.ok (.ret .none)) s') →
      codeAny (model prog w) A (.builtin "set.update.loop" ⟨[.ref S, .ref J0], []⟩) R s := by
  have hSw : S ∉ wr := fun h => hSf (W.sub _ h)
  have hsub : ∀ b ∈ wr, b ∈ S :: wr := fun b hb => List.mem_cons_of_mem _ hb
  intro k
  induction k with
  | zero =>
    intro i s hk hi hst hS hR
    have hin : i = n := by omega
    subst hin
    rw [List.take_of_length_le (Nat.le_of_eq hn)] at hS
    refine codeAny_builtin F.entry_set_update_loop ?_
    rw [Around.under_plainId F.plain_set_update_loop _]
    show wpAny _ A.in1 (pyNext (.ref J0) >>= _) _ _ s
    refine wpAny_bind (W.done s _ _ hst fun s' hm => ?_)
    show wpAny _ A.in1 (ret Value.none) _ _ s'
    exact wpAny_pure (hR s' (hm.mono hsub) (by
      obtain ⟨o, es, ep, t, ho, rest⟩ := hS
      exact ⟨o, es, ep, t, hm.heap S _ hSw ho, rest⟩))
  | succ k ih =>
    intro i s hk hi hst hS hR
    have hlt : i < n := by omega
    refine codeAny_builtin F.entry_set_update_loop ?_
    rw [Around.under_plainId F.plain_set_update_loop _]
    show wpAny _ A.in1 (pyNext (.ref J0) >>= _) _ _ s
    refine wpAny_bind (W.item i s _ _ hlt hst fun v s' hP hst' hm => ?_)
    obtain ⟨kk, hkk, hkey, hsc⟩ := hv i v hP
    have hS' : s'.heap.SetOf (mixKind prog w) S (memB (l.take i)) (once (l.take i)).length := by
      obtain ⟨o, es, ep, tb, ho, rest⟩ := hS
      exact ⟨o, es, ep, tb, hm.heap S _ hSw ho, rest⟩
    show wpAny _ A.in1 (holding [v] (setAdd S v) >>= _) _ _ s'
    refine wpAny_bind (wpAny_holding ?_)
    unfold setAdd
    refine wpAny_holding ?_
    refine wpAny_bind ((mixKind prog w).pyHash (k := kk) hkey ?_)
    have hroom : (once (l.take i)).length + 1 < scanBound := by
      have a1 := once_le (l.take i)
      have a2 := List.length_take_le i l
      omega
    refine wpAny_setAddHashed_of (knd := mixKind prog w) (s := { s' with toks := s'.toks + 1 }) hkey hsc hS' hroom fun h' hsb hS2 => ?_
    have et : l.take (i + 1) = l.take i ++ [kk] := by rw [List.take_add_one, hkk]; rfl
    have hSi : h'.SetOf (mixKind prog w) S (memB (l.take (i + 1))) (once (l.take (i + 1))).length := by
      have ea : (fun j => memB (l.take i) j || decide (j = kk)) = memB (l.take (i + 1)) := funext fun j => by rw [et, memB_snoc]
      have eb : (if memB (l.take i) kk = true then (once (l.take i)).length else (once (l.take i)).length + 1) = (once (l.take (i + 1))).length := by rw [et, once_len]
      rw [← ea, ← eb]
      exact hS2
    refine wpAny_pure ⟨plainId_quiet F.plain_set_update_loop _, ih (i + 1) _ (by omega) hlt (W.frame _ s' _ _ hst' (Nat.le_succ _) fun b hb o e => ?_) hSi fun s'' hm'' hS'' => ?_⟩
    · rw [hsb.2 b (fun h : b = S => hSf (by rw [← h]; exact hb))]; exact e
    · refine hR s'' (Moved.trans W.gtrans ((hm.mono hsub).then_heap (Nat.le_succ _) fun b o hb e => ?_) hm'') hS''
      rw [hsb.2 b (fun h : b = S => hb (by rw [h]; exact List.mem_cons_self))]; exact e
end
set_option maxHeartbeats 8000000 in
theorem set_of_list {prog : Program} {w : World} {A : Around} {E : Value → Shared → Prop} {s : Shared} {a0 : Addr} {its : Array Value} {ks : List Key} {Q : Value → Shared → Prop}
    (hh : A.handled = none) (hl : s.heap.IsList a0 its) (hlen : ks.length = its.size) (hi : ∀ (i : Nat) (v : Value), its[i]? = some v → ∃ k, ks[i]? = some k ∧ (mixKind prog w).is k v = true ∧ v.scannable = true) (hb : its.size + 1 < scanBound)
    (h : ∀ (h' : Heap) (tk : Nat), h'.SetOf (mixKind prog w) s.heap.objs.size (memB ks) (once ks).length →
      (∀ b o, b < s.heap.objs.size → s.heap.get? b = some o → h'.get? b = some o) → Q (.ref s.heap.objs.size) { s with heap := h', toks := tk }) :
    wpAny (model prog w) A (call (.type "set") [.ref a0]) Q E s := by
  obtain ⟨c0, t0, hmr⟩ := F.called_set.mro
  have hmade := F.called_set.made
  have hsub := F.called_set.sub
  refine wpAny_call (codeAny_of_tree ?_)
  show wpAny _ _ (callAny (.type "set") _) _ _ _
  refine wpAny_pure ⟨Code.quiet_builtin _ (by decide +kernel), codeAny_builtin F.entry_type_call ?_⟩
  rw [Around.under_plain (weight_type_call_type "set" [.ref a0] []) rfl]
  have g1 := F.called_set.notType
  have g2 := F.called_set.canCreate
  have hct := PySem.F.typeCall_set_1 (.ref a0)
  repeat (any_goals (first | assumption | wp_step))

  refine codeAny_mono (code_set_new_1 (.ref a0) (E := E) (Q₁ := fun obj sb1 => ∃ led0 : Bool, obj = .ref s.heap.objs.size ∧ sb1 = { s with heap := s.heap.push { cls := .type "set", dict := none, data := .set #[] 0 (.fresh 0 0 led0) } }) fun led0 => ⟨led0, rfl, rfl⟩) fun r sb1 hr => ?_
  cases r with
  | error e => exact hr
  | ok fl =>
    cases fl with
    | ret obj =>
      obtain ⟨led0, rfl, rfl⟩ := hr
      have hS : (s.heap.push { cls := .type "set", dict := none, data := .set #[] 0 (.fresh 0 0 led0) }).get? s.heap.objs.size = some { cls := .type "set", dict := none, data := .set #[] 0 (.fresh 0 0 led0) } := Heap.get?_push_size _ rfl
      have hTy : Shared.TypeIs { s with heap := s.heap.push { cls := .type "set", dict := none, data := .set #[] 0 (.fresh 0 0 led0) } } (.ref s.heap.objs.size) "set" := ⟨_, hS, rfl⟩
      have hlk := F.called_set.init.lookup
      have hbd := F.called_set.init.bind (.ref s.heap.objs.size)
      repeat (any_goals (first | assumption | wp_step))

      refine codeAny_mono (codeAny_call_builtin (R := wants (fun r sb2 => r = .none ∧ ∃ h' tk, sb2 = { s with heap := h', toks := tk } ∧
          h'.SetOf (mixKind prog w) s.heap.objs.size (memB ks) (once ks).length ∧
          (∀ b o, b < s.heap.objs.size → s.heap.get? b = some o → h'.get? b = some o)) E) F.called_set.init.plain F.entry_set_init (check_set_init_1 hTy ?_)) fun rb sb2 hrb => ?_
      · obtain ⟨ol, hol, hcl, nl, hdl⟩ := hl
        obtain ⟨ocls, odict, odata, oslots⟩ := ol
        simp only at hcl hdl
        subst hcl; subst hdl
        have holp : (s.heap.push { cls := .type "set", dict := none, data := .set #[] 0 (.fresh 0 0 led0) }).get? a0 = some { cls := .type "list", dict := odict, data := .seq its nl, slots := oslots } := Heap.get?_push_of_some _ hol
        have hs1 := PySem.F.sub_list_set
        have hs2 := PySem.F.sub_list_frozenset
        have hne0 : (Value.type "list" == Value.type "dict") = false := by decide
        have hlp : (s.heap.push { cls := .type "set", dict := none, data := .set #[] 0 (.fresh 0 0 led0) }).IsList a0 its := ⟨_, holp, rfl, nl, rfl⟩
        unfold Builtin.«set.__init__» noKeywords Builtin.Frozenset.updateFrom
        generalize hPI : pyIter = PI
        wp_walk
        subst hPI

        refine wpAny_pyIter_list hlp ?_
        refine wpAny_bind (wpAny_runValue ?_)
        have hlZ : a0 < s.heap.objs.size := Heap.lt_size hol
        have hi3 : A.in1.in1.in1.handled = none := by simp [hh]
        have hneJ : a0 ≠ (s.heap.push { cls := .type "set", dict := none, data := .set #[] 0 (.fresh 0 0 led0) }).objs.size := by
          rw [Heap.size_push]; exact Nat.ne_of_lt (Nat.lt_succ_of_lt hlZ)
        have hSfr : s.heap.objs.size ∉ [(s.heap.push { cls := .type "set", dict := none, data := .set #[] 0 (.fresh 0 0 led0) }).objs.size, a0] := by
          rw [Heap.size_push]; simp only [List.mem_cons, List.mem_singleton, List.not_mem_nil, or_false, not_or]
          exact ⟨Nat.ne_of_lt (Nat.lt_succ_self _), Nat.ne_of_gt hlZ⟩
        refine set_fill ((Walks.list hi3 _ a0 hneJ its).toS) s.heap.objs.size
          hSfr ks hlen hi hb (its.size - 0) 0 _ (by omega) (Nat.zero_le _)
          ⟨⟨_, Heap.get?_push_size _ rfl, rfl, rfl⟩, (hlp.push _)⟩ ?hS0 ?hR
        case hS0 =>
          have hgt : ((s.heap.push { cls := .type "set", dict := none, data := .set #[] 0 (.fresh 0 0 led0) }).push { cls := .type "list_iterator", data := .fields #[.ref a0, .int 0 0] }).get? s.heap.objs.size
              = some { cls := .type "set", dict := none, data := .set #[] 0 (.fresh 0 0 led0) } := Heap.get?_push_of_some _ hS
          exact ⟨_, #[], 0, _, hgt, ⟨rfl, rfl, rfl⟩, rfl, (fun _ z => by simp at z), (fun _ => by simp [memB]), (by decide), (by rfl), rfl⟩
        case hR =>
          intro s' hmv hZs
          obtain ⟨h', g', d', tk', os'⟩ := s'
          have eg : g' = s.gens := hmv.gens
          have ed : d' = s.drawn := hmv.drawn
          have eo : os' = s.os := hmv.os
          subst eg; subst ed; subst eo
          show wpAny _ _ _ _ _ _
          refine wpAny_pure ?_
          show wpAny _ _ (ret Value.none) _ _ _
          refine wpAny_pure ⟨rfl, h', tk', rfl, hZs, fun b o hb e => ?_⟩
          have hb01 : b ≠ s.heap.objs.size := Nat.ne_of_lt hb
          have hb02 : b ≠ (s.heap.push { cls := .type "set", dict := none, data := .set #[] 0 (.fresh 0 0 led0) }).objs.size := by
            rw [Heap.size_push]; exact Nat.ne_of_lt (Nat.lt_succ_of_lt hb)
          exact hmv.heap b o (by simp only [List.mem_cons, List.mem_singleton, List.not_mem_nil, or_false, not_or]; exact ⟨hb01, hb02⟩) (Heap.get?_push_of_some _ (Heap.get?_push_of_some _ e))

      · cases rb with
        | error e => exact hrb
        | ok flb =>
          cases flb with
          | ret r =>
            obtain ⟨rfl, h', tk, rfl, hZs, hk'⟩ := hrb
            repeat (any_goals (first | assumption | wp_step))
            exact h _ _ hZs hk'
          | _ => exact hrb.elim
    | _ => exact hr.elim
section
variable {X : Cx}
/-- set(a list of keys) -/
def rSetL (K : Frg) (P : Program) (w : World) : List V → Hp → VK → Prop := fun xs H Q => ∃ (a : Addr) (ks : List Key), xs = [.ref a] ∧ SqL K H a (ks.map kV) ∧ ks.length < 1000 ∧ ∀ p, H p = none → Q (.ref p) (upd H p (SetK P w p (memB ks) (once ks).length))
theorem call_setL (hcalm : X.calm = true) : CallR X (.type "set") (rSetL X.K X.prog X.w) := by
  intro pins s σ H xs us Q I r h
  obtain ⟨a, ks, rfl, hq, hn, q⟩ := h
  obtain rfl := Vals.ref1 r
  obtain ⟨its, rv, pl, hz⟩ := I.list hq
  have hlen := rv.length
  rw [List.length_map] at hlen
  refine set_of_list (ks := ks) (I.ok.hd hcalm) pl.isList (by simpa using hlen) (fun i v e => ?_) (by simp only [List.size_toArray]; unfold scanBound; omega) fun h' tk nw hk => ?_
  · have e' : its[i]? = some v := by simpa using e
    cases ek : ks[i]? with
    | none =>
      have h1 := List.getElem?_eq_none_iff.mp ek
      rw [List.getElem?_eq_none (by omega)] at e'
      cases e'
    | some k =>
      obtain ⟨u, hu, ru⟩ := Vals.get (i := i) rv (by rw [List.getElem?_map, ek]; rfl)
      rw [hu] at e'
      cases e'
      exact ⟨k, rfl, kV_is ru, key_scan ru⟩
  · exact ⟨.ref _, upd H s.heap.objs.size (SetK X.prog X.w s.heap.objs.size (memB ks) (once ks).length), I.laid (t' := tk) (fun b u e => hk b u (Heap.lt_size e) e) (Nat.le_refl _) (setK_new nw), rfl, q _ (I.hok.fresh (Nat.le_refl _))⟩
end
end
end Kl
set_option Elab.async false
set_option linter.all false
set_option maxRecDepth 100000
set_option maxHeartbeats 4000000
/-! S3: sets of texts in the calculus. -/
namespace Kl
open PySem PySem.Spec PyProof.Rows L2 PpSet
theorem setK_feed {P : Program} {w : World} {a : Addr} {S : Key → Bool} {n : Nat} : ∀ c s l d, SetK P w a S n ≠ feedO c s l d := fun c s l d z => by
  unfold feedO SetK at z
  cases z
theorem setK_tbl {P : Program} {w : World} {a : Addr} {S : Key → Bool} {n : Nat} : ∀ ps, SetK P w a S n ≠ .tbl ps := fun ps z => by
  unfold SetK at z
  cases z
theorem setK_code {P : Program} {w : World} {a : Addr} {S : Key → Bool} {n : Nat} : ∀ c q, SetK P w a S n ≠ LamX.CodeO c q := fun c q z => by
  unfold LamX.CodeO SetK at z
  injection z with z
  have zz := congrFun z { objs := Array.replicate (c + 1) { cls := .none, data := .fields #[.none, .str q default] } }
  have hc : ({ objs := Array.replicate (c + 1) { cls := .none, data := .fields #[.none, .str q default] } } : Heap).get? c = some { cls := .none, data := .fields #[.none, .str q default] } := by
    unfold Heap.get?
    simp
  have hs := zz.symm.mp ⟨_, _, default, hc, rfl, rfl⟩
  obtain ⟨o, es, ep, t, ho, -, hd, -⟩ := hs
  unfold Heap.get? at ho
  by_cases hl : a < c + 1
  · simp [hl] at ho
    subst ho
    cases hd
  · simp [hl] at ho
/-- a set of n keys -/
def WS (P : Program) (w : World) (n : Nat) : W := .x (fun H v => ∃ a S, v = .ref a ∧ H a = some (SetK P w a S n)) fun H H' v e ⟨a, S, h1, h2⟩ => ⟨a, S, h1, e.keep h2 setK_feed setK_tbl⟩
theorem plain_setK {P : Program} {w : World} {H : Hp} {p a : Addr} {S : Key → Bool} {n : Nat} (h : H p = some (SetK P w a S n)) : Plain H p := fun u e => by
  rw [h] at e
  cases e
  exact ⟨setK_tbl, setK_code⟩
section
variable {K : Frg} {σ : L2.St} {H : Hp} {ρ : List (Option W)} {S : W → Prop} {P : Program} {w : World}
/-- {.. for .. in ..} -/
theorem d_sk {wi : TI} {g : TG} {vs js : List Nat} {α : Type} {l : List α} {enc : α → W} {f : α → Str} {tk : TE} (hE : Env σ H ρ) (hi : EvI wi σ H fun ws => ws = l.map enc) (hj : ∀ j ∈ js, j ∈ vs) (hlen : l.length ≤ 1000)
    (ht : ∀ x, x ∈ l → ∃ us, Tg g js (enc x) us ∧ ∀ σ' H', Exw H H' → Env σ' H' (setr (wip ρ vs) js us) → Ed tk σ' H' (.d (.str (f x)))) :
    Ed (tSk P w wi g tYes tk vs) σ H (WS P w (once (l.map f)).length) := by
  intro N H1 vw Q q
  refine hi N H1 vw _ fun J H2 ws e2 tw wk => ?_
  subst tw
  intro D hD
  have v2 := vw.step e2
  have nD : D ∉ N := v2.new hD
  refine ⟨fun i m H' => m = l.length - i ∧ i ≤ l.length ∧ Vw (D :: N) (hid N H2) H' ∧ Exw H2 (fun a => if a = D then none else H' a) ∧ (∀ T, LamX.Tabs T H2 → LamX.Tabs T H') ∧ H' D = some (SetK P w D (memB ((l.take i).map fun x => (.inr (f x) : Key))) (once ((l.take i).map f)).length),
    ⟨l.length, by simp, Nat.zero_le _, ⟨fun a m => ?_, ?_⟩, fun a o ha => .inl ?_, fun T t => (Ex.new hD).tb T t, ?_⟩, ?_⟩
  · by_cases e : a = D
    · rw [e, upd_same]; nofun
    · rw [upd_ne e]
      rcases List.mem_cons.mp m with z | z
      · exact absurd z e
      · exact v2.al a z
  · rw [hid_new hD]
    exact Exw.refl _
  · show (if a = D then none else upd H2 D _ a) = some o
    rw [if_neg (ne_of_none ha hD), upd_ne (ne_of_none ha hD)]
    exact ha
  · rw [upd_same]
    have e0 : (fun _ => false : Key → Bool) = memB [] := funext fun j => by simp [memB]
    rw [e0]
    rfl
  · rintro i m H3 ⟨rfl, hi', vD, eD, tD, hes⟩
    have e23 : Ex H2 H3 := ⟨fun a o ha => by
      have nf := ne_of_none ha hD
      rcases eD a o ha with z | ⟨c, s, l, d, s', l', d', z1, z⟩ | ⟨ps, ps', z1, z⟩
      · exact .inl ((if_neg nf).symm.trans z)
      · exact .inr (.inl ⟨c, s, l, d, s', l', d', z1, (if_neg nf).symm.trans z⟩)
      · exact .inr (.inr ⟨ps, ps', z1, (if_neg nf).symm.trans z⟩), tD⟩
    by_cases hlt : i < l.length
    · refine .inr ⟨wk.goes i H3 (D :: N) (by rw [List.length_map]; exact hlt) vD, fun H' => i + 1 ≤ l.length ∧ Vw (D :: N) (hid N H2) H' ∧ Exw H2 (fun a => if a = D then none else H' a) ∧ (∀ T, LamX.Tabs T H2 → LamX.Tabs T H') ∧ H' D = some (SetK P w D (memB ((l.take (i + 1)).map fun x => (.inr (f x) : Key))) (once ((l.take (i + 1)).map f)).length),
        fun H' b => ⟨l.length - (i + 1), by omega, rfl, b⟩, fun x H4 y => ?_⟩
      obtain ⟨e34, w', hw, iw⟩ := wk.yields i H3 (D :: N) x H4 (by rw [List.length_map]; exact hlt) vD y
      have hx : l[i]? = some l[i] := List.getElem?_eq_getElem hlt
      rw [List.getElem?_map, hx] at hw
      have ew := Option.some.inj hw
      subst ew
      obtain ⟨us, hg, body⟩ := ht l[i] (List.getElem_mem hlt)
      refine hg (D :: N) H4 x _ iw _ fun xs' ixs => ⟨by rw [sets_wipe hj, wipe_wipe], ?_⟩
      have v4 : Vw (D :: N) (hid N H2) H4 := vD.step e34
      have hE4 : Env (sets (L2.wipe σ vs) js xs') (hid (D :: N) H4) (setr (wip ρ vs) js us) := (((hE.mono v2.ex).mono v4.ex).wipe vs).sets ixs
      have bk := body _ _ (v2.ex.trans v4.ex) hE4
      have hb : Eb tYes (Kl.sets (L2.wipe σ vs) js xs') (hid (D :: N) H4) true := fun N H1 _ Q q => q true H1 (Ex.refl _) rfl
      refine hb (D :: N) H4 ⟨v4.al, Exw.refl _⟩ _ fun b H4' e44 cb => ?_
      subst cb
      show tk _ H4' _
      replace bk := bk.mono (hid_mono e44.w)
      replace v4 := v4.step e44
      replace e34 := e34.trans e44
      refine bk (D :: N) H4' ⟨v4.al, Exw.refl _⟩ _ fun y H5 wy e45 s i5 => ?_
      subst s
      cases i5
      have hD6 := (e34.trans e45).keep hes setK_feed setK_tbl
      have et : l.take (i + 1) = l.take i ++ [l[i]] := by rw [List.take_add_one, hx]; rfl
      have ek : memB ((l.take i).map fun x => (.inr (f x) : Key)) (.inr (f l[i])) = memB ((l.take i).map f) (f l[i]) := by
        unfold memB
        refine decide_eq_decide.mpr ⟨fun hm => ?_, fun hm => ?_⟩
        · obtain ⟨z, hz, ez⟩ := List.mem_map.mp hm
          exact List.mem_map.mpr ⟨z, hz, inr_inj ez⟩
        · obtain ⟨z, hz, ez⟩ := List.mem_map.mp hm
          exact List.mem_map.mpr ⟨z, hz, by rw [ez]⟩
      have ho := once_le ((l.take i).map f)
      rw [List.length_map, List.length_take] at ho
      refine ⟨.inr (f l[i]), _, _, rfl, hD6, ?_, hlt, ⟨mem_al (v4.step e45).al, by rw [hid_upd List.mem_cons_self]; exact (v4.step e45).ex⟩, fun a o ha => ?_, fun T t => tabs_upd ((e23.trans (e34.trans e45)).tb T t) (plain_setK hD6), ?_⟩
      · have : (once ((l.take i).map f)).length ≤ 1000 := by omega
        exact Nat.lt_of_le_of_lt (Nat.succ_le_succ this) (by decide)
      · have ne := ne_of_none ha hD
        rcases (e23.trans (e34.trans e45)).w a o ha with q1 | ⟨c, s, l, d, s', l', d', z1, q1⟩ | ⟨ps, ps', z1, q1⟩
        · refine .inl ?_
          show (if a = D then none else upd H5 D _ a) = some o
          rw [if_neg ne, upd_ne ne]; exact q1
        · refine .inr (.inl ⟨c, s, l, d, s', l', d', z1, ?_⟩)
          show (if a = D then none else upd H5 D _ a) = _
          rw [if_neg ne, upd_ne ne]; exact q1
        · refine .inr (.inr ⟨ps, ps', z1, ?_⟩)
          show (if a = D then none else upd H5 D _ a) = _
          rw [if_neg ne, upd_ne ne]; exact q1
      · rw [upd_same]
        have e1 : (fun j => memB ((l.take i).map fun x => (.inr (f x) : Key)) j || decide (j = .inr (f l[i]))) = memB ((l.take (i + 1)).map fun x => (.inr (f x) : Key)) := funext fun j => by
          rw [et, List.map_append, List.map_cons, List.map_nil, memB_snoc]
        have e2 : (if memB ((l.take i).map fun x => (.inr (f x) : Key)) (.inr (f l[i])) = true then (once ((l.take i).map f)).length else (once ((l.take i).map f)).length + 1) = (once ((l.take (i + 1)).map f)).length := by
          rw [et, List.map_append, List.map_cons, List.map_nil, once_len, ek]
        rw [e1, e2]
    · have e : i = l.length := by omega
      subst e
      rw [List.take_length] at hes
      exact .inl ⟨by have := wk.stops H3 (D :: N) vD; rw [List.length_map] at this; exact this, q _ H3 _ (e2.trans e23) rfl ⟨D, _, rfl, hid_of hes nD⟩⟩
theorem cs_lenK {n : Nat} (s : S (.d (.int (n : Nat)))) : CaS (rLenK P w) [WS P w n] S := fun N H al vs iv Q q => by
  cases iv with
  | cons i1 i2 =>
    cases i2
    obtain ⟨a, Sk, rfl, h2⟩ := i1
    exact ⟨a, Sk, n, rfl, (hid_get h2).1, q _ H _ (Ex.refl _) s (.int _)⟩
theorem once_inr (l : List Str) : (once (l.map fun z => (.inr z : Key))).length = (once l).length := by
  refine snocInd (P := fun l => (once (l.map fun z => (.inr z : Key))).length = (once l).length) rfl (fun l k ih => ?_) l
  rw [List.map_append, List.map_cons, List.map_nil, once_len, once_len, ih]
  have ek : memB (l.map fun z => (.inr z : Key)) (.inr k) = memB l k := by
    unfold memB
    refine decide_eq_decide.mpr ⟨fun hm => ?_, fun hm => List.mem_map.mpr ⟨k, hm, rfl⟩⟩
    obtain ⟨z, hz, ez⟩ := List.mem_map.mp hm
    exact inr_inj ez ▸ hz
  rw [ek]
theorem cs_setL {l : List Str} (hl : l.length < 1000) (s : S (WS P w (once l).length)) : CaS (rSetL K P w) [.d (.list (l.map PyData.str))] S :=
  ca1 fun N H al v i Q q => by
    obtain ⟨a, xs, rfl, h2, n2, h3⟩ := hid_lst i
    have e := of_dps_str h3
    subst e
    refine ⟨a, l.map fun z => (.inr z : Key), rfl, ?_, by rw [List.length_map]; exact hl, fun p hp => ?_⟩
    · rw [List.map_map]
      exact .inl (.inl h2)
    · rw [once_inr]
      refine q _ _ _ (Ex.new hp) s ⟨p, _, rfl, hid_of upd_same fun m => al p m hp⟩
end
end Kl
set_option Elab.async false
set_option linter.all false
set_option maxRecDepth 100000
set_option maxHeartbeats 4000000
/-! K11: called_anew. -/
namespace Kl
open PySem PySem.Spec PyProof.Rows L2
/-- what is walked may be read in two ways -/
def iOr (w1 w2 : TI) : TI := fun σ H R => w1 σ H R ∨ w2 σ H R
theorem pi_or {X : Cx} {tg e : Expr} {w1 w2 : TI} (h1 : PI X tg e w1) (h2 : PI X tg e w2) : PI X tg e (iOr w1 w2) :=
  ⟨fun pins s σ H R I h => h.elim (h1.run pins s σ H R I) (h2.run pins s σ H R I)⟩
theorem i_or1 {w1 w2 : TI} {σ : L2.St} {H : Hp} {T : List W → Prop} (h : EvI w1 σ H T) : EvI (iOr w1 w2) σ H T := fun N H1 v R k => .inl (h N H1 v R k)
theorem i_or2 {w1 w2 : TI} {σ : L2.St} {H : Hp} {T : List W → Prop} (h : EvI w2 σ H T) : EvI (iOr w1 w2) σ H T := fun N H1 v R k => .inr (h N H1 v R k)
/-- a name anew -/
def renT (l : List (Str × Str)) (z : Str) : Str := ((l.find? fun p => decide (p.1 = z)).map fun p => p.2).getD z
abbrev mT (l : List (Str × Str)) : List (Str × PyData) := l.map fun p => (p.1, .str p.2)
theorem ren_lk (l : List (Str × Str)) (z : Str) : (lk (mT l) z).getD (.str z) = .str (renT l z) := by
  unfold lk renT
  induction l with
  | nil => rfl
  | cons p l ih =>
    rw [show mT (p :: l) = (p.1, PyData.str p.2) :: mT l from rfl, List.find?_cons, List.find?_cons]
    by_cases e : p.1 = z
    · simp [e]
    · simp only [e, decide_false]
      exact ih
theorem pa_starK {X : Cx} {e : Expr} {es : List Expr} {te : TE} {t : TA} {p : Pos} {K' : Frg} (hK : X.K = K') (he : PE X e te) (hr : PA X es t) (hs : starEach (.Starred e p :: es) X.env = (true, eval e X.env) :: starEach es X.env := by rfl) : PA X (.Starred e p :: es) (StX.tStar K' te t) := by
  rw [← hK]
  exact StX.pa_star he hr hs
section
variable {P : Program} {w : World} {K : Frg} {mg : Str → Option Value} {base : Heap} {C : Addr}
abbrev s_called_anew : Stmt := topS 42
abbrev n_called_anew : List Str := ["pairs", "table", "late", "one", "called"]
theorem sc_called_anew : FnScope n_called_anew ["pairs", "table"] (defScope s_called_anew) := ⟨rfl, rfl, rfl, by decide +kernel, rfl, by decide +kernel, by decide +kernel⟩
def F_called_anew : List W → (W → Prop) → Prop := fun ws S => ∃ (xs : List (Str × List PyData)) (kv : List (Str × Str)), (ws = [.d (.tuple (xs.map hd)), .m (mT kv)] ∨ ws = [.d (.list (xs.map hd)), .m (mT kv)]) ∧ (xs.map fun x => renT kv x.1).Nodup ∧ xs.length ≤ 50 ∧ (∀ x ∈ xs, x.2.length ≤ 100) ∧ S (.d (.tuple ((sortN hnm (xs.map fun x => (renT kv x.1, x.2))).map hd)))
theorem cutG_tl {x : PyData} {l : List PyData} : cutG (x :: l) (some 1) none = l := by rw [cutG_one]; rfl
theorem cl_called_anew (D : Def K mg "called_anew" s_called_anew) (G : Gm mg) : Cl P w K mg base CX0 1 "called_anew" [] (SpF F_called_anew) := by
  refine D.ok sc_called_anew (fun _ _ _ _ _ _ us hl => match us, hl with | [_, _], _ => rfl) (fun ws S ⟨_, _, e, _⟩ => by rcases e with e | e <;> rw [e] <;> rfl) ?_
  rintro f cdv A outer s H M vs ws T Q E hr ⟨xs, kv, hws, hn, hl, hxl, hS⟩ h k
  have nd := sc_called_anew.nd
  refine ⟨_, (pss_cons (ps_set (i := 2) nd rfl (.inr rfl) (pe_dc (own := [("one", 3)]) rfl nd (pi_or (pi_tup (pv 0)) (pi_list (pv 0))) (blkOk_by (own := [("one", 3)]) (by kernel_rfl)) (fun _ _ _ _ _ => (pg_name (i := 3) nd rfl (.inl rfl))) (fun _ _ _ _ _ => pts_nil) (fun _ _ _ _ _ => (pe_dget2 (hu_of hr) (pv 1) (pe_ix (r := rIxT K) ix_tup (pv 3) pe_int (fun _ _ => rfl)) (pe_ix (r := rIxT K) ix_tup (pv 3) pe_int (fun _ _ => rfl)) ⟨rfl, rfl, rfl, rfl⟩)) (fun _ _ _ _ _ => (pe_slice (r := rSlB K) sl_tupB (pv 3) (po_some pe_int) po_none))))
      (pss_one (ps_ret (pe_callTy (r := rTupB K) call_tupB (by rfl) G.tuple_ (by decide +kernel) (pa_cons (pe_lc (own := [("called", 4)]) rfl nd (pi_list (pe_callB (r := rSortedS K) cr_sortedS (by rfl) G.sorted_ (by decide +kernel) (pa_cons (pe_callTy (r := rListD) (call_listD rfl) (by rfl) G.list_ (by decide +kernel) (pa_cons (pv 2) pa_nil)) pa_nil))) (blkOk_by (own := [("called", 4)]) (by kernel_rfl)) (fun _ _ _ _ _ => (pg_name (i := 4) nd rfl (.inl rfl))) (fun _ _ _ _ _ => pts_nil) (fun _ _ _ _ _ => (pe_tupB (pa_cons (pv 4) (pa_starK (K' := K) rfl (pe_dget (hu_of hr) (pv 2) (pv 4) (fun _ _ => rfl)) pa_nil))))) pa_nil))))), ?_⟩
  obtain ⟨x0, rfl, hi⟩ : ∃ x0, ws = [x0, .m (mT kv)] ∧ EvI (iOr (iTup K (tVar 0)) (iList K (tVar 0))) (L2.start n_called_anew vs) (hid M H) (fun ws => ws = xs.map fun x => .d (hd x)) := by
    rcases hws with e | e
    · exact ⟨_, e, i_or1 (i_tupM (d_var h.env (i := 0) (by rw [e]; rfl)))⟩
    · exact ⟨_, e, i_or2 (i_listM (d_var h.env (i := 0) (by rw [e]; rfl)))⟩
  refine q_asg h (d_dc (l := xs) (enc := fun x => .d (hd x)) (f := fun x => renT kv x.1) (f2 := fun x => .tuple x.2) h.env hi (js := [3]) (by decide) (Nat.le_trans hl (by decide)) hn (fun _ _ => rfl) fun x hx => ⟨_, tg_name, fun σ' H' e' h' => ⟨?_, ?_⟩⟩) (fun v w H2 e2 ew iw h2 => ?_)
  · refine d_is (d_dget2 (d_var h' (i := 1) rfl) (d_op (d_var h' (i := 3) rfl) d_i (os_ixT (at_zero _ _) rfl)) (d_op (d_var h' (i := 3) rfl) d_i (os_ixT (at_zero _ _) rfl))) ?_
    rw [ren_lk]
  · refine d_is (d_sl (d_var h' (i := 3) rfl) (o_some d_i) o_none (ss_T (S := fun w => w = .d (.tuple (cutG (.str x.1 :: x.2) (some 1) none))) rfl)) ?_
    rw [cutG_tl]
  · subst ew
    have e3 : ((xs.map fun x => (renT kv x.1, PyData.tuple x.2)).map fun p => p.1) = (xs.map fun x => (renT kv x.1, x.2)).map hnm := by rw [List.map_map, List.map_map]; rfl
    have hn2 : ((xs.map fun x => (renT kv x.1, x.2)).map hnm).Nodup := by rw [List.map_map]; exact hn
    have hkeys : Ev (tCB (rSortedS K) (tCons (tCB rListD (tCons (tVar 2) tNil)) tNil)) (List.set (L2.start n_called_anew vs) 2 (some v)) (hid M H2) fun w => w = .d (.list (((sortN hnm (xs.map fun x => (renT kv x.1, x.2))).map hnm).map PyData.str)) := by
      have hl1 : Ed (tCB rListD (tCons (tVar 2) tNil)) (List.set (L2.start n_called_anew vs) 2 (some v)) (hid M H2) (.d (.list (((xs.map fun x => (renT kv x.1, x.2)).map hnm).map PyData.str))) := d_cb (a_1 (d_var h2.env (i := 2) rfl)) (cs_listD (by rw [e3]))
      refine d_cb (a_1 hl1) (cs_sortS (by simp; omega) fun ys p so => ?_)
      have hr' : risingB ys = true := rising_sorted so (p.nodup_iff.mpr hn2)
      obtain ⟨l', p', rfl⟩ := perm_lift p
      rw [sortN_eq p' hr']
    refine s_ret h2 (S := T) (d_to (d_cb (a_1 (d_map (l := sortN hnm (xs.map fun x => (renT kv x.1, x.2))) (enc := fun x => .d (.str x.1)) (f := fun x => hd x) h2.env ?_ (js := [4]) (by decide) (by rw [(sortN_perm _).length_eq]; simp; omega) fun x hx => ⟨_, tg_name, fun σ' H' e' h' => ?_⟩)) (cs_tupL rfl)) hS) (fun v w H' e s i => k v H' w e s i)
    · have q := i_list (K := K) hkeys
      rw [List.map_map, List.map_map] at q
      exact q
    · have hx2 : x.2.length ≤ 100 := by
        obtain ⟨y, hy, rfl⟩ := List.mem_map.mp ((sortN_perm _).mem_iff.mp hx)
        exact hxl y hy
      have hlk : lk (xs.map fun x => (renT kv x.1, PyData.tuple x.2)) x.1 = some (.tuple x.2) := by
        refine lk_mem (by rw [e3]; exact hn2) ?_
        obtain ⟨y, hy, rfl⟩ := List.mem_map.mp ((sortN_perm _).mem_iff.mp hx)
        exact List.mem_map.mpr ⟨y, hy, rfl⟩
      have ha : Ea (tCons (tVar 4) (StX.tStar K (tDGet (tVar 2) (tVar 4)) tNil)) σ' H' ((.str x.1 :: x.2).map W.d) := by
        have e9 : ((PyData.str x.1 :: x.2).map W.d) = W.d (.str x.1) :: (x.2.map W.d ++ []) := by rw [List.append_nil]; rfl
        rw [e9]
        exact a_cons (d_var h' (i := 4) rfl) (a_starT (d_dget (d_var h' (i := 2) rfl) (d_var h' (i := 4) rfl) hlk) a_nil)
      exact d_tup ha (Nat.le_trans (Nat.succ_le_succ hx2) (by decide))
end
end Kl
set_option Elab.async false
set_option linter.all false
set_option maxRecDepth 100000
set_option maxHeartbeats 8000000
/-! K12: renamed. -/
namespace Kl
open PySem PySem.Spec PyProof.Rows L2
abbrev bnm (e : Str × Int) : Str := e.1
abbrev znm (z : Str) : Str := z
/-- a shop anew -/
def Shp.ren (t : Shp) (f : Str → Str) : Shp :=
  ⟨sortN pnm (t.ps.map fun p => (f p.1, p.2)), sortN cnm (t.cs.map fun c => (f c.1, sortN znm (c.2.map f))), sortN knm (t.ks.map fun k => (f k.1, k.2.1, k.2.2.1, sortN bnm (k.2.2.2.map fun e => (f e.1, e.2))))⟩
theorem inj_of_nodup {f : Str → Str} : ∀ {l : List Str}, (l.map f).Nodup → ∀ a ∈ l, ∀ b ∈ l, f a = f b → a = b
  | [], _, _, h, _, _, _ => by cases h
  | x :: l, hn, a, ha, b, hb, e => by
    rw [List.map_cons, List.nodup_cons] at hn
    rcases List.mem_cons.mp ha with ea | ha
    · rcases List.mem_cons.mp hb with eb | hb
      · rw [ea, eb]
      · exact absurd (List.mem_map.mpr ⟨b, hb, by rw [← e, ea]⟩) hn.1
    · rcases List.mem_cons.mp hb with eb | hb
      · exact absurd (List.mem_map.mpr ⟨a, ha, by rw [e, eb]⟩) hn.1
      · exact inj_of_nodup hn.2 a ha b hb e
theorem nodup_by {f : Str → Str} : ∀ {ks : List Str}, ks.Nodup → (∀ a ∈ ks, ∀ b ∈ ks, f a = f b → a = b) → (ks.map f).Nodup
  | [], _, _ => .nil
  | k :: ks, hk, hi => by
    rw [List.nodup_cons] at hk
    rw [List.map_cons, List.nodup_cons]
    refine ⟨fun m => ?_, nodup_by hk.2 fun a ha b hb => hi a (List.mem_cons_of_mem _ ha) b (List.mem_cons_of_mem _ hb)⟩
    obtain ⟨b, hb, e⟩ := List.mem_map.mp m
    exact hk.1 (hi b (List.mem_cons_of_mem _ hb) k List.mem_cons_self e ▸ hb)
theorem nodup_sub {f : Str → Str} {l ks : List Str} (hn : (l.map f).Nodup) (hk : ks.Nodup) (hs : ∀ z ∈ ks, z ∈ l) : (ks.map f).Nodup :=
  nodup_by hk fun a ha b hb e => inj_of_nodup hn a (hs a ha) b (hs b hb) e
theorem cs_sortZ {K : Frg} {xs : List Str} (hl : xs.length < 64) (hn : xs.Nodup) : CaS (rSortedS K) [.d (.list (xs.map PyData.str))] fun w => w = .d (.list ((sortN znm xs).map PyData.str)) :=
  cs_sortS hl fun ys p so => by
    have h1 : risingB (ys.map znm) = true := by
      have e : ys.map znm = ys := List.map_id _
      rw [e]
      exact rising_sorted so (p.nodup_iff.mpr hn)
    rw [sortN_eq p h1]
theorem fr_t {α β : Type} {l : List α} {kv : List (Str × Str)} (nm : α → Str) (rest : α → List PyData) (g : α → β) (nb : β → Str) (rb : β → List PyData) (hg : ∀ x, nb (g x) = renT kv (nm x)) (hg2 : ∀ x, rb (g x) = rest x)
    (hn : (l.map fun x => renT kv (nm x)).Nodup) (hl : l.length ≤ 50) (hx : ∀ x, (rest x).length ≤ 100) {a : W} (ha : a = .d (.tuple (l.map fun x => hd (nm x, rest x))) ∨ a = .d (.list (l.map fun x => hd (nm x, rest x)))) :
    F_called_anew [a, .m (mT kv)] fun w => w = .d (.tuple ((sortN nb (l.map g)).map fun y => hd (nb y, rb y))) := by
  refine ⟨l.map fun x => (nm x, rest x), kv, ?_, ?_, by rw [List.length_map]; exact hl, fun x hm => ?_, ?_⟩
  · rw [List.map_map]
    rcases ha with rfl | rfl
    · exact .inl rfl
    · exact .inr rfl
  · rw [List.map_map]
    exact hn
  · obtain ⟨y, _, rfl⟩ := List.mem_map.mp hm
    exact hx y
  · have e1 : ((l.map fun x => (nm x, rest x)).map fun x => (renT kv x.1, x.2)) = (l.map g).map fun y => (nb y, rb y) := by
      rw [List.map_map, List.map_map]
      refine List.map_congr_left fun x _ => ?_
      show (renT kv (nm x), rest x) = (nb (g x), rb (g x))
      rw [hg, hg2]
    rw [e1, sortN_map (nm := nb) (nb := hnm) (g := fun y => (nb y, rb y)) (fun _ => rfl) (by rw [List.map_map]; exact (List.map_congr_left fun x _ => hg x) ▸ hn), List.map_map]
    rfl
/-- renamed's answer -/
def renP (t : Shp) (d : PyData) (S : W → Prop) (R : Str → Prop) : Prop := (tblB t d = false → R "table") ∧ ∀ l, IsTbl t d l → ((t.nm.map (renT l)).Nodup → S (.d (enc (t.ren (renT l))))) ∧ (¬ (t.nm.map (renT l)).Nodup → R "table")
section
variable {P : Program} {w : World} {K : Frg} {mg : Str → Option Value} {base : Heap} {C : Addr}
abbrev s_renamed : Stmt := topS 43
abbrev n_renamed : List Str := ["shop", "table", "news", "called", "choices", "packs", "name", "one", "options", "pack"]
theorem sc_renamed : FnScope n_renamed ["shop", "table"] (defScope s_renamed) := ⟨rfl, rfl, rfl, by decide +kernel, rfl, by decide +kernel, by decide +kernel⟩
def F_renamed : List W → (W → Prop) → (Str → Prop) → Prop := fun ws S R => ∃ t d, ws = [.d (enc t), .d d] ∧ Pre t ∧ Fit t ∧ Nice d ∧ (∀ ds, d = .tuple ds → ds.length ≤ 100) ∧ renP t d S R
theorem cl_renamed (D : Def K mg "renamed" s_renamed) (G : Gm mg) (C_want : Cl P w K mg base (CXl P w) 3 "want" [.int (-1)] (SpX C F_want)) (C_is_table : Cl P w K mg base CX0 3 "is_table" [] (SpF F_is_table)) (C_all_names : Cl P w K mg base CX0 2 "all_names" [] (SpF F_all_names)) (C_called_anew : Cl P w K mg base CX0 1 "called_anew" [] (SpF F_called_anew)) : Cl P w K mg base (CXl P w) 4 "renamed" [] (SpX C F_renamed) := by
  refine D.okX sc_renamed (fun _ _ _ _ _ _ us hl => match us, hl with | [_, _], _ => rfl) (fun ws S R ⟨_, _, e, _⟩ => by rw [e]; rfl) ?_
  rintro f cdv A outer s H M vs ws T R Q E hr ⟨t, d, rfl, ht, hf, hnice, hdl, hS⟩ h k kx
  have nd := sc_renamed.nd
  refine ⟨_, (pss_cons (ps_expr (pe_cl (E := E) C_want (hr.mono (by decide)) (by rfl) passE (pa_cons (pe_cl C_is_table (hr.mono (by decide)) (by rfl) pass0 (pa_cons (pv 0) (pa_cons (pv 1) pa_nil))) (pa_cons pe_str pa_nil))))
      (pss_cons (ps_set (i := 2) nd rfl (.inr rfl) (pe_callTy (r := rDictT K) (call_dictT rfl) (by rfl) G.dict_ (by decide +kernel) (pa_cons (pv 1) pa_nil)))
      (pss_cons (ps_setLc (i := 3) (own := [("name", 6)]) rfl nd rfl rfl (sw_true rfl rfl rfl (by decide +kernel)) (pi_list (pe_cl C_all_names (hr.mono (by decide)) (by rfl) pass0 (pa_cons (pv 0) pa_nil))) (blkOk_by (own := [("name", 6)]) (by kernel_rfl)) (fun _ _ _ _ _ => (pg_name (i := 6) nd rfl (.inl rfl))) (fun _ _ _ _ _ => pts_nil) (fun _ _ _ _ _ => (pe_dget2 (hu_of hr) (pv 2) (pv 6) (pv 6) ⟨rfl, rfl, rfl, rfl⟩)))
      (pss_cons (ps_expr (pe_cl (E := E) C_want (hr.mono (by decide)) (by rfl) passE (pa_cons (pe_cmpR (r := rEqD K) (op_eqD hr.units) (pe_callB (r := rLenK P w) call_lenK (by rfl) G.len_ PySem.boot_len (pa_cons (pe_sk (own := [("name", 6)]) rfl nd (pi_list (pv 3)) (blkOk_by (own := [("name", 6)]) (by kernel_rfl)) (fun _ _ _ _ _ => (pg_name (i := 6) nd rfl (.inl rfl))) (fun _ _ _ _ _ => pts_nil) (fun _ _ _ _ _ => (pv 6))) pa_nil)) (pe_callB (r := rLen K) call_len (by rfl) G.len_ PySem.boot_len (pa_cons (pv 3) pa_nil)) (nomark _)) (pa_cons pe_str pa_nil))))
      (pss_cons (ps_setLc (i := 4) (own := [("name", 6), ("options", 8)]) (g := gTup K 2 (gCons (gName 6) (gCons (gName 8) gNil))) rfl nd rfl rfl (sw_true rfl rfl rfl (by decide +kernel)) (pi_tup (pe_ix (r := rIxT K) ix_tup (pv 0) pe_int (fun _ _ => rfl))) (blkOk_by (own := [("name", 6), ("options", 8)]) (by kernel_rfl)) (fun _ _ _ _ _ => (pg_tup rfl (pgs_cons (pg_name (i := 6) nd rfl (.inl rfl)) (pgs_cons (pg_name (i := 8) nd rfl (.inl rfl)) pgs_nil)))) (fun _ _ _ _ _ => pts_nil) (fun _ _ _ _ _ => (pe_tupB (pa_cons (pv 6) (pa_cons (pe_callTy (r := rTupB K) call_tupB (by rfl) G.tuple_ (by decide +kernel) (pa_cons (pe_callB (r := rSortedS K) cr_sortedS (by rfl) G.sorted_ (by decide +kernel) (pa_cons (pe_lc (own := [("one", 7)]) rfl nd (pi_tupK (K' := K) rfl (pv 8)) (blkOk_by (own := [("one", 7)]) (by kernel_rfl)) (fun _ _ _ _ _ => (pg_name (i := 7) nd rfl (.inl rfl))) (fun _ _ _ _ _ => pts_nil) (fun _ _ _ _ _ => (pe_dget2 (hu_of hr) (pv 2) (pv 7) (pv 7) ⟨rfl, rfl, rfl, rfl⟩))) pa_nil)) pa_nil)) pa_nil)))))
      (pss_cons (ps_setLc (i := 5) (own := [("pack", 9)]) rfl nd rfl rfl (sw_true rfl rfl rfl (by decide +kernel)) (pi_tup (pe_ix (r := rIxT K) ix_tup (pv 0) pe_int (fun _ _ => rfl))) (blkOk_by (own := [("pack", 9)]) (by kernel_rfl)) (fun _ _ _ _ _ => (pg_name (i := 9) nd rfl (.inl rfl))) (fun _ _ _ _ _ => pts_nil) (fun _ _ _ _ _ => (pe_tupB (pa_starK (K' := K) rfl (pe_slice (r := rSlB K) sl_tupB (pv 9) po_none (po_some pe_int)) (pa_cons (pe_cl C_called_anew (hr.mono (by decide)) (by rfl) pass0 (pa_cons (pe_ix (r := rIxT K) ix_tup (pv 9) pe_int (fun _ _ => rfl)) (pa_cons (pv 2) pa_nil))) pa_nil)))))
      (pss_one (ps_ret (pe_tupB (pa_cons (pe_cl C_called_anew (hr.mono (by decide)) (by rfl) pass0 (pa_cons (pe_ix (r := rIxT K) ix_tup (pv 0) pe_int (fun _ _ => rfl)) (pa_cons (pv 2) pa_nil))) (pa_cons (pe_cl C_called_anew (hr.mono (by decide)) (by rfl) pass0 (pa_cons (pv 4) (pa_cons (pv 2) pa_nil))) (pa_cons (pe_cl C_called_anew (hr.mono (by decide)) (by rfl) pass0 (pa_cons (pv 5) (pa_cons (pv 2) pa_nil))) pa_nil)))))))))))), ?_⟩
  refine q_dropX (dws := [.d (.int (-1))]) (S := fun _ => tblB t d = true) (R := fun z => z = ("table" : Str) ∧ tblB t d = false) h (a_2 (d_call (S := fun w => w = .d (.bool (tblB t d))) (a_2 (d_var h.env (i := 0) rfl) (d_var h.env (i := 1) rfl)) ⟨t, d, rfl, ht, hnice, hdl, rfl⟩) d_s) (fun H => .cons (.int _) .nil) ⟨tblB t d, _, rfl, fun e => e, fun e => ⟨rfl, e⟩⟩ (fun dx H' z e hz hx => kx dx H' z e (by rw [hz.1]; exact hS.1 hz.2) hx) (fun w H1 e1 htb h1 => ?_)
  obtain ⟨l, hl⟩ := tblB_of htb
  have hld := hl.e
  subst hld
  obtain ⟨s1, s2⟩ := hS.2 l hl
  have hln : (l.map fun p => p.1).Nodup := (pw_of_rising hl.rise).imp fun h => ltS_ne h
  have hll : l.length ≤ 100 := by have := hdl _ rfl; rwa [List.length_map] at this
  refine q_asg h1 (d_cb (S := fun w => w = .m (mT l)) (a_1 (d_var h1.env (i := 1) rfl)) (cs_dictT hln rfl)) (fun v2 w2 H2 e2 ew2 iw2 h2 => ?_)
  subst ew2
  generalize hF : renT l = F at s1 s2
  refine q_asg h2 (S := fun w => w = .d (.list ((t.nm.map F).map PyData.str))) (d_is (d_map (l := t.nm) (enc := fun z => .d (.str z)) (f := fun z => PyData.str (F z)) h2.env (i_listM (f := PyData.str) (d_call (a_1 (d_var h2.env (i := 0) rfl)) ⟨t, rfl, ht.lp, ht.lc, ht.lk, rfl⟩)) (js := [6]) (by decide) (Nat.le_trans ht.ln (by decide)) fun z hz => ⟨_, tg_name, fun σ' H' e' h' => d_is (d_dget2 (d_var h' (i := 2) rfl) (d_var h' (i := 6) rfl) (d_var h' (i := 6) rfl)) (by rw [ren_lk, hF])⟩) (by rw [List.map_map]; rfl)) (fun v3 w3 H3 e3 ew3 iw3 h3 => ?_)
  subst ew3
  refine q_dropX (dws := [.d (.int (-1))]) (S := fun _ => (t.nm.map F).Nodup) (R := fun z => z = ("table" : Str) ∧ ¬ (t.nm.map F).Nodup) h3 (a_2 (d_is (d_op (d_cb (a_1 (d_sk (l := t.nm.map F) (enc := fun z => .d (.str z)) (f := fun z => z) h3.env (i_listM (f := PyData.str) (d_var h3.env (i := 3) rfl)) (js := [6]) (by decide) (by rw [List.length_map]; exact Nat.le_trans ht.ln (by decide)) fun z hz => ⟨_, tg_name, fun σ' H' e' h' => d_var h' (i := 6) rfl⟩)) (cs_lenK rfl)) (d_cb (a_1 (d_var h3.env (i := 3) rfl)) (cs_lenL rfl)) (os_eqD rfl rfl rfl)) (y := .d (.bool (decide (t.nm.map F).Nodup))) ?_) d_s) (fun H => .cons (.int _) .nil) ⟨decide (t.nm.map F).Nodup, _, rfl, fun e => of_decide_eq_true e, fun e => ⟨rfl, of_decide_eq_false e⟩⟩ (fun dx H' z e hz hx => kx dx H' z e (by rw [hz.1]; exact s2 hz.2) hx) (fun w H4 e4 hnd h4 => ?_)
  · rw [eqv_int, List.map_id']
    refine congrArg (fun b => W.d (.bool b)) (decide_eq_decide.mpr ?_)
    rw [List.length_map]
    exact ⟨fun e => (once_eq _).mp (Int.ofNat.inj e), fun e => congrArg _ ((once_eq _).mpr e)⟩
  have hR : ∀ z, renT l z = F z := fun z => by rw [hF]
  have np : t.pn.Nodup := (List.nodup_append.mp (List.nodup_append.mp hf.nd).1).1
  have nc : t.cn.Nodup := (List.nodup_append.mp (List.nodup_append.mp hf.nd).1).2.1
  have nk : t.kn.Nodup := (List.nodup_append.mp hf.nd).2.1
  have mp : ∀ z ∈ t.pn, z ∈ t.nm := fun z hz => List.mem_append_left _ (List.mem_append_left _ hz)
  have mc : ∀ z ∈ t.cn, z ∈ t.nm := fun z hz => List.mem_append_left _ (List.mem_append_right _ hz)
  have mk : ∀ z ∈ t.kn, z ∈ t.nm := fun z hz => List.mem_append_right _ hz
  have sub : ∀ {α : Type} {m : List α} {nm : α → Str}, (m.map nm).Nodup → (∀ z ∈ m.map nm, z ∈ t.nm) → (m.map fun x => renT l (nm x)).Nodup := fun {α m nm} h1 h2 => by
    have e : (m.map fun x => renT l (nm x)) = (m.map nm).map F := by rw [List.map_map]; exact List.map_congr_left fun x _ => hR _
    rw [e]
    exact nodup_sub hnd h1 h2
  refine q_asg h4 (S := fun w => w = .d (.list (t.cs.map fun c => hd (c.1, [.tuple ((sortN znm (c.2.map F)).map PyData.str)])))) (d_map (l := t.cs) (enc := fun c => .d (eC c)) (f := fun c => hd (c.1, [.tuple ((sortN znm (c.2.map F)).map PyData.str)])) h4.env (i_tupM (f := eC) (d_op (d_var h4.env (i := 0) rfl) d_i (os_ixT (at_1 _ _ _) rfl))) (js := [6, 8]) (by decide) (Nat.le_trans hf.lc (by decide)) fun c hc => ⟨_, tg_two, fun σ' H' e' h' => ?_⟩) (fun v5 w5 H5 e5 ew5 iw5 h5 => ?_)
  · obtain ⟨c1, c2, c3, c4⟩ := hf.nc c hc
    refine d_tup (ds := [.str c.1, .tuple ((sortN znm (c.2.map F)).map PyData.str)]) (a_2 (d_var h' (i := 6) rfl) (d_cb (a_1 (d_cb (a_1 (d_is (d_map (l := c.2) (enc := fun z => .d (.str z)) (f := fun z => PyData.str (F z)) h' (i_tupM (f := PyData.str) (d_var h' (i := 8) rfl)) (js := [7]) (by decide) (Nat.le_trans c2 (by decide)) fun z hz => ⟨_, tg_name, fun σ' H' e' h'' => d_is (d_dget2 (d_var h'' (i := 2) rfl) (d_var h'' (i := 7) rfl) (d_var h'' (i := 7) rfl)) (by rw [ren_lk, hF])⟩) (y := .d (.list ((c.2.map F).map PyData.str))) (by rw [List.map_map]; rfl))) (cs_sortZ (by rw [List.length_map]; omega) (nodup_sub hnd c3 c4)))) (cs_tupL rfl))) (by simp)
  subst ew5
  refine q_asg h5 (S := fun w => w = .d (.list (t.ks.map fun k => hd (k.1, [.int k.2.1, .bool k.2.2.1, eB (sortN bnm (k.2.2.2.map fun e => (F e.1, e.2)))])))) (d_map (l := t.ks) (enc := fun k => .d (eK k)) (f := fun k => hd (k.1, [.int k.2.1, .bool k.2.2.1, eB (sortN bnm (k.2.2.2.map fun e => (F e.1, e.2)))])) h5.env (i_tupM (f := eK) (d_op (d_var h5.env (i := 0) rfl) d_i (os_ixT (at_2 _ _ _ _) rfl))) (js := [9]) (by decide) (Nat.le_trans hf.lk (by decide)) fun k hk => ⟨_, tg_name, fun σ' H' e' h' => ?_⟩) (fun v6 w6 H6 e6 ew6 iw6 h6 => ?_)
  · obtain ⟨k1, k2, k3, k4, k5, k6⟩ := hf.nk k hk
    refine d_tup (ds := [.str k.1, .int k.2.1, .bool k.2.2.1, eB (sortN bnm (k.2.2.2.map fun e => (F e.1, e.2)))]) (a_starT (ds := [.str k.1, .int k.2.1, .bool k.2.2.1]) (d_sl (lo := none) (hi := some 3) (d_var h' (i := 9) rfl) o_none (o_some d_i) (ss_T rfl)) (a_1 (d_call (a_2 (d_op (d_var h' (i := 9) rfl) d_i (os_ixT (at_3 _ _ _ _ _) rfl)) (d_var h' (i := 2) rfl)) (fr_t (l := k.2.2.2) (kv := l) (fun e => e.1) (fun e => [.int e.2]) (fun e => (F e.1, e.2)) bnm (fun e => [.int e.2]) (fun e => (hR _).symm) (fun _ => rfl) (sub k5 fun z hz => ?_) (Nat.le_trans k4 (by decide)) (fun _ => by simp) (.inl rfl))))) (by simp)
    obtain ⟨e, he, rfl⟩ := List.mem_map.mp hz
    exact (k6 e he).1
  subst ew6
  refine s_ret h6 (S := T) (d_to (d_tup (ds := [.tuple ((t.ren F).ps.map eP), .tuple ((t.ren F).cs.map eC), .tuple ((t.ren F).ks.map eK)]) (a_3
    (d_call (a_2 (d_op (d_var h6.env (i := 0) rfl) d_i (os_ixT (at_zero _ _) rfl)) (d_var h6.env (i := 2) rfl)) (fr_t (l := t.ps) (kv := l) (fun p => p.1) (fun p => [.int p.2]) (fun p => (F p.1, p.2)) pnm (fun p => [.int p.2]) (fun e => (hR _).symm) (fun _ => rfl) (sub np mp) (Nat.le_trans hf.lp (by decide)) (fun _ => by simp) (.inl rfl)))
    (d_call (a_2 (d_var h6.env (i := 4) rfl) (d_var h6.env (i := 2) rfl)) (fr_t (l := t.cs) (kv := l) (fun p => p.1) (fun c => [.tuple ((sortN znm (c.2.map F)).map PyData.str)]) (fun c => (F c.1, sortN znm (c.2.map F))) cnm (fun p => [.tuple (p.2.map PyData.str)]) (fun e => (hR _).symm) (fun _ => rfl) (sub nc mc) (Nat.le_trans hf.lc (by decide)) (fun _ => by simp) (.inr rfl)))
    (d_call (a_2 (d_var h6.env (i := 5) rfl) (d_var h6.env (i := 2) rfl)) (fr_t (l := t.ks) (kv := l) (fun p => p.1) (fun k => [.int k.2.1, .bool k.2.2.1, eB (sortN bnm (k.2.2.2.map fun e => (F e.1, e.2)))]) (fun k => (F k.1, k.2.1, k.2.2.1, sortN bnm (k.2.2.2.map fun e => (F e.1, e.2)))) knm (fun p => [.int p.2.1, .bool p.2.2.1, eB p.2.2.2]) (fun e => (hR _).symm) (fun _ => rfl) (sub nk mk) (Nat.le_trans hf.lk (by decide)) (fun _ => by simp) (.inr rfl)))) (by simp)) (s1 hnd)) (fun v w H' e s i => k v H' w e s i)
end
end Kl
set_option Elab.async false
set_option linter.all false
set_option maxRecDepth 100000
set_option maxHeartbeats 8000000
/-! L1: the law's drawing. -/
namespace Kl
open PySem PySem.Spec PyProof.Rows L2
theorem shaped_ints (ns : List Int) : SeqAt.shaped (.list (ns.map PyData.int)) = true := by
  have h1 : ∀ ns : List Int, PyData.canLayAll0 (ns.map PyData.int) = true := fun ns => by
    induction ns with
    | nil => rfl
    | cons a l ih => rw [List.map_cons]; simp [PyData.canLayAll0, PyData.canLay0, ih]
  have h2 : ∀ ns : List Int, PyData.depthAll (ns.map PyData.int) = 0 := fun ns => by
    induction ns with
    | nil => rfl
    | cons a l ih => rw [List.map_cons]; simp [PyData.depthAll, PyData.depth, ih]
  show (PyData.canLay0 (.list (ns.map PyData.int)) && decide ((PyData.list (ns.map PyData.int)).depth ≤ 64)) = true
  simp [PyData.canLay0, PyData.depth, h1, h2]
theorem eqv_nil (ns : List Int) : PyData.eqv (.list (ns.map PyData.int)) (.list []) = ns.isEmpty := by
  cases ns with
  | nil => decide +kernel
  | cons a l => simp [PyData.eqv, PyData.eqvAll]
/-- some int of a kind -/
abbrev IntS (P : Int → Prop) : W → Prop := fun w => ∃ i, w = .d (.int i) ∧ P i
section
variable {K : Frg} {σ : L2.St} {H : Hp} {ρ : List (Option W)} {N : List Addr} {B : Hp} {ta tb td ty te : TE} {tz : TS} {D : Ends} {P P2 : Int → Prop} {n : Int}
theorem e_ed {i : Int} (h : Ed ta σ H (.d (.int i))) (p : P i) : Ev ta σ H (IntS P) := h.imp fun w e => ⟨i, e, p⟩
theorem e_any (h : Ev ta σ H (IntS P)) : Ev ta σ H (IntS fun _ => True) := h.imp fun w ⟨i, e, _⟩ => ⟨i, e, trivial⟩
theorem e_add (ha : Ev ta σ H (IntS P)) (hb : Ev tb σ H (IntS P2)) : Ev (tOp (rI0 fun i j => .int (i + j)) ta tb) σ H (IntS fun _ => True) :=
  ev_op ha hb fun x y ⟨i, ex, _⟩ ⟨j, ey, _⟩ => by
    subst ex ey
    exact os_I0 (fun H => .int _) ⟨_, rfl, trivial⟩
theorem e_mul (ha : Ev ta σ H (IntS fun i => -(2 ^ 64) < i ∧ i < 2 ^ 64)) (hb : Ev tb σ H (IntS P2)) : Ev (tOp (rI CMul fun i j => .int (i * j)) ta tb) σ H (IntS fun _ => True) :=
  ev_op ha hb fun x y ⟨i, ex, hi⟩ ⟨j, ey, _⟩ => by
    subst ex ey
    exact os_I (.inl hi) (fun H => .int _) ⟨_, rfl, trivial⟩
theorem e_mod (ha : Ev ta σ H (IntS P)) (hb : Ed tb σ H (.d (.int n))) (hn : 0 < n) : Ev (tOp (rI (fun _ j => 0 < j) fun i j => .int (i % j)) ta tb) σ H (IntS fun i => 0 ≤ i ∧ i < n) :=
  ev_op ha hb fun x y ⟨i, ex, _⟩ ey => by
    subst ex ey
    exact os_I hn (fun H => .int _) ⟨_, rfl, Int.emod_nonneg _ (by omega), Int.emod_lt_of_pos _ hn⟩
theorem e_div (ha : Ev ta σ H (IntS P)) (hb : Ed tb σ H (.d (.int n))) (hn : 0 < n) (hn2 : n < 1073741824) : Ev (tOp (rI CDiv fun i j => .int (i / j)) ta tb) σ H (IntS fun _ => True) :=
  ev_op ha hb fun x y ⟨i, ex, _⟩ ey => by
    subst ex ey
    exact os_I ⟨hn, hn2⟩ (fun H => .int _) ⟨_, rfl, trivial⟩
theorem e_int (ha : Ev ta σ H (IntS P)) : Ev (tCB (fun xs H Q => (∃ i, xs = [.int i] ∧ Q (.int i) H) ∨ ∃ k, xs = [.bl k] ∧ Q (.int (if k then 1 else 0)) H) (tCons ta tNil)) σ H (IntS P) :=
  ev_cb (T := fun xs => ∃ w, xs = [w] ∧ IntS P w) (ea1 (ha.imp fun w h => ⟨w, rfl, h⟩)) fun xs ⟨w, e, i, ew, p⟩ => by
    subst e ew
    exact cs_int ⟨i, rfl, p⟩
theorem e_lt (ha : Ev ta σ H (IntS P)) (hb : Ev tb σ H (IntS P2)) {g : Int → Int → Bool} : Ev (tOp (rI0 fun i j => .bl (g i j)) ta tb) σ H fun w => ∃ b, w = .d (.bool b) ∧ True :=
  ev_op ha hb fun x y ⟨i, ex, _⟩ ⟨j, ey, _⟩ => by
    subst ex ey
    exact os_I0 (fun H => .bl _) ⟨_, rfl, trivial⟩
/-! ### the feed -/
theorem feed_at {N : List Addr} {H : Hp} {v : V} (i : Is (hid N H) v .feed) : ∃ (f c : Addr) (ns : List Int) (s l d : Int), v = .ref f ∧ H f = some (feedO c s l d) ∧ f ∉ N ∧ H c = some (.lst (ns.map V.int)) ∧ c ∉ N := by
  obtain ⟨f, c, ns, s, l, d, e, h1, h2⟩ := i
  exact ⟨f, c, ns, s, l, d, e, (hid_get h1).1, (hid_get h1).2, (hid_get h2).1, (hid_get h2).2⟩
theorem d_fget {k : Str} {S : W → Prop} (hd : Ed td σ H .feed) (hy : Ed ty σ H (.d (.str k))) (hs : ∀ (N : List Addr) (H : Hp) (f c : Addr) (ns : List Int) (s l d : Int), H f = some (feedO c s l d) → H c = some (.lst (ns.map V.int)) → c ∉ N → ∃ v w, valV [((.inr "cells" : Key), V.ref c), (.inr "spot", .int s), (.inr "left", .int l), (.inr "drawn", .int d)] (.inr k) = some v ∧ S w ∧ Is (hid N H) v w) : Ev (tDGet td ty) σ H S := fun N H1 vw Q q =>
  hd N H1 vw _ fun x H2 w e2 s i => by
    subst s
    refine hy N H2 (vw.step e2) _ fun y H3 w e3 s j => ?_
    subst s
    obtain ⟨f, c, ns, s, l, d, rfl, hf, nf, hc, n2⟩ := feed_at (is_mono (hid_mono e3.w) i)
    cases j
    obtain ⟨v, w, h1, h2, h3⟩ := hs N H3 f c ns s l d hf hc n2
    exact ⟨f, v, rfl, .inl ⟨_, .inr k, .inl hf, rfl, h1.symm⟩, q v H3 w (e2.trans e3) h2 h3⟩
theorem d_spot (hd : Ed td σ H .feed) : Ev (tDGet td (tC (.str "spot"))) σ H (IntS fun _ => True) := d_fget hd d_s fun N H f c ns s l d _ _ _ => ⟨.int s, .d (.int s), by unfold valV; rfl, ⟨s, rfl, trivial⟩, .int s⟩
theorem d_left (hd : Ed td σ H .feed) : Ev (tDGet td (tC (.str "left"))) σ H (IntS fun _ => True) := d_fget hd d_s fun N H f c ns s l d _ _ _ => ⟨.int l, .d (.int l), by unfold valV; rfl, ⟨l, rfl, trivial⟩, .int l⟩
theorem d_drawn (hd : Ed td σ H .feed) : Ev (tDGet td (tC (.str "drawn"))) σ H (IntS fun _ => True) := d_fget hd d_s fun N H f c ns s l d _ _ _ => ⟨.int d, .d (.int d), by unfold valV; rfl, ⟨d, rfl, trivial⟩, .int d⟩
theorem d_cells (hd : Ed td σ H .feed) : Ev (tDGet td (tC (.str "cells"))) σ H fun w => ∃ ns : List Int, w = .d (.list (ns.map PyData.int)) := d_fget hd d_s fun N H f c ns s l d _ hc nc => ⟨.ref c, .d (.list (ns.map PyData.int)), by unfold valV; rfl, ⟨ns, rfl⟩, .lst (hid_of hc nc) (dps_int ns)⟩
theorem s_fput {i : Nat} {k : Str} (h : At N B σ H ρ) (hi : ρ[i]? = some (some .feed)) (he : Ev te σ (hid N H) (IntS P)) (hk : ∀ (c : Addr) (s l d x : Int), ∃ s' l' d' : Int, putK [((.inr "cells" : Key), V.ref c), (.inr "spot", .int s), (.inr "left", .int l), (.inr "drawn", .int d)] (.inr k) (.int x) = [((.inr "cells" : Key), V.ref c), (.inr "spot", .int s'), (.inr "left", .int l'), (.inr "drawn", .int d')])
    (q : ∀ H', Ex H H' → At N B σ H' ρ → D.nx σ H') : sDPut (tVar i) (tC (.str k)) te D σ H := by
  refine at_ev h he fun v H1 w e s iw h1 => ?_
  obtain ⟨x, rfl, _⟩ := s
  cases iw
  obtain ⟨u, hu, iu⟩ := h1.env.at_ i _ hi
  obtain ⟨f, c, ns, s, l, d, rfl, hf, nf, hc, _⟩ := feed_at iu
  obtain ⟨s', l', d', ep⟩ := hk c s l d x
  refine ⟨.ref f, hu, f, _, rfl, DPut.k (k := .inr k) hf (show 4 < sizeLine by decide), ?_⟩
  have e2 : Ex H1 (upd H1 f (.dK (putK [((.inr "cells" : Key), V.ref c), (.inr "spot", .int s), (.inr "left", .int l), (.inr "drawn", .int d)] (.inr k) (.int x)))) := by
    rw [ep]
    refine ⟨fun a o ha => ?_, fun T t => tabs_upd t (plain_dK hf)⟩
    by_cases ea : a = f
    · subst ea
      rw [hf] at ha
      cases ha
      exact .inr (.inl ⟨c, s, l, d, s', l', d', rfl, upd_same⟩)
    · exact .inl (by rw [upd_ne ea]; exact ha)
  exact q _ (e.trans e2) (h1.mono e2)
theorem q_fput {i : Nat} {k : Str} (h : At N B σ H ρ) (hi : ρ[i]? = some (some .feed)) (he : Ev te σ (hid N H) (IntS P)) (hk : ∀ (c : Addr) (s l d x : Int), ∃ s' l' d' : Int, putK [((.inr "cells" : Key), V.ref c), (.inr "spot", .int s), (.inr "left", .int l), (.inr "drawn", .int d)] (.inr k) (.int x) = [((.inr "cells" : Key), V.ref c), (.inr "spot", .int s'), (.inr "left", .int l'), (.inr "drawn", .int d')])
    (q : ∀ H', Ex H H' → At N B σ H' ρ → tz D σ H') : tSeq (sDPut (tVar i) (tC (.str k)) te) tz D σ H := s_fput (D := { D with nx := tz D }) h hi he hk q
theorem p_spot : ∀ (c : Addr) (s l d x : Int), ∃ s' l' d' : Int, putK [((.inr "cells" : Key), V.ref c), (.inr "spot", .int s), (.inr "left", .int l), (.inr "drawn", .int d)] (.inr "spot") (.int x) = [((.inr "cells" : Key), V.ref c), (.inr "spot", .int s'), (.inr "left", .int l'), (.inr "drawn", .int d')] := fun c s l d x => ⟨x, l, d, by unfold putK; rfl⟩
theorem p_left : ∀ (c : Addr) (s l d x : Int), ∃ s' l' d' : Int, putK [((.inr "cells" : Key), V.ref c), (.inr "spot", .int s), (.inr "left", .int l), (.inr "drawn", .int d)] (.inr "left") (.int x) = [((.inr "cells" : Key), V.ref c), (.inr "spot", .int s'), (.inr "left", .int l'), (.inr "drawn", .int d')] := fun c s l d x => ⟨s, x, d, by unfold putK; rfl⟩
theorem p_drawn : ∀ (c : Addr) (s l d x : Int), ∃ s' l' d' : Int, putK [((.inr "cells" : Key), V.ref c), (.inr "spot", .int s), (.inr "left", .int l), (.inr "drawn", .int d)] (.inr "drawn") (.int x) = [((.inr "cells" : Key), V.ref c), (.inr "spot", .int s'), (.inr "left", .int l'), (.inr "drawn", .int d')] := fun c s l d x => ⟨s, l, x, by unfold putK; rfl⟩
/-- a, b = x, y -/
theorem q_par {i j : Nat} {Sa Sb : W → Prop} (h : At N B σ H ρ) (ha : Ev ta σ (hid N H) Sa) (hb : Ev tb σ (hid N H) Sb) (k : ∀ v u x y H', Ex H H' → Sa x → Sb y → At N B ((σ.set i (some v)).set j (some u)) H' ((ρ.set i (some x)).set j (some y)) → tz D ((σ.set i (some v)).set j (some u)) H') : tSeq (tPar i j (tCons ta (tCons tb tNil))) tz D σ H := by
  refine at_ev h ha fun v H1 x e1 sx ix h1 => ?_
  refine at_ev h1 (hb.mono (hid_mono e1.w)) fun u H2 y e2 sy iy h2 => ?_
  exact ⟨v, u, rfl, k v u x y H2 (e1.trans e2) sx sy ((h2.set i (is_mono (hid_mono e2.w) ix)).set j iy)⟩
end
end Kl
set_option Elab.async false
set_option linter.all false
set_option maxRecDepth 100000
set_option maxHeartbeats 8000000
/-! L2d: _law_draw, _law_any, _law_number. -/
namespace Kl
open PySem PySem.Spec PyProof.Rows L2
section
variable {P : Program} {w : World} {K : Frg} {mg : Str → Option Value} {base : Heap} {C : Addr}
abbrev s_law_draw : Stmt := topS 46
abbrev n_law_draw : List Str := ["_law_feed_here", "_law_many", "_law_digit", "_law_some_here", "_law_k", "_law_one", "_law_mixed"]
theorem sc_law_draw : FnScope n_law_draw ["_law_feed_here", "_law_many"] (defScope s_law_draw) := ⟨rfl, rfl, rfl, by decide +kernel, rfl, by decide +kernel, by decide +kernel⟩
def F_law_draw : List W → (W → Prop) → Prop := fun ws S => ∃ n : Int, ws = [.feed, .d (.int n)] ∧ 0 < n ∧ n < 1073741824 ∧ ∀ k : Int, 0 ≤ k → k < n → S (.d (.int k))
theorem cl_law_draw (D : Def K mg "_law_draw" s_law_draw) (G : Gm mg) : Cl P w K mg base CX0 1 "_law_draw" [] (SpF F_law_draw) := by
  refine D.ok sc_law_draw (fun _ _ _ _ _ _ us hl => match us, hl with | [_, _], _ => rfl) (fun ws S ⟨_, e, _⟩ => by rw [e]; rfl) ?_
  rintro f cdv A outer s H M vs ws T Q E hr ⟨n, rfl, hn, hn2, hS⟩ h k
  have nd := sc_law_draw.nd
  refine ⟨_, (pss_cons (ps_dput (hu_of hr) (pv 0) pe_str (pe_op op_add (pe_dget (hu_of hr) (pv 0) pe_str (fun _ _ => rfl)) pe_int) rfl)
      (pss_cons (ps_if (pt_cmpR op_gt (pe_dget (hu_of hr) (pv 0) pe_str (fun _ _ => rfl)) pe_int (nomark _)) (pss_cons (ps_set (i := 2) nd rfl (.inl rfl) (pe_op op_mod (pe_callTy call_int1 (by rfl) G.int_ (by decide +kernel) (pa_cons (pe_dget (hu_of hr) (pv 0) pe_str (fun _ _ => rfl)) pa_nil)) (pv 1)))
      (pss_cons (ps_dput (hu_of hr) (pv 0) pe_str (pe_op op_fdiv (pe_dget (hu_of hr) (pv 0) pe_str (fun _ _ => rfl)) (pv 1)) rfl)
      (pss_one (ps_ret (pv 2))))) pss_nil)
      (pss_cons (ps_par (i := 3) (j := 4) (by rfl) nd rfl rfl (by decide) rfl rfl (pa_cons (pe_dget (hu_of hr) (pv 0) pe_str (fun _ _ => rfl)) (pa_cons (pe_dget (hu_of hr) (pv 0) pe_str (fun _ _ => rfl)) pa_nil)) (by rfl))
      (pss_cons (ps_dput (hu_of hr) (pv 0) pe_str (pe_op op_add (pv 4) pe_int) rfl)
      (pss_cons (ps_set (i := 5) nd rfl (.inl rfl) (pe_ifExp (pt_cmpR (r := rNeD K) (op_neD hr.units) (pv 3) (pe_lst pa_nil) (nomark _)) (pe_ix (r := rIxL K) ix_list (pv 3) (pe_op op_mod (pe_callTy call_int1 (by rfl) G.int_ (by decide +kernel) (pa_cons (pv 4) pa_nil)) (pe_callB (r := rLen K) call_len (by rfl) G.len_ PySem.boot_len (pa_cons (pv 3) pa_nil))) (fun _ _ => rfl)) pe_int))
      (pss_cons (ps_if (PW.pt (pw_and (pt_cmpR op_ge (pv 5) (pe_op op_pow pe_int pe_int) (nomark _)) (pw_and1 (pt_cmpR op_lt (pv 4) (pe_callB (r := rLen K) call_len (by rfl) G.len_ PySem.boot_len (pa_cons (pv 3) pa_nil)) (nomark _))))) (pss_cons (ps_dput (hu_of hr) (pv 0) pe_str (pe_op op_fdiv (pv 5) (pv 1)) rfl)
      (pss_one (ps_ret (pe_op op_mod (pe_callTy call_int1 (by rfl) G.int_ (by decide +kernel) (pa_cons (pv 5) pa_nil)) (pv 1))))) pss_nil)
      (pss_cons (ps_set (i := 6) nd rfl (.inl rfl) (pe_op op_mod (pe_callTy call_int1 (by rfl) G.int_ (by decide +kernel) (pa_cons (pe_op op_add (pe_op op_add (pe_op op_mod (pe_callTy call_int1 (by rfl) G.int_ (by decide +kernel) (pa_cons (pv 5) pa_nil)) pe_int) (pe_op op_mul pe_int (pe_dget (hu_of hr) (pv 0) pe_str (fun _ _ => rfl)))) pe_int) pa_nil)) pe_int))
      (pss_cons (ps_set (i := 6) nd rfl (.inl rfl) (pe_op op_mod (pe_callTy call_int1 (by rfl) G.int_ (by decide +kernel) (pa_cons (pe_op op_add (pe_op op_add (pe_op op_mul (pv 6) (pv 6)) (pe_op op_mul pe_int (pe_dget (hu_of hr) (pv 0) pe_str (fun _ _ => rfl)))) pe_int) pa_nil)) pe_int))
      (pss_one (ps_ret (pe_op op_mod (pe_callTy call_int1 (by rfl) G.int_ (by decide +kernel) (pa_cons (pe_op op_fdiv (pe_op op_mod (pe_callTy call_int1 (by rfl) G.int_ (by decide +kernel) (pa_cons (pe_op op_add (pe_op op_mul (pv 6) (pv 6)) (pe_op op_mul pe_int (pv 6))) pa_nil)) pe_int) pe_int) pa_nil)) (pv 1)))))))))))), ?_⟩
  have big : ∀ i : Int, 0 ≤ i ∧ i < 2147483648 → -(2 ^ 64) < i ∧ i < 2 ^ 64 := fun i hi => by omega
  refine q_fput h rfl (e_add (d_drawn (d_var h.env (i := 0) rfl)) (e_ed (P := fun _ => True) d_i trivial)) p_drawn (fun H1 e1 h1 => ?_)
  refine q_when h1 (C := fun _ => True) (eb_test (e_lt (d_left (d_var h1.env (i := 0) rfl)) (e_ed (P := fun _ => True) d_i trivial))) (fun _ H2 e2 h2 => ?_) (fun _ H2 e2 h2 => ?_)
  · refine q_asg h2 (e_mod (e_int (d_left (d_var h2.env (i := 0) rfl))) (d_var h2.env (i := 1) rfl) hn) (fun v w H3 e3 sw iw h3 => ?_)
    obtain ⟨x, rfl, hx⟩ := sw
    refine q_fput h3 rfl (e_div (d_left (d_var h3.env (i := 0) rfl)) (d_var h3.env (i := 1) rfl) hn hn2) p_left (fun H4 e4 h4 => ?_)
    exact s_ret h4 (S := T) (d_to (d_var h4.env (i := 2) rfl) (hS x hx.1 hx.2)) (fun v w H' e s i => k v H' w e s i)
  · refine q_par h2 (d_cells (d_var h2.env (i := 0) rfl)) (d_spot (d_var h2.env (i := 0) rfl)) (fun v u x y H3 e3 sx sy h3 => ?_)
    obtain ⟨ns, rfl⟩ := sx
    obtain ⟨kk, rfl, -⟩ := sy
    refine q_fput h3 rfl (e_add (e_ed (P := fun _ => True) (d_var h3.env (i := 4) rfl) trivial) (e_ed (P := fun _ => True) d_i trivial)) p_spot (fun H4 e4 h4 => ?_)
    refine q_asg h4 (S := IntS fun _ => True) (d_if (b_test (d_op (d_var h4.env (i := 3) rfl) (d_lst (ds := []) a_nil (by simp)) (os_neD (shaped_ints ns) rfl (by rw [eqv_nil])))) (fun hb => ?_) (fun _ => e_ed (P := fun _ => True) d_i trivial)) (fun v5 w5 H5 e5 s5 i5 h5 => ?_)
    · have hp : 0 < ((ns.length : Nat) : Int) := by
        cases ns with
        | nil => cases hb
        | cons a l => simp only [List.length_cons]; omega
      refine ev_op (d_var h4.env (i := 3) rfl) (e_mod (e_int (e_ed (P := fun _ => True) (d_var h4.env (i := 4) rfl) trivial)) (d_cb (a_1 (d_var h4.env (i := 3) rfl)) (cs_lenL (by rw [List.length_map]))) hp) fun x y ex ⟨j, ey, hj⟩ => ?_
      subst ex ey
      obtain ⟨m, rfl⟩ := Int.eq_ofNat_of_zero_le hj.1
      have hm : m < ns.length := by omega
      refine os_ixL (d := .int (ns.getD m 0)) ?_ ⟨_, rfl, trivial⟩
      refine atI_nat ?_
      rw [List.getElem?_map, List.getElem?_eq_getElem hm, List.getD_eq_getElem?_getD, List.getElem?_eq_getElem hm]
      rfl
    obtain ⟨one, rfl, -⟩ := s5
    refine q_when h5 (C := fun _ => True) (eb_and (B' := fun _ => True) (eb_test (e_lt (e_ed (P := fun _ => True) (d_var h5.env (i := 5) rfl) trivial) (ev_op (S := IntS fun _ => True) (Sa := fun w => w = .d (.int 10)) (Sb := fun w => w = .d (.int 18)) d_i d_i fun x y ex ey => by
        subst ex ey
        exact os_I ⟨by decide, by decide, by decide⟩ (fun H => .int _) ⟨_, rfl, trivial⟩))) (fun _ => eb_test (e_lt (e_ed (P := fun _ => True) (d_var h5.env (i := 4) rfl) trivial) (d_cb (a_1 (d_var h5.env (i := 3) rfl)) (cs_lenL (S := IntS fun _ => True) ⟨_, rfl, trivial⟩)))) (fun _ => trivial)) (fun _ H6 e6 h6 => ?_) (fun _ H6 e6 h6 => ?_)
    · refine q_fput h6 rfl (e_div (e_ed (P := fun _ => True) (d_var h6.env (i := 5) rfl) trivial) (d_var h6.env (i := 1) rfl) hn hn2) p_left (fun H7 e7 h7 => ?_)
      exact s_ret h7 (S := T) ((e_mod (e_int (e_ed (P := fun _ => True) (d_var h7.env (i := 5) rfl) trivial)) (d_var h7.env (i := 1) rfl) hn).imp fun w ⟨x, ex, hx⟩ => ex ▸ hS x hx.1 hx.2) (fun v w H' e s i => k v H' w e s i)
    · refine q_asg h6 (e_mod (e_int (e_add (e_add (e_mod (e_int (e_ed (P := fun _ => True) (d_var h6.env (i := 5) rfl) trivial)) d_i (by decide)) (e_mul (e_ed d_i (by decide)) (d_drawn (d_var h6.env (i := 0) rfl)))) (e_ed (P := fun _ => True) d_i trivial))) d_i (by decide)) (fun v7 w7 H7 e7 s7 i7 h7 => ?_)
      obtain ⟨m1, rfl, b1⟩ := s7
      refine q_asg h7 (e_mod (e_int (e_add (e_add (e_mul (e_ed (d_var h7.env (i := 6) rfl) (big m1 ⟨b1.1, by omega⟩)) (e_ed (P := fun _ => True) (d_var h7.env (i := 6) rfl) trivial)) (e_mul (e_ed d_i (by decide)) (d_drawn (d_var h7.env (i := 0) rfl)))) (e_ed (P := fun _ => True) d_i trivial))) d_i (by decide)) (fun v8 w8 H8 e8 s8 i8 h8 => ?_)
      obtain ⟨m2, rfl, b2⟩ := s8
      exact s_ret h8 (S := T) ((e_mod (e_int (e_div (e_mod (e_int (e_add (e_mul (e_ed (d_var h8.env (i := 6) rfl) (big m2 ⟨b2.1, by omega⟩)) (e_ed (P := fun _ => True) (d_var h8.env (i := 6) rfl) trivial)) (e_mul (e_ed d_i (by decide)) (e_ed (P := fun _ => True) (d_var h8.env (i := 6) rfl) trivial)))) d_i (by decide)) d_i (by decide) (by decide))) (d_var h8.env (i := 1) rfl) hn).imp fun w ⟨x, ex, hx⟩ => ex ▸ hS x hx.1 hx.2) (fun v w H' e s i => k v H' w e s i)
abbrev s_law_any : Stmt := topS 47
abbrev n_law_any : List Str := ["_law_feed_here", "_law_some_here"]
theorem sc_law_any : FnScope n_law_any ["_law_feed_here", "_law_some_here"] (defScope s_law_any) := ⟨rfl, rfl, rfl, by decide +kernel, rfl, by decide +kernel, by decide +kernel⟩
def F_law_any : List W → (W → Prop) → Prop := fun ws S => ∃ ds : List PyData, ws = [.feed, .d (.list ds)] ∧ 0 < ds.length ∧ ds.length < 100000 ∧ ∀ d ∈ ds, S (.d d)
theorem ix_any {σ : L2.St} {H : Hp} {ta tb : TE} {ds : List PyData} {S : W → Prop} (ha : Ed ta σ H (.d (.list ds))) (hb : Ev tb σ H (IntS fun i => 0 ≤ i ∧ i < (ds.length : Nat))) (hS : ∀ d ∈ ds, S (.d d)) : Ev (tOp (rIxL K) ta tb) σ H S :=
  ev_op ha hb fun x y ex ⟨j, ey, hj⟩ => by
    subst ex ey
    obtain ⟨m, rfl⟩ := Int.eq_ofNat_of_zero_le hj.1
    have hm : m < ds.length := by omega
    exact os_ixL (d := ds[m]) (atI_nat (List.getElem?_eq_getElem hm)) (hS _ (List.getElem_mem hm))
theorem cl_law_any (D : Def K mg "_law_any" s_law_any) (G : Gm mg) (C_law_draw : Cl P w K mg base CX0 1 "_law_draw" [] (SpF F_law_draw)) : Cl P w K mg base CX0 2 "_law_any" [] (SpF F_law_any) := by
  refine D.ok sc_law_any (fun _ _ _ _ _ _ us hl => match us, hl with | [_, _], _ => rfl) (fun ws S ⟨_, e, _⟩ => by rw [e]; rfl) ?_
  rintro f cdv A outer s H M vs ws T Q E hr ⟨ds, rfl, h0, hl, hS⟩ h k
  refine ⟨_, (pss_one (ps_ret (pe_ix (r := rIxL K) ix_list (pv 1) (pe_cl C_law_draw (hr.mono (by decide)) (by rfl) pass0 (pa_cons (pv 0) (pa_cons (pe_callB (r := rLen K) call_len (by rfl) G.len_ PySem.boot_len (pa_cons (pv 1) pa_nil)) pa_nil))) (fun _ _ => rfl)))), ?_⟩
  exact s_ret h (S := T) (ix_any (d_var h.env (i := 1) rfl) (d_call (a_2 (d_var h.env (i := 0) rfl) (d_cb (a_1 (d_var h.env (i := 1) rfl)) (cs_lenL rfl))) ⟨_, rfl, by omega, by omega, fun k h0 h1 => ⟨k, rfl, h0, h1⟩⟩) hS) (fun v w H' e s i => k v H' w e s i)
abbrev s_law_number : Stmt := topS 49
abbrev n_law_number : List Str := ["_law_feed_here"]
theorem sc_law_number : FnScope n_law_number ["_law_feed_here"] (defScope s_law_number) := ⟨rfl, rfl, rfl, by decide +kernel, rfl, by decide +kernel, by decide +kernel⟩
def F_law_number : List W → (W → Prop) → Prop := fun ws S => ws = [.feed] ∧ ∀ n : Int, 0 ≤ n → n < 10 ^ 79 → S (.d (.int n))
theorem cl_law_number (D : Def K mg "_law_number" s_law_number) (G : Gm mg) (C_law_any : Cl P w K mg base CX0 2 "_law_any" [] (SpF F_law_any)) : Cl P w K mg base CX0 3 "_law_number" [] (SpF F_law_number) := by
  refine D.ok sc_law_number (fun _ _ _ _ _ _ us hl => match us, hl with | [_], _ => rfl) (fun ws S ⟨e, _⟩ => by rw [e]; rfl) ?_
  rintro f cdv A outer s H M vs ws T Q E hr ⟨rfl, hS⟩ h k
  refine ⟨_, (pss_one (ps_ret (pe_cl C_law_any (hr.mono (by decide)) (by rfl) pass0 (pa_cons (pv 0) (pa_cons (pe_lst (pa_cons pe_int (pa_cons pe_int (pa_cons pe_int (pa_cons pe_int (pa_cons pe_int (pa_cons pe_int (pa_cons pe_int (pa_cons pe_int (pa_cons pe_int (pa_cons pe_int (pa_cons pe_int (pa_cons pe_int (pa_cons (pe_op op_pow pe_int pe_int) pa_nil)))))))))))))) pa_nil))))), ?_⟩
  have h20 : Ed (tOp (rI CPow fun i j => .int (i ^ j.toNat)) (tC (.int 10)) (tC (.int 20))) (L2.start n_law_number vs) (hid M H) (.d (.int (10 ^ 20))) := d_op d_i d_i (os_I ⟨by decide, by decide, by decide⟩ (fun H => .int _) rfl)
  exact s_ret h (S := T) (d_call (a_2 (d_var h.env (i := 0) rfl) (d_lst (ds := [.int 0, .int 1, .int 2, .int 3, .int 4, .int 7, .int 9, .int 10, .int 11, .int 60, .int 99, .int 100, .int (10 ^ 20)]) (a_cons d_i (a_cons d_i (a_cons d_i (a_cons d_i (a_cons d_i (a_cons d_i (a_cons d_i (a_cons d_i (a_cons d_i (a_cons d_i (a_cons d_i (a_cons d_i (a_cons h20 a_nil))))))))))))) (by simp))) ⟨_, rfl, by decide, by decide, fun d hd => by
    simp only [List.mem_cons, List.not_mem_nil, or_false] at hd
    rcases hd with e | e | e | e | e | e | e | e | e | e | e | e | e <;> subst e <;> exact hS _ (by decide) (by decide)⟩) (fun v w H' e s i => k v H' w e s i)
end
end Kl
set_option Elab.async false
set_option linter.all false
set_option maxRecDepth 100000
set_option maxHeartbeats 8000000
/-! L3: drawn comprehensions; slices; _law_some. -/
namespace Kl
open PySem PySem.Spec PyProof.Rows L2
section
variable {K : Frg} {σ : L2.St} {H : Hp} {ρ : List (Option W)} {te : TE} {tt : TT} {wi : TI} {g : TG} {vs js : List Nat} {α β : Type}
/-- some of them -/
theorem e_pick {l : List α} {enc : α → W} {f : α → PyData} (hE : Env σ H ρ) (hi : EvI wi σ H fun ws => ws = l.map enc) (hj : ∀ j ∈ js, j ∈ vs) (hlen : l.length ≤ 60000)
    (ht : ∀ x, x ∈ l → ∃ us, Tg g js (enc x) us ∧ ∀ σ' H', Exw H H' → Env σ' H' (setr (wip ρ vs) js us) → EvB tt σ' H' (fun _ => True) ∧ Ed te σ' H' (.d (f x))) :
    Ev (tLc wi g tt te vs) σ H fun w => ∃ o : List α, w = .d (.list (o.map f)) ∧ o.Sublist l :=
  ev_lc hE hi hj fun ws tw => by
    subst tw
    refine ⟨by rw [List.length_map]; exact hlen, fun i acc => ∃ o : List α, acc = o.map f ∧ o.Sublist (l.take i), ⟨[], rfl, List.nil_sublist _⟩, fun acc ⟨o, ha, hs⟩ => ?_, fun i w acc hw ⟨o, ha, hs⟩ => ?_⟩
    · rw [List.length_map, List.take_length] at hs
      exact ⟨o, by rw [ha], hs⟩
    · rw [List.getElem?_map] at hw
      cases q : l[i]? with
      | none => rw [q] at hw; cases hw
      | some x =>
        rw [q] at hw
        cases hw
        obtain ⟨us, hg, body⟩ := ht x (List.mem_of_getElem? q)
        have et : l.take (i + 1) = l.take i ++ [x] := by rw [List.take_add_one, q]; rfl
        refine ⟨us, hg, fun σ' H' e hE' => ⟨fun _ => True, (body σ' H' e hE').1, fun _ => (body σ' H' e hE').2.imp fun w ew => ⟨f x, ew, o ++ [x], by rw [ha, List.map_append]; rfl, by rw [et]; exact hs.append (List.Sublist.refl _)⟩, fun _ => ⟨o, ha, by rw [et]; exact hs.trans (List.sublist_append_left _ _)⟩⟩⟩
/-- one drawn for each -/
theorem e_rmap {l : List α} {enc : α → W} {f : β → PyData} (R : α → β → Prop) (hE : Env σ H ρ) (hi : EvI wi σ H fun ws => ws = l.map enc) (hj : ∀ j ∈ js, j ∈ vs) (hlen : l.length ≤ 60000)
    (ht : ∀ x, x ∈ l → ∃ us, Tg g js (enc x) us ∧ ∀ σ' H', Exw H H' → Env σ' H' (setr (wip ρ vs) js us) → Ev te σ' H' fun w => ∃ y, w = .d (f y) ∧ R x y) :
    Ev (tLc wi g tYes te vs) σ H fun w => ∃ ys : List β, w = .d (.list (ys.map f)) ∧ ys.length = l.length ∧ ∀ (i : Nat) x y, l[i]? = some x → ys[i]? = some y → R x y :=
  ev_lc hE hi hj fun ws tw => by
    subst tw
    refine ⟨by rw [List.length_map]; exact hlen, fun i acc => ∃ ys : List β, acc = ys.map f ∧ ys.length = (l.take i).length ∧ ∀ (j : Nat) x y, (l.take i)[j]? = some x → ys[j]? = some y → R x y, ⟨[], rfl, rfl, fun j x y _ h => by simp at h⟩, fun acc ⟨o, ha, hs⟩ => ?_, fun i w acc hw ⟨o, ha, hs, hR⟩ => ?_⟩
    · rw [List.length_map, List.take_length] at hs
      exact ⟨o, by rw [ha], hs⟩
    · rw [List.getElem?_map] at hw
      cases q : l[i]? with
      | none => rw [q] at hw; cases hw
      | some x =>
        rw [q] at hw
        cases hw
        obtain ⟨us, hg, body⟩ := ht x (List.mem_of_getElem? q)
        have et : l.take (i + 1) = l.take i ++ [x] := by rw [List.take_add_one, q]; rfl
        refine ⟨us, hg, fun σ' H' e hE' => ⟨fun b => b = true, fun N H1 _ Q q => q true H1 (Ex.refl _) rfl, fun _ => (body σ' H' e hE').imp fun w ⟨y, ew, hy⟩ => ⟨f y, ew, o ++ [y], by rw [ha, List.map_append]; rfl, by rw [et, List.length_append, List.length_append, hs]; rfl, fun j a b ha hb => ?_⟩, fun z => by cases z⟩⟩
        rw [et] at ha
        by_cases hj : j < o.length
        · rw [List.getElem?_append_left (by omega)] at ha
          rw [List.getElem?_append_left hj] at hb
          exact hR j a b ha hb
        · rw [List.getElem?_append_right (by omega)] at ha
          rw [List.getElem?_append_right (by omega)] at hb
          have e0 : j - o.length = 0 := by
            cases h : j - o.length with
            | zero => rfl
            | succ m => rw [h] at hb; simp at hb
          rw [e0] at hb
          rw [← hs, e0] at ha
          cases ha
          cases hb
          exact hy
/-! ### slices -/
theorem cutG_to {xs : List α} {n : Nat} : cutG xs none (some (n : Int)) = xs.take n := by
  unfold cutG
  rw [show HT.sIx xs.length xs.length (some (n : Int)) = min n xs.length from HT.sIx_nat xs.length xs.length n, HT.sIx_none, List.drop_zero, Nat.sub_zero]
  rcases Nat.le_total n xs.length with h | h
  · rw [Nat.min_eq_left h]
  · rw [Nat.min_eq_right h, List.take_length, List.take_of_length_le h]
theorem cutG_from {xs : List α} {n : Nat} : cutG xs (some (n : Int)) none = xs.drop n := by
  unfold cutG
  rw [show HT.sIx xs.length 0 (some (n : Int)) = min n xs.length from HT.sIx_nat xs.length 0 n, HT.sIx_none]
  rcases Nat.le_total n xs.length with h | h
  · rw [Nat.min_eq_left h, List.take_of_length_le (by rw [List.length_drop]; omega)]
  · rw [Nat.min_eq_right h, Nat.sub_self, List.take_zero, List.drop_of_length_le h]
theorem cutG_mid {xs : List α} {m n : Nat} (h : m ≤ n) (hn : n ≤ xs.length) : cutG xs (some (m : Int)) (some (n : Int)) = (xs.drop m).take (n - m) := by
  unfold cutG
  rw [show HT.sIx xs.length 0 (some (m : Int)) = min m xs.length from HT.sIx_nat xs.length 0 m, show HT.sIx xs.length xs.length (some (n : Int)) = min n xs.length from HT.sIx_nat xs.length xs.length n, Nat.min_eq_left (Nat.le_trans h hn), Nat.min_eq_left hn]
theorem cutG_midE {xs : List α} {m k : Nat} (hk : 0 < k) (hn : m + k ≤ xs.length) : cutG xs (some (m : Int)) (some (-(k : Int))) = (xs.drop m).take (xs.length - k - m) := by
  unfold cutG
  have e2 : HT.sIx xs.length xs.length (some (-(k : Int))) = xs.length - k := by
    show (if (-(k : Int)) < 0 then ((-(k : Int)) + (xs.length : Int)).toNat else min (-(k : Int)).toNat xs.length) = _
    rw [if_pos (by omega)]; omega
  rw [show HT.sIx xs.length 0 (some (m : Int)) = min m xs.length from HT.sIx_nat xs.length 0 m, e2, Nat.min_eq_left (by omega)]
theorem cutG_end {xs : List α} {k : Nat} (hk : 0 < k) (hn : k ≤ xs.length) : cutG xs (some (-(k : Int))) none = xs.drop (xs.length - k) := by
  unfold cutG
  have e2 : HT.sIx xs.length 0 (some (-(k : Int))) = xs.length - k := by
    show (if (-(k : Int)) < 0 then ((-(k : Int)) + (xs.length : Int)).toNat else min (-(k : Int)).toNat xs.length) = _
    rw [if_pos (by omega)]; omega
  rw [e2, HT.sIx_none, List.take_of_length_le (by rw [List.length_drop]; omega)]
theorem cutG_map {f : α → β} {xs : List α} {lo hi : Option Int} : cutG (xs.map f) lo hi = (cutG xs lo hi).map f := by
  unfold cutG
  rw [List.length_map, List.map_take, List.map_drop]
end
theorem sortN_mem {α : Type} {nm : α → Str} {l : List α} {x : α} : x ∈ sortN nm l ↔ x ∈ l := (sortN_perm l).mem_iff
theorem sortN_len {α : Type} {nm : α → Str} {l : List α} : (sortN nm l).length = l.length := (sortN_perm l).length_eq
theorem sortZ_rise {l : List Str} (h : l.Nodup) : risingB (sortN znm l) = true := by
  have q := sortN_rise (nm := znm) (l := l) (by rw [show l.map znm = l from List.map_id _]; exact h)
  rwa [show (sortN znm l).map znm = sortN znm l from List.map_id _] at q
section
variable {P : Program} {w : World} {K : Frg} {mg : Str → Option Value} {base : Heap} {C : Addr}
abbrev s_law_some : Stmt := topS 50
abbrev n_law_some : List Str := ["_law_feed_here", "_law_things", "_law_least", "_law_found", "_law_one"]
theorem sc_law_some : FnScope n_law_some ["_law_feed_here", "_law_things", "_law_least"] (defScope s_law_some) := ⟨rfl, rfl, rfl, by decide +kernel, rfl, by decide +kernel, by decide +kernel⟩
def F_law_some : List W → (W → Prop) → Prop := fun ws S => ∃ l : List Str, ws = [.feed, .d (.list (l.map PyData.str)), .d (.int 2)] ∧ l.Nodup ∧ 2 ≤ l.length ∧ l.length ≤ 20 ∧ ∀ o : List Str, risingB o = true → 2 ≤ o.length → o.length ≤ l.length → (∀ z ∈ o, z ∈ l) → S (.d (.tuple (o.map PyData.str)))
theorem cl_law_some (D : Def K mg "_law_some" s_law_some) (G : Gm mg) (C_law_draw : Cl P w K mg base CX0 1 "_law_draw" [] (SpF F_law_draw)) : Cl P w K mg base CX0 2 "_law_some" [] (SpF F_law_some) := by
  refine D.ok sc_law_some (fun _ _ _ _ _ _ us hl => match us, hl with | [_, _, _], _ => rfl) (fun ws S ⟨_, e, _⟩ => by rw [e]; rfl) ?_
  rintro f cdv A outer s H M vs ws T Q E hr ⟨l, rfl, hn, h2l, hl, hS⟩ h k
  have nd := sc_law_some.nd
  refine ⟨_, (pss_cons (ps_setLc (i := 3) (own := [("_law_one", 4)]) rfl nd rfl rfl (sw_true rfl rfl rfl (by decide +kernel)) (pi_list (pv 1)) (blkOk_by (own := [("_law_one", 4)]) (by kernel_rfl)) (fun _ _ _ _ _ => (pg_name (i := 4) nd rfl (.inl rfl))) (fun _ _ _ _ _ => pts_one (pt_cmpR (r := rEqD K) (op_eqD hr.units) (pe_cl C_law_draw (hr.mono (by decide)) (by rfl) pass0 (pa_cons (pv 0) (pa_cons pe_int pa_nil))) pe_int (nomark _))) (fun _ _ _ _ _ => (pv 4)))
      (pss_one (ps_ret (pe_callTy (r := rTupB K) call_tupB (by rfl) G.tuple_ (by decide +kernel) (pa_cons (pe_callB (r := rSortedS K) cr_sortedS (by rfl) G.sorted_ (by decide +kernel) (pa_cons (pe_ifExp (pt_cmpR op_ge (pe_callB (r := rLen K) call_len (by rfl) G.len_ PySem.boot_len (pa_cons (pv 3) pa_nil)) (pv 2) (nomark _)) (pv 3) (pe_slice (r := rSlL K) sl_list (pv 1) po_none (po_some (pv 2)))) pa_nil)) pa_nil))))), ?_⟩
  refine q_asg h (e_pick (l := l) (enc := fun z => .d (.str z)) (f := fun z => PyData.str z) h.env (i_listM (f := PyData.str) (d_var h.env (i := 1) rfl)) (js := [4]) (by decide) (Nat.le_trans hl (by decide)) fun z hz => ⟨_, tg_name, fun σ' H' e' h' => ⟨?_, d_var h' (i := 4) rfl⟩⟩) (fun v w H1 e1 sw iw h1 => ?_)
  · refine eb_test (ev_op (Sa := IntS fun _ => True) (d_call (a_2 (d_var h' (i := 0) rfl) d_i) ⟨2, rfl, by decide, by decide, fun k _ _ => ⟨k, rfl, trivial⟩⟩) d_i fun x y ⟨i, ex, _⟩ ey => ?_)
    subst ex ey
    exact os_eqD rfl rfl ⟨_, rfl, trivial⟩
  obtain ⟨o, rfl, hs⟩ := sw
  have hon := hs.nodup hn
  have hol := hs.length_le
  refine s_ret h1 (S := T) (ev_cb (T := fun xs => ∃ o : List Str, xs = [.d (.list (o.map PyData.str))] ∧ risingB o = true ∧ 2 ≤ o.length ∧ o.length ≤ l.length ∧ ∀ z ∈ o, z ∈ l) (ea1 (ev_cb (T := fun xs => ∃ o : List Str, xs = [.d (.list (o.map PyData.str))] ∧ o.Nodup ∧ 2 ≤ o.length ∧ o.length ≤ l.length ∧ ∀ z ∈ o, z ∈ l) (ea1 (d_if (b_test (d_op (d_cb (a_1 (d_var h1.env (i := 3) rfl)) (cs_lenL rfl)) (d_var h1.env (i := 2) rfl) (os_I0 (fun H => .bl _) rfl))) (fun hb => ?_) (fun hb => ?_))) fun xs ⟨o, ex, a1, a2, a3, a4⟩ => ?_)) fun xs ⟨o, ex, a1, a2, a3, a4⟩ => ?_) (fun v w H' e s i => k v H' w e s i)
  · have hb2 : (2 : Int) ≤ (((o.map PyData.str).length : Nat) : Int) := of_decide_eq_true hb
    rw [List.length_map] at hb2
    exact d_to (d_var h1.env (i := 3) rfl) ⟨o, rfl, hon, by omega, hol, fun z hz => hs.subset hz⟩
  · refine d_sl (lo := none) (hi := some 2) (d_var h1.env (i := 1) rfl) o_none (o_some (d_var h1.env (i := 2) rfl)) (ss_L ⟨l.take 2, ?_, ?_, ?_, ?_, fun z hz => List.mem_of_mem_take hz⟩)
    · rw [show (2 : Int) = ((2 : Nat) : Int) from rfl, cutG_to, List.map_take]
    · exact (List.take_sublist 2 l).nodup hn
    · rw [List.length_take]; omega
    · rw [List.length_take]; omega
  · subst ex
    intro N H al vs' iv Q q
    exact cs_sortZ (K := K) (by omega) a1 N H al vs' iv Q fun z H2 w e s i => q z H2 w e ⟨sortN znm o, by rw [s], sortZ_rise a1, by rw [sortN_len]; exact a2, by rw [sortN_len]; exact a3, fun z hz => a4 z (sortN_mem.mp hz)⟩ i
  · subst ex
    exact cs_tupL (hS o a1 a2 a3 a4)
end
end Kl
set_option Elab.async false
set_option linter.all false
set_option maxRecDepth 100000
set_option maxHeartbeats 8000000
/-! L4: new lists of texts that are changed later; list(a text); pop. -/
namespace Kl
open PySem PySem.Spec PyProof.Rows L2
/-- a list of texts that stands nowhere in V -/
def WFs (V0 : Hp) (zs : List Str) : W := .x (fun H v => ∃ l, v = .ref l ∧ V0 l = none ∧ H l = some (.lst (zs.map V.str))) fun H H' v e ⟨l, h1, h2, h3⟩ => ⟨l, h1, h2, e.lst h3⟩
section
variable {X : Cx}
/-- list(a text) -/
def rListS : List V → Hp → VK → Prop := fun xs H Q => ∃ z : Str, xs = [.str z] ∧ z.length ≤ 100000 ∧ ∀ p, H p = none → Q (.ref p) (upd H p (.lst (z.cps.toList.map fun c => V.str ⟨#[c]⟩)))
theorem paired_get {α β : Type} {R : α → β → Prop} : ∀ {xs : List α} {us : List β}, xs.length = us.length → (∀ (i : Nat) x u, xs[i]? = some x → us[i]? = some u → R x u) → Paired R xs us
  | [], [], _, _ => .nil
  | [], _ :: _, h, _ => by cases h
  | _ :: _, [], h, _ => by cases h
  | x :: xs, u :: us, h, hR => .cons (hR 0 x u rfl rfl) (paired_get (Nat.succ.inj h) fun i a b ha hb => hR (i + 1) a b (by simpa using ha) (by simpa using hb))
theorem signs_vals {z : Str} {acc : Array Value} (h : ItemsOf (SignAt z) acc z.cps.size) : Vals (z.cps.toList.map fun c => V.str ⟨#[c]⟩) acc.toList := by
  refine paired_get ?_ fun i x u hx hu => ?_
  · rw [List.length_map, Array.length_toList, Array.length_toList, h.1]
  · obtain ⟨c, t, hc, rfl⟩ := h.2 i u (by simpa using hu)
    rw [List.getElem?_map, Array.getElem?_toList, hc] at hx
    cases hx
    exact ⟨t, rfl⟩
theorem call_listS (hc : X.calm = true) : CallR X (.type "list") rListS := by
  intro pins s σ H xs us Q I r h
  obtain ⟨z, rfl, hz, q⟩ := h
  obtain ⟨u, rfl, t, rfl⟩ := vals1 r
  refine call_list_str (I.ok.hd hc) z t (fun h' tk acc' c' kp e ho => ?_) (Nat.le_trans hz (by decide))
  exact ⟨.ref s.heap.objs.size, _, I.laid (t' := tk) kp (Nat.le_refl _) (show ObjOk X.prog X.w _ h' _ (.lst (z.cps.toList.map fun c => V.str ⟨#[c]⟩)) from ⟨by rw [List.length_map]; exact Nat.le_trans hz (by decide), acc'.toList, c', signs_vals ho, e⟩), rfl, q _ (I.hok.fresh (Nat.le_refl _))⟩
end
section
variable {K : Frg} {σ : L2.St} {H : Hp} {ρ : List (Option W)} {N : List Addr} {B : Hp} {ta tb td ty te : TE} {tz : TS} {D : Ends} {S : W → Prop} {xs ys zs : List Str}
theorem fresh_at {N : List Addr} {V0 H : Hp} (vw : Vw N V0 H) {p : Addr} (hp : H p = none) : V0 p = none := by
  cases e : V0 p with
  | none => rfl
  | some o =>
    have h0 : hid N H p = none := by unfold hid; split <;> first | rfl | exact hp
    exact absurd h0 (vw.ex.some (by rw [e]; nofun))
theorem new_wfs {N : List Addr} {V0 H H1 : Hp} {p : Addr} (vw : Vw N V0 H) (e : Ex H H1) (hp : H1 p = none) : Is (hid N (upd H1 p (.lst (zs.map V.str)))) (.ref p) (WFs V0 zs) :=
  ⟨p, rfl, fresh_at vw (e.back hp), hid_of upd_same ((vw.step e).new hp)⟩
theorem f_cat (ha : Ed ta σ H (.d (.list (xs.map PyData.str)))) (hb : Ed tb σ H (.d (.list (ys.map PyData.str)))) (hl : xs.length + ys.length ≤ 100000) : Ed (tOp rCat ta tb) σ H (WFs H (xs ++ ys)) := fun N H1 vw Q q =>
  ha N H1 vw _ fun x H2 w e2 s i => by
    subst s
    refine hb N H2 (vw.step e2) _ fun y H3 w e3 s j => ?_
    subst s
    obtain ⟨a, us, rfl, h1, n1, d1⟩ := hid_lst (is_mono (hid_mono e3.w) i)
    obtain ⟨b, zs, rfl, h2, n2, d2⟩ := hid_lst j
    have eu := of_dps_str d1
    have ez := of_dps_str d2
    subst eu ez
    refine ⟨a, b, _, _, rfl, rfl, h1, h2, Nat.le_trans (by rw [List.length_map, List.length_map]; exact hl) (by decide), fun p hp => ?_⟩
    rw [← List.map_append]
    exact q _ _ _ ((e2.trans e3).trans (Ex.new hp)) rfl (new_wfs vw (e2.trans e3) hp)
theorem f_listL (ha : Ed ta σ H (.d (.list (xs.map PyData.str)))) : Ed (tCB (rListOf K) (tCons ta tNil)) σ H (WFs H xs) := fun N H1 vw Q q =>
  ha N H1 vw _ fun x H2 w e2 s i => by
    subst s
    obtain ⟨a, us, rfl, h1, n1, d1⟩ := hid_lst i
    have eu := of_dps_str d1
    subst eu
    exact ⟨a, _, rfl, .inl (.inl (.inl h1)), fun p hp => q _ _ _ (e2.trans (Ex.new hp)) rfl (new_wfs vw e2 hp)⟩
theorem f_listS {z : Str} (ha : Ed ta σ H (.d (.str z))) (hl : z.length ≤ 100000) : Ed (tCB rListS (tCons ta tNil)) σ H (WFs H (z.cps.toList.map fun c => ⟨#[c]⟩)) := fun N H1 vw Q q =>
  ha N H1 vw _ fun x H2 w e2 s i => by
    subst s
    cases i
    refine ⟨z, rfl, hl, fun p hp => ?_⟩
    have e : (z.cps.toList.map fun c => V.str ⟨#[c]⟩) = (z.cps.toList.map fun c => (⟨#[c]⟩ : Str)).map V.str := by rw [List.map_map]; rfl
    rw [e]
    exact q _ _ _ (e2.trans (Ex.new hp)) rfl (new_wfs vw e2 hp)
theorem f_lst {t : TA} {zs : List Str} (h : Ea t σ H (zs.map fun z => W.d (.str z))) (hl : zs.length ≤ 100000) : Ed (tLst t) σ H (WFs H zs) := fun N H1 vw Q q => by
  refine h N H1 vw _ fun us H2 ws e2 s i => ?_
  subst s
  have hd : DqAll (hid N H2) us (zs.map PyData.str) := isa_dps (by rw [List.map_map]; exact i)
  have eu := of_dps_str hd
  subst eu
  exact ⟨Nat.le_trans (by rw [List.length_map]; exact hl) (by decide), fun p hp => q _ _ _ (e2.trans (Ex.new hp)) rfl (new_wfs vw e2 hp)⟩
/-- one text for each -/
theorem f_lc {wi : TI} {g : TG} {vs js : List Nat} {α : Type} {l : List α} {enc : α → W} {f : α → Str} (hE : Env σ H ρ) (hi : EvI wi σ H fun ws => ws = l.map enc) (hj : ∀ j ∈ js, j ∈ vs) (hlen : l.length ≤ 60000)
    (ht : ∀ x, x ∈ l → ∃ us, Tg g js (enc x) us ∧ ∀ σ' H', Exw H H' → Env σ' H' (setr (wip ρ vs) js us) → Ed te σ' H' (.d (.str (f x)))) :
    Ed (tLc wi g tYes te vs) σ H (WFs H (l.map f)) := fun N H1 vw Q q => by
  refine lc_any (Pe := fun acc => acc = (l.map f).map PyData.str) hE hi hj (fun ws tw => ?_) N H1 vw Q fun D H2 xs acc e hD pa hxs nD hda => ?_
  · subst tw
    refine ⟨by rw [List.length_map]; exact hlen, fun i acc => acc = ((l.take i).map f).map PyData.str, rfl, fun acc ha => ?_, fun i w acc hw ha => ?_⟩
    · rw [List.length_map, List.take_length] at ha
      exact ha
    · rw [List.getElem?_map] at hw
      cases e : l[i]? with
      | none => rw [e] at hw; cases hw
      | some x =>
        rw [e] at hw
        cases hw
        obtain ⟨us, hg, body⟩ := ht x (List.mem_of_getElem? e)
        have et : l.take (i + 1) = l.take i ++ [x] := by rw [List.take_add_one, e]; rfl
        exact ⟨us, hg, fun σ' H' e hE' => ⟨fun b => b = true, fun N H1 _ Q q => q true H1 (Ex.refl _) rfl, fun _ => (body σ' H' e hE').imp fun w ew => ⟨.str (f x), ew, by show acc ++ _ = ((l.take (i + 1)).map f).map PyData.str; rw [ha, et, List.map_append, List.map_append]; rfl⟩, fun z => by cases z⟩⟩
  · subst pa
    have ex := of_dps_str hda
    subst ex
    exact q _ H2 _ e rfl ⟨D, rfl, fresh_at vw hD, hid_of hxs nD⟩
/-- such a list, stored -/
theorem q_asgF {i : Nat} {Sz : List Str → Prop} (h : At N B σ H ρ) (he : Ev te σ (hid N H) fun w => ∃ zs, w = WFs (hid N H) zs ∧ Sz zs) (k : ∀ v zs H', Ex H H' → Sz zs → At N B (σ.set i (some v)) H' (ρ.set i (some (WFs B zs))) → tz D (σ.set i (some v)) H') : tSeq (tAsg te (gName i)) tz D σ H :=
  at_ev h he fun v H' w e s q a => by
    obtain ⟨zs, rfl, sz⟩ := s
    obtain ⟨l, rfl, h1, h2⟩ := q
    refine k _ zs H' e sz (a.set i ⟨l, rfl, ?_, h2⟩)
    cases eB : B l with
    | none => rfl
    | some o =>
      have h3 : H l ≠ none := h.ex.some (by rw [eB]; nofun)
      cases eH : H l with
      | none => exact absurd eH h3
      | some o' =>
        rw [hid_of eH (hid_get h2).2] at h1
        cases h1
/-- .. read -/
theorem d_varF {i : Nat} {V0 : Hp} (h : Env σ H ρ) (e : ρ[i]? = some (some (WFs V0 zs))) : Ed (tVar i) σ H (.d (.list (zs.map PyData.str))) := fun N H1 vw Q q => by
  obtain ⟨v, h1, l, rfl, h2, h3⟩ := h.at_ i _ e
  exact ⟨_, h1, q _ H1 _ (Ex.refl _) rfl (is_mono vw.ex (.lst h3 (dps_str zs)))⟩
def safeW : W → Bool
  | .d (.int _) | .d (.str _) | .d (.bool _) | .d .none | .v _ | .feed => true
  | _ => false
/-- .. taken in hand -/
theorem At.hideF {i : Nat} (h : At N B σ H ρ) (hi : ρ[i]? = some (some (WFs B zs))) (hs : ∀ (j : Nat) w, ρ[j]? = some (some w) → j = i ∨ safeW w = true) (hz : zs ≠ []) : ∃ l, At (l :: N) B σ H (ρ.set i (some (.v (.ref l)))) ∧ ML (l :: N) B H l (zs.map PyData.str) := by
  obtain ⟨v, h1, l, rfl, h2, h3⟩ := h.env.at_ i _ hi
  obtain ⟨h4, h5⟩ := hid_get h3
  refine ⟨l, ⟨fun a m => ?_, h.ex, ?_, fun j w e => ?_⟩, List.mem_cons_self, h2, _, h4, dps_str zs⟩
  · rcases List.mem_cons.mp m with e | m
    · rw [e, h4]; nofun
    · exact h.al a m
  · rw [List.length_set]; exact h.env.len
  · by_cases ej : j = i
    · subst ej
      have hlt : j < ρ.length := by
        rcases Nat.lt_or_ge j ρ.length with q | q
        · exact q
        · rw [List.getElem?_eq_none q] at hi; cases hi
      rw [List.getElem?_set_self hlt] at e
      cases e
      exact ⟨_, h1, rfl⟩
    · rw [List.getElem?_set_ne (fun z => ej z.symm)] at e
      obtain ⟨u, hu, iu⟩ := h.env.at_ j w e
      refine ⟨u, hu, ?_⟩
      have sw := (hs j w e).resolve_left ej
      have up : ∀ {a : Addr} {o : HO}, hid N H a = some o → a ≠ l → hid (l :: N) H a = some o := fun {a o} q ne => hid_of (hid_get q).1 fun m => (List.mem_cons.mp m).elim ne (hid_get q).2
      cases w with
      | d d =>
        cases d with
        | none => cases iu; exact .non
        | bool b => cases iu; exact .bl b
        | int n => cases iu; exact .int n
        | str z => cases iu; exact .str z
        | list _ => cases sw
        | tuple _ => cases sw
        | dict _ => cases sw
      | v x => exact iu
      | feed =>
        obtain ⟨f, c, ns, s, l', d, e1, e2, e3⟩ := iu
        refine ⟨f, c, ns, s, l', d, e1, up e2 fun z => ?_, up e3 fun z => ?_⟩
        · rw [z, h3] at e2; unfold feedO at e2; cases e2
        · rw [z, h3] at e3
          have e3 : HO.lst (zs.map V.str) = .lst (ns.map V.int) := Option.some.inj e3
          injection e3 with e3
          cases zs with
          | nil => exact hz rfl
          | cons a zs =>
            cases ns with
            | nil => cases e3
            | cons b ns =>
              rw [List.map_cons, List.map_cons] at e3
              injection e3 with e4 _
              cases e4
      | m _ => cases sw
      | x _ _ => cases sw
end
end Kl
set_option Elab.async false
set_option linter.all false
set_option maxRecDepth 100000
set_option maxHeartbeats 8000000
/-! L5: a hidden list is read and popped; _law_bill. -/
namespace Kl
open PySem PySem.Spec PyProof.Rows L2
section
variable {K : Frg} {σ : L2.St} {H : Hp} {ρ : List (Option W)} {N : List Addr} {B : Hp} {ta tb te tk : TE} {t : TA} {tz : TS} {D : Ends} {S : W → Prop} {l : Addr} {ds : List PyData} {i : Nat}
/-- an expression at a heap of which hidden things are known -/
def EvH (te : TE) (σ : L2.St) (N : List Addr) (H : Hp) (S : W → Prop) : Prop := ∀ Q : VK, (∀ v H2 w, Ex H H2 → S w → Is (hid N H2) v w → Q v H2) → te σ H Q
def EaH (ta : TA) (σ : L2.St) (N : List Addr) (H : Hp) (S : List W → Prop) : Prop := ∀ Q : List V → Hp → Prop, (∀ vs H2 ws, Ex H H2 → S ws → IsAll (hid N H2) vs ws → Q vs H2) → ta σ H Q
def EiH (wi : TI) (σ : L2.St) (N : List Addr) (H : Hp) (T : List W → Prop) : Prop := ∀ R : It → Hp → Prop, (∀ J H2 ws, Ex H H2 → T ws → WalkD (hid N H2) J ws → R J H2) → wi σ H R
theorem eh_of (h : At N B σ H ρ) (he : Ev te σ (hid N H) S) : EvH te σ N H S := fun Q q => he N H h.vw Q q
theorem eh_len (h : At N B σ H ρ) (m : ML N B H l ds) (hi : ρ[i]? = some (some (.v (.ref l)))) : EvH (tCB (rLen K) (tCons (tVar i) tNil)) σ N H fun w => w = .d (.int (ds.length : Nat)) := fun Q q => by
  obtain ⟨v0, e0, i0⟩ := h.env.at_ i _ hi
  have i0 : v0 = .ref l := i0
  subst i0
  obtain ⟨xs, hl, hd⟩ := m.is
  refine ⟨.ref l, e0, ?_⟩
  refine ⟨.ref l, ds.length, rfl, .inl ⟨xs, .inl (.inl hl), (dps_len hd).symm⟩, q _ H _ (Ex.refl _) rfl (.int _)⟩
theorem ah_2 {x : W} (ha : EvH ta σ N H fun w => w = x) (hb : ∀ H1, Ex H H1 → EvH tb σ N H1 S) : EaH (tCons ta (tCons tb tNil)) σ N H fun ws => ∃ y, ws = [x, y] ∧ S y := fun Q q =>
  ha _ fun v H1 w e1 s iv => hb H1 e1 _ fun u H2 y e2 sy iu => q [v, u] H2 [w, y] (e1.trans e2) ⟨y, by rw [s], sy⟩ (.cons (is_mono (hid_mono e2.w) iv) (.cons iu .nil))
theorem eh_call (al : ∀ l ∈ N, H l ≠ none) {F : List W → (W → Prop) → Prop} {E : XK} {T : List W → Prop} (ha : EaH t σ N H T) (hF : ∀ ws, T ws → F ws S) : EvH (tCall (SpF F) [] E t) σ N H S := fun Q q =>
  ha _ fun vs H2 ws e2 sw iw => ⟨N, ws, S, fun l m => e2.some (al l m), by rw [List.append_nil]; exact iw, hF ws sw, fun v H3 w e3 s3 i3 => q v H3 w (e2.trans e3) s3 i3⟩
theorem eh_cb (al : ∀ l ∈ N, H l ≠ none) {r : List V → Hp → VK → Prop} {T : List W → Prop} (ha : EaH t σ N H T) (hr : ∀ xs, T xs → CaS r xs S) : EvH (tCB r t) σ N H S := fun Q q =>
  ha _ fun vs H2 xs e2 sx ix => hr xs sx N H2 (fun l m => e2.some (al l m)) vs ix Q fun z H4 w e4 sw iw => q z H4 w (e2.trans e4) sw iw
theorem ih_range {T : List W → Prop} (h : EvH ta σ N H fun w => ∃ j : Int, w = .d (.int j) ∧ j ≤ 100000 ∧ -100000 ≤ j ∧ T ((List.range j.toNat).map fun i => W.d (.int (0 + (i : Nat))))) : EiH (iRng1 (tCons ta tNil)) σ N H T := fun R r =>
  h _ fun v H2 w e2 ⟨j, ew, h1, h2, t⟩ i => by
    subst ew
    cases i
    exact ⟨j, rfl, by omega, by omega, r _ H2 _ e2 t walkd_range⟩
/-- pool.pop(k) -/
theorem at_pop (h : At N B σ H ρ) (m : ML N B H l ds) (hi : ρ[i]? = some (some (.v (.ref l)))) (hk : EvH tk σ N H (IntS fun j => 0 ≤ j ∧ j < (ds.length : Nat))) (hz : ds.length ≤ 60000) {Q : VK}
    (k : ∀ j d v H1 xs, Ex H H1 → ds[j]? = some d → At N B σ (upd H1 l (.lst xs)) ρ → ML N B (upd H1 l (.lst xs)) l (ds.eraseIdx j) → Dq (hid N (upd H1 l (.lst xs))) v d → Q v (upd H1 l (.lst xs))) : tBM K "list" rPopAt (tVar i) (tCons tk tNil) σ H Q := by
  obtain ⟨v0, e0, i0⟩ := h.env.at_ i _ hi
  have i0 : v0 = .ref l := i0
  subst i0
  obtain ⟨xs, hl, hd⟩ := m.is
  refine ⟨.ref l, e0, .inl ⟨rfl, xs, .inl (.inl hl)⟩, hk _ fun v H1 w e ⟨j, ew, hj⟩ iv => ?_⟩
  subst ew
  cases iv
  obtain ⟨n, rfl⟩ := Int.eq_ofNat_of_zero_le hj.1
  have hn : n < ds.length := by omega
  have hl1 : H1 l = some (.lst xs) := e.lst hl
  have hd1 := dps_mono (hid_mono e.w) ds xs hd
  obtain ⟨y, hy, dy⟩ := dps_get hd1 (List.getElem?_eq_getElem hn)
  have hx := dps_len hd1
  have a1 := (h.mono e).upd m.mem m.new (plain_lst hl1) (o := .lst (xs.eraseIdx n))
  refine ⟨l, xs, (n : Nat), n, y, rfl, rfl, hl1, by omega, by omega, ?_, hy, k n ds[n] y H1 _ e (List.getElem?_eq_getElem hn) a1 ⟨m.mem, m.new, _, upd_same, ?_⟩ ?_⟩
  · have hnx : n < xs.length := by omega
    obtain ⟨j, h1, h2, _⟩ := atI_get (atI_nat (List.getElem?_eq_getElem hnx))
    show seqIndex? ((n : Nat) : Int) xs.length = some n
    unfold seqIndex?
    have a1 : ¬ ((n : Nat) : Int) < 0 := by omega
    simp only [a1, if_false]
    have a2 : (decide (0 ≤ ((n : Nat) : Int)) && decide (((n : Nat) : Int) < (xs.length : Int))) = true := by rw [decide_eq_true (by omega), decide_eq_true (by omega)]; rfl
    rw [if_pos a2]
    rfl
  · rw [hid_upd m.mem]
    exact dps_erase n hd1
  · rw [hid_upd m.mem]
    exact dy
/-- found.append(e), e any -/
theorem s_appM {Sd : PyData → Hp → Prop} (h : At N B σ H ρ) (m : ML N B H l ds) (hi : ρ[i]? = some (some (.v (.ref l)))) (hte : ∀ Q : VK, (∀ v d H1, At N B σ H1 ρ → ML N B H1 l ds → Dq (hid N H1) v d → Sd d H1 → Q v H1) → te σ H Q) (hz : ds.length < 60000)
    (k : ∀ d H1 xs, Sd d H1 → At N B σ (L2.upd H1 l (.lst xs)) ρ → ML N B (L2.upd H1 l (.lst xs)) l (ds ++ [d]) → D.nx σ (L2.upd H1 l (.lst xs))) : tDrop (tBM K "list" rAppend (tVar i) (tCons te tNil)) D σ H := by
  obtain ⟨v0, e0, i0⟩ := h.env.at_ i _ hi
  have i0 : v0 = .ref l := i0
  subst i0
  obtain ⟨xs0, hl0, hd0⟩ := m.is
  refine ⟨.ref l, e0, .inl ⟨rfl, xs0, .inl (.inl hl0)⟩, hte _ fun v d H1 a1 m1 q sd => ?_⟩
  obtain ⟨xs, hl, hd⟩ := m1.is
  refine ⟨l, xs, v, rfl, rfl, hl, Nat.lt_trans (by rw [dps_len hd]; exact hz) (by decide), k d H1 _ sd (a1.upd m1.mem m1.new (plain_lst hl)) ⟨m1.mem, m1.new, _, upd_same, ?_⟩⟩
  rw [hid_upd m1.mem]
  exact dps_app hd (.cons q .nil)
/-- for .. over something that is read at the heap -/
theorem q_forH {wi : TI} {g : TG} {T : List W → Prop} {tb : TS} {js : List Nat} (h : At N B σ H ρ) (hi : EiH wi σ N H T)
    (ht : ∀ ws H1, T ws → Ex H H1 → At N B σ H1 ρ → ∃ I : Nat → L2.St → Hp → Prop, I 0 σ H1 ∧ (∀ i σ' H' H2, I i σ' H' → Ex H' H2 → I i σ' H2) ∧ (∀ σ' H', Vw N (hid N H1) H' → I ws.length σ' H' → tz D σ' H') ∧
      ∀ (i : Nat) (w : W) σ' H', ws[i]? = some w → Vw N (hid N H1) H' → I i σ' H' → ∃ us, Tg g js w us ∧ ∀ xs, IsAll (hid N H') xs us →
        tb { D with nx := fun σ2 H2 => Vw N (hid N H1) H2 ∧ I (i + 1) σ2 H2, ct := fun σ2 H2 => Vw N (hid N H1) H2 ∧ I (i + 1) σ2 H2, bk := tz D } (sets σ' js xs) H') :
    tSeq (tFor wi g tb) tz D σ H := by
  refine hi _ fun J H1 ws e1 tw wk => ?_
  obtain ⟨I, i0, im, idn, turn⟩ := ht ws H1 tw e1 (h.mono e1)
  refine ⟨fun i m σ' H' => m = ws.length - i ∧ i ≤ ws.length ∧ Vw N (hid N H1) H' ∧ I i σ' H', ⟨_, rfl, Nat.zero_le _, (h.mono e1).vw, i0⟩, ?_⟩
  rintro i m σ' H' ⟨rfl, hi', v, p⟩
  by_cases hlt : i < ws.length
  · refine .inr ⟨wk.goes i H' N hlt v, fun σ2 H2 => Vw N (hid N H1) H2 ∧ I (i + 1) σ2 H2, fun σ2 H2 ⟨a, b⟩ => ⟨ws.length - (i + 1), by omega, rfl, hlt, a, b⟩, fun x H2 y => ?_⟩
    obtain ⟨e, w, hw, iw⟩ := wk.yields i H' N x H2 hlt v y
    obtain ⟨us, hg, body⟩ := turn i w σ' H2 hw (v.step e) (im i σ' H' H2 p e)
    exact hg N H2 x σ' iw _ body
  · have e : i = ws.length := by omega
    subst e
    exact .inl ⟨wk.stops H' N v, idn σ' H' v p⟩
/-- pool, found = .., [] -/
theorem q_parF {i j : Nat} {zs : List Str} (h : At N B σ H ρ) (he : Ed ta σ (hid N H) (WFs (hid N H) zs)) (hij : i ≠ j)
    (k : ∀ l l2 H', l ≠ l2 → Ex H H' → At (l2 :: l :: N) B ((σ.set i (some (.ref l))).set j (some (.ref l2))) H' ((ρ.set i (some (.v (.ref l)))).set j (some (.v (.ref l2)))) → ML (l2 :: l :: N) B H' l (zs.map PyData.str) → ML (l2 :: l :: N) B H' l2 [] → tz D ((σ.set i (some (.ref l))).set j (some (.ref l2))) H') :
    tSeq (tPar i j (tCons ta (tCons (tLst tNil) tNil))) tz D σ H := by
  refine he N H h.vw _ fun v H1 w e s iv => ?_
  subst s
  obtain ⟨l, rfl, h1, h2⟩ := iv
  obtain ⟨h3, h4⟩ := hid_get h2
  have hl0 : H l = none := by
    cases eH : H l with
    | none => rfl
    | some o => rw [hid_of eH h4] at h1; cases h1
  refine ⟨Nat.zero_le _, fun l2 hl2 => ⟨.ref l, .ref l2, rfl, ?_⟩⟩
  have ne : l ≠ l2 := fun z => by rw [z, hl2] at h3; cases h3
  have n2 : l2 ∉ N := fun m => (e.some (h.al l2 m)) hl2
  have e2 : Ex H (upd H1 l2 (.lst [])) := e.trans (Ex.new hl2)
  have hx : Exw (hid N H) (hid (l2 :: l :: N) (upd H1 l2 (.lst []))) := fun a o ha => by
    have na : a ≠ l := fun z => by rw [z, h1] at ha; cases ha
    have nb : a ≠ l2 := fun z => by
      rw [z] at ha
      exact e.some (by rw [(hid_get ha).1]; nofun) hl2
    have nm : a ∉ l2 :: l :: N := fun m => by
      rcases List.mem_cons.mp m with z | m
      · exact nb z
      rcases List.mem_cons.mp m with z | m
      · exact na z
      · exact (hid_get ha).2 m
    rcases e2.w a o (hid_get ha).1 with q | ⟨c, s, x, d, s', x', d', z, q⟩ | ⟨ps, ps', z, q⟩
    · exact .inl (hid_of q nm)
    · exact .inr (.inl ⟨c, s, x, d, s', x', d', z, hid_of q nm⟩)
    · exact .inr (.inr ⟨ps, ps', z, hid_of q nm⟩)
  refine k l l2 _ ne e2 ⟨fun a m => ?_, h.ex.trans e2, ((h.env.mono hx).set i (w := .v (.ref l)) rfl).set j (w := .v (.ref l2)) rfl⟩ ⟨List.mem_cons_of_mem _ List.mem_cons_self, h.ex.back hl0, _, by rw [upd_ne ne]; exact h3, dps_str zs⟩ ⟨List.mem_cons_self, (h.ex.trans e).back hl2, [], upd_same, .nil⟩
  rcases List.mem_cons.mp m with z | m
  · rw [z, upd_same]; nofun
  rcases List.mem_cons.mp m with z | m
  · rw [z, upd_ne ne, h3]; nofun
  · exact e2.some (h.al a m)
end
end Kl
set_option Elab.async false
set_option linter.all false
set_option maxRecDepth 100000
set_option maxHeartbeats 8000000
/-! L6: _law_bill. -/
namespace Kl
open PySem PySem.Spec PyProof.Rows L2
theorem map_erase {α β : Type} {f : α → β} : ∀ {l : List α} {j : Nat}, (l.map f).eraseIdx j = (l.eraseIdx j).map f
  | [], _ => rfl
  | _ :: _, 0 => rfl
  | a :: l, j + 1 => by
    rw [List.map_cons, List.eraseIdx_cons_succ, List.eraseIdx_cons_succ, List.map_cons, map_erase]
theorem perm_take {α : Type} {l : List α} : ∀ {p : List α} {j : Nat} {z : α} {f : List α}, (f ++ p).Perm l → p[j]? = some z → ((f ++ [z]) ++ p.eraseIdx j).Perm l := fun {p j z f} h hz => by
  have h1 : p.Perm (z :: p.eraseIdx j) := by
    clear h
    induction p generalizing j with
    | nil => simp at hz
    | cons a p ih =>
      cases j with
      | zero =>
        cases hz
        exact .refl _
      | succ j => exact ((ih (by simpa using hz)).cons a).trans (.swap _ _ _)
  refine List.Perm.trans ?_ h
  rw [List.append_assoc]
  exact List.Perm.append_left _ h1.symm
section
variable {P : Program} {w : World} {K : Frg} {mg : Str → Option Value} {base : Heap} {C : Addr}
abbrev s_law_bill : Stmt := topS 51
abbrev n_law_bill : List Str := ["_law_feed_here", "_law_things", "_law_pool", "_law_found", "_law_lap"]
theorem sc_law_bill : FnScope n_law_bill ["_law_feed_here", "_law_things"] (defScope s_law_bill) := ⟨rfl, rfl, rfl, by decide +kernel, rfl, by decide +kernel, by decide +kernel⟩
def F_law_bill : List W → (W → Prop) → Prop := fun ws S => ∃ l : List Str, ws = [.feed, .d (.list (l.map PyData.str))] ∧ l.Nodup ∧ (∀ z ∈ l, isNameS z = true) ∧ 1 ≤ l.length ∧ l.length ≤ 20 ∧
  ∀ b : List (Str × Int), risingB (b.map fun e => e.1) = true → 1 ≤ b.length → b.length ≤ 4 → (∀ e ∈ b, e.1 ∈ l ∧ 1 ≤ e.2 ∧ e.2 ≤ 4) → S (.d (eB b))
theorem cl_law_bill (D : Def K mg "_law_bill" s_law_bill) (G : Gm mg) (C_law_draw : Cl P w K mg base CX0 1 "_law_draw" [] (SpF F_law_draw)) : Cl P w K mg base CX0 2 "_law_bill" [] (SpF F_law_bill) := by
  refine D.ok sc_law_bill (fun _ _ _ _ _ _ us hl => match us, hl with | [_, _], _ => rfl) (fun ws S ⟨_, e, _⟩ => by rw [e]; rfl) ?_
  rintro f cdv A outer s H M vs ws T Q E hr ⟨l, rfl, hn, hnm, h1l, hl, hS⟩ h k
  have nd := sc_law_bill.nd
  refine ⟨_, (pss_cons (ps_par (i := 2) (j := 3) (by rfl) nd rfl rfl (by decide) rfl rfl (pa_cons (pe_callTy (r := rListOf K) call_list_of (by rfl) G.list_ (by decide +kernel) (pa_cons (pv 1) pa_nil)) (pa_cons (pe_lst pa_nil) pa_nil)) (by rfl))
      (pss_cons (ps_for PassesOwn.never rfl (pi_range1 (by rfl) G.range_ (pa_cons (pe_callB (call_min2 rfl) (by rfl) G.min_ (by decide +kernel) (pa_cons (pe_callB (r := rLen K) call_len (by rfl) G.len_ PySem.boot_len (pa_cons (pv 2) pa_nil)) (pa_cons (pe_op op_add pe_int (pe_cl C_law_draw (hr.mono (by decide)) (by rfl) pass0 (pa_cons (pv 0) (pa_cons pe_int pa_nil)))) pa_nil))) pa_nil)) (pg_name (i := 4) nd rfl (.inl rfl)) (pss_one (ps_expr (pe_bm PySem.F.plainAttrs_list PySem.F.slot_list_append PySem.F.type_list_append mt_append (pv 3) (pa_cons (pe_tupB (pa_cons (pe_bm PySem.F.plainAttrs_list PySem.F.slot_list_pop PySem.F.type_list_pop mt_popAt (pv 2) (pa_cons (pe_cl C_law_draw (hr.mono (by decide)) (by rfl) pass0 (pa_cons (pv 0) (pa_cons (pe_callB (r := rLen K) call_len (by rfl) G.len_ PySem.boot_len (pa_cons (pv 2) pa_nil)) pa_nil))) pa_nil)) (pa_cons (pe_op op_add pe_int (pe_cl C_law_draw (hr.mono (by decide)) (by rfl) pass0 (pa_cons (pv 0) (pa_cons pe_int pa_nil)))) pa_nil))) pa_nil)))))
      (pss_one (ps_ret (pe_callTy (r := rTupB K) call_tupB (by rfl) G.tuple_ (by decide +kernel) (pa_cons (pe_callB (r := rSortD K) (cr_sortedD (r65 hr)) (by rfl) G.sorted_ (by decide +kernel) (pa_cons (pv 3) pa_nil)) pa_nil)))))), ?_⟩
  have one4 : ∀ {σ : L2.St} {H : Hp} {tf : TE} {E : XK}, Ed tf σ H .feed → Ev (tOp (rI0 fun i j => .int (i + j)) (tC (.int 1)) (tCall (SpF F_law_draw) [] E (tCons tf (tCons (tC (.int 4)) tNil)))) σ H (IntS fun i => 1 ≤ i ∧ i ≤ 4) := fun {σ H tf E} hf =>
    ev_op (Sb := IntS fun i => 0 ≤ i ∧ i < 4) d_i (d_call (a_2 hf d_i) ⟨4, rfl, by decide, by decide, fun k a b => ⟨k, rfl, a, b⟩⟩) fun x y ex ⟨j, ey, hj⟩ => by
      subst ex ey
      exact os_I0 (fun H => .int _) ⟨_, rfl, by omega, by omega⟩
  refine q_parF h (f_listL (d_var h.env (i := 1) rfl)) (by decide) (fun l1 l2 H1 ne e1 h1 m1 m2 => ?_)
  refine q_forH (T := fun ws => ∃ c : Nat, 1 ≤ c ∧ c ≤ 4 ∧ c ≤ l.length ∧ ws = (List.range c).map fun i => W.d (.int (0 + (i : Nat)))) (js := [4]) h1 (ih_range (eh_cb h1.al (ah_2 (eh_len h1 m1 rfl) fun H2 e2 => eh_of (h1.mono e2) (one4 (d_var (h1.mono e2).env (i := 0) rfl))) fun xs ⟨y, ex, j, ey, hj⟩ => by
    subst ex ey
    refine cs_min ⟨_, rfl, ?_⟩
    rw [List.length_map]
    by_cases hc : j < ((l.length : Nat) : Int)
    · rw [if_pos hc]
      exact ⟨by omega, by omega, j.toNat, by omega, by omega, by omega, rfl⟩
    · rw [if_neg hc]
      exact ⟨by omega, by omega, l.length, h1l, by omega, Nat.le_refl _, by rw [Int.toNat_natCast]⟩)) (fun ws H2 ⟨cc, c1, c4, cl, ew⟩ e2 h2 => ?_)
  subst ew
  refine ⟨fun i σ' H' => At (l2 :: l1 :: M) H σ' H' (((List.map some [W.feed, W.d (.list (l.map PyData.str))] ++ List.replicate 3 none).set 2 (some (.v (.ref l1)))).set 3 (some (.v (.ref l2)))) ∧ ∃ (p : List Str) (g : List (Str × Int)), ML (l2 :: l1 :: M) H H' l1 (p.map PyData.str) ∧ ML (l2 :: l1 :: M) H H' l2 (g.map eP) ∧ g.length = i ∧ ((g.map fun e => e.1) ++ p).Perm l ∧ ∀ e ∈ g, 1 ≤ e.2 ∧ e.2 ≤ 4, ⟨h2, l, [], m1.mono e2, m2.mono e2, rfl, .refl _, fun e he => by cases he⟩, fun i σ' H' H2 ⟨a, p, g, b, c, d⟩ e => ⟨a.mono e, p, g, b.mono e, c.mono e, d⟩, fun σ' H' v ⟨a, p, g, b, c, d, hp, hb'⟩ => ?_, fun i x σ' H' hx v ⟨a, p, g, b, c, d, hp, hb⟩ => ⟨_, tg_name, fun xs hxs => ?_⟩⟩
  · have nl2 : l2 ∉ l1 :: M := fun m => by
      rcases List.mem_cons.mp m with z | m
      · exact ne z.symm
      · exact h.al l2 m m2.new
    have a2 := (a.show_ (i := 3) c nl2 rfl).unhide
    have hgl : g.length ≤ 4 := by rw [d, List.length_map, List.length_range]; exact c4
    have hg1 : 1 ≤ g.length := by rw [d, List.length_map, List.length_range]; exact c1
    have hgn : (g.map fun e => e.1).Nodup := (List.nodup_append.mp (hp.nodup_iff.mpr hn)).1
    have hgm : ∀ e ∈ g, e.1 ∈ l := fun e he => hp.mem_iff.mp (List.mem_append_left _ (List.mem_map_of_mem he))
    refine s_ret a2 (S := T) (ev_cb (T := fun xs => ∃ b : List (Str × Int), xs = [.d (.list (b.map eP))] ∧ b.Perm g ∧ risingB (b.map fun e => e.1) = true) (ea1 (d_cb (a_1 (d_var a2.env (i := 3) rfl)) (cs_sortT (l := g) (nm := fun e => e.1) (rest := fun e => [.int e.2]) (enc := eP) (fun _ _ => rfl) hgn (fun x _ y _ => rfl) (Nat.le_trans hgl (by decide)) (fun x _ => by simp [PyData.depth, PyData.depthAll]) fun b hb hr => ⟨b, rfl, hb, hr⟩))) fun xs ⟨b, ex, hb, hr⟩ => ?_) (fun v w H' e s i => k v H' w e s i)
    subst ex
    exact cs_tupL (hS b hr (by rw [hb.length_eq]; exact hg1) (by rw [hb.length_eq]; exact hgl) fun e he => ⟨hgm e (hb.mem_iff.mp he), hb' e (hb.mem_iff.mp he)⟩)
  · have hic : i < cc := by
      have := idx_lt hx
      rwa [List.length_map, List.length_range] at this
    have hpl : p.length + i = l.length := by
      have := hp.length_eq
      rw [List.length_append, List.length_map, d] at this
      omega
    have a1 := a.sets [4] hxs
    refine s_appM (Sd := fun dd H3 => Vw (l2 :: l1 :: M) (hid (l2 :: l1 :: M) H2) H3 ∧ ∃ (p' : List Str) (z : Str) (n : Int), ML (l2 :: l1 :: M) H H3 l1 (p'.map PyData.str) ∧ dd = eP (z, n) ∧ 1 ≤ n ∧ n ≤ 4 ∧ (((g ++ [(z, n)]).map fun e => e.1) ++ p').Perm l) a1 c rfl (fun Q hQ => ?_) (by rw [List.length_map, d]; omega) (fun dd H3 ys ⟨v3, p', z, n, mp, ed, b1, b2, hp'⟩ a3 m3 => ?_)
    · refine at_pop a1 b rfl (eh_call a1.al (ah_2 (eh_of a1 (d_var a1.env (i := 0) rfl)) fun H3 e3 => eh_len (a1.mono e3) (b.mono e3) rfl) fun ws ⟨y, ew, ey⟩ => ⟨_, by rw [ew, ey], by rw [List.length_map]; omega, by rw [List.length_map]; omega, fun k a b => ⟨k, rfl, a, b⟩⟩) (by rw [List.length_map]; omega) (fun j dd v1 H3 ys e3 hj a3 m3 q3 => ?_)
      rw [List.getElem?_map] at hj
      cases hz : p[j]? with
      | none => rw [hz] at hj; cases hj
      | some z =>
        rw [hz] at hj
        cases hj
        have v3 : Vw (l2 :: l1 :: M) (hid (l2 :: l1 :: M) H2) (upd H3 l1 (.lst ys)) := (v.step e3).mut b.mem
        have m2' := (c.mono e3).upd b.mem (fun z => ne z.symm) (o := .lst ys)
        refine at_ev a3 (one4 (d_var a3.env (i := 0) rfl)) fun u H4 w e4 sw iu a4 => ?_
        obtain ⟨n, rfl, hn1, hn4⟩ := sw
        refine ⟨by show 2 ≤ sizeLine; decide, fun q o hq to => hQ (.ref q) (eP (z, n)) _ (a4.mono (Ex.new hq)) (m2'.mono (e4.trans (Ex.new hq))) ?_ ⟨(v3.step e4).step (Ex.new hq), p.eraseIdx j, z, n, ?_, rfl, hn1, hn4, ?_⟩⟩
        · exact new_tup a4.al hq to (.cons (dp_mono (hid_mono e4.w) _ _ q3) (.cons iu .nil))
        · rw [← map_erase]
          exact m3.mono (e4.trans (Ex.new hq))
        · rw [List.map_append]
          exact perm_take hp hz
    · refine ⟨v3.mut m3.mem, a3.lose [4], p', g ++ [(z, n)], mp.upd m3.mem ne, ?_, by rw [List.length_append, d]; rfl, hp', fun e he => ?_⟩
      · rw [List.map_append]
        rw [ed] at m3
        exact m3
      · rcases List.mem_append.mp he with he | he
        · exact hb e he
        · rw [List.mem_singleton.mp he]
          exact ⟨b1, b2⟩
end
end Kl
set_option Elab.async false
set_option linter.all false
set_option maxRecDepth 100000
set_option maxHeartbeats 8000000
/-! L7: rules and lists for _law_names. -/
namespace Kl
open PySem PySem.Spec PyProof.Rows L2
abbrev ch (c : Nat) : Str := ⟨#[c]⟩
theorem join_ch (ys : List Nat) : Txt.join ("" : Str) (ys.map ch) = (⟨ys.toArray⟩ : Str) := by
  show Builtin.Str.glued ("" : Str) (ys.map ch) = _
  rw [StrLaws.glued_eq_join]
  induction ys with
  | nil => rfl
  | cons a ys ih =>
    cases ys with
    | nil => rfl
    | cons b ys =>
      have e : Str.join ("" : Str) (ch a :: (b :: ys).map ch) = ch a ++ ("" : Str) ++ Str.join ("" : Str) ((b :: ys).map ch) := rfl
      rw [List.map_cons, e, ih]
      have e2 : (ch a ++ ("" : Str) ++ (⟨(b :: ys).toArray⟩ : Str)).cps = (a :: b :: ys).toArray := by
        show #[a] ++ #[] ++ (b :: ys).toArray = (a :: b :: ys).toArray
        simp
      exact congrArg Str.mk e2
section
variable {K : Frg} {σ : L2.St} {H : Hp} {ρ : List (Option W)} {N : List Addr} {B : Hp} {ta tb te tk : TE} {t : TA} {tz : TS} {D : Ends} {S : W → Prop}
/-- ''.join(..) of signs -/
theorem e_join {Sy : List Nat → Prop} (he : Ev te σ H fun w => ∃ ys : List Nat, w = .d (.list (ys.map fun c => PyData.str (ch c))) ∧ Sy ys) (hb : ∀ ys, Sy ys → ys.length ≤ 1000) :
    Ev (tM1 (fun x xs H Q => ∃ a p, ∃ ys : List Str, x = .str a ∧ xs = [.ref p] ∧ (SqL K H p (ys.map V.str) ∨ SqT K H p (ys.map V.str)) ∧ (ys.map (·.length)).sum + ys.length * a.length ≤ 16777216 ∧ Q (.str (Txt.join a ys)) H) (tC (.str "")) te) σ H fun w => ∃ ys : List Nat, w = .d (.str ⟨ys.toArray⟩) ∧ Sy ys := fun N H1 vw Q q =>
  ⟨⟨_, rfl⟩, he N H1 vw _ fun v H2 w e2 ⟨ys, ew, sy⟩ i => by
    subst ew
    obtain ⟨p, us, rfl, h1, n1, d1⟩ := hid_lst i
    have eu := of_dps_str (xs := ys.map ch) (by rw [List.map_map]; exact d1)
    subst eu
    refine ⟨"", p, ys.map ch, rfl, rfl, .inl (.inl (.inl h1)), ?_, ?_⟩
    · have hs : ∀ l : List Nat, ((l.map ch).map (·.length)).sum = l.length := fun l => by
        induction l with
        | nil => rfl
        | cons a l ih => rw [List.map_cons, List.map_cons, List.sum_cons, ih, List.length_cons, show (ch a).length = 1 from rfl]; omega
      rw [hs]
      have := hb ys sy
      rw [show (("" : Str)).length = 0 from rfl]
      omega
    · rw [join_ch]
      exact q _ H2 _ e2 ⟨ys, rfl, sy⟩ (.str _)⟩
/-- a target with parts -/
theorem q_asgT {g : TG} {js : List Nat} {Su : List W → Prop} (h : At N B σ H ρ) (he : Ev te σ (hid N H) fun w => ∃ us, Tg g js w us ∧ Su us) (k : ∀ xs us H', Ex H H' → Su us → At N B (sets σ js xs) H' (setr ρ js us) → tz D (sets σ js xs) H') : tSeq (tAsg te g) tz D σ H :=
  at_ev h he fun v H' w e ⟨us, hg, su⟩ i a => hg N H' v σ i _ fun xs ixs => k xs us H' e su (a.sets js ixs)
end
/-- what may be drawn from -/
structure GoodP (p : List Str) : Prop where
  nd : p.Nodup
  nm : ∀ z ∈ p, isNameS z = true
  len : 15 ≤ p.length
def goodB (p : List Str) : Bool := decide p.Nodup && (p.all isNameS && decide (15 ≤ p.length))
theorem goodP_of {p : List Str} (h : goodB p = true) : GoodP p := by
  unfold goodB at h
  rw [Bool.and_eq_true, Bool.and_eq_true] at h
  exact ⟨of_decide_eq_true h.1, fun z hz => List.all_eq_true.mp h.2.1 z hz, of_decide_eq_true h.2.2⟩
def ltr : List Nat := lettersS.cps.toList
def pool0 : List Str := ltr.map ch
def pool1 : List Str := (["part", "choice", "pack", "yes", "no", "build", "apart", "sell", "lamp", "box", "trio", "light"] : List Str) ++ (["a", "z", "zz", "name", "shop", "line"] : List Str)
def pool2 : List Str := (["a", "aa", "aaa", "aaaa", "aaaaaaaa", "ab", "aab", "aaab", "b", "ba", "abcdefgh", "abcdefgi"] : List Str) ++ (["zzzzzzzz", "zzzzzzzy", "z", "y", "yz", "zy"] : List Str)
def pool4 (i : Nat) : List Str := ((ltr.take 8).take i).flatMap fun a => (ltr.drop 18).map fun b => ch a ++ ch b
theorem good0 : GoodP pool0 := goodP_of (by decide +kernel)
theorem good1 : GoodP pool1 := goodP_of (by decide +kernel)
theorem good2 : GoodP pool2 := goodP_of (by decide +kernel)
theorem good4 : GoodP (pool4 8) := goodP_of (by decide +kernel)
theorem good3 {ys : List Nat} (hl : ys.length ≤ 7) (hm : ∀ c ∈ ys, c ∈ ltr) : GoodP (ltr.map fun c => (⟨ys.toArray⟩ : Str) ++ ch c) := by
  have hn : ltr.Nodup := by decide +kernel
  have hlen : ltr.length = 26 := by decide +kernel
  have hc : ∀ c, ((⟨ys.toArray⟩ : Str) ++ ch c).cps.toList = ys ++ [c] := fun c => by
    show (ys.toArray ++ #[c]).toList = _
    simp
  refine ⟨?_, fun z hz => ?_, by rw [List.length_map, hlen]; decide⟩
  · refine List.pairwise_map.mpr (hn.imp fun {a b} hab e => hab ?_)
    have e2 := congrArg (fun s : Str => s.cps.toList) e
    have e2 : ((⟨ys.toArray⟩ : Str) ++ ch a).cps.toList = ((⟨ys.toArray⟩ : Str) ++ ch b).cps.toList := e2
    rw [hc, hc] at e2
    have := List.append_cancel_left e2
    injection this
  · obtain ⟨c, hcm, rfl⟩ := List.mem_map.mp hz
    have hlz : ((⟨ys.toArray⟩ : Str) ++ ch c).length = ys.length + 1 := by
      show ((⟨ys.toArray⟩ : Str) ++ ch c).cps.size = _
      rw [← Array.length_toList, hc, List.length_append]; rfl
    unfold isNameS
    rw [hlz, hc, decide_eq_true (by omega), decide_eq_true (by omega), Bool.true_and, Bool.true_and, List.all_eq_true]
    intro x hx
    refine decide_eq_true ?_
    rcases List.mem_append.mp hx with hx | hx
    · exact hm x hx
    · rw [List.mem_singleton.mp hx]; exact hcm
theorem pool4_succ {i : Nat} {a : Nat} (h : (ltr.take 8)[i]? = some a) : pool4 (i + 1) = pool4 i ++ (ltr.drop 18).map fun b => ch a ++ ch b := by
  unfold pool4
  rw [List.take_add_one, h, List.flatMap_append]
  simp
theorem pool4_len {i : Nat} : (pool4 i).length ≤ 64 := by
  have h1 : ∀ l : List Nat, (l.flatMap fun a => (ltr.drop 18).map fun b => ch a ++ ch b).length = l.length * 8 := fun l => by
    induction l with
    | nil => rfl
    | cons a l ih =>
      rw [List.flatMap_cons, List.length_append, ih, List.length_map, List.length_cons, show (ltr.drop 18).length = 8 by decide +kernel]; omega
  unfold pool4
  rw [h1, List.length_take, List.length_take]
  omega
end Kl
set_option Elab.async false
set_option linter.all false
set_option maxRecDepth 100000
set_option maxHeartbeats 8000000
/-! L8: _law_names. -/
namespace Kl
open PySem PySem.Spec PyProof.Rows L2
section
variable {K : Frg} {σ : L2.St} {H : Hp} {ρ : List (Option W)} {N : List Addr} {B : Hp} {te : TE} {tt : TT} {tu tz : TS} {D : Ends} {Cb : Bool → Prop}
theorem q_join {J : L2.St → Hp → Prop} (h : At N B σ H ρ) (hb : EvB tt σ (hid N H) Cb) (h1 : Cb true → ∀ H', Ex H H' → At N B σ H' ρ → ∀ nx : L2.St → Hp → Prop, (∀ σ' H', J σ' H' → nx σ' H') → tu { D with nx := nx } σ H') (h2 : Cb false → ∀ H', Ex H H' → At N B σ H' ρ → J σ H')
    (rest : ∀ σ' H', J σ' H' → tz D σ' H') : tSeq (tIfS tt tu tNext) tz D σ H :=
  q_when h hb (fun c H' e a => h1 c H' e a _ rest) fun c H' e a => rest σ H' (h2 c H' e a)
theorem s_asgF {i : Nat} {Sz : List Str → Prop} (h : At N B σ H ρ) (he : Ev te σ (hid N H) fun w => ∃ zs, w = WFs (hid N H) zs ∧ Sz zs) (k : ∀ v zs H', Ex H H' → Sz zs → At N B (σ.set i (some v)) H' (ρ.set i (some (WFs B zs))) → D.nx (σ.set i (some v)) H') : tAsg te (gName i) D σ H :=
  q_asgF (tz := fun D σ H => D.nx σ H) (D := D) h he k
end
section
variable {P : Program} {w : World} {K : Frg} {mg : Str → Option Value} {base : Heap} {C : Addr}
abbrev s_law_names : Stmt := topS 48
abbrev n_law_names : List Str := ["_law_feed_here", "_law_many", "_law_style", "_law_letters", "_law_pool", "_law_stem", "_law_sign", "_law_found", "_law_lap", "_law_one"]
theorem sc_law_names : FnScope n_law_names ["_law_feed_here", "_law_many"] (defScope s_law_names) := ⟨rfl, rfl, rfl, by decide +kernel, rfl, by decide +kernel, by decide +kernel⟩
def F_law_names : List W → (W → Prop) → Prop := fun ws S => ∃ n : Nat, ws = [.feed, .d (.int (n : Nat))] ∧ n ≤ 15 ∧ ∀ l : List Str, l.length = n → l.Nodup → (∀ z ∈ l, isNameS z = true) → S (.d (.list (l.map PyData.str)))
abbrev rNm (n : Nat) (k : Int) (B : Hp) (p : List Str) : List (Option W) := [some .feed, some (.d (.int (n : Nat))), some (.d (.int k)), some (.d (.str lettersS)), some (WFs B p), none, none, none, none, none]
theorem cl_law_names (D : Def K mg "_law_names" s_law_names) (G : Gm mg) (C_law_draw : Cl P w K mg base CX0 1 "_law_draw" [] (SpF F_law_draw)) : Cl P w K mg base CX0 2 "_law_names" [] (SpF F_law_names) := by
  refine D.ok sc_law_names (fun _ _ _ _ _ _ us hl => match us, hl with | [_, _], _ => rfl) (fun ws S ⟨_, e, _⟩ => by rw [e]; rfl) ?_
  rintro f cdv A outer s H M vs ws T Q E hr ⟨n, rfl, hn, hS⟩ h k
  have nd := sc_law_names.nd
  refine ⟨_, (pss_cons (ps_asg (g := gTup K 2 (gCons (gName 2) (gCons (gName 3) gNil))) (pe_tupB (pa_cons (pe_cl C_law_draw (hr.mono (by decide)) (by rfl) pass0 (pa_cons (pv 0) (pa_cons pe_int pa_nil))) (pa_cons pe_str pa_nil))) (pg_tup rfl (pgs_cons (pg_name (i := 2) nd rfl (.inl rfl)) (pgs_cons (pg_name (i := 3) nd rfl (.inr rfl)) pgs_nil))))
      (pss_cons (ps_set (i := 4) nd rfl (.inl rfl) (pe_callTy (r := rListS) (call_listS rfl) (by rfl) G.list_ (by decide +kernel) (pa_cons (pv 3) pa_nil)))
      (pss_cons (ps_if (pt_cmpR (r := rEqD K) (op_eqD hr.units) (pv 2) pe_int (nomark _)) (pss_cons (ps_set (i := 4) nd rfl (.inl rfl) (pe_lst (pa_cons pe_str (pa_cons pe_str (pa_cons pe_str (pa_cons pe_str (pa_cons pe_str (pa_cons pe_str (pa_cons pe_str (pa_cons pe_str (pa_cons pe_str (pa_cons pe_str (pa_cons pe_str (pa_cons pe_str pa_nil))))))))))))))
      (pss_one (ps_set (i := 4) nd rfl (.inl rfl) (pe_op op_cat (pv 4) (pe_lst (pa_cons pe_str (pa_cons pe_str (pa_cons pe_str (pa_cons pe_str (pa_cons pe_str (pa_cons pe_str pa_nil))))))))))) pss_nil)
      (pss_cons (ps_if (pt_cmpR (r := rEqD K) (op_eqD hr.units) (pv 2) pe_int (nomark _)) (pss_cons (ps_set (i := 4) nd rfl (.inl rfl) (pe_lst (pa_cons pe_str (pa_cons pe_str (pa_cons pe_str (pa_cons pe_str (pa_cons pe_str (pa_cons pe_str (pa_cons pe_str (pa_cons pe_str (pa_cons pe_str (pa_cons pe_str (pa_cons pe_str (pa_cons pe_str pa_nil))))))))))))))
      (pss_one (ps_set (i := 4) nd rfl (.inl rfl) (pe_op op_cat (pv 4) (pe_lst (pa_cons pe_str (pa_cons pe_str (pa_cons pe_str (pa_cons pe_str (pa_cons pe_str (pa_cons pe_str pa_nil))))))))))) pss_nil)
      (pss_cons (ps_if (pt_cmpR (r := rEqD K) (op_eqD hr.units) (pv 2) pe_int (nomark _)) (pss_cons (ps_set (i := 5) nd rfl (.inr rfl) (pe_join pe_str (pe_lc (own := [("_law_lap", 8)]) rfl nd (pi_range1 (by rfl) G.range_ (pa_cons (pe_cl C_law_draw (hr.mono (by decide)) (by rfl) pass0 (pa_cons (pv 0) (pa_cons pe_int pa_nil))) pa_nil)) (blkOk_by (own := [("_law_lap", 8)]) (by kernel_rfl)) (fun _ _ _ _ _ => (pg_name (i := 8) nd rfl (.inl rfl))) (fun _ _ _ _ _ => pts_nil) (fun _ _ _ _ _ => (pe_ix (r := rIxS) ix_str (pv 3) (pe_cl C_law_draw (hr.mono (by decide)) (by rfl) pass0 (pa_cons (pv 0) (pa_cons pe_int pa_nil))) (fun _ _ => rfl))))))
      (pss_one (ps_setLc (i := 4) (own := [("_law_sign", 6)]) rfl nd rfl rfl (sw_true rfl rfl rfl (by decide +kernel)) (pi_str (pv 3)) (blkOk_by (own := [("_law_sign", 6)]) (by kernel_rfl)) (fun _ _ _ _ _ => (pg_name (i := 6) nd rfl (.inl rfl))) (fun _ _ _ _ _ => pts_nil) (fun _ _ _ _ _ => (pe_op op_add_str (pv 5) (pv 6)))))) pss_nil)
      (pss_cons (ps_if (PW.pt (pw_or (pt_cmpR op_gt (pv 1) (pe_callB (r := rLen K) call_len (by rfl) G.len_ PySem.boot_len (pa_cons (pv 4) pa_nil)) (nomark _)) (pw_or1 (pt_cmpR (r := rEqD K) (op_eqD hr.units) (pv 2) pe_int (nomark _))))) (pss_cons (ps_set (i := 4) nd rfl (.inl rfl) (pe_lst pa_nil))
      (pss_one (ps_for PassesOwn.never rfl (pi_str (pe_slice (r := rSlS) sl_str (pv 3) po_none (po_some pe_int))) (pg_name (i := 6) nd rfl (.inr rfl)) (pss_one (ps_set (i := 4) nd rfl (.inl rfl) (pe_op op_cat (pv 4) (pe_lc (own := [("_law_one", 9)]) rfl nd (pi_str (pe_slice (r := rSlS) sl_str (pv 3) (po_some pe_int) po_none)) (blkOk_by (own := [("_law_one", 9)]) (by kernel_rfl)) (fun _ _ _ _ _ => (pg_name (i := 9) nd rfl (.inl rfl))) (fun _ _ _ _ _ => pts_nil) (fun _ _ _ _ _ => (pe_op op_add_str (pv 6) (pv 9)))))))))) pss_nil)
      (pss_cons (ps_set (i := 7) nd rfl (.inl rfl) (pe_lst pa_nil))
      (pss_cons (ps_for PassesOwn.never rfl (pi_range1 (by rfl) G.range_ (pa_cons (pv 1) pa_nil)) (pg_name (i := 8) nd rfl (.inl rfl)) (pss_one (ps_expr (pe_bm PySem.F.plainAttrs_list PySem.F.slot_list_append PySem.F.type_list_append mt_append (pv 7) (pa_cons (pe_bm PySem.F.plainAttrs_list PySem.F.slot_list_pop PySem.F.type_list_pop mt_popAt (pv 4) (pa_cons (pe_cl C_law_draw (hr.mono (by decide)) (by rfl) pass0 (pa_cons (pv 0) (pa_cons (pe_callB (r := rLen K) call_len (by rfl) G.len_ PySem.boot_len (pa_cons (pv 4) pa_nil)) pa_nil))) pa_nil)) pa_nil)))))
      (pss_one (ps_ret (pv 7))))))))))), ?_⟩
  have lt26 : ltr.length = 26 := by decide +kernel
  have J0 : ∀ kk, ∀ p, GoodP p → p.length ≤ 200 → ∀ σ' H', At M H σ' H' (rNm n kk H p) → (fun σ' H' => ∃ p, GoodP p ∧ p.length ≤ 200 ∧ At M H σ' H' (rNm n kk H p)) σ' H' := fun kk p a b σ' H' c => ⟨p, a, b, c⟩
  refine q_asgT (js := [2, 3]) (Su := fun us => ∃ kk : Int, us = [.d (.int kk), .d (.str lettersS)]) h (ev_tup (ea_cons (Sa := IntS fun _ => True) (d_call (a_2 (d_var h.env (i := 0) rfl) d_i) ⟨5, rfl, by decide, by decide, fun j _ _ => ⟨j, rfl, trivial⟩⟩) fun x ⟨j, ex, _⟩ => ea1 (d_to d_s ⟨[.int j, .str lettersS], by rw [ex]; rfl, by simp, _, tg_two, j, rfl⟩))) (fun xs us H1 e1 su h1 => ?_)
  obtain ⟨kk, rfl⟩ := su
  refine q_asgF (Sz := fun zs => zs = pool0) h1 ((f_listS (d_var h1.env (i := 3) (x := .d (.str lettersS)) rfl) (by decide +kernel)).imp fun w e => ⟨_, e, rfl⟩) (fun v zs H2 e2 ez h2 => ?_)
  subst ez
  have hst : ∀ {j : Int} {σ' : L2.St} {V0 : Hp} {p : List Str}, Env σ' V0 (rNm n kk H p) → EvB (tTest (tOp (rEqD K) (tVar 2) (tC (.int j)))) σ' V0 fun _ => True := fun {j σ' V0 p} he => eb_test (d_op (d_var he (i := 2) rfl) d_i (os_eqD rfl rfl ⟨_, rfl, trivial⟩))
  refine q_join (J := fun σ' H' => ∃ p, GoodP p ∧ p.length ≤ 200 ∧ At M H σ' H' (rNm n kk H p)) h2 (hst h2.env) (fun _ H3 e3 h3 nx hx => ?_) (fun _ H3 e3 h3 => ⟨pool0, good0, by decide +kernel, h3⟩) (fun σ3 H3 ⟨p3, g3, l3, h3⟩ => ?_)
  · refine q_asgF (Sz := fun zs => zs = (["part", "choice", "pack", "yes", "no", "build", "apart", "sell", "lamp", "box", "trio", "light"] : List Str)) h3 ((f_lst (zs := ["part", "choice", "pack", "yes", "no", "build", "apart", "sell", "lamp", "box", "trio", "light"]) (a_cons d_s (a_cons d_s (a_cons d_s (a_cons d_s (a_cons d_s (a_cons d_s (a_cons d_s (a_cons d_s (a_cons d_s (a_cons d_s (a_cons d_s (a_cons d_s a_nil)))))))))))) (by decide)).imp fun w e => ⟨_, e, rfl⟩) (fun v zs H4 e4 ez h4 => ?_)
    subst ez
    exact s_asgF (Sz := fun zs => zs = pool1) h4 ((f_cat (d_varF h4.env (i := 4) rfl) (d_lst (ds := (["a", "z", "zz", "name", "shop", "line"] : List Str).map PyData.str) (a_cons d_s (a_cons d_s (a_cons d_s (a_cons d_s (a_cons d_s (a_cons d_s a_nil)))))) (by simp)) (by decide)).imp fun w e => ⟨_, e, rfl⟩) (fun v zs H5 e5 ez h5 => hx _ _ ⟨pool1, good1, by decide +kernel, ez ▸ h5⟩)
  refine q_join (J := fun σ' H' => ∃ p, GoodP p ∧ p.length ≤ 200 ∧ At M H σ' H' (rNm n kk H p)) h3 (hst h3.env) (fun _ H4 e4 h4 nx hx => ?_) (fun _ H4 e4 h4 => ⟨p3, g3, l3, h4⟩) (fun σ4 H4 ⟨p4, g4, l4, h4⟩ => ?_)
  · refine q_asgF (Sz := fun zs => zs = (["a", "aa", "aaa", "aaaa", "aaaaaaaa", "ab", "aab", "aaab", "b", "ba", "abcdefgh", "abcdefgi"] : List Str)) h4 ((f_lst (zs := ["a", "aa", "aaa", "aaaa", "aaaaaaaa", "ab", "aab", "aaab", "b", "ba", "abcdefgh", "abcdefgi"]) (a_cons d_s (a_cons d_s (a_cons d_s (a_cons d_s (a_cons d_s (a_cons d_s (a_cons d_s (a_cons d_s (a_cons d_s (a_cons d_s (a_cons d_s (a_cons d_s a_nil)))))))))))) (by decide)).imp fun w e => ⟨_, e, rfl⟩) (fun v zs H5 e5 ez h5 => ?_)
    subst ez
    exact s_asgF (Sz := fun zs => zs = pool2) h5 ((f_cat (d_varF h5.env (i := 4) rfl) (d_lst (ds := (["zzzzzzzz", "zzzzzzzy", "z", "y", "yz", "zy"] : List Str).map PyData.str) (a_cons d_s (a_cons d_s (a_cons d_s (a_cons d_s (a_cons d_s (a_cons d_s a_nil)))))) (by simp)) (by decide)).imp fun w e => ⟨_, e, rfl⟩) (fun v zs H6 e6 ez h6 => hx _ _ ⟨pool2, good2, by decide +kernel, ez ▸ h6⟩)
  refine q_join (J := fun σ' H' => ∃ p, GoodP p ∧ p.length ≤ 200 ∧ At M H σ' H' (rNm n kk H p)) h4 (hst h4.env) (fun _ H5 e5 h5 nx hx => ?_) (fun _ H5 e5 h5 => ⟨p4, g4, l4, h5⟩) (fun σ5 H5 ⟨p5, g5, l5, h5⟩ => ?_)
  · refine q_asg h5 (e_join (Sy := fun ys => ys.length ≤ 7 ∧ ∀ c ∈ ys, c ∈ ltr) (ev_lc (js := [8]) (T := fun ws => ∃ j : Int, 0 ≤ j ∧ j < 8 ∧ ws = (List.range j.toNat).map fun i => W.d (.int (0 + (i : Nat)))) h5.env (ei_range1 (ea1 (d_call (a_2 (d_var h5.env (i := 0) rfl) d_i) ⟨8, rfl, by decide, by decide, fun j a b => ⟨j, rfl, by omega, by omega, j, a, b, rfl⟩⟩))) (by decide) fun ws ⟨j, j0, j8, ew⟩ => ?_) fun ys hy => Nat.le_trans hy.1 (by decide)) (fun v w H6 e6 sw iw h6 => ?_)
    · subst ew
      refine ⟨by rw [List.length_map, List.length_range]; omega, fun i acc => ∃ ys : List Nat, acc = ys.map (fun c => PyData.str (ch c)) ∧ ys.length = i ∧ ∀ c ∈ ys, c ∈ ltr, ⟨[], rfl, rfl, fun c hc => by cases hc⟩, fun acc ⟨ys, e1, e2, e3⟩ => ⟨ys, by rw [e1], by rw [List.length_map, List.length_range] at e2; omega, e3⟩, fun i x acc hx ⟨ys, e1, e2, e3⟩ => ⟨_, tg_name, fun σ' H' e h' => ⟨fun b => b = true, fun N H1 _ Q q => q true H1 (Ex.refl _) rfl, fun _ => ?_, fun z => by cases z⟩⟩⟩
      refine ev_op (Sa := fun w => w = .d (.str lettersS)) (Sb := IntS fun i => 0 ≤ i ∧ i < 26) (d_var h' (i := 3) rfl) (d_call (a_2 (d_var h' (i := 0) rfl) d_i) ⟨26, rfl, by decide, by decide, fun j a b => ⟨j, rfl, a, b⟩⟩) fun a b ea ⟨j, eb, hj⟩ => ?_
      subst ea eb
      obtain ⟨m, rfl⟩ := Int.eq_ofNat_of_zero_le hj.1
      have hm : m < ltr.length := by rw [lt26]; omega
      exact os_ixS (c := ltr[m]) (by decide +kernel) (atI_nat (List.getElem?_eq_getElem hm)) ⟨.str (ch ltr[m]), rfl, ys ++ [ltr[m]], by rw [e1, List.map_append]; rfl, by rw [List.length_append, e2]; rfl, fun c hc => (List.mem_append.mp hc).elim (e3 c) fun z => by rw [List.mem_singleton.mp z]; exact List.getElem_mem hm⟩
    · obtain ⟨ys, rfl, hy1, hy2⟩ := sw
      have hlen : (⟨ys.toArray⟩ : Str).length ≤ 7 := by
        show ys.toArray.size ≤ 7
        rw [List.size_toArray]; exact hy1
      have hit : EvI (iStr (tVar 3)) (List.set σ4 5 (some v)) (hid M H6) (fun ws => ws = ltr.map fun c => W.d (.str (ch c))) := i_str (d_var h6.env (i := 3) (x := .d (.str lettersS)) rfl)
      refine s_asgF (Sz := fun zs => zs = ltr.map fun c => (⟨ys.toArray⟩ : Str) ++ ch c) h6 ((f_lc (l := ltr) (enc := fun c => .d (.str (ch c))) (f := fun c => (⟨ys.toArray⟩ : Str) ++ ch c) h6.env hit (js := [6]) (by decide) (by decide +kernel) fun c hc => ⟨_, tg_name, fun σ' H' e h' => d_op (d_var h' (i := 5) rfl) (d_var h' (i := 6) rfl) (os_addS (Nat.le_trans (Nat.add_le_add hlen (Nat.le_refl _)) (by show 7 + (ch c).length ≤ 100000; rw [show (ch c).length = 1 from rfl]; decide)) rfl)⟩).imp fun w e => ⟨_, e, rfl⟩) (fun v zs H7 e7 ez h7 => ?_)
      subst ez
      exact hx _ _ ⟨_, good3 hy1 hy2, by rw [List.length_map, lt26]; decide, h7.lose [5]⟩
  refine q_join (J := fun σ' H' => ∃ p, GoodP p ∧ p.length ≤ 200 ∧ At M H σ' H' (rNm n kk H p)) (Cb := fun _ => True) h5 (eb_or (B' := fun _ => True) (eb_test (e_lt (e_ed (P := fun _ => True) (d_var h5.env (i := 1) rfl) trivial) (d_cb (a_1 (d_varF h5.env (i := 4) rfl)) (cs_lenL (S := IntS fun _ => True) ⟨_, rfl, trivial⟩)))) (fun _ => hst h5.env) (fun _ => trivial)) (fun _ H6 e6 h6 nx hx => ?_) (fun _ H6 e6 h6 => ⟨p5, g5, l5, h6⟩) (fun σ6 H6 ⟨p6, g6, l6, h6⟩ => ?_)
  · refine q_asgF (Sz := fun zs => zs = pool4 0) h6 ((f_lst (zs := []) a_nil (by decide)).imp fun w e => ⟨_, e, rfl⟩) (fun v zs H7 e7 ez h7 => ?_)
    subst ez
    have hcut1 : (cutS lettersS none (some 8)).cps.toList = ltr.take 8 := by decide +kernel
    have hcut2 : (cutS lettersS (some 18) none).cps.toList = ltr.drop 18 := by decide +kernel
    have hi1 : EvI (iStr (tSl rSlS (tVar 3) tNoPart (tPart (tC (.int 8))))) (List.set σ5 4 (some v)) (hid M H7) (fun ws => ws = (ltr.take 8).map fun c => W.d (.str (ch c))) := by
      have q := i_str (d_sl (lo := none) (hi := some 8) (S := fun w => w = .d (.str (cutS lettersS none (some 8)))) (d_var h7.env (i := 3) rfl) o_none (o_some d_i) (ss_S (by decide +kernel) rfl))
      rw [hcut1] at q
      exact q
    refine s_for (js := [6]) h7 hi1 (fun ws H8 ew e8 h8 => ⟨fun i σ' H' => At M H σ' H' (rNm n kk H (pool4 i)), h8, fun i σ' H' H2 a e => a.mono e, fun σ' H' _ a => hx _ _ ⟨pool4 8, good4, Nat.le_trans pool4_len (by decide), ?_⟩, fun i x σ' H' hx' v' a => ⟨_, tg_name, fun xs hxs => ?_⟩⟩)
    · rw [ew, List.length_map, show (ltr.take 8).length = 8 by decide +kernel] at a
      exact a
    · rw [ew, List.getElem?_map] at hx'
      cases hz : (ltr.take 8)[i]? with
      | none => rw [hz] at hx'; cases hx'
      | some c0 =>
        rw [hz] at hx'
        cases hx'
        have a1 := a.sets [6] hxs
        have hi2 : EvI (iStr (tSl rSlS (tVar 3) (tPart (tC (.int 18))) tNoPart)) (sets σ' [6] xs) (hid M H') (fun ws => ws = (ltr.drop 18).map fun c => W.d (.str (ch c))) := by
          have q := i_str (d_sl (lo := some 18) (hi := none) (S := fun w => w = .d (.str (cutS lettersS (some 18) none))) (d_var a1.env (i := 3) rfl) (o_some d_i) o_none (ss_S (by decide +kernel) rfl))
          rw [hcut2] at q
          exact q
        refine s_asgF (Sz := fun zs => zs = pool4 (i + 1)) a1 ((f_cat (d_varF a1.env (i := 4) rfl) (d_is (d_map (l := ltr.drop 18) (enc := fun c => .d (.str (ch c))) (f := fun c => PyData.str (ch c0 ++ ch c)) a1.env hi2 (js := [9]) (by decide) (by decide +kernel) fun c hc => ⟨_, tg_name, fun σ' H' e h' => d_op (d_var h' (i := 6) rfl) (d_var h' (i := 9) rfl) (os_addS (by show 1 + 1 ≤ 100000; decide) rfl)⟩) (y := .d (.list (((ltr.drop 18).map fun b => ch c0 ++ ch b).map PyData.str))) (by rw [List.map_map]; rfl)) ?_).imp fun w e => ⟨_, e, (pool4_succ hz).symm⟩) (fun v zs H9 e9 ez h9 => ?_)
        · have := @pool4_len i
          rw [List.length_map, show (ltr.drop 18).length = 8 by decide +kernel]; omega
        · subst ez
          exact ⟨v'.step e9, h9.lose [6]⟩
  have hsafe : ∀ (j : Nat) w, (rNm n kk H p6)[j]? = some (some w) → j = 4 ∨ safeW w = true := fun j w e => by
    rcases j with _ | _ | _ | _ | _ | _ | _ | _ | _ | _ | j
    · cases e; exact .inr rfl
    · cases e; exact .inr rfl
    · cases e; exact .inr rfl
    · cases e; exact .inr rfl
    · exact .inl rfl
    · cases e
    · cases e
    · cases e
    · cases e
    · cases e
    · simp at e
  obtain ⟨l1, hh, m1⟩ := h6.hideF (i := 4) rfl hsafe (fun z => by have := g6.len; rw [z] at this; cases this)
  · refine q_newA (ds := []) hh a_nil (by decide) (fun l2 H7 hn7 n7 xs0 e7 h7 m2 => ?_)
    have m1 := (m1.mono e7).more (o := .lst xs0) hn7
    have ne : l1 ≠ l2 := fun z => n7 (by rw [← z]; exact List.mem_cons_self)
    have nM : l2 ∉ M := fun m => n7 (List.mem_cons_of_mem _ m)
    have nl2 : l2 ∉ l1 :: M := n7
    refine q_for (js := [8]) h7 (i_range (d_var h7.env (i := 1) rfl) (by omega) (by omega)) (fun ws H8 ew e8 h8 => ?_)
    subst ew
    refine ⟨fun i σ' H' => At (l2 :: l1 :: M) H σ' H' [some .feed, some (.d (.int (n : Nat))), some (.d (.int kk)), some (.d (.str lettersS)), some (.v (.ref l1)), none, none, some (.v (.ref l2)), none, none] ∧ ∃ q g : List Str, ML (l2 :: l1 :: M) H H' l1 (q.map PyData.str) ∧ ML (l2 :: l1 :: M) H H' l2 (g.map PyData.str) ∧ g.length = i ∧ (g ++ q).Perm p6, ⟨h8, p6, [], m1.mono e8, m2.mono e8, rfl, .refl _⟩, fun i σ' H' H2 ⟨a, q, g, b, c, d⟩ e => ⟨a.mono e, q, g, b.mono e, c.mono e, d⟩, fun σ' H' v ⟨a, q, g, b, c, d, hp⟩ => ?_, fun i x σ' H' hx v ⟨a, q, g, b, c, d, hp⟩ => ⟨_, tg_name, fun xs hxs => ?_⟩⟩
    · have a2 := (a.show_ (i := 7) c nl2 rfl).unhide
      rw [List.length_map, List.length_range, Int.toNat_natCast] at d
      exact s_ret a2 (S := T) (d_to (d_var a2.env (i := 7) rfl) (hS g d (List.nodup_append.mp (hp.nodup_iff.mpr g6.nd)).1 fun z hz => g6.nm z (hp.mem_iff.mp (List.mem_append_left _ hz)))) (fun v w H' e s i => k v H' w e s i)
    · have hic : i < n := by
        have := idx_lt hx
        rwa [List.length_map, List.length_range, Int.toNat_natCast] at this
      have hql : q.length + i = p6.length := by
        have := hp.length_eq
        rw [List.length_append, d] at this
        omega
      have hp15 := g6.len
      have a1 := a.sets [8] hxs
      refine s_appM (Sd := fun dd H3 => Vw (l2 :: l1 :: M) (hid (l2 :: l1 :: M) H8) H3 ∧ ∃ (q' : List Str) (z : Str), ML (l2 :: l1 :: M) H H3 l1 (q'.map PyData.str) ∧ dd = .str z ∧ ((g ++ [z]) ++ q').Perm p6) a1 c rfl (fun Q hQ => ?_) (by rw [List.length_map, d]; omega) (fun dd H3 ys ⟨v3, q', z, mp, ed, hp'⟩ a3 m3 => ?_)
      · refine at_pop a1 b rfl (eh_call a1.al (ah_2 (eh_of a1 (d_var a1.env (i := 0) rfl)) fun H3 e3 => eh_len (a1.mono e3) (b.mono e3) rfl) fun ws ⟨y, ew, ey⟩ => ⟨_, by rw [ew, ey], by rw [List.length_map]; omega, by rw [List.length_map]; omega, fun k a b => ⟨k, rfl, a, b⟩⟩) (by rw [List.length_map]; omega) (fun j dd v1 H3 ys e3 hj a3 m3 q3 => ?_)
        rw [List.getElem?_map] at hj
        cases hz : q[j]? with
        | none => rw [hz] at hj; cases hj
        | some z =>
          rw [hz] at hj
          cases hj
          exact hQ v1 (.str z) _ a3 ((c.mono e3).upd b.mem (fun z => ne z.symm)) q3 ⟨(v.step e3).mut b.mem, q.eraseIdx j, z, by rw [← map_erase]; exact m3, rfl, perm_take hp hz⟩
      · refine ⟨v3.mut m3.mem, a3.lose [8], q', g ++ [z], mp.upd m3.mem ne, ?_, by rw [List.length_append, d]; rfl, hp'⟩
        rw [List.map_append]
        rw [ed] at m3
        exact m3
end
end Kl
set_option Elab.async false
set_option linter.all false
set_option maxRecDepth 100000
set_option maxHeartbeats 8000000
/-! L9: _law_all_tags, _law_is_name. -/
namespace Kl
open PySem PySem.Spec PyProof.Rows L2
section
variable {P : Program} {w : World} {K : Frg} {mg : Str → Option Value} {base : Heap} {C : Addr}
abbrev s_law_all_tags : Stmt := topS 54
abbrev n_law_all_tags : List Str := ["_law_store_here", "_law_one"]
theorem sc_law_all_tags : FnScope n_law_all_tags ["_law_store_here"] (defScope s_law_all_tags) := ⟨rfl, rfl, rfl, by decide +kernel, rfl, by decide +kernel, by decide +kernel⟩
abbrev Shp.tags (t : Shp) : List Str := sortN znm t.nm
def F_law_all_tags : List W → (W → Prop) → Prop := fun ws S => ∃ t, ws = [.d (enc t)] ∧ Fit t ∧ S (.d (.list (t.tags.map PyData.str)))
theorem cl_law_all_tags (D : Def K mg "_law_all_tags" s_law_all_tags) (G : Gm mg) : Cl P w K mg base CX0 1 "_law_all_tags" [] (SpF F_law_all_tags) := by
  refine D.ok sc_law_all_tags (fun _ _ _ _ _ _ us hl => match us, hl with | [_], _ => rfl) (fun ws S ⟨_, e, _⟩ => by rw [e]; rfl) ?_
  rintro f cdv A outer s H M vs ws T Q E hr ⟨t, rfl, ht, hS⟩ h k
  have nd := sc_law_all_tags.nd
  refine ⟨_, (pss_one (ps_ret (pe_callB (r := rSortedS K) cr_sortedS (by rfl) G.sorted_ (by decide +kernel) (pa_cons (pe_lc (own := [("_law_one", 1)]) rfl nd (pi_tup (pe_op (r := rCatB K) op_catB (pe_op (r := rCatB K) op_catB (pe_ix (r := rIxT K) ix_tup (pv 0) pe_int (fun _ _ => rfl)) (pe_ix (r := rIxT K) ix_tup (pv 0) pe_int (fun _ _ => rfl))) (pe_ix (r := rIxT K) ix_tup (pv 0) pe_int (fun _ _ => rfl)))) (blkOk_by (own := [("_law_one", 1)]) (by kernel_rfl)) (fun _ _ _ _ _ => (pg_name (i := 1) nd rfl (.inl rfl))) (fun _ _ _ _ _ => pts_nil) (fun _ _ _ _ _ => (pe_ix (r := rIxT K) ix_tup (pv 1) pe_int (fun _ _ => rfl)))) pa_nil)))), ?_⟩
  have e0 : (t.ps.map fun p => hd (p.1, [.int p.2])) ++ (t.cs.map fun p => hd (p.1, [.tuple (p.2.map PyData.str)])) ++ (t.ks.map fun p => hd (p.1, [.int p.2.1, .bool p.2.2.1, eB p.2.2.2])) = ((t.ps.map fun p => (p.1, [PyData.int p.2])) ++ (t.cs.map fun p => (p.1, [PyData.tuple (p.2.map PyData.str)])) ++ (t.ks.map fun p => (p.1, [PyData.int p.2.1, .bool p.2.2.1, eB p.2.2.2]))).map hd := by
    rw [List.map_append, List.map_append, List.map_map, List.map_map, List.map_map]; rfl
  have e1 : (((t.ps.map fun p => (p.1, [PyData.int p.2])) ++ (t.cs.map fun p => (p.1, [PyData.tuple (p.2.map PyData.str)])) ++ (t.ks.map fun p => (p.1, [PyData.int p.2.1, .bool p.2.2.1, eB p.2.2.2]))).map fun x => PyData.str x.1) = t.nm.map PyData.str := by
    simp only [Shp.nm, Shp.pn, Shp.cn, Shp.kn, List.map_append, List.map_map]; rfl
  have l1 := ht.lp; have l2 := ht.lc; have l3 := ht.lk
  have hin : Ed (tOp (rCatB K) (tOp (rCatB K) (tOp (rIxT K) (tVar 0) (tC (.int 0))) (tOp (rIxT K) (tVar 0) (tC (.int 1)))) (tOp (rIxT K) (tVar 0) (tC (.int 2)))) (L2.start n_law_all_tags vs) (hid M H) (.d (.tuple (((t.ps.map fun p => (p.1, [PyData.int p.2])) ++ (t.cs.map fun p => (p.1, [PyData.tuple (p.2.map PyData.str)])) ++ (t.ks.map fun p => (p.1, [PyData.int p.2.1, .bool p.2.2.1, eB p.2.2.2]))).map hd))) := by
    rw [← e0]
    exact d_op (d_op (d_op (d_var h.env (i := 0) rfl) d_i (os_ixT (at_zero _ _) rfl)) (d_op (d_var h.env (i := 0) rfl) d_i (os_ixT (at_1 _ _ _) rfl)) (os_addT (by rw [List.length_map, List.length_map]; omega) rfl)) (d_op (d_var h.env (i := 0) rfl) d_i (os_ixT (at_2 _ _ _ _) rfl)) (os_addT (by rw [List.length_append, List.length_map, List.length_map, List.length_map]; omega) rfl)
  exact s_ret h (S := T) (d_to (d_cb (a_1 (d_is (d_map (enc := fun x => .d (hd x)) (f := fun x => PyData.str x.1) h.env (i_tupM hin) (js := [1]) (by decide) (by simp only [List.length_append, List.length_map]; omega) fun x hx => ⟨_, tg_name, fun σ' H' e' h' => d_op (d_var h' (i := 1) rfl) d_i (os_ixT (at_zero _ _) rfl)⟩) (congrArg (fun l => W.d (.list l)) e1))) (cs_sortZ (Nat.lt_of_le_of_lt ht.ln (by decide)) ht.nd)) hS) (fun v w H' e s i => k v H' w e s i)
abbrev s_law_is_name : Stmt := topS 53
abbrev n_law_is_name : List Str := ["_law_what", "_law_sign"]
theorem sc_law_is_name : FnScope n_law_is_name ["_law_what"] (defScope s_law_is_name) := ⟨rfl, rfl, rfl, by decide +kernel, rfl, by decide +kernel, by decide +kernel⟩
def F_law_is_name : List W → (W → Prop) → Prop := fun ws S => ∃ d, ws = [.d d] ∧ (∀ z, d = .str z → Nice (.str z)) ∧ S (.d (.bool (isNameD d)))
theorem shaped_strs {l : List Str} (h : ∀ z ∈ l, Nice (.str z) ∧ z.length ≤ 100) (hl : l.length ≤ 100) : SeqAt.shaped (.list (l.map PyData.str)) = true := (nice_strs h hl).shaped
theorem eqv_nilS (l : List Str) : PyData.eqv (.list (l.map PyData.str)) (.list []) = l.isEmpty := by
  cases l with
  | nil => decide +kernel
  | cons a l => simp [PyData.eqv, PyData.eqvAll]
theorem cl_law_is_name (D : Def K mg "_law_is_name" s_law_is_name) (G : Gm mg) : Cl P w K mg base CX0 1 "_law_is_name" [] (SpF F_law_is_name) := by
  refine D.ok sc_law_is_name (fun _ _ _ _ _ _ us hl => match us, hl with | [_], _ => rfl) (fun ws S ⟨_, e, _⟩ => by rw [e]; rfl) ?_
  rintro f cdv A outer s H M vs ws T Q E hr ⟨d, rfl, hnz, hS⟩ h k
  have hz : ∀ z, d = .str z → z.length ≤ 100 := fun z e => (hnz z e).strLen
  have nd := sc_law_is_name.nd
  refine ⟨_, (pss_cons (ps_if (PW.pt (pw_or (pt_not (pt_val (pe_callB (r := rIsi K) call_isi (by rfl) G.isinstance_ (by decide +kernel) (pa_cons (pv 0) (pa_cons (p_ty "str" (by rfl) G.str_ (by decide +kernel)) pa_nil))))) (pw_or1 (pt_not (pt_chain op_le op_le pe_int (pe_callB (r := rLen K) call_len (by rfl) G.len_ PySem.boot_len (pa_cons (pv 0) pa_nil)) pe_int))))) (pss_one (ps_ret pe_bl)) pss_nil)
      (pss_one (ps_ret (pe_cmpR (r := rEqD K) (op_eqD hr.units) (pe_lc (own := [("_law_sign", 1)]) rfl nd (pi_str (pv 0)) (blkOk_by (own := [("_law_sign", 1)]) (by kernel_rfl)) (fun _ _ _ _ _ => (pg_name (i := 1) nd rfl (.inl rfl))) (fun _ _ _ _ _ => pts_one (pt_cmpR op_notIn_sign (pv 1) pe_str (by rfl))) (fun _ _ _ _ _ => (pv 1))) (pe_lst pa_nil) (nomark _))))), ?_⟩
  refine q_when h (b_or (b_not (b_B (d_cb (a_2 (d_var h.env rfl) d_v) (cs_isiStr rfl)))) (b := !(decide ((1 : Int) ≤ (lenD d : Nat)) && decide (((lenD d : Nat) : Int) ≤ 8))) fun e => ?_) (fun e H1 e1 h1 => ?_) (fun e H1 e1 h1 => ?_)
  · obtain ⟨z, rfl⟩ := str_of (by simpa using e)
    exact b_not (b_test (d_chain d_i (d_cb (a_1 (d_var h.env rfl)) (cs_lenS (Nat.le_trans (hz z rfl) (by decide)) rfl)) d_i (os_I0 (fun _ => .bl _) rfl) (os_I0 (fun _ => .bl _) rfl)))
  · refine s_ret h1 (S := T) (d_to d_b ?_) (fun v w H' e s i => k v H' w e s i)
    have e2 : isNameD d = false := by
      cases q : dStr d with
      | false => exact name_str q
      | true =>
        obtain ⟨z, rfl⟩ := str_of q
        have e : true = (!true || !(decide ((1 : Int) ≤ (z.length : Nat)) && decide (((z.length : Nat) : Int) ≤ 8))) := e
        show isNameS z = false
        unfold isNameS
        simp only [Bool.not_true, Bool.false_or] at e
        have e3 : (decide (1 ≤ z.length) && decide (z.length ≤ 8)) = false := by
          cases h1 : decide (1 ≤ z.length) with
          | false => rfl
          | true =>
            cases h2 : decide (z.length ≤ 8) with
            | false => rfl
            | true =>
              simp at h1 h2
              rw [decide_eq_true (by omega), decide_eq_true (by omega)] at e
              cases e
        rw [e3, Bool.false_and]
    rw [← e2]
    exact hS
  · have e0 : (!dStr d || !(decide ((1 : Int) ≤ (lenD d : Nat)) && decide (((lenD d : Nat) : Int) ≤ 8))) = false := e.symm
    rw [Bool.or_eq_false_iff] at e0
    obtain ⟨z, rfl⟩ := str_of (by simpa using e0.1)
    have e8 : (decide ((1 : Int) ≤ (lenD (.str z) : Nat)) && decide (((lenD (.str z) : Nat) : Int) ≤ 8)) = true := by simpa using e0.2
    rw [Bool.and_eq_true] at e8
    have h1l : (1 : Int) ≤ (z.length : Nat) := of_decide_eq_true e8.1
    have h8l : ((z.length : Nat) : Int) ≤ 8 := of_decide_eq_true e8.2
    have hzl : z.cps.toList.length = z.length := by rw [Array.length_toList]; rfl
    refine s_ret h1 (S := T) (d_to (d_is (d_op (d_is (d_filter (l := z.cps.toList) (enc := fun c => .d (.str (ch c))) (f := fun c => PyData.str (ch c)) (p := fun c => !decide (c ∈ lettersS.cps.toList)) h1.env (i_str (d_var h1.env (i := 0) rfl)) (js := [1]) (by decide) (by rw [hzl]; omega) fun c hc => ⟨_, tg_name, fun σ' H' e' h' => ⟨b_test (d_op (d_var h' (i := 1) rfl) d_s (os_notInC rfl)), fun _ => d_var h' (i := 1) rfl⟩⟩) (y := .d (.list (((z.cps.toList.filter fun c => !decide (c ∈ lettersS.cps.toList)).map ch).map PyData.str))) (by rw [List.map_map]; rfl)) (d_lst (ds := []) a_nil (by simp)) (os_eqD ?_ rfl rfl)) (y := .d (.bool (isNameS z))) ?_) hS) (fun v w H' e s i => k v H' w e s i)
    · refine shaped_strs (fun y hy => ?_) (by rw [List.length_map]; exact Nat.le_trans (List.length_filter_le _ _) (by rw [hzl]; omega))
      obtain ⟨c, hc, rfl⟩ := List.mem_map.mp hy
      have hcz := (List.mem_filter.mp hc).1
      have hok : (PySem.PyData.strOk z && decide (z.length ≤ 100)) = true := (hnz z rfl).ok
      rw [Bool.and_eq_true] at hok
      have hall : z.cps.all (· < 0x110000) = true := hok.1
      rw [Array.all_eq_true'] at hall
      have hc2 := hall c (by simpa using hcz)
      have hs : PySem.PyData.strOk (ch c) = true := by
        show (#[c] : Array Nat).all (· < 0x110000) = true
        rw [Array.all_eq_true']
        intro x hx
        have : x = c := by simpa using hx
        rw [this]; exact hc2
      exact ⟨nice_str hs (by show 1 ≤ 100; decide), by show 1 ≤ 100; decide⟩
    · rw [eqv_nilS]
      unfold isNameS
      rw [decide_eq_true (by omega), decide_eq_true (by omega), Bool.true_and, Bool.true_and]
      refine congrArg (fun b => W.d (.bool b)) ?_
      rw [List.isEmpty_map]
      generalize z.cps.toList = l
      induction l with
      | nil => rfl
      | cons a l ih =>
        by_cases ha : a ∈ lettersS.cps.toList
        · rw [List.filter_cons_of_neg (by simp [ha]), ih, List.all_cons, decide_eq_true ha, Bool.true_and]
        · rw [List.filter_cons_of_pos (by simp [ha]), List.all_cons, decide_eq_false ha, Bool.false_and]; rfl
end
end Kl
set_option Elab.async false
set_option linter.all false
set_option maxRecDepth 100000
set_option maxHeartbeats 8000000
/-! L10: _law_without. -/
namespace Kl
open PySem PySem.Spec PyProof.Rows L2
theorem shaped_strsL {l : List Str} (h : ∀ z ∈ l, PySem.PyData.strOk z = true) : SeqAt.shaped (.list (l.map PyData.str)) = true := by
  have h1 : ∀ l : List Str, (∀ z ∈ l, PySem.PyData.strOk z = true) → PyData.canLayAll0 (l.map PyData.str) = true := fun l => by
    induction l with
    | nil => exact fun _ => rfl
    | cons a l ih =>
      intro h
      have ha := h a List.mem_cons_self
      have hl := ih fun z hz => h z (List.mem_cons_of_mem _ hz)
      rw [List.map_cons]
      simp [PyData.canLayAll0, PyData.canLay0, ha, hl]
  have h2 : ∀ l : List Str, PyData.depthAll (l.map PyData.str) = 0 := fun l => by
    induction l with
    | nil => rfl
    | cons a l ih => rw [List.map_cons]; simp [PyData.depthAll, PyData.depth, ih]
  show (PyData.canLay0 (.list (l.map PyData.str)) && decide ((PyData.list (l.map PyData.str)).depth ≤ 64)) = true
  simp [PyData.canLay0, PyData.depth, h1 l h, h2]
theorem any_notStr {l : List Str} {d : PyData} (h : dStr d = false) : ((l.map PyData.str).any fun z => PyData.eqv z d) = false := by
  induction l with
  | nil => rfl
  | cons a l ih =>
    rw [List.map_cons, List.any_cons, ih]
    cases d <;> first | (simp [PyData.eqv]; done) | (rw [Bool.or_false]; rfl) | cases h
theorem flat_len {α β : Type} {f : α → List β} {c : Nat} : ∀ {l : List α}, (∀ x ∈ l, (f x).length ≤ c) → (l.flatMap f).length ≤ l.length * c
  | [], _ => Nat.zero_le _
  | a :: l, h => by
    have h1 := h a List.mem_cons_self
    have h2 := flat_len (f := f) (c := c) (l := l) fun x hx => h x (List.mem_cons_of_mem _ hx)
    rw [List.flatMap_cons, List.length_append, List.length_cons, Nat.succ_mul]
    omega
abbrev used1 (l : List (Str × List Str)) : List Str := l.flatMap fun c => c.2
abbrev used2 (l : List (Str × Int × Bool × List (Str × Int))) : List Str := l.flatMap fun k => k.2.2.2.map fun e => e.1
/-- the names that stand in the shop's own lists -/
def Shp.used (t : Shp) : List Str := used1 t.cs ++ used2 t.ks
/-- _law_without's answer -/
def lwD (t : Shp) : PyData → PyData
  | .str z => if z ∈ t.nm ∧ z ∉ t.used ∧ t.pn ≠ [z] then enc (t.out z) else .none
  | _ => .none
theorem eqv_strs : ∀ (l m : List Str), PyData.eqv (.list (l.map PyData.str)) (.list (m.map PyData.str)) = decide (l = m) := fun l => by
  have key : ∀ l m : List Str, PyData.eqvAll (l.map PyData.str) (m.map PyData.str) = decide (l = m) := fun l => by
    induction l with
    | nil => intro m; cases m <;> simp [PyData.eqvAll]
    | cons a l ih =>
      intro m
      cases m with
      | nil => simp [PyData.eqvAll]
      | cons b m =>
        rw [List.map_cons, List.map_cons]
        simp only [PyData.eqvAll, eqv_str, ih]
        by_cases h1 : a = b <;> by_cases h2 : l = m <;> simp [h1, h2]
  intro m
  rw [← key l m]
  simp [PyData.eqv]
section
variable {P : Program} {w : World} {K : Frg} {mg : Str → Option Value} {base : Heap} {C : Addr}
abbrev s_law_without : Stmt := topS 60
abbrev n_law_without : List Str := ["_law_store_here", "_law_tag", "_law_named", "_law_row", "_law_own", "_law_entry", "_law_rows"]
theorem sc_law_without : FnScope n_law_without ["_law_store_here", "_law_tag"] (defScope s_law_without) := ⟨rfl, rfl, rfl, by decide +kernel, rfl, by decide +kernel, by decide +kernel⟩
def F_law_without : List W → (W → Prop) → Prop := fun ws S => ∃ t d, ws = [.d (enc t), .d d] ∧ Pre t ∧ Fit t ∧ Nice d ∧ S (.d (lwD t d))
theorem cl_law_without (D : Def K mg "_law_without" s_law_without) (G : Gm mg) (C_law_all_tags : Cl P w K mg base CX0 1 "_law_all_tags" [] (SpF F_law_all_tags)) : Cl P w K mg base CX0 2 "_law_without" [] (SpF F_law_without) := by
  refine D.ok sc_law_without (fun _ _ _ _ _ _ us hl => match us, hl with | [_, _], _ => rfl) (fun ws S ⟨_, _, e, _⟩ => by rw [e]; rfl) ?_
  rintro f cdv A outer s H M vs ws T Q E hr ⟨t, d, rfl, ht, hf, hd, hS⟩ h k
  have nd := sc_law_without.nd
  refine ⟨_, (pss_cons (ps_set (i := 2) nd rfl (.inl rfl) (pe_lst pa_nil))
      (pss_cons (ps_for PassesOwn.never rfl (pi_tup (pe_ix (r := rIxT K) ix_tup (pv 0) pe_int (fun _ _ => rfl))) (pg_name (i := 3) nd rfl (.inl rfl)) (pss_one (ps_set (i := 2) nd rfl (.inl rfl) (pe_op op_cat (pv 2) (pe_callTy (r := rListOf K) call_list_of (by rfl) G.list_ (by decide +kernel) (pa_cons (pe_ix (r := rIxT K) ix_tup (pv 3) pe_int (fun _ _ => rfl)) pa_nil))))))
      (pss_cons (ps_for PassesOwn.never rfl (pi_tup (pe_ix (r := rIxT K) ix_tup (pv 0) pe_int (fun _ _ => rfl))) (pg_name (i := 3) nd rfl (.inl rfl)) (pss_one (ps_set (i := 2) nd rfl (.inl rfl) (pe_op op_cat (pv 2) (pe_lc (own := [("_law_entry", 5)]) rfl nd (pi_tup (pe_ix (r := rIxT K) ix_tup (pv 3) pe_int (fun _ _ => rfl))) (blkOk_by (own := [("_law_entry", 5)]) (by kernel_rfl)) (fun _ _ _ _ _ => (pg_name (i := 5) nd rfl (.inl rfl))) (fun _ _ _ _ _ => pts_nil) (fun _ _ _ _ _ => (pe_ix (r := rIxT K) ix_tup (pv 5) pe_int (fun _ _ => rfl))))))))
      (pss_cons (ps_setLc (i := 4) (own := [("_law_row", 3)]) rfl nd rfl rfl (sw_true rfl rfl rfl (by decide +kernel)) (pi_tup (pe_ix (r := rIxT K) ix_tup (pv 0) pe_int (fun _ _ => rfl))) (blkOk_by (own := [("_law_row", 3)]) (by kernel_rfl)) (fun _ _ _ _ _ => (pg_name (i := 3) nd rfl (.inl rfl))) (fun _ _ _ _ _ => pts_nil) (fun _ _ _ _ _ => (pe_ix (r := rIxT K) ix_tup (pv 3) pe_int (fun _ _ => rfl))))
      (pss_cons (ps_if (PW.pt (pw_or (pt_cmpR (r := rNotInD K) (op_notInD (r65 hr)) (pv 1) (pe_cl C_law_all_tags (hr.mono (by decide)) (by rfl) pass0 (pa_cons (pv 0) pa_nil)) (by rfl)) (pw_or (pt_cmpR (r := rInD K) (op_inD (r65 hr)) (pv 1) (pv 2) (by rfl)) (pw_or1 (pt_cmpR (r := rEqD K) (op_eqD hr.units) (pv 4) (pe_lst (pa_cons (pv 1) pa_nil)) (nomark _)))))) (pss_one (ps_ret pe_non)) pss_nil)
      (pss_one (ps_ret (pe_callTy (r := rTupB K) call_tupB (by rfl) G.tuple_ (by decide +kernel) (pa_cons (pe_lc (own := [("_law_rows", 6)]) rfl nd (pi_tup (pv 0)) (blkOk_by (own := [("_law_rows", 6)]) (by kernel_rfl)) (fun _ _ _ _ _ => (pg_name (i := 6) nd rfl (.inl rfl))) (fun _ _ _ _ _ => pts_nil) (fun _ _ _ _ _ => (pe_callTy (r := rTupB K) call_tupB (by rfl) G.tuple_ (by decide +kernel) (pa_cons (pe_lc (own := [("_law_row", 3)]) rfl nd (pi_tupK (K' := K) rfl (pv 6)) (blkOk_by (own := [("_law_row", 3)]) (by kernel_rfl)) (fun _ _ _ _ _ => (pg_name (i := 3) nd rfl (.inl rfl))) (fun _ _ _ _ _ => pts_one (pt_cmpR (r := rNeD K) (op_neD hr.units) (pe_ix (r := rIxT K) ix_tup (pv 3) pe_int (fun _ _ => rfl)) (pv 1) (nomark _))) (fun _ _ _ _ _ => (pv 3))) pa_nil)))) pa_nil))))))))), ?_⟩
  have hu1 : ∀ i, (used1 (t.cs.take i)).length ≤ 400 := fun i => Nat.le_trans (flat_len (c := 20) fun x hx => (hf.nc x (List.mem_of_mem_take hx)).2.1) (by have := hf.lc; rw [List.length_take]; omega)
  have hu2 : ∀ i, (used2 (t.ks.take i)).length ≤ 400 := fun i => Nat.le_trans (flat_len (c := 20) fun x hx => by rw [List.length_map]; exact (hf.nk x (List.mem_of_mem_take hx)).2.2.2.1) (by have := hf.lk; rw [List.length_take]; omega)
  have hok : ∀ z ∈ t.used, PySem.PyData.strOk z = true := fun z hz => by
    rcases List.mem_append.mp hz with hz | hz
    · obtain ⟨c, hc, hz⟩ := List.mem_flatMap.mp hz
      exact name_ok (hf.ok z ((hf.nc c hc).2.2.2 z hz))
    · obtain ⟨c, hc, hz⟩ := List.mem_flatMap.mp hz
      obtain ⟨e, he, rfl⟩ := List.mem_map.mp hz
      exact name_ok (hf.ok e.1 ((hf.nk c hc).2.2.2.2.2 e he).1)
  refine q_asg h (d_lst (ds := []) a_nil (by simp)) (fun v w H1 e1 ew iw h1 => ?_)
  subst ew
  refine q_for (js := [3]) h1 (i_tupM (f := eC) (enc := fun c => .d (eC c)) (d_op (d_var h1.env (i := 0) rfl) d_i (os_ixT (at_1 _ _ _) rfl))) (fun ws H2 ew e2 h2 => ⟨fun i σ' H' => At M H σ' H' [some (.d (enc t)), some (.d d), some (.d (.list ((used1 (t.cs.take i)).map PyData.str))), none, none, none, none], h2, fun i σ' H' H2 a e => a.mono e, fun σ3 H3 _ h3 => ?_, fun i x σ' H' hx v' a => ⟨_, tg_name, fun xs hxs => ?_⟩⟩)
  rotate_left
  · rw [ew, List.getElem?_map] at hx
    cases hz : t.cs[i]? with
    | none => rw [hz] at hx; cases hx
    | some c0 =>
      rw [hz] at hx
      cases hx
      have a1 := a.sets [3] hxs
      have es : used1 (t.cs.take (i + 1)) = used1 (t.cs.take i) ++ c0.2 := by
        rw [List.take_add_one, hz]
        show ((t.cs.take i) ++ [c0]).flatMap _ = _
        rw [List.flatMap_append]; simp [used1]
      have hc0 := (hf.nc c0 (List.mem_of_getElem? hz)).2.1
      refine s_asg a1 (d_op (d_var a1.env (i := 2) rfl) (d_cb (a_1 (d_op (d_var a1.env (i := 3) rfl) d_i (os_ixT (at_1 _ _ _) rfl))) (cs_listT rfl)) (os_addL (S := fun w => w = .d (.list ((used1 (t.cs.take (i + 1))).map PyData.str))) (by rw [List.length_map, List.length_map]; have := hu1 i; omega) (by rw [es, List.map_append]))) (fun v w H3 e3 ew3 iw3 h3 => ?_)
      subst ew3
      exact ⟨v'.step e3, h3.lose [3]⟩
  have h3 : At M H σ3 H3 [some (.d (enc t)), some (.d d), some (.d (.list ((used1 t.cs).map PyData.str))), none, none, none, none] := by
    rw [ew, List.length_map, List.take_length] at h3
    exact h3
  refine q_for (js := [3]) h3 (i_tupM (f := eK) (enc := fun c => .d (eK c)) (d_op (d_var h3.env (i := 0) rfl) d_i (os_ixT (at_2 _ _ _ _) rfl))) (fun ws H4 ew4 e4 h4 => ⟨fun i σ' H' => At M H σ' H' [some (.d (enc t)), some (.d d), some (.d (.list ((used1 t.cs ++ used2 (t.ks.take i)).map PyData.str))), none, none, none, none], by have q := h4; rw [← List.append_nil (used1 t.cs)] at q; exact q, fun i σ' H' H2 a e => a.mono e, fun σ5 H5 _ h5 => ?_, fun i x σ' H' hx v' a => ⟨_, tg_name, fun xs hxs => ?_⟩⟩)
  rotate_left
  · rw [ew4, List.getElem?_map] at hx
    cases hz : t.ks[i]? with
    | none => rw [hz] at hx; cases hx
    | some c0 =>
      rw [hz] at hx
      cases hx
      have a1 := a.sets [3] hxs
      have es : used2 (t.ks.take (i + 1)) = used2 (t.ks.take i) ++ c0.2.2.2.map fun e => e.1 := by
        rw [List.take_add_one, hz]
        show ((t.ks.take i) ++ [c0]).flatMap _ = _
        rw [List.flatMap_append]; simp [used2]
      have hc0 := (hf.nk c0 (List.mem_of_getElem? hz)).2.2.2.1
      have hu0 := hu1 t.cs.length
      rw [List.take_length] at hu0
      refine s_asg a1 (d_op (d_var a1.env (i := 2) rfl) (d_map (l := c0.2.2.2) (enc := fun e => .d (eP e)) (f := fun e => PyData.str e.1) a1.env (i_tupM (f := eP) (d_op (d_var a1.env (i := 3) rfl) d_i (os_ixT (at_3 _ _ _ _ _) rfl))) (js := [5]) (by decide) (Nat.le_trans hc0 (by decide)) fun e he => ⟨_, tg_name, fun σ' H' e' h' => d_op (d_var h' (i := 5) rfl) d_i (os_ixT (at_zero _ _) rfl)⟩) (os_addL (S := fun w => w = .d (.list ((used1 t.cs ++ used2 (t.ks.take (i + 1))).map PyData.str))) (by rw [List.length_map, List.length_map, List.length_append]; have := hu2 i; omega) (by rw [es, List.map_append, List.map_append, List.map_append, List.map_map, List.append_assoc]; rfl))) (fun v w H5 e5 ew5 iw5 h5 => ?_)
      subst ew5
      exact ⟨v'.step e5, h5.lose [3]⟩
  have h5 : At M H σ5 H5 [some (.d (enc t)), some (.d d), some (.d (.list (t.used.map PyData.str))), none, none, none, none] := by
    rw [ew4, List.length_map, List.take_length] at h5
    exact h5
  refine q_asg h5 (S := fun w => w = .d (.list (t.pn.map PyData.str))) (d_is (d_map (l := t.ps) (enc := fun p => .d (eP p)) (f := fun p => PyData.str p.1) h5.env (i_tupM (f := eP) (d_op (d_var h5.env (i := 0) rfl) d_i (os_ixT (at_zero _ _) rfl))) (js := [3]) (by decide) (Nat.le_trans hf.lp (by decide)) fun e he => ⟨_, tg_name, fun σ' H' e' h' => d_op (d_var h' (i := 3) rfl) d_i (os_ixT (at_zero _ _) rfl)⟩) (by rw [List.map_map]; rfl)) (fun v6 w6 H6 e6 ew6 iw6 h6 => ?_)
  subst ew6
  have htg : t.tags.length ≤ 100 := by rw [sortN_len]; exact Nat.le_trans hf.ln (by decide)
  have htn : ∀ z ∈ t.tags, isNameS z = true := fun z hz => hf.ok z (sortN_mem.mp hz)
  have hcall : ∀ {E : XK}, Ed (tCall (SpF F_law_all_tags) [] E (tCons (tVar 0) tNil)) (List.set σ5 4 (some v6)) (hid M H6) (.d (.list (t.tags.map PyData.str))) := fun {E} => d_call (a_1 (d_var h6.env (i := 0) rfl)) ⟨t, rfl, hf, rfl⟩
  cases hds : dStr d with
  | false =>
    have hl : lwD t d = .none := by cases d <;> first | rfl | cases hds
    refine q_when h6 (b_or (b_test (d_op (d_var h6.env (i := 1) rfl) hcall (os_notInD hd.shaped (shaped_strsL fun z hz => name_ok (htn z hz)) (by rw [any_notStr hds]; rfl)))) (a := true) (b := false) fun e => by cases e) (fun _ H7 e7 h7 => ?_) (fun e _ _ _ => by cases e)
    exact s_ret h7 (S := T) (d_to d_n (by rw [← hl]; exact hS)) (fun v w H' e s i => k v H' w e s i)
  | true =>
    obtain ⟨z, rfl⟩ := str_of hds
    refine q_when h6 (b_or (b_test (d_op (d_var h6.env (i := 1) rfl) hcall (os_notInD hd.shaped (shaped_strsL fun z hz => name_ok (htn z hz)) (by rw [any_str])))) (a := !decide (z ∈ t.tags)) fun ez => b_or (b_test (d_op (d_var h6.env (i := 1) rfl) (d_var h6.env (i := 2) rfl) (os_inD hd.shaped (shaped_strsL hok) (by rw [any_str])))) (a := decide (z ∈ t.used)) fun _ => b_test (d_op (d_var h6.env (i := 4) rfl) (d_lst (ds := [.str z]) (a_1 (d_var h6.env (i := 1) rfl)) (by simp)) (os_eqD (shaped_strsL fun y hy => name_ok (ht.pn_ok y hy)) (shaped_strsL (l := [z]) fun y hy => by rw [List.mem_singleton.mp hy]; exact name_ok (htn z (by simpa using ez))) (S := fun w => w = .d (.bool (decide (t.pn = [z])))) (by rw [show (PyData.list [.str z]) = .list ([z].map PyData.str) from rfl, eqv_strs])))) (fun e H7 e7 h7 => ?_) (fun e H7 e7 h7 => ?_)
    · have hl : lwD t (.str z) = .none := by
        refine if_neg fun ⟨a1, a2, a3⟩ => ?_
        have e : true = (!decide (z ∈ t.tags) || (decide (z ∈ t.used) || decide (t.pn = [z]))) := e
        rw [decide_eq_true (sortN_mem.mpr a1), decide_eq_false a2, decide_eq_false a3] at e
        cases e
      exact s_ret h7 (S := T) (d_to d_n (by rw [← hl]; exact hS)) (fun v w H' e s i => k v H' w e s i)
    · have e : false = (!decide (z ∈ t.tags) || (decide (z ∈ t.used) || decide (t.pn = [z]))) := e
      have e := e.symm
      rw [Bool.or_eq_false_iff, Bool.or_eq_false_iff] at e
      have hzt : z ∈ t.tags := by simpa using e.1
      have hzn := htn z hzt
      have hl : lwD t (.str z) = enc (t.out z) := if_pos ⟨sortN_mem.mp hzt, of_decide_eq_false e.2.1, of_decide_eq_false e.2.2⟩
      refine s_ret h7 (S := T) (d_to (d_cb (S := fun w => w = .d (enc (t.out z))) (a_1 (d_is (d_map (l := [0, 1, 2]) (enc := fun i => W.d (([.tuple (t.ps.map eP), .tuple (t.cs.map eC), .tuple (t.ks.map eK)] : List PyData).getD i .none)) (f := fun i => ([.tuple ((t.out z).ps.map eP), .tuple ((t.out z).cs.map eC), .tuple ((t.out z).ks.map eK)] : List PyData).getD i .none) h7.env (i_tup (d_var h7.env (i := 0) rfl)) (js := [6]) (by decide) (by simp) fun i hi => ⟨_, tg_name, fun σ' H' e' h' => ?_⟩) rfl)) (cs_tupL rfl)) (by rw [← hl]; exact hS)) (fun v w H' e s i => k v H' w e s i)
      simp only [List.mem_cons, List.not_mem_nil, or_false] at hi
      rcases hi with e | e | e <;> subst e
      · exact d_cb (a_1 (in_filter (l := t.ps) (nm := fun p => p.1) (rest := fun p => [.int p.2]) (z := z) (k := 1) (own := []) h' rfl (Nat.le_trans ht.lp (by decide)) (fun x hx => (ht.np x hx).1) hzn (fun x => ⟨rfl, rfl⟩))) (cs_tupL rfl)
      · exact d_cb (a_1 (in_filter (l := t.cs) (nm := fun p => p.1) (rest := fun p => [.tuple (p.2.map PyData.str)]) (z := z) (k := 1) (own := []) h' rfl (Nat.le_trans ht.lc (by decide)) (fun x hx => (ht.nc x hx).1) hzn (fun x => ⟨rfl, rfl⟩))) (cs_tupL rfl)
      · exact d_cb (a_1 (in_filter (l := t.ks) (nm := fun p => p.1) (rest := fun p => [.int p.2.1, .bool p.2.2.1, eB p.2.2.2]) (z := z) (k := 1) (own := []) h' rfl (Nat.le_trans ht.lk (by decide)) (fun x hx => (ht.nk x hx).1) hzn (fun x => ⟨rfl, rfl⟩))) (cs_tupL rfl)
end
end Kl
set_option Elab.async false
set_option linter.all false
set_option maxRecDepth 100000
set_option maxHeartbeats 8000000
/-! L11: _law_is_table. -/
namespace Kl
open PySem PySem.Spec PyProof.Rows L2
theorem rising_snoc : ∀ (l : List Str) (b a : Str), risingB (l ++ [b, a]) = (risingB (l ++ [b]) && ltS b a)
  | [], b, a => by rw [List.nil_append, List.nil_append, risingB_cons]; show (ltS b a && true) = (true && ltS b a); rw [Bool.and_true, Bool.true_and]
  | [x], b, a => by
    show risingB (x :: b :: [a]) = (risingB (x :: b :: []) && ltS b a)
    rw [risingB_cons, risingB_cons, risingB_cons, Bool.and_assoc]
    show (ltS x b && (ltS b a && true)) = (ltS x b && (true && ltS b a))
    rw [Bool.and_true, Bool.true_and]
  | x :: y :: l, b, a => by
    have ih := rising_snoc (y :: l) b a
    show risingB (x :: y :: (l ++ [b, a])) = (risingB (x :: y :: (l ++ [b])) && ltS b a)
    rw [risingB_cons, risingB_cons, Bool.and_assoc]
    exact congrArg (fun q => ltS x y && q) ih
theorem snoc_split {α : Type} {l : List α} {i : Nat} {x : α} (h : l[i]? = some x) : l.take (i + 1) = l.take i ++ [x] := by
  rw [List.take_add_one, h]; rfl
/-- a longer table -/
theorem IsTbl.snoc {t : Shp} {ds : List PyData} {i : Nat} {l : List (Str × Str)} {p : Str × Str} (h : IsTbl t (.tuple (ds.take i)) l) (hx : ds[i]? = some (eS p)) (hn : isNameS p.1 = true ∧ isNameS p.2 = true) (ho : p.1 ∈ t.nm) (hb : ∀ m q, l = m ++ [q] → ltS q.1 p.1 = true) : IsTbl t (.tuple (ds.take (i + 1))) (l ++ [p]) := by
  have he : ds.take i = l.map eS := PyData.tuple.inj h.e
  refine ⟨by rw [snoc_split hx, he, List.map_append]; rfl, fun q hq => ?_, ?_, fun q hq => ?_⟩
  · rcases List.mem_append.mp hq with hq | hq
    · exact h.nm q hq
    · rw [List.mem_singleton.mp hq]; exact hn
  · refine snocInd (P := fun l => risingB (l.map fun p => p.1) = true → (∀ m q, l = m ++ [q] → ltS q.1 p.1 = true) → risingB ((l ++ [p]).map fun p => p.1) = true) (fun _ _ => rfl) (fun m q _ hr hb => ?_) l h.rise hb
    have e : ((m ++ [q] ++ [p]).map fun p => p.1) = (m.map fun p => p.1) ++ [q.1, p.1] := by
      rw [List.append_assoc, List.map_append]; rfl
    rw [e, rising_snoc, hb m q rfl, Bool.and_true]
    rw [List.map_append] at hr
    exact hr
  · rcases List.mem_append.mp hq with hq | hq
    · exact h.own q hq
    · rw [List.mem_singleton.mp hq]; exact ho
theorem tbl_row {t : Shp} {ds : List PyData} {l : List (Str × Str)} {i : Nat} {x : PyData} (h : IsTbl t (.tuple ds) l) (hx : ds[i]? = some x) : ∃ p, l[i]? = some p ∧ x = eS p := by
  have he : ds = l.map eS := PyData.tuple.inj h.e
  rw [he, List.getElem?_map] at hx
  cases q : l[i]? with
  | none => rw [q] at hx; cases hx
  | some p => rw [q] at hx; cases hx; exact ⟨p, rfl, rfl⟩
theorem tbl_row_ok {t : Shp} {ds : List PyData} {l : List (Str × Str)} {i : Nat} {x : PyData} (h : IsTbl t (.tuple ds) l) (hx : ds[i]? = some x) : rowB x = true := by
  obtain ⟨p, hp, rfl⟩ := tbl_row h hx
  have hm := h.nm p (List.mem_of_getElem? hp)
  show (isNameS p.1 && isNameS p.2) = true
  rw [hm.1, hm.2]; rfl
theorem tbl_lt {t : Shp} {ds : List PyData} {l : List (Str × Str)} {i : Nat} {p q : Str × Str} (h : IsTbl t (.tuple ds) l) (hp : ds[i]? = some (eS p)) (hq : ds[i + 1]? = some (eS q)) : ltS p.1 q.1 = true := by
  obtain ⟨p', h1, e1⟩ := tbl_row h hp
  obtain ⟨q', h2, e2⟩ := tbl_row h hq
  rw [eS_inj e1, eS_inj e2]
  have hlt := idx_lt h2
  have hb := behind_of (i := i + 1) h.rise (by rw [List.length_map]; exact hlt)
  have hb : ltS ((l.map fun p => p.1).getD i ("" : Str)) ((l.map fun p => p.1).getD (i + 1) "") = true := hb
  rw [List.getD_eq_getElem?_getD, List.getD_eq_getElem?_getD, List.getElem?_map, List.getElem?_map, h1, h2] at hb
  exact hb
section
variable {P : Program} {w : World} {K : Frg} {mg : Str → Option Value} {base : Heap} {C : Addr}
abbrev s_law_is_table : Stmt := topS 61
abbrev n_law_is_table : List Str := ["_law_store_here", "_law_what", "_law_k", "_law_one"]
theorem sc_law_is_table : FnScope n_law_is_table ["_law_store_here", "_law_what"] (defScope s_law_is_table) := ⟨rfl, rfl, rfl, by decide +kernel, rfl, by decide +kernel, by decide +kernel⟩
def F_law_is_table : List W → (W → Prop) → Prop := fun ws S => ∃ t d, ws = [.d (enc t), .d d] ∧ Fit t ∧ Nice d ∧ (∀ ds, d = .tuple ds → ds.length ≤ 100) ∧ S (.d (.bool (tblB t d)))
theorem cl_law_is_table (D : Def K mg "_law_is_table" s_law_is_table) (G : Gm mg) (C_law_is_name : Cl P w K mg base CX0 1 "_law_is_name" [] (SpF F_law_is_name)) (C_law_all_tags : Cl P w K mg base CX0 1 "_law_all_tags" [] (SpF F_law_all_tags)) : Cl P w K mg base CX0 2 "_law_is_table" [] (SpF F_law_is_table) := by
  refine D.ok sc_law_is_table (fun _ _ _ _ _ _ us hl => match us, hl with | [_, _], _ => rfl) (fun ws S ⟨_, _, e, _⟩ => by rw [e]; rfl) ?_
  rintro f cdv A outer s H M vs ws T Q E hr ⟨t, d, rfl, hf, hd, hdl, hS⟩ h k
  have nd := sc_law_is_table.nd
  refine ⟨_, (pss_cons (ps_if (pt_not (pt_val (pe_callB (r := rIsi K) call_isi (by rfl) G.isinstance_ (by decide +kernel) (pa_cons (pv 1) (pa_cons (p_ty "tuple" (by rfl) G.tuple_ (by decide +kernel)) pa_nil))))) (pss_one (ps_ret pe_bl)) pss_nil)
      (pss_cons (ps_for PassesOwn.never rfl (pi_enumT (by rfl) G.enumerate_ (pa_cons (pv 1) pa_nil)) (pg_tup rfl (pgs_cons (pg_name (i := 2) nd rfl (.inl rfl)) (pgs_cons (pg_name (i := 3) nd rfl (.inl rfl)) pgs_nil))) (pss_cons (ps_if (PW.pt (pw_or (pt_not (pt_val (pe_callB (r := rIsi K) call_isi (by rfl) G.isinstance_ (by decide +kernel) (pa_cons (pv 3) (pa_cons (p_ty "tuple" (by rfl) G.tuple_ (by decide +kernel)) pa_nil))))) (pw_or (pt_cmpR (r := rNeD K) (op_neD hr.units) (pe_callB (r := rLen K) call_len (by rfl) G.len_ PySem.boot_len (pa_cons (pv 3) pa_nil)) pe_int (nomark _)) (pw_or (pt_not (pt_val (pe_cl C_law_is_name (hr.mono (by decide)) (by rfl) pass0 (pa_cons (pe_ix (r := rIxT K) ix_tup (pv 3) pe_int (fun _ _ => rfl)) pa_nil)))) (pw_or1 (pt_not (pt_val (pe_cl C_law_is_name (hr.mono (by decide)) (by rfl) pass0 (pa_cons (pe_ix (r := rIxT K) ix_tup (pv 3) pe_int (fun _ _ => rfl)) pa_nil))))))))) (pss_one (ps_ret pe_bl)) pss_nil)
      (pss_one (ps_if (PW.pt (pw_or (pt_cmpR (r := rNotInD K) (op_notInD (r65 hr)) (pe_ix (r := rIxT K) ix_tup (pv 3) pe_int (fun _ _ => rfl)) (pe_cl C_law_all_tags (hr.mono (by decide)) (by rfl) pass0 (pa_cons (pv 0) pa_nil)) (by rfl)) (pw_or1 (PW.pt (pw_and (pt_cmpR op_gt (pv 2) pe_int (nomark _)) (pw_and1 (pt_cmpR op_le_str (pe_ix (r := rIxT K) ix_tup (pv 3) pe_int (fun _ _ => rfl)) (pe_ix (r := rIxT K) ix_tup (pe_ix (r := rIxT K) ix_tup (pv 1) (pe_op op_sub (pv 2) pe_int) (fun _ _ => rfl)) pe_int (fun _ _ => rfl)) (nomark _)))))))) (pss_one (ps_ret pe_bl)) pss_nil))))
      (pss_one (ps_ret pe_bl)))), ?_⟩
  refine q_when h (b_not (b_B (d_cb (a_2 (d_var h.env (i := 1) rfl) d_v) (cs_isiTup rfl)))) (fun e H1 e1 h1 => ?_) (fun e H1 e1 h1 => ?_)
  · refine s_ret h1 (S := T) (d_to d_b ?_) (fun v w H' e s i => k v H' w e s i)
    have e0 : dTup d = false := by simpa using e.symm
    have : tblB t d = false := by cases d <;> first | rfl | cases e0
    rw [← this]; exact hS
  obtain ⟨ds, rfl⟩ : ∃ ds, d = .tuple ds := isTup_shape (by simpa using e.symm)
  have hlen := hdl ds rfl
  have hno : ∀ (b : Bool), (b = false → tblB t (.tuple ds) = false) → b = false → T (.d (.bool false)) := fun b hb e => by rw [← hb e]; exact hS
  refine q_scanE (l := ds) (enc := fun x => x) (j := 2) (k := 3) h1 (a_1 (d_is (d_var h1.env (i := 1) rfl) (by rw [List.map_id']))) [2, 3] (fun i _ => ∃ l, IsTbl t (.tuple (ds.take i)) l) rfl (fun i H H' p _ => p) (fun H2 _ => ⟨[], by rw [List.take_zero]; rfl, (fun _ h => by cases h), rfl, (fun _ h => by cases h)⟩) (fun σ' H' a p => ?_) (fun i x V0 σ2 H' hx v p a nx hnx => ?_)
  · rw [List.take_length] at p
    obtain ⟨l, hl⟩ := p
    exact s_ret a (S := T) (d_to d_b (by rw [← tblB_iff hl]; exact hS)) (fun v w H' e s i => k v H' w e s i)
  · obtain ⟨l, hl⟩ := p
    have hnx' : Nice x := hd.tmem (List.mem_of_getElem? hx)
    refine q_when a (C := fun b => b = !rowB x) ?_ (fun e H2 e2 h2 => ?_) (fun e H2 e2 h2 => ?_)
    · cases ht : dTup x with
      | false =>
        have e0 : rowB x = false := by cases x <;> first | rfl | cases ht
        exact b_is (b_or (b_not (b_B (d_cb (a_2 (d_var a.env (i := 3) rfl) d_v) (cs_isiTup rfl)))) (b := false) fun e => by rw [ht] at e; cases e) (by rw [ht, e0]; rfl)
      | true =>
        obtain ⟨zs, rfl⟩ := isTup_shape ht
        by_cases h2 : zs.length = 2
        · obtain ⟨p, q, rfl⟩ : ∃ p q, zs = [p, q] := by
            match zs, h2 with
            | [p, q], _ => exact ⟨p, q, rfl⟩
          have np := hnx'.tmem (x := p) (by simp)
          have nq := hnx'.tmem (x := q) (by simp)
          refine b_is (b_or (b_not (b_B (d_cb (a_2 (d_var a.env (i := 3) rfl) d_v) (cs_isiTup rfl)))) fun _ => b_or (b_test (d_op (d_cb (a_1 (d_var a.env (i := 3) rfl)) (cs_lenT rfl)) d_i (os_neD rfl rfl (by rw [eqv_int])))) fun _ => b_or (b_not (b_B (d_call (S := fun w => w = .d (.bool (isNameD p))) (a_1 (d_op (d_var a.env (i := 3) rfl) d_i (os_ixT (at_zero _ _) rfl))) ⟨p, rfl, fun z e => e ▸ np, rfl⟩))) fun _ => b_not (b_B (d_call (S := fun w => w = .d (.bool (isNameD q))) (a_1 (d_op (d_var a.env (i := 3) rfl) d_i (os_ixT (at_1 _ _ _) rfl))) ⟨q, rfl, fun z e => e ▸ nq, rfl⟩))) ?_
          show (!true || (!decide ((2 : Int) = 2) || (!isNameD p || !isNameD q))) = !(isNameD p && isNameD q)
          cases isNameD p <;> cases isNameD q <;> rfl
        · have e0 : rowB (.tuple zs) = false := by
            match zs, h2 with
            | [], _ => rfl
            | [_], _ => rfl
            | [_, _], h => exact absurd rfl h
            | _ :: _ :: _ :: _, _ => rfl
          refine b_is (b_or (b_not (b_B (d_cb (a_2 (d_var a.env (i := 3) rfl) d_v) (cs_isiTup rfl)))) fun _ => b_or (b_test (d_op (d_cb (a_1 (d_var a.env (i := 3) rfl)) (cs_lenT rfl)) d_i (os_neD rfl rfl (by rw [eqv_int])))) (b := false) fun e => ?_) ?_
          · have e : (!decide (((zs.length : Nat) : Int) = 2)) = false := e
            rw [decide_eq_false (by omega)] at e
            cases e
          · rw [e0, decide_eq_false (by omega), ht]; rfl
    · refine s_ret h2 (S := T) (d_to d_b (hno (tblB t (.tuple ds)) (fun z => z) ?_)) (fun v w H' e s i => k v H' w e s i)
      cases q : tblB t (.tuple ds) with
      | false => rfl
      | true =>
        obtain ⟨l', hl'⟩ := tblB_of q
        rw [tbl_row_ok hl' hx] at e
        cases e
    · obtain ⟨p0, rfl, hp1, hp2⟩ := row_of (d := x) (by simpa using e.symm)
      have htg : ∀ z ∈ t.tags, isNameS z = true := fun z hz => hf.ok z (sortN_mem.mp hz)
      have hno2 : ∀ {b : Bool}, b = true → (∀ l', IsTbl t (.tuple ds) l' → b = false) → T (.d (.bool false)) := fun {b} hb hc => hno (tblB t (.tuple ds)) (fun z => z) (by
        cases q : tblB t (.tuple ds) with
        | false => rfl
        | true =>
          obtain ⟨l', hl'⟩ := tblB_of q
          rw [hc l' hl'] at hb
          cases hb)
      have hin : ∀ {E : XK} {σ' : L2.St} {V0 : Hp} {ρ : List (Option W)}, Env σ' V0 ρ → ρ[0]? = some (some (.d (enc t))) → Ed (tCall (SpF F_law_all_tags) [] E (tCons (tVar 0) tNil)) σ' V0 (.d (.list (t.tags.map PyData.str))) := fun {E σ' V0 ρ} he e0 => d_call (a_1 (d_var he e0)) ⟨t, rfl, hf, rfl⟩
      have hnot := os_notInN (K := K) hp1 htg (by rw [sortN_len]; exact Nat.le_trans hf.ln (by decide))
      cases i with
      | zero =>
        refine s_when h2 (C := fun b => b = !decide (p0.1 ∈ t.tags)) (b_is (b_or (b_test (d_op (d_op (d_var h2.env (i := 3) rfl) d_i (os_ixT (at_zero _ _) rfl)) (hin h2.env rfl) hnot)) fun _ => b_and (b_test (d_op (d_var h2.env (i := 2) rfl) d_i (os_I0 (fun H => .bl _) rfl))) (b := false) fun e => by cases e) (Bool.or_false _)) (fun e H3 e3 h3 => ?_) (fun e H3 e3 h3 => ?_)
        · refine s_ret h3 (S := T) (d_to d_b (hno2 e.symm fun l' hl' => ?_)) (fun v w H' e s i => k v H' w e s i)
          obtain ⟨p', h1', e1'⟩ := tbl_row hl' hx
          rw [decide_eq_true (sortN_mem.mpr (eS_inj e1' ▸ hl'.own p' (List.mem_of_getElem? h1')))]; rfl
        · have hmem : p0.1 ∈ t.tags := by simpa using e.symm
          have hl0 : l = [] := by
            have := congrArg List.length (PyData.tuple.inj hl.e)
            rw [List.take_zero, List.length_map] at this
            exact List.length_eq_zero_iff.mp this.symm
          exact hnx _ _ _ h3 (v.step (e2.trans e3)) rfl ⟨l ++ [p0], hl.snoc hx ⟨hp1, hp2⟩ (sortN_mem.mp hmem) fun m q e => by rw [hl0] at e; simp at e⟩
      | succ j =>
        have hj : j < ds.length := Nat.lt_of_succ_lt (idx_lt hx)
        have hdj : ds[j]? = some ds[j] := List.getElem?_eq_getElem hj
        obtain ⟨q0, hq0, eq0⟩ := tbl_row (x := ds[j]) hl (by rw [List.getElem?_take_of_lt (Nat.lt_succ_self j)]; exact hdj)
        rw [eq0] at hdj
        have hprev : atI ds (((j + 1 : Nat) : Int) - 1) = some (eS q0) := by
          rw [show ((j + 1 : Nat) : Int) - 1 = ((j : Nat) : Int) by omega]
          exact atI_nat hdj
        refine s_when h2 (C := fun b => b = (!decide (p0.1 ∈ t.tags) || !ltS q0.1 p0.1)) (b_is (b_or (b_test (d_op (d_op (d_var h2.env (i := 3) rfl) d_i (os_ixT (at_zero _ _) rfl)) (hin h2.env rfl) hnot)) fun _ => b_and (b_test (d_op (d_var h2.env (i := 2) rfl) d_i (os_I0 (fun H => .bl _) rfl))) (b := !ltS q0.1 p0.1) fun _ => b_test (d_op (d_op (d_var h2.env (i := 3) rfl) d_i (os_ixT (at_zero _ _) rfl)) (d_op (S := fun w => w = .d (.str q0.1)) (d_op (S := fun w => w = .d (eS q0)) (d_is (d_var h2.env (i := 1) rfl) rfl) (d_op (d_var h2.env (i := 2) rfl) d_i (os_I0 (fun H => .int _) rfl)) (os_ixT hprev rfl)) d_i (os_ixT (at_zero _ _) rfl)) (os_leS rfl))) ?_) (fun e H3 e3 h3 => ?_) (fun e H3 e3 h3 => ?_)
        · show (_ || (decide ((0 : Int) < ((j + 1 : Nat) : Int)) && _)) = _
          have hpos : decide ((0 : Int) < ((j + 1 : Nat) : Int)) = true := decide_eq_true (by omega)
          rw [hpos, Bool.true_and]
        · refine s_ret h3 (S := T) (d_to d_b (hno2 e.symm fun l' hl' => ?_)) (fun v w H' e s i => k v H' w e s i)
          obtain ⟨p', h1', e1'⟩ := tbl_row hl' hx
          rw [decide_eq_true (sortN_mem.mpr (eS_inj e1' ▸ hl'.own p' (List.mem_of_getElem? h1'))), tbl_lt hl' hdj hx]; rfl
        · have e := e.symm
          rw [Bool.or_eq_false_iff] at e
          have hmem : p0.1 ∈ t.tags := by simpa using e.1
          have hlt : ltS q0.1 p0.1 = true := by simpa using e.2
          refine hnx _ _ _ h3 (v.step (e2.trans e3)) rfl ⟨l ++ [p0], hl.snoc hx ⟨hp1, hp2⟩ (sortN_mem.mp hmem) fun m q e => ?_⟩
          have hlen2 := congrArg List.length (PyData.tuple.inj hl.e)
          rw [List.length_take, List.length_map, Nat.min_eq_left (Nat.le_of_lt (idx_lt hx)), e, List.length_append] at hlen2
          have hmj : m.length = j := by simp only [List.length_singleton] at hlen2; omega
          rw [e, List.getElem?_append_right (by omega), hmj, Nat.sub_self] at hq0
          cases hq0
          exact hlt
end
end Kl
set_option Elab.async false
set_option linter.all false
set_option maxRecDepth 100000
set_option maxHeartbeats 8000000
/-! L12: _law_no_names. -/
namespace Kl
open PySem PySem.Spec PyProof.Rows L2
section
variable {P : Program} {w : World} {K : Frg} {mg : Str → Option Value} {base : Heap} {C : Addr}
abbrev s_law_no_names : Stmt := topS 55
abbrev n_law_no_names : List Str := ["_law_store_here", "_law_spare"]
theorem sc_law_no_names : FnScope n_law_no_names ["_law_store_here", "_law_spare"] (defScope s_law_no_names) := ⟨rfl, rfl, rfl, by decide +kernel, rfl, by decide +kernel, by decide +kernel⟩
/-- what is no name of the shop -/
def noNames (p0 z1 z2 : Str) : List PyData := [.none, .bool true, .int 0, .str "", .str "A", .str z1, .str (z2 ++ ("A" : Str)), .tuple [], .list [.str p0], .tuple [.str p0], .str "a b"]
def F_law_no_names : List W → (W → Prop) → Prop := fun ws S => ∃ (t : Shp) (p : Str × Int) (ps : List (Str × Int)) (z1 z2 : Str), t.ps = p :: ps ∧ ws = [.d (enc t), .d (.list [.str z1, .str z2])] ∧ z2.length ≤ 100 ∧ S (.d (.list (noNames p.1 z1 z2)))
theorem cl_law_no_names (D : Def K mg "_law_no_names" s_law_no_names) (G : Gm mg) : Cl P w K mg base CX0 1 "_law_no_names" [] (SpF F_law_no_names) := by
  refine D.ok sc_law_no_names (fun _ _ _ _ _ _ us hl => match us, hl with | [_, _], _ => rfl) (fun ws S ⟨_, _, _, _, _, _, e, _⟩ => by rw [e]; rfl) ?_
  rintro f cdv A outer s H M vs ws T Q E hr ⟨t, p, ps, z1, z2, hp, rfl, hz, hS⟩ h k
  refine ⟨_, (pss_one (ps_ret (pe_lst (pa_cons pe_non (pa_cons pe_bl (pa_cons pe_int (pa_cons pe_str (pa_cons pe_str (pa_cons (pe_ix (r := rIxL K) ix_list (pv 1) pe_int (fun _ _ => rfl)) (pa_cons (pe_op op_add_str (pe_ix (r := rIxL K) ix_list (pv 1) pe_int (fun _ _ => rfl)) pe_str) (pa_cons (pe_tupB pa_nil) (pa_cons (pe_lst (pa_cons (pe_ix (r := rIxT K) ix_tup (pe_ix (r := rIxT K) ix_tup (pe_ix (r := rIxT K) ix_tup (pv 0) pe_int (fun _ _ => rfl)) pe_int (fun _ _ => rfl)) pe_int (fun _ _ => rfl)) pa_nil)) (pa_cons (pe_tupB (pa_cons (pe_ix (r := rIxT K) ix_tup (pe_ix (r := rIxT K) ix_tup (pe_ix (r := rIxT K) ix_tup (pv 0) pe_int (fun _ _ => rfl)) pe_int (fun _ _ => rfl)) pe_int (fun _ _ => rfl)) pa_nil)) (pa_cons pe_str pa_nil)))))))))))))), ?_⟩
  have h0 : Ed (tOp (rIxT K) (tOp (rIxT K) (tOp (rIxT K) (tVar 0) (tC (.int 0))) (tC (.int 0))) (tC (.int 0))) (L2.start n_law_no_names vs) (hid M H) (.d (.str p.1)) := d_op (d_op (S := fun w => w = .d (eP p)) (d_op (d_var h.env (i := 0) rfl) d_i (os_ixT (at_zero _ _) rfl)) d_i (os_ixT (by rw [hp]; exact at_zero _ _) rfl)) d_i (os_ixT (at_zero _ _) rfl)
  exact s_ret h (S := T) (d_to (d_lst (ds := noNames p.1 z1 z2) (a_cons d_n (a_cons d_b (a_cons d_i (a_cons d_s (a_cons d_s (a_cons (d_op (d_var h.env (i := 1) rfl) d_i (os_ixL (at_zero _ _) rfl)) (a_cons (d_op (d_op (S := fun w => w = .d (.str z2)) (d_var h.env (i := 1) rfl) d_i (os_ixL (at_1 _ _ _) rfl)) d_s (os_addS (Nat.le_trans (Nat.add_le_add hz (Nat.le_refl 1)) (by decide)) rfl)) (a_cons (d_tup (ds := []) a_nil (by simp)) (a_cons (d_lst (ds := [.str p.1]) (a_1 h0) (by simp)) (a_cons (d_tup (ds := [.str p.1]) (a_1 h0) (by simp)) (a_cons d_s a_nil))))))))))) (show 11 ≤ 100000 by decide)) hS) (fun v w H' e s i => k v H' w e s i)
end
end Kl
set_option Elab.async false
set_option linter.all false
set_option maxRecDepth 100000
set_option maxHeartbeats 8000000
/-! L13: _law_table_of. -/
namespace Kl
open PySem PySem.Spec PyProof.Rows L2
section
variable {P : Program} {w : World} {K : Frg} {mg : Str → Option Value} {base : Heap} {C : Addr}
abbrev s_law_table_of : Stmt := topS 63
abbrev n_law_table_of : List Str := ["_law_feed_here", "_law_store_here", "_law_spare", "_law_olds", "_law_pool", "_law_found", "_law_old", "_law_tag"]
theorem sc_law_table_of : FnScope n_law_table_of ["_law_feed_here", "_law_store_here", "_law_spare"] (defScope s_law_table_of) := ⟨rfl, rfl, rfl, by decide +kernel, rfl, by decide +kernel, by decide +kernel⟩
def F_law_table_of : List W → (W → Prop) → Prop := fun ws S => ∃ (t : Shp) (z1 z2 : Str), ws = [.feed, .d (enc t), .d (.list [.str z1, .str z2])] ∧ Fit t ∧ isNameS z1 = true ∧ isNameS z2 = true ∧ ∀ l : List (Str × Str), (∀ p ∈ l, isNameS p.1 = true ∧ isNameS p.2 = true) → l.length ≤ 60 → S (.d (.tuple (l.map eS)))
theorem cl_law_table_of (D : Def K mg "_law_table_of" s_law_table_of) (G : Gm mg) (C_law_draw : Cl P w K mg base CX0 1 "_law_draw" [] (SpF F_law_draw)) (C_law_all_tags : Cl P w K mg base CX0 1 "_law_all_tags" [] (SpF F_law_all_tags)) : Cl P w K mg base CX0 2 "_law_table_of" [] (SpF F_law_table_of) := by
  refine D.ok sc_law_table_of (fun _ _ _ _ _ _ us hl => match us, hl with | [_, _, _], _ => rfl) (fun ws S ⟨_, _, _, e, _⟩ => by rw [e]; rfl) ?_
  rintro f cdv A outer s H M vs ws T Q E hr ⟨t, z1, z2, rfl, hf, hz1, hz2, hS⟩ h k
  have nd := sc_law_table_of.nd
  refine ⟨_, (pss_cons (ps_setLc (i := 3) (own := [("_law_tag", 7)]) rfl nd rfl rfl (sw_true rfl rfl rfl (by decide +kernel)) (pi_list (pe_cl C_law_all_tags (hr.mono (by decide)) (by rfl) pass0 (pa_cons (pv 1) pa_nil))) (blkOk_by (own := [("_law_tag", 7)]) (by kernel_rfl)) (fun _ _ _ _ _ => (pg_name (i := 7) nd rfl (.inl rfl))) (fun _ _ _ _ _ => pts_one (pt_cmpR (r := rEqD K) (op_eqD hr.units) (pe_cl C_law_draw (hr.mono (by decide)) (by rfl) pass0 (pa_cons (pv 0) (pa_cons pe_int pa_nil))) pe_int (nomark _))) (fun _ _ _ _ _ => (pv 7)))
      (pss_cons (ps_par (i := 4) (j := 5) (by rfl) nd rfl rfl (by decide) rfl rfl (pa_cons (pe_op op_cat (pv 3) (pv 2)) (pa_cons (pe_lst pa_nil) pa_nil)) (by rfl))
      (pss_cons (ps_for PassesOwn.never rfl (pi_list (pv 3)) (pg_name (i := 6) nd rfl (.inl rfl)) (pss_one (ps_expr (pe_bm PySem.F.plainAttrs_list PySem.F.slot_list_append PySem.F.type_list_append mt_append (pv 5) (pa_cons (pe_tupB (pa_cons (pv 6) (pa_cons (pe_bm PySem.F.plainAttrs_list PySem.F.slot_list_pop PySem.F.type_list_pop mt_popAt (pv 4) (pa_cons (pe_cl C_law_draw (hr.mono (by decide)) (by rfl) pass0 (pa_cons (pv 0) (pa_cons (pe_callB (r := rLen K) call_len (by rfl) G.len_ PySem.boot_len (pa_cons (pv 4) pa_nil)) pa_nil))) pa_nil)) pa_nil))) pa_nil)))))
      (pss_one (ps_ret (pe_callTy (r := rTupB K) call_tupB (by rfl) G.tuple_ (by decide +kernel) (pa_cons (pv 5) pa_nil))))))), ?_⟩
  refine q_asg h (e_pick (l := t.tags) (enc := fun z => .d (.str z)) (f := fun z => PyData.str z) h.env (i_listM (f := PyData.str) (d_call (a_1 (d_var h.env (i := 1) rfl)) ⟨t, rfl, hf, rfl⟩)) (js := [7]) (by decide) (by rw [sortN_len]; exact Nat.le_trans hf.ln (by decide)) fun z hz => ⟨_, tg_name, fun σ' H' e' h' => ⟨?_, d_var h' (i := 7) rfl⟩⟩) (fun v w H1 e1 sw iw h1 => ?_)
  · refine eb_test (ev_op (Sa := IntS fun _ => True) (d_call (a_2 (d_var h' (i := 0) rfl) d_i) ⟨2, rfl, by decide, by decide, fun k _ _ => ⟨k, rfl, trivial⟩⟩) d_i fun x y ⟨i, ex, _⟩ ey => ?_)
    subst ex ey
    exact os_eqD rfl rfl ⟨_, rfl, trivial⟩
  obtain ⟨o, rfl, hs⟩ := sw
  have hon : ∀ z ∈ o, isNameS z = true := fun z hz => hf.ok z (sortN_mem.mp (hs.subset hz))
  have hol : o.length ≤ 60 := Nat.le_trans hs.length_le (by rw [sortN_len]; exact hf.ln)
  refine q_parF h1 (f_cat (xs := o) (ys := [z1, z2]) (d_var h1.env (i := 3) rfl) (d_var h1.env (i := 2) rfl) (by simp only [List.length_cons, List.length_nil]; omega)) (by decide) (fun l1 l2 H2 ne e2 h2 m1 m2 => ?_)
  refine q_for (js := [6]) h2 (i_listM (l := o) (f := PyData.str) (enc := fun z => .d (.str z)) (d_var h2.env (i := 3) rfl)) (fun ws H3 ew e3 h3 => ?_)
  subst ew
  refine ⟨fun i σ' H' => At (l2 :: l1 :: M) H σ' H' [some .feed, some (.d (enc t)), some (.d (.list [.str z1, .str z2])), some (.d (.list (o.map PyData.str))), some (.v (.ref l1)), some (.v (.ref l2)), none, none] ∧ ∃ (q : List Str) (g : List (Str × Str)), ML (l2 :: l1 :: M) H H' l1 (q.map PyData.str) ∧ ML (l2 :: l1 :: M) H H' l2 (g.map eS) ∧ g.length = i ∧ q.length + i = o.length + 2 ∧ (∀ z ∈ q, isNameS z = true) ∧ ∀ p ∈ g, isNameS p.1 = true ∧ isNameS p.2 = true, ⟨h3, o ++ [z1, z2], [], m1.mono e3, m2.mono e3, rfl, by simp, fun z hz => ?_, fun p hp => by cases hp⟩, fun i σ' H' H2 ⟨a, q, g, b, c, d⟩ e => ⟨a.mono e, q, g, b.mono e, c.mono e, d⟩, fun σ' H' v ⟨a, q, g, b, c, d, hq, hqn, hg⟩ => ?_, fun i x σ' H' hx v ⟨a, q, g, b, c, d, hq, hqn, hg⟩ => ⟨_, tg_name, fun xs hxs => ?_⟩⟩
  · rcases List.mem_append.mp hz with hz | hz
    · exact hon z hz
    · simp only [List.mem_cons, List.not_mem_nil, or_false] at hz
      rcases hz with e | e <;> rw [e] <;> assumption
  · have nl2 : l2 ∉ l1 :: M := fun m => by
      rcases List.mem_cons.mp m with z | m
      · exact ne z.symm
      · exact h.al l2 m m2.new
    have a2 := (a.show_ (i := 5) c nl2 rfl).unhide
    rw [List.length_map] at d
    exact s_ret a2 (S := T) (d_to (d_cb (a_1 (d_var a2.env (i := 5) rfl)) (cs_tupL rfl)) (hS g hg (by rw [d]; exact hol))) (fun v w H' e s i => k v H' w e s i)
  · have hic : i < o.length := by
      have := idx_lt hx
      rwa [List.length_map] at this
    rw [List.getElem?_map] at hx
    cases hz : o[i]? with
    | none => rw [hz] at hx; cases hx
    | some z0 =>
      rw [hz] at hx
      cases hx
      have hz0 := hon z0 (List.mem_of_getElem? hz)
      have a1 := a.sets [6] hxs
      refine s_appM (Sd := fun dd H4 => Vw (l2 :: l1 :: M) (hid (l2 :: l1 :: M) H3) H4 ∧ ∃ (q' : List Str) (z : Str), ML (l2 :: l1 :: M) H H4 l1 (q'.map PyData.str) ∧ dd = eS (z0, z) ∧ isNameS z = true ∧ q'.length + 1 = q.length ∧ ∀ y ∈ q', isNameS y = true) a1 c rfl (fun Q hQ => ?_) (by rw [List.length_map, d]; omega) (fun dd H4 ys ⟨v4, q', z, mp, ed, hzn, hl', hq'⟩ a4 m4 => ?_)
      · obtain ⟨u, hu, iu⟩ := a1.env.at_ 6 _ rfl
        cases (show Dq (hid (l2 :: l1 :: M) H') u (.str z0) from iu)
        refine ⟨_, hu, ?_⟩
        refine at_pop a1 b rfl (eh_call a1.al (ah_2 (eh_of a1 (d_var a1.env (i := 0) rfl)) fun H5 e5 => eh_len (a1.mono e5) (b.mono e5) rfl) fun ws ⟨y, ew, ey⟩ => ⟨_, by rw [ew, ey], by rw [List.length_map]; omega, by rw [List.length_map]; omega, fun k a b => ⟨k, rfl, a, b⟩⟩) (by rw [List.length_map]; omega) (fun j dd v1 H5 ys e5 hj a5 m5 q5 => ?_)
        rw [List.getElem?_map] at hj
        cases hzj : q[j]? with
        | none => rw [hzj] at hj; cases hj
        | some z =>
          rw [hzj] at hj
          cases hj
          have m2' := (c.mono e5).upd b.mem (fun z => ne z.symm) (o := .lst ys)
          refine ⟨by show 2 ≤ sizeLine; decide, fun pp oo hpp to => hQ (.ref pp) (eS (z0, z)) _ (a5.mono (Ex.new hpp)) (m2'.mono (Ex.new hpp)) (new_tup a5.al hpp to (.cons (.str z0) (.cons q5 .nil))) ⟨((v.step e5).mut b.mem).step (Ex.new hpp), q.eraseIdx j, z, by rw [← map_erase]; exact m5.mono (Ex.new hpp), rfl, hqn z (List.mem_of_getElem? hzj), ?_, fun y hy => hqn y (List.mem_of_mem_eraseIdx hy)⟩⟩
          have := idx_lt hzj
          rw [List.length_eraseIdx, if_pos this]; omega
      · refine ⟨v4.mut m4.mem, a4.lose [6], q', g ++ [(z0, z)], mp.upd m4.mem ne, ?_, by rw [List.length_append, d]; rfl, by omega, hq', fun p hp => ?_⟩
        · rw [List.map_append]
          rw [ed] at m4
          exact m4
        · rcases List.mem_append.mp hp with hp | hp
          · exact hg p hp
          · rw [List.mem_singleton.mp hp]; exact ⟨hz0, hzn⟩
end
end Kl
set_option Elab.async false
set_option linter.all false
set_option maxRecDepth 100000
set_option maxHeartbeats 8000000
/-! L14: _law_strange. -/
namespace Kl
open PySem PySem.Spec PyProof.Rows L2
def strange1 : List PyData := [.none, .bool true, .bool false, .int 0, .int 1, .int 2, .int (-1), .int (10 ^ 59), .str "", .str "a", .str "A", .str "a b", .str "abcdefghi", .str "a1", .str "none", .tuple [], .list [], .tuple [.int 0]]
def strange2 : List PyData := [.list [.str "a"], .tuple [.str "a"], .tuple [.str "a", .str "b"], .tuple [.str "b", .str "a"], .tuple [.str "a", .str "a"], .tuple [.str "a", .int 1], .list [.str "a", .int 1], .tuple [.str "a", .bool true], .tuple [.tuple [.str "a", .int 1]]]
def strange3 : List PyData := [.tuple [.str "a", .int 0], .tuple [.int 1, .str "a"], .tuple [.str "sell", .str "a"], .tuple [.str "apart", .str "a"], .tuple [.str "a", .tuple [.str "a", .str "b"]], .tuple [.tuple []], .str "part"]
def strangeL : List PyData := strange1 ++ strange2 ++ strange3
section
variable {P : Program} {w : World} {K : Frg} {mg : Str → Option Value} {base : Heap} {C : Addr}
abbrev s_law_strange : Stmt := topS 58
abbrev n_law_strange : List Str := ["_law_feed_here", "_law_some_here"]
theorem sc_law_strange : FnScope n_law_strange ["_law_feed_here"] (defScope s_law_strange) := ⟨rfl, rfl, rfl, by decide +kernel, rfl, by decide +kernel, by decide +kernel⟩
def F_law_strange : List W → (W → Prop) → Prop := fun ws S => ws = [.feed] ∧ ∀ d ∈ strangeL, S (.d d)
theorem cl_law_strange (D : Def K mg "_law_strange" s_law_strange) (G : Gm mg) (C_law_any : Cl P w K mg base CX0 2 "_law_any" [] (SpF F_law_any)) : Cl P w K mg base CX0 3 "_law_strange" [] (SpF F_law_strange) := by
  refine D.ok sc_law_strange (fun _ _ _ _ _ _ us hl => match us, hl with | [_], _ => rfl) (fun ws S ⟨e, _⟩ => by rw [e]; rfl) ?_
  rintro f cdv A outer s H M vs ws T Q E hr ⟨rfl, hS⟩ h k
  have nd := sc_law_strange.nd
  refine ⟨_, (pss_cons (ps_set (i := 1) nd rfl (.inl rfl) (pe_lst (pa_cons pe_non (pa_cons pe_bl (pa_cons pe_bl (pa_cons pe_int (pa_cons pe_int (pa_cons pe_int (pa_cons (pe_un un_neg pe_int) (pa_cons (pe_op op_pow pe_int pe_int) (pa_cons pe_str (pa_cons pe_str (pa_cons pe_str (pa_cons pe_str (pa_cons pe_str (pa_cons pe_str (pa_cons pe_str (pa_cons (pe_tupB pa_nil) (pa_cons (pe_lst pa_nil) (pa_cons (pe_tupB (pa_cons pe_int pa_nil)) pa_nil))))))))))))))))))))
      (pss_cons (ps_set (i := 1) nd rfl (.inl rfl) (pe_op op_cat (pv 1) (pe_lst (pa_cons (pe_lst (pa_cons pe_str pa_nil)) (pa_cons (pe_tupB (pa_cons pe_str pa_nil)) (pa_cons (pe_tupB (pa_cons pe_str (pa_cons pe_str pa_nil))) (pa_cons (pe_tupB (pa_cons pe_str (pa_cons pe_str pa_nil))) (pa_cons (pe_tupB (pa_cons pe_str (pa_cons pe_str pa_nil))) (pa_cons (pe_tupB (pa_cons pe_str (pa_cons pe_int pa_nil))) (pa_cons (pe_lst (pa_cons pe_str (pa_cons pe_int pa_nil))) (pa_cons (pe_tupB (pa_cons pe_str (pa_cons pe_bl pa_nil))) (pa_cons (pe_tupB (pa_cons (pe_tupB (pa_cons pe_str (pa_cons pe_int pa_nil))) pa_nil)) pa_nil))))))))))))
      (pss_one (ps_ret (pe_cl C_law_any (hr.mono (by decide)) (by rfl) pass0 (pa_cons (pv 0) (pa_cons (pe_op op_cat (pv 1) (pe_lst (pa_cons (pe_tupB (pa_cons pe_str (pa_cons pe_int pa_nil))) (pa_cons (pe_tupB (pa_cons pe_int (pa_cons pe_str pa_nil))) (pa_cons (pe_tupB (pa_cons pe_str (pa_cons pe_str pa_nil))) (pa_cons (pe_tupB (pa_cons pe_str (pa_cons pe_str pa_nil))) (pa_cons (pe_tupB (pa_cons pe_str (pa_cons (pe_tupB (pa_cons pe_str (pa_cons pe_str pa_nil))) pa_nil))) (pa_cons (pe_tupB (pa_cons (pe_tupB pa_nil) pa_nil)) (pa_cons pe_str pa_nil))))))))) pa_nil))))))), ?_⟩
  refine q_asg h (d_lst (ds := strange1) (a_cons d_n (a_cons d_b (a_cons d_b (a_cons d_i (a_cons d_i (a_cons d_i (a_cons (d_un d_i (us_neg rfl)) (a_cons (d_op d_i d_i (os_I ⟨by decide, by decide, by decide⟩ (fun H => .int _) rfl)) (a_cons d_s (a_cons d_s (a_cons d_s (a_cons d_s (a_cons d_s (a_cons d_s (a_cons d_s (a_cons (d_tup (ds := []) a_nil (by simp)) (a_cons (d_lst (ds := []) a_nil (by simp)) (a_cons (d_tup (ds := [.int 0]) (a_cons d_i a_nil) (by simp)) a_nil)))))))))))))))))) (by decide)) (fun v w H1 e1 ew iw h1 => ?_)
  subst ew
  refine q_asg h1 (d_op (S := fun w => w = .d (.list (strange1 ++ strange2))) (d_var h1.env (i := 1) rfl) (d_lst (ds := strange2) (a_cons (d_lst (ds := [.str "a"]) (a_cons d_s a_nil) (by simp)) (a_cons (d_tup (ds := [.str "a"]) (a_cons d_s a_nil) (by simp)) (a_cons (d_tup (ds := [.str "a", .str "b"]) (a_cons d_s (a_cons d_s a_nil)) (by simp)) (a_cons (d_tup (ds := [.str "b", .str "a"]) (a_cons d_s (a_cons d_s a_nil)) (by simp)) (a_cons (d_tup (ds := [.str "a", .str "a"]) (a_cons d_s (a_cons d_s a_nil)) (by simp)) (a_cons (d_tup (ds := [.str "a", .int 1]) (a_cons d_s (a_cons d_i a_nil)) (by simp)) (a_cons (d_lst (ds := [.str "a", .int 1]) (a_cons d_s (a_cons d_i a_nil)) (by simp)) (a_cons (d_tup (ds := [.str "a", .bool true]) (a_cons d_s (a_cons d_b a_nil)) (by simp)) (a_cons (d_tup (ds := [.tuple [.str "a", .int 1]]) (a_cons (d_tup (ds := [.str "a", .int 1]) (a_cons d_s (a_cons d_i a_nil)) (by simp)) a_nil) (by simp)) a_nil))))))))) (by decide)) (os_addL (by decide) rfl)) (fun v w H2 e2 ew iw h2 => ?_)
  subst ew
  exact s_ret h2 (S := T) (d_call (a_2 (d_var h2.env (i := 0) rfl) (d_op (S := fun w => w = .d (.list strangeL)) (d_var h2.env (i := 1) rfl) (d_lst (ds := strange3) (a_cons (d_tup (ds := [.str "a", .int 0]) (a_cons d_s (a_cons d_i a_nil)) (by simp)) (a_cons (d_tup (ds := [.int 1, .str "a"]) (a_cons d_i (a_cons d_s a_nil)) (by simp)) (a_cons (d_tup (ds := [.str "sell", .str "a"]) (a_cons d_s (a_cons d_s a_nil)) (by simp)) (a_cons (d_tup (ds := [.str "apart", .str "a"]) (a_cons d_s (a_cons d_s a_nil)) (by simp)) (a_cons (d_tup (ds := [.str "a", .tuple [.str "a", .str "b"]]) (a_cons d_s (a_cons (d_tup (ds := [.str "a", .str "b"]) (a_cons d_s (a_cons d_s a_nil)) (by simp)) a_nil)) (by simp)) (a_cons (d_tup (ds := [.tuple []]) (a_cons (d_tup (ds := []) a_nil (by simp)) a_nil) (by simp)) (a_cons d_s a_nil))))))) (by decide)) (os_addL (by decide) rfl))) ⟨strangeL, rfl, by decide, by decide, hS⟩) (fun v w H' e s i => k v H' w e s i)
end
end Kl
set_option Elab.async false
set_option linter.all false
set_option maxRecDepth 100000
set_option maxHeartbeats 8000000
/-! L15: _law_feed. -/
namespace Kl
open PySem PySem.Spec PyProof.Rows L2
theorem d_feed {σ : L2.St} {H : Hp} {te : TE} {ns : List Int} (he : Ed te σ H (.d (.list (ns.map PyData.int)))) : Ed (tDisp [(tC (.str "cells"), te), (tC (.str "spot"), tC (.int 0)), (tC (.str "left"), tC (.int 0)), (tC (.str "drawn"), tC (.int 0))]) σ H .feed := by
  intro N H1 vw Q q p hp
  have nN : p ∉ N := vw.new hp
  have v2 : Vw (p :: N) H (upd H1 p (.dK [])) := ⟨al_new vw.al, by rw [hid_new hp]; exact vw.ex⟩
  refine he (p :: N) _ v2 _ fun v H2 w e s i => ?_
  subst s
  obtain ⟨c, xs, rfl, h1, n1, d1⟩ := hid_lst i
  have ex := of_dps_int d1
  subst ex
  have hp2 : H2 p = some (.dK []) := e.keep upd_same (fun _ _ _ _ z => by unfold feedO at z; cases z)
  have ne : c ≠ p := fun z => n1 (by rw [z]; exact List.mem_cons_self)
  refine ⟨hp2, [(.inr "cells", .ref c), (.inr "spot", .int 0), (.inr "left", .int 0), (.inr "drawn", .int 0)], rfl, show 4 ≤ 15 by decide, ?_⟩
  refine q _ _ _ (((Ex.new hp).trans e).mut hp (plain_dK hp2)) rfl ⟨p, c, ns, 0, 0, 0, rfl, ?_, ?_⟩
  · exact hid_of upd_same nN
  · exact hid_of (by rw [upd_ne ne]; exact h1) fun m => n1 (List.mem_cons_of_mem _ m)
section
variable {P : Program} {w : World} {K : Frg} {mg : Str → Option Value} {base : Heap} {C : Addr}
abbrev s_law_feed : Stmt := topS 45
abbrev n_law_feed : List Str := ["_law_script", "_law_one"]
theorem sc_law_feed : FnScope n_law_feed ["_law_script"] (defScope s_law_feed) := ⟨rfl, rfl, rfl, by decide +kernel, rfl, by decide +kernel, by decide +kernel⟩
def F_law_feed : List W → (W → Prop) → Prop := fun ws S => ∃ ns : List Int, ws = [.d (.list (ns.map PyData.int))] ∧ S .feed
theorem cl_law_feed (D : Def K mg "_law_feed" s_law_feed) (G : Gm mg) : Cl P w K mg base CX0 1 "_law_feed" [] (SpF F_law_feed) := by
  refine D.ok sc_law_feed (fun _ _ _ _ _ _ us hl => match us, hl with | [_], _ => rfl) (fun ws S ⟨_, e, _⟩ => by rw [e]; rfl) ?_
  rintro f cdv A outer s H M vs ws T Q E hr ⟨ns, rfl, hS⟩ h k
  have nd := sc_law_feed.nd
  refine ⟨_, (pss_one (ps_ret (pe_disp (pps_cons pe_str (pe_lc (own := [("_law_one", 1)]) rfl nd (pi_list (pe_slice (r := rSlL K) sl_list (pv 0) po_none (po_some pe_int))) (blkOk_by (own := [("_law_one", 1)]) (by kernel_rfl)) (fun _ _ _ _ _ => (pg_name (i := 1) nd rfl (.inl rfl))) (fun _ _ _ _ _ => pts_nil) (fun _ _ _ _ _ => (pe_callTy call_int1 (by rfl) G.int_ (by decide +kernel) (pa_cons (pv 1) pa_nil)))) (pps_cons pe_str pe_int (pps_cons pe_str pe_int (pps_cons pe_str pe_int pps_nil)))) rfl rfl (by nofun) (by decide)))), ?_⟩
  have hc : cutG (ns.map PyData.int) none (some 63) = (ns.take 63).map PyData.int := by
    rw [show (63 : Int) = ((63 : Nat) : Int) from rfl, cutG_to, List.map_take]
  refine s_ret h (S := T) (d_to (d_feed (ns := ns.take 63) (d_map (l := ns.take 63) (enc := fun i => .d (.int i)) (f := fun i => PyData.int i) h.env (i_listM (f := PyData.int) (d_sl (lo := none) (hi := some 63) (d_var h.env (i := 0) rfl) o_none (o_some d_i) (ss_L (by rw [hc])))) (js := [1]) (by decide) (by rw [List.length_take]; omega) fun i hi => ⟨_, tg_name, fun σ' H' e' h' => d_cb (a_1 (d_var h' (i := 1) rfl)) (cs_int rfl)⟩)) hS) (fun v w H' e s i => k v H' w e s i)
end
end Kl
set_option Elab.async false
set_option linter.all false
set_option maxRecDepth 100000
set_option maxHeartbeats 8000000
/-! L16: + over a hidden list. -/
namespace Kl
open PySem PySem.Spec PyProof.Rows L2
section
variable {K : Frg} {σ : L2.St} {H : Hp} {ρ : List (Option W)} {N : List Addr} {B : Hp} {ta tb : TE} {S : W → Prop} {l : Addr} {xs ds : List PyData} {i : Nat} {x y : W}
theorem eh_cat (h : At N B σ H ρ) (m : ML N B H l ds) (hi : ρ[i]? = some (some (.v (.ref l)))) (ha : Ed ta σ (hid N H) (.d (.list xs))) (hl : xs.length + ds.length ≤ 100000) : EvH (tOp rCat ta (tVar i)) σ N H fun w => w = .d (.list (xs ++ ds)) := fun Q q => by
  obtain ⟨v0, e0, i0⟩ := h.env.at_ i _ hi
  have i0 : v0 = .ref l := i0
  subst i0
  refine ha N H h.vw _ fun v H2 w e s iv => ?_
  subst s
  obtain ⟨a, us, rfl, h1, n1, d1⟩ := hid_lst iv
  obtain ⟨zs, h2, d2⟩ := (m.mono e).is
  have al : ∀ l ∈ N, H2 l ≠ none := (h.mono e).al
  exact ⟨_, e0, a, l, us, zs, rfl, rfl, h1, h2, Nat.le_trans (by rw [dps_len d1, dps_len d2]; exact hl) (by decide), fun p hp => q _ _ _ (e.trans (Ex.new hp)) rfl (new_lst al hp (dps_app d1 d2))⟩
theorem eh_op {r : R2} (al : ∀ l ∈ N, H l ≠ none) (ha : EvH ta σ N H fun w => w = x) (hb : ∀ H1, Ex H H1 → EvH tb σ N H1 fun w => w = y) (hr : OpS r x y S) : EvH (tOp r ta tb) σ N H S := fun Q q =>
  ha _ fun v H1 w e1 s iv => by
    subst s
    refine hb H1 e1 _ fun u H2 w e2 s iu => ?_
    subst s
    exact hr N H2 (fun l m => e2.some (e1.some (al l m))) v u (is_mono (hid_mono e2.w) iv) iu Q fun z H3 w e3 sw iw => q z H3 w (e1.trans (e2.trans e3)) sw iw
end
end Kl
set_option Elab.async false
set_option linter.all false
set_option maxRecDepth 100000
set_option maxHeartbeats 4000000
/-! M2: a drawn shop is a shop. -/
namespace Kl
open PySem PySem.Spec PyProof.Rows L2
/-- what the law draws for a shop, before it is sorted -/
structure Raw (own picks seg : List Str) (ps : List (Str × Int)) (cs : List (Str × List Str)) (ks : List (Str × Int × Bool × List (Str × Int))) : Prop where
  nd : (own ++ picks ++ seg).Nodup
  nm : ∀ z ∈ own ++ picks ++ seg, isNameS z = true
  lo : 1 ≤ own.length
  lo5 : own.length ≤ 5
  lp : picks.length ≤ 3
  ls : seg.length ≤ 5
  ep : ps.map (fun p => p.1) = own
  ec : cs.map (fun c => c.1) = picks
  ek : ks.map (fun k => k.1) = seg
  np : ∀ p ∈ ps, 0 ≤ p.2 ∧ p.2 < 10 ^ 79
  nc : ∀ c ∈ cs, risingB c.2 = true ∧ 2 ≤ c.2.length ∧ c.2.length ≤ own.length ∧ ∀ z ∈ c.2, z ∈ own
  nk : ∀ (i : Nat) k, ks[i]? = some k → 0 ≤ k.2.1 ∧ k.2.1 < 10 ^ 79 ∧ risingB (k.2.2.2.map fun e => e.1) = true ∧ 1 ≤ k.2.2.2.length ∧ k.2.2.2.length ≤ 4 ∧ ∀ e ∈ k.2.2.2, 1 ≤ e.2 ∧ e.2 ≤ 4 ∧ (e.1 ∈ own ∨ e.1 ∈ seg.take i ∨ (k.2.2.1 = false ∧ e.1 ∈ picks))
abbrev rawShp (ps : List (Str × Int)) (cs : List (Str × List Str)) (ks : List (Str × Int × Bool × List (Str × Int))) : Shp := ⟨sortN pnm ps, sortN cnm cs, sortN knm ks⟩
theorem map_sortN {α : Type} {nm : α → Str} {l : List α} {z : Str} : z ∈ (sortN nm l).map nm ↔ z ∈ l.map nm := ((sortN_perm l).map nm).mem_iff
theorem Raw.mem {own picks seg ps cs ks} (R : Raw own picks seg ps cs ks) {z : Str} : z ∈ (rawShp ps cs ks).nm ↔ z ∈ own ++ picks ++ seg := by
  have h1 : z ∈ (rawShp ps cs ks).pn ↔ z ∈ own := by rw [← R.ep]; exact map_sortN
  have h2 : z ∈ (rawShp ps cs ks).cn ↔ z ∈ picks := by rw [← R.ec]; exact map_sortN
  have h3 : z ∈ (rawShp ps cs ks).kn ↔ z ∈ seg := by rw [← R.ek]; exact map_sortN
  show z ∈ _ ++ _ ++ _ ↔ _
  rw [List.mem_append, List.mem_append, List.mem_append, List.mem_append, h1, h2, h3]
theorem Raw.perm {own picks seg ps cs ks} (R : Raw own picks seg ps cs ks) : (rawShp ps cs ks).nm.Perm (own ++ picks ++ seg) := by
  rw [← R.ep, ← R.ec, ← R.ek]
  exact (((sortN_perm ps).map _).append ((sortN_perm cs).map _)).append ((sortN_perm ks).map _)
theorem Raw.fit {own picks seg ps cs ks} (R : Raw own picks seg ps cs ks) : Fit (rawShp ps cs ks) where
  np := fun p hp => by
    have hp := sortN_mem.mp hp
    exact ⟨R.nm _ (List.mem_append_left _ (List.mem_append_left _ (R.ep ▸ List.mem_map_of_mem hp))), (R.np p hp).1, (R.np p hp).2⟩
  nc := fun c hc => by
    have hc := sortN_mem.mp hc
    obtain ⟨h1, h2, h3, h4⟩ := R.nc c hc
    have := R.lo5
    refine ⟨R.nm _ (List.mem_append_left _ (List.mem_append_right _ (R.ec ▸ List.mem_map_of_mem hc))), by omega, (pw_of_rising h1).imp fun h => ltS_ne h, fun z hz => R.mem.mpr (List.mem_append_left _ (List.mem_append_left _ (h4 z hz)))⟩
  nk := fun k hk => by
    have hk := sortN_mem.mp hk
    obtain ⟨i, hi⟩ := List.getElem?_of_mem hk
    obtain ⟨h1, h2, h3, h4, h5, h6⟩ := R.nk i k hi
    refine ⟨R.nm _ (List.mem_append_right _ (R.ek ▸ List.mem_map_of_mem hk)), h1, h2, by omega, (pw_of_rising h3).imp fun h => ltS_ne h, fun e he => ?_⟩
    obtain ⟨e1, e2, e3⟩ := h6 e he
    refine ⟨R.mem.mpr ?_, by omega, Int.lt_of_le_of_lt e2 (by decide)⟩
    rcases e3 with h | h | h
    · exact List.mem_append_left _ (List.mem_append_left _ h)
    · exact List.mem_append_right _ (List.mem_of_mem_take h)
    · exact List.mem_append_left _ (List.mem_append_right _ h.2)
  nd := R.perm.nodup_iff.mpr R.nd
  lp := by show (sortN pnm ps).length ≤ 20; rw [sortN_len, ← List.length_map (f := fun p => p.1), R.ep]; have := R.lo5; omega
  lc := by show (sortN cnm cs).length ≤ 20; rw [sortN_len, ← List.length_map (f := fun p => p.1), R.ec]; have := R.lp; omega
  lk := by show (sortN knm ks).length ≤ 20; rw [sortN_len, ← List.length_map (f := fun p => p.1), R.ek]; have := R.ls; omega
def posOf (z : Str) : List Str → Nat
  | [] => 0
  | a :: l => if a = z then 0 else posOf z l + 1
theorem posOf_at {z : Str} : ∀ {l : List Str} {i : Nat}, l.Nodup → l[i]? = some z → posOf z l = i
  | [], i, _, h => by simp at h
  | a :: l, 0, _, h => by cases h; exact if_pos rfl
  | a :: l, i + 1, hn, h => by
    have h : l[i]? = some z := by simpa using h
    rw [List.nodup_cons] at hn
    have ne : a ≠ z := fun e => hn.1 (e ▸ List.mem_of_getElem? h)
    show (if a = z then 0 else posOf z l + 1) = i + 1
    rw [if_neg ne, posOf_at hn.2 h]
theorem posOf_take {z : Str} : ∀ {l : List Str} {i : Nat}, z ∈ l.take i → posOf z l < i
  | [], i, h => by simp at h
  | a :: l, 0, h => by simp at h
  | a :: l, i + 1, h => by
    show (if a = z then 0 else posOf z l + 1) < i + 1
    by_cases e : a = z
    · rw [if_pos e]; exact Nat.succ_pos _
    · rw [if_neg e]
      rw [List.take_succ_cons] at h
      exact Nat.succ_lt_succ (posOf_take ((List.mem_cons.mp h).resolve_left fun z => e z.symm))
theorem Raw.rank {own picks seg ps cs ks} (R : Raw own picks seg ps cs ks) : ∃ r : Str → Nat, ∀ k ∈ ks, ∀ e ∈ k.2.2.2, r e.1 < r k.1 := by
  refine ⟨fun z => if z ∈ seg then posOf z seg + 1 else 0, fun k hk e he => ?_⟩
  obtain ⟨i, hi⟩ := List.getElem?_of_mem hk
  have hs : seg[i]? = some k.1 := by rw [← R.ek, List.getElem?_map, hi]; rfl
  have hsn : seg.Nodup := (List.nodup_append.mp R.nd).2.1
  have hr : (if k.1 ∈ seg then posOf k.1 seg + 1 else 0) = i + 1 := by rw [if_pos (List.mem_of_getElem? hs), posOf_at hsn hs]
  show (if e.1 ∈ seg then posOf e.1 seg + 1 else 0) < (if k.1 ∈ seg then posOf k.1 seg + 1 else 0)
  rw [hr]
  have hout : ∀ z, z ∈ own ++ picks → z ∉ seg := fun z h1 h2 => (List.nodup_append.mp R.nd).2.2 z h1 z h2 rfl
  rcases ((R.nk i k hi).2.2.2.2.2 e he).2.2 with h | h | h
  · rw [if_neg (hout _ (List.mem_append_left _ h))]; omega
  · rw [if_pos (List.mem_of_mem_take h)]
    have := posOf_take h
    omega
  · rw [if_neg (hout _ (List.mem_append_right _ h.2))]; omega
theorem Raw.pre {own picks seg ps cs ks} (R : Raw own picks seg ps cs ks) : Pre (rawShp ps cs ks) where
  np := R.fit.np
  nc := fun c hc => by
    have hc' := sortN_mem.mp hc
    obtain ⟨h1, h2, h3, h4⟩ := R.nc c hc'
    have := R.lo5
    refine ⟨(R.fit.nc c hc).1, ?_, h2, by omega⟩
    unfold isNamesB
    rw [h1, Bool.and_true, List.all_eq_true]
    exact fun z hz => R.nm z (List.mem_append_left _ (List.mem_append_left _ (h4 z hz)))
  nk := fun k hk => by
    have hk' := sortN_mem.mp hk
    obtain ⟨i, hi⟩ := List.getElem?_of_mem hk'
    obtain ⟨h1, h2, h3, h4, h5, h6⟩ := R.nk i k hi
    obtain ⟨r, hr⟩ := R.rank
    refine ⟨(R.fit.nk k hk).1, h1, h2, h4, by omega, h3, fun e he => ?_⟩
    obtain ⟨e1, e2, e3⟩ := h6 e he
    refine ⟨R.fit.ok _ ((R.fit.nk k hk).2.2.2.2.2 e he).1, e1, Int.lt_of_le_of_lt e2 (by decide), fun z => ?_, fun hb hcn => ?_⟩
    · have := hr k hk' e he
      rw [z] at this
      omega
    · have hcn : e.1 ∈ picks := R.ec ▸ map_sortN.mp hcn
      have h12 := (List.nodup_append.mp R.nd).1
      rcases e3 with h | h | h
      · exact (List.nodup_append.mp h12).2.2 _ h _ hcn rfl
      · exact (List.nodup_append.mp R.nd).2.2 _ (List.mem_append_right _ hcn) _ (List.mem_of_mem_take h) rfl
      · rw [h.1] at hb; cases hb
  rp := sortN_rise (by rw [show ps.map pnm = own from R.ep]; exact (List.nodup_append.mp (List.nodup_append.mp R.nd).1).1)
  rc := sortN_rise (by rw [show cs.map cnm = picks from R.ec]; exact (List.nodup_append.mp (List.nodup_append.mp R.nd).1).2.1)
  rk := sortN_rise (by rw [show ks.map knm = seg from R.ek]; exact (List.nodup_append.mp R.nd).2.1)
  dc := fun z h1 h2 => (List.nodup_append.mp (List.nodup_append.mp R.nd).1).2.2 z (R.ep ▸ map_sortN.mp h2) z (R.ec ▸ map_sortN.mp h1) rfl
  dk := fun z h1 => ⟨fun h2 => (List.nodup_append.mp R.nd).2.2 z (List.mem_append_left _ (R.ep ▸ map_sortN.mp h2)) z (R.ek ▸ map_sortN.mp h1) rfl, fun h2 => (List.nodup_append.mp R.nd).2.2 z (List.mem_append_right _ (R.ec ▸ map_sortN.mp h2)) z (R.ek ▸ map_sortN.mp h1) rfl⟩
  lp := R.fit.lp
  lc := R.fit.lc
  lk := R.fit.lk
  rank := by
    obtain ⟨r, hr⟩ := R.rank
    exact ⟨r, fun k hk => hr k (sortN_mem.mp hk)⟩
theorem Raw.shop {own picks seg ps cs ks} (R : Raw own picks seg ps cs ks) : shopB (rawShp ps cs ks) = true := by
  have h1 : (sortN pnm ps).isEmpty = false := by
    cases q : sortN pnm ps with
    | nil =>
      have hl : (sortN pnm ps).length = ps.length := sortN_len
      have := R.lo
      rw [← R.ep, List.length_map, ← hl, q] at this
      cases this
    | cons a l => rfl
  have h2 : optsIn (rawShp ps cs ks) = true := by
    unfold optsIn
    rw [List.all_eq_true]
    intro c hc
    rw [List.all_eq_true]
    exact fun z hz => decide_eq_true (map_sortN.mpr (R.ep ▸ (R.nc c (sortN_mem.mp hc)).2.2.2 z hz))
  have h3 : sheetsIn (rawShp ps cs ks) = true := by
    unfold sheetsIn
    rw [List.all_eq_true]
    intro k hk
    rw [List.all_eq_true]
    intro e he
    have hm := (R.fit.nk k hk).2.2.2.2.2 e he
    unfold fitB
    rcases List.mem_append.mp hm.1 with h | h
    · rcases List.mem_append.mp h with h | h
      · rw [decide_eq_true h, Bool.true_or, Bool.or_true]
      · rw [decide_eq_true h, Bool.true_or]
    · rw [decide_eq_true h, Bool.or_true, Bool.or_true]
  show (!(sortN pnm ps).isEmpty && (optsIn (rawShp ps cs ks) && sheetsIn (rawShp ps cs ks))) = true
  rw [h1, h2, h3]
  rfl
end Kl
set_option Elab.async false
set_option linter.all false
set_option maxRecDepth 100000
set_option maxHeartbeats 4000000
/-! M3: without's law. -/
namespace Kl
open PySem PySem.Spec PyProof.Rows L2
theorem shop_parts {t : Shp} (h : shopB t = true) : t.ps ≠ [] ∧ (∀ c ∈ t.cs, ∀ z ∈ c.2, z ∈ t.pn) ∧ ∀ k ∈ t.ks, ∀ e ∈ k.2.2.2, e.1 ∈ t.nm := by
  have h : (!t.ps.isEmpty && (optsIn t && sheetsIn t)) = true := h
  rw [Bool.and_eq_true, Bool.and_eq_true] at h
  refine ⟨fun e => ?_, fun c hc z hz => ?_, fun k hk e he => ?_⟩
  · rw [e] at h; cases h.1
  · exact of_decide_eq_true (List.all_eq_true.mp (List.all_eq_true.mp h.2.1 c hc) z hz)
  · have q : fitB t e.1 = true := List.all_eq_true.mp (List.all_eq_true.mp h.2.2 k hk) e he
    unfold fitB at q
    rw [Bool.or_eq_true, Bool.or_eq_true] at q
    rcases q with q | q | q
    · exact List.mem_append_left _ (List.mem_append_right _ (of_decide_eq_true q))
    · exact List.mem_append_left _ (List.mem_append_left _ (of_decide_eq_true q))
    · exact List.mem_append_right _ (of_decide_eq_true q)
theorem shop_of {t : Shp} (h1 : t.ps ≠ []) (h2 : ∀ c ∈ t.cs, ∀ z ∈ c.2, z ∈ t.pn) (h3 : ∀ k ∈ t.ks, ∀ e ∈ k.2.2.2, e.1 ∈ t.nm) : shopB t = true := by
  have a1 : t.ps.isEmpty = false := by
    cases q : t.ps with
    | nil => exact absurd q h1
    | cons a l => rfl
  have a2 : optsIn t = true := by
    unfold optsIn
    rw [List.all_eq_true]
    intro c hc
    rw [List.all_eq_true]
    exact fun z hz => decide_eq_true (h2 c hc z hz)
  have a3 : sheetsIn t = true := by
    unfold sheetsIn
    rw [List.all_eq_true]
    intro k hk
    rw [List.all_eq_true]
    intro e he
    unfold fitB
    rcases List.mem_append.mp (h3 k hk e he) with h | h
    · rcases List.mem_append.mp h with h | h
      · rw [decide_eq_true h, Bool.true_or, Bool.or_true]
      · rw [decide_eq_true h, Bool.true_or]
    · rw [decide_eq_true h, Bool.or_true, Bool.or_true]
  show (!t.ps.isEmpty && (optsIn t && sheetsIn t)) = true
  rw [a1, a2, a3]
  rfl
theorem out_mem {α : Type} {nm : α → Str} {l : List α} {y z : Str} : y ∈ (l.filter fun p => decide (nm p ≠ z)).map nm ↔ y ∈ l.map nm ∧ y ≠ z := by
  constructor
  · intro h
    obtain ⟨x, hx, rfl⟩ := List.mem_map.mp h
    obtain ⟨h1, h2⟩ := List.mem_filter.mp hx
    exact ⟨List.mem_map_of_mem h1, of_decide_eq_true h2⟩
  · rintro ⟨h, ne⟩
    obtain ⟨x, hx, rfl⟩ := List.mem_map.mp h
    exact List.mem_map_of_mem (List.mem_filter.mpr ⟨hx, decide_eq_true ne⟩)
theorem out_nm {t : Shp} {y z : Str} : y ∈ (t.out z).nm ↔ y ∈ t.nm ∧ y ≠ z := by
  show y ∈ _ ++ _ ++ _ ↔ y ∈ _ ++ _ ++ _ ∧ _
  rw [List.mem_append, List.mem_append, List.mem_append, List.mem_append]
  have h1 : y ∈ (t.out z).pn ↔ y ∈ t.pn ∧ y ≠ z := out_mem
  have h2 : y ∈ (t.out z).cn ↔ y ∈ t.cn ∧ y ≠ z := out_mem
  have h3 : y ∈ (t.out z).kn ↔ y ∈ t.kn ∧ y ≠ z := out_mem
  rw [h1, h2, h3]
  constructor
  · rintro ((h | h) | h)
    · exact ⟨.inl (.inl h.1), h.2⟩
    · exact ⟨.inl (.inr h.1), h.2⟩
    · exact ⟨.inr h.1, h.2⟩
  · rintro ⟨(h | h) | h, ne⟩
    · exact .inl (.inl ⟨h, ne⟩)
    · exact .inl (.inr ⟨h, ne⟩)
    · exact .inr ⟨h, ne⟩
/-- the law's own answer is without's -/
theorem out_shop {t : Shp} (hp : Pre t) (hs : shopB t = true) {z : Str} (hz : z ∈ t.nm) : shopB (t.out z) = true ↔ (z ∉ t.used ∧ t.pn ≠ [z]) := by
  obtain ⟨s1, s2, s3⟩ := shop_parts hs
  have hpn : t.pn.Nodup := (pw_of_rising hp.rp).imp fun h => ltS_ne h
  constructor
  · intro h
    obtain ⟨o1, o2, o3⟩ := shop_parts h
    refine ⟨fun hu => ?_, fun e => ?_⟩
    · rcases List.mem_append.mp hu with hu | hu
      · obtain ⟨c, hc, hzc⟩ := List.mem_flatMap.mp hu
        have hzp := s2 c hc z hzc
        have ne : c.1 ≠ z := fun e => hp.dc c.1 (List.mem_map_of_mem hc) (e ▸ hzp)
        have := o2 c (List.mem_filter.mpr ⟨hc, decide_eq_true ne⟩) z hzc
        exact (out_mem (nm := fun p : Str × Int => p.1).mp this).2 rfl
      · obtain ⟨k, hk, hzk⟩ := List.mem_flatMap.mp hu
        obtain ⟨e, he, rfl⟩ := List.mem_map.mp hzk
        have ne : k.1 ≠ e.1 := fun q => ((hp.nk k hk).2.2.2.2.2.2 e he).2.2.2.1 q.symm
        have := o3 k (List.mem_filter.mpr ⟨hk, decide_eq_true ne⟩) e he
        exact (out_nm.mp this).2 rfl
    · refine o1 (List.filter_eq_nil_iff.mpr fun p hpm => ?_)
      have : p.1 ∈ t.pn := List.mem_map_of_mem hpm
      rw [e] at this
      simp [List.mem_singleton.mp this]
  · rintro ⟨h1, h2⟩
    refine shop_of (fun e => h2 ?_) (fun c hc y hy => ?_) (fun k hk e he => ?_)
    · have hall : ∀ p ∈ t.ps, p.1 = z := fun p hpm => by
        have := List.filter_eq_nil_iff.mp e p hpm
        simpa using this
      cases q : t.ps with
      | nil => exact absurd q s1
      | cons a l =>
        cases ql : l with
        | nil =>
          show t.ps.map (fun p => p.1) = [z]
          rw [q, ql, List.map_cons, List.map_nil, hall a (by rw [q]; simp)]
        | cons b l' =>
          have h3 := hpn
          have e3 : t.pn = a.1 :: b.1 :: l'.map (fun p => p.1) := by
            show t.ps.map (fun p => p.1) = _
            rw [q, ql]; rfl
          rw [e3, hall a (by rw [q]; simp), hall b (by rw [q, ql]; simp)] at h3
          simp at h3
    · obtain ⟨hc1, hc2⟩ := List.mem_filter.mp hc
      exact out_mem (nm := fun p : Str × Int => p.1).mpr ⟨s2 c hc1 y hy, fun e => h1 (List.mem_append_left _ (List.mem_flatMap.mpr ⟨c, hc1, e ▸ hy⟩))⟩
    · obtain ⟨hk1, hk2⟩ := List.mem_filter.mp hk
      exact out_nm.mpr ⟨s3 k hk1 e he, fun q => h1 (List.mem_append_right _ (List.mem_flatMap.mpr ⟨k, hk1, List.mem_map.mpr ⟨e, he, q⟩⟩))⟩
end Kl
set_option Elab.async false
set_option linter.all false
set_option maxRecDepth 100000
set_option maxHeartbeats 4000000
/-! M4: added and taken out again. -/
namespace Kl
open PySem PySem.Spec PyProof.Rows L2
theorem filter_none {α : Type} {nm : α → Str} {l : List α} {z : Str} (h : z ∉ l.map nm) : (l.filter fun p => decide (nm p ≠ z)) = l :=
  List.filter_eq_self.mpr fun x hx => decide_eq_true fun e => h (e ▸ List.mem_map_of_mem hx)
theorem add_out {α : Type} {nm : α → Str} {l : List α} {y : α} (hr : risingB (l.map nm) = true) (hy : nm y ∉ l.map nm) : ((sortN nm (l ++ [y])).filter fun p => decide (nm p ≠ nm y)) = l := by
  have hn : ((l ++ [y]).map nm).Nodup := by
    rw [List.map_append, List.nodup_append]
    refine ⟨rise_nodup hr, by simp, fun a ha b hb e => ?_⟩
    simp only [List.map_cons, List.map_nil, List.mem_singleton] at hb
    exact hy (by rw [← hb, ← e]; exact ha)
  refine rise_eq ?_ (rise_filter _ (sortN_rise hn)) hr
  have p := (sortN_perm (nm := nm) (l ++ [y])).filter fun p => decide (nm p ≠ nm y)
  rw [List.filter_append, filter_none hy] at p
  simpa using p
theorem outAddP {t : Shp} (h : Pre t) {z : Str} {n : Int} (hz : z ∉ t.nm) : (t.addP (z, n)).out z = t := by
  have hp : z ∉ t.ps.map pnm := fun m => hz (List.mem_append_left _ (List.mem_append_left _ m))
  have hc : z ∉ t.cs.map cnm := fun m => hz (List.mem_append_left _ (List.mem_append_right _ m))
  have hk : z ∉ t.ks.map knm := fun m => hz (List.mem_append_right _ m)
  have e1 := add_out (nm := pnm) (y := (z, n)) h.rp hp
  have e2 := filter_none (nm := cnm) hc
  have e3 := filter_none (nm := knm) hk
  show Shp.mk _ _ _ = t
  exact (congr (congr (congrArg Shp.mk e1) e2) e3)
theorem outAddC {t : Shp} (h : Pre t) {z : Str} {o : List Str} (hz : z ∉ t.nm) : (t.addC (z, o)).out z = t := by
  have hp : z ∉ t.ps.map pnm := fun m => hz (List.mem_append_left _ (List.mem_append_left _ m))
  have hc : z ∉ t.cs.map cnm := fun m => hz (List.mem_append_left _ (List.mem_append_right _ m))
  have hk : z ∉ t.ks.map knm := fun m => hz (List.mem_append_right _ m)
  have e1 := filter_none (nm := pnm) hp
  have e2 := add_out (nm := cnm) (y := (z, o)) h.rc hc
  have e3 := filter_none (nm := knm) hk
  exact (congr (congr (congrArg Shp.mk e1) e2) e3)
theorem outAddK {t : Shp} (h : Pre t) {z : Str} {n : Int} {b : Bool} {sh : List (Str × Int)} (hz : z ∉ t.nm) : (t.addK (z, n, b, sh)).out z = t := by
  have hp : z ∉ t.ps.map pnm := fun m => hz (List.mem_append_left _ (List.mem_append_left _ m))
  have hc : z ∉ t.cs.map cnm := fun m => hz (List.mem_append_left _ (List.mem_append_right _ m))
  have hk : z ∉ t.ks.map knm := fun m => hz (List.mem_append_right _ m)
  have e1 := filter_none (nm := pnm) hp
  have e2 := filter_none (nm := cnm) hc
  have e3 := add_out (nm := knm) (y := (z, n, b, sh)) h.rk hk
  exact (congr (congr (congrArg Shp.mk e1) e2) e3)
end Kl
set_option Elab.async false
set_option linter.all false
set_option maxRecDepth 100000
set_option maxHeartbeats 4000000
/-! M5: renamed and named back. -/
namespace Kl
open PySem PySem.Spec PyProof.Rows L2
theorem ren_back {α : Type} {nm : α → Str} {f g : α → α} {l : List α} (hr : risingB (l.map nm) = true) (h : ∀ x ∈ l, g (f x) = x) : sortN nm ((sortN nm (l.map f)).map g) = l := by
  have e : (l.map f).map g = l := by
    rw [List.map_map]
    have : l.map (g ∘ f) = l.map id := List.map_congr_left fun x hx => h x hx
    rw [this, List.map_id]
  have p := (sortN_perm (nm := nm) (l.map f)).map g
  rw [e] at p
  exact (sortN_eq p.symm hr).symm
theorem ren_ren {t : Shp} (h : Pre t) (hf : Fit t) {f g : Str → Str} (hgf : ∀ z ∈ t.nm, g (f z) = z) : (t.ren f).ren g = t := by
  have h1 : sortN pnm ((sortN pnm (t.ps.map fun p => (f p.1, p.2))).map fun p => (g p.1, p.2)) = t.ps := ren_back h.rp fun p hp => Prod.ext (hgf _ (List.mem_append_left _ (List.mem_append_left _ (List.mem_map_of_mem hp)))) rfl
  have h2 : sortN cnm ((sortN cnm (t.cs.map fun c => (f c.1, sortN znm (c.2.map f)))).map fun c => (g c.1, sortN znm (c.2.map g))) = t.cs := ren_back h.rc fun c hc => by
    have hr := (h.nc c hc).2.1
    unfold isNamesB at hr
    rw [Bool.and_eq_true] at hr
    exact Prod.ext (hgf _ (List.mem_append_left _ (List.mem_append_right _ (List.mem_map_of_mem hc)))) (ren_back (nm := znm) (by rw [show c.2.map znm = c.2 from List.map_id _]; exact hr.2) fun z hz => hgf z ((hf.nc c hc).2.2.2 z hz))
  have h3 : sortN knm ((sortN knm (t.ks.map fun k => (f k.1, k.2.1, k.2.2.1, sortN bnm (k.2.2.2.map fun e => (f e.1, e.2))))).map fun k => (g k.1, k.2.1, k.2.2.1, sortN bnm (k.2.2.2.map fun e => (g e.1, e.2)))) = t.ks := ren_back h.rk fun k hk => by
    have e1 := hgf _ (List.mem_append_right _ (List.mem_map_of_mem (f := fun k => k.1) hk))
    have e2 : sortN bnm ((sortN bnm (k.2.2.2.map fun e => (f e.1, e.2))).map fun e => (g e.1, e.2)) = k.2.2.2 := ren_back (nm := bnm) (h.nk k hk).2.2.2.2.2.1 fun e he => Prod.ext (hgf _ ((hf.nk k hk).2.2.2.2.2 e he).1) rfl
    show (g (f k.1), k.2.1, k.2.2.1, _) = k
    rw [e2]
    exact Prod.ext e1 rfl
  exact (congr (congr (congrArg Shp.mk h1) h2) h3)
end Kl
set_option Elab.async false
set_option linter.all false
set_option maxRecDepth 100000
set_option maxHeartbeats 8000000
/-! L17: _law_store. -/
namespace Kl
open PySem PySem.Spec PyProof.Rows L2
theorem split4 {l : List Str} {a b c : Nat} (h : l.length = a + b + c + 2) : ∃ own picks seg z1 z2, l.take a = own ∧ (l.drop a).take b = picks ∧ (l.drop (a + b)).take c = seg ∧ l.drop (l.length - 2) = [z1, z2] ∧ l = own ++ picks ++ seg ++ [z1, z2] := by
  have h2 : (l.drop (a + b + c)).length = 2 := by rw [List.length_drop]; omega
  obtain ⟨z1, z2, q⟩ : ∃ z1 z2, l.drop (a + b + c) = [z1, z2] := match l.drop (a + b + c), h2 with
    | [z1, z2], _ => ⟨z1, z2, rfl⟩
  refine ⟨_, _, _, z1, z2, rfl, rfl, rfl, by rw [show l.length - 2 = a + b + c by omega, q], ?_⟩
  rw [← q, List.append_assoc, List.append_assoc]
  conv => lhs; rw [← List.take_append_drop a l, ← List.take_append_drop b (l.drop a), List.drop_drop, ← List.take_append_drop c (l.drop (a + b)), List.drop_drop]
theorem alike_strs : ∀ (l m : List Str), PySem.W.alikeAll (l.map PyData.str) (m.map PyData.str) = true
  | [], _ => by rw [List.map_nil, PySem.W.alikeAll]
  | _ :: _, [] => by rw [List.map_nil, List.map_cons, PySem.W.alikeAll]
  | a :: l, b :: m => by rw [List.map_cons, List.map_cons, PySem.W.alikeAll, alike_strs l m]; rfl
theorem alike_ps : ∀ (l m : List (Str × Int)), PySem.W.alikeAll (l.map eP) (m.map eP) = true
  | [], _ => by rw [List.map_nil, PySem.W.alikeAll]
  | _ :: _, [] => by rw [List.map_nil, List.map_cons, PySem.W.alikeAll]
  | a :: l, b :: m => by rw [List.map_cons, List.map_cons, PySem.W.alikeAll, alike_ps l m]; rfl
theorem alike_eC (a b : Str × List Str) : PySem.W.alike (eC a) (eC b) = true := by
  show (true && (PySem.W.alikeAll (a.2.map PyData.str) (b.2.map PyData.str) && true)) = true
  rw [alike_strs]; rfl
theorem alike_eK (a b : Str × Int × Bool × List (Str × Int)) : PySem.W.alike (eK a) (eK b) = true := by
  show (true && (true && (true && (PySem.W.alikeAll (a.2.2.2.map eP) (b.2.2.2.map eP) && true)))) = true
  rw [alike_ps]; rfl
theorem depth_str : ∀ l : List Str, PyData.depthAll (l.map PyData.str) ≤ 1
  | [] => by simp [PyData.depthAll]
  | a :: l => by have := depth_str l; simp only [List.map_cons, PyData.depthAll, PyData.depth]; omega
theorem depth_eB : ∀ l : List (Str × Int), PyData.depthAll (l.map eP) ≤ 5
  | [] => by simp [PyData.depthAll]
  | a :: l => by have := depth_eB l; simp only [List.map_cons, PyData.depthAll, PyData.depth]; omega
theorem depth_eC (c : Str × List Str) : (eC c).depth ≤ 30 := by
  have := depth_str c.2
  simp only [PyData.depth, PyData.depthAll]; omega
theorem depth_eK (c : Str × Int × Bool × List (Str × Int)) : (eK c).depth ≤ 30 := by
  have := depth_eB c.2.2.2
  simp only [PyData.depth, PyData.depthAll]; omega
theorem map_of_get {α β : Type} {nm : α → β} : ∀ {l : List β} {ys : List α}, ys.length = l.length → (∀ (i : Nat) x y, l[i]? = some x → ys[i]? = some y → nm y = x) → ys.map nm = l
  | [], [], _, _ => rfl
  | [], _ :: _, h, _ => by cases h
  | _ :: _, [], h, _ => by cases h
  | x :: l, y :: ys, h, hR => by
    rw [List.map_cons, hR 0 x y rfl rfl, map_of_get (Nat.succ.inj h) fun i a b ha hb => hR (i + 1) a b (by simpa using ha) (by simpa using hb)]
section
variable {P : Program} {w : World} {K : Frg} {mg : Str → Option Value} {base : Heap} {C : Addr}
theorem q_asgH {N : List Addr} {B : Hp} {σ : L2.St} {H : Hp} {ρ : List (Option W)} {te : TE} {tz : TS} {D : Ends} {S : W → Prop} {i : Nat} (h : At N B σ H ρ) (he : EvH te σ N H S) (k : ∀ v w H', Ex H H' → S w → At N B (σ.set i (some v)) H' (ρ.set i (some w)) → tz D (σ.set i (some v)) H') : tSeq (tAsg te (gName i)) tz D σ H :=
  he _ fun v H' w e s q => k v w H' e s ((h.mono e).set i q)
abbrev s_law_store : Stmt := topS 52
abbrev n_law_store : List Str := ["_law_feed_here", "_law_most", "_law_goods_many", "_law_packs_many", "_law_picks_many", "_law_tags", "_law_own", "_law_picks", "_law_rows", "_law_below", "_law_tag", "_law_gives", "_law_bill_here", "_law_stocks", "_law_eithers"]
theorem sc_law_store : FnScope n_law_store ["_law_feed_here", "_law_most"] (defScope s_law_store) := ⟨rfl, rfl, rfl, by decide +kernel, rfl, by decide +kernel, by decide +kernel⟩
def F_law_store : List W → (W → Prop) → Prop := fun ws S => ws = [.feed, .d (.int 5)] ∧ ∀ own picks seg ps cs ks z1 z2, Raw own picks seg ps cs ks → (picks ≠ [] → 2 ≤ own.length) → isNameS z1 = true → isNameS z2 = true → z1 ≠ z2 → z1 ∉ own ++ picks ++ seg → z2 ∉ own ++ picks ++ seg → S (.d (.tuple [enc (rawShp ps cs ks), .list [.str z1, .str z2]]))
theorem cl_law_store (D : Def K mg "_law_store" s_law_store) (G : Gm mg) (C_law_draw : Cl P w K mg base CX0 1 "_law_draw" [] (SpF F_law_draw)) (C_law_names : Cl P w K mg base CX0 2 "_law_names" [] (SpF F_law_names)) (C_law_bill : Cl P w K mg base CX0 2 "_law_bill" [] (SpF F_law_bill)) (C_law_number : Cl P w K mg base CX0 3 "_law_number" [] (SpF F_law_number)) (C_law_some : Cl P w K mg base CX0 2 "_law_some" [] (SpF F_law_some)) : Cl P w K mg base CX0 4 "_law_store" [] (SpF F_law_store) := by
  refine D.ok sc_law_store (fun _ _ _ _ _ _ us hl => match us, hl with | [_, _], _ => rfl) (fun ws S ⟨e, _⟩ => by rw [e]; rfl) ?_
  rintro f cdv A outer s H M vs ws T Q E hr ⟨rfl, hS⟩ h k
  have nd := sc_law_store.nd
  refine ⟨_, (pss_cons (ps_par (i := 2) (j := 3) (by rfl) nd rfl rfl (by decide) rfl rfl (pa_cons (pe_op op_add pe_int (pe_cl C_law_draw (hr.mono (by decide)) (by rfl) pass0 (pa_cons (pv 0) (pa_cons pe_int pa_nil)))) (pa_cons (pe_cl C_law_draw (hr.mono (by decide)) (by rfl) pass0 (pa_cons (pv 0) (pa_cons (pe_op op_add (pv 1) pe_int) pa_nil))) pa_nil)) (by rfl))
      (pss_cons (ps_set (i := 4) nd rfl (.inl rfl) (pe_ifExp (pt_cmpR op_gt (pv 2) pe_int (nomark _)) (pe_cl C_law_draw (hr.mono (by decide)) (by rfl) pass0 (pa_cons (pv 0) (pa_cons pe_int pa_nil))) pe_int))
      (pss_cons (ps_set (i := 5) nd rfl (.inl rfl) (pe_cl C_law_names (hr.mono (by decide)) (by rfl) pass0 (pa_cons (pv 0) (pa_cons (pe_op op_add (pe_op op_add (pe_op op_add (pv 2) (pv 4)) (pv 3)) pe_int) pa_nil))))
      (pss_cons (ps_asg (g := gTup K 2 (gCons (gName 6) (gCons (gName 7) gNil))) (pe_tupB (pa_cons (pe_slice (r := rSlL K) sl_list (pv 5) po_none (po_some (pv 2))) (pa_cons (pe_slice (r := rSlL K) sl_list (pv 5) (po_some (pv 2)) (po_some (pe_op op_add (pv 2) (pv 4)))) pa_nil))) (pg_tup rfl (pgs_cons (pg_name (i := 6) nd rfl (.inr rfl)) (pgs_cons (pg_name (i := 7) nd rfl (.inl rfl)) pgs_nil))))
      (pss_cons (ps_par (i := 8) (j := 9) (by rfl) nd rfl rfl (by decide) rfl rfl (pa_cons (pe_lst pa_nil) (pa_cons (pe_lst pa_nil) pa_nil)) (by rfl))
      (pss_cons (ps_for PassesOwn.never rfl (pi_list (pe_slice (r := rSlL K) sl_list (pv 5) (po_some (pe_op op_add (pv 2) (pv 4))) (po_some (pe_un un_neg pe_int)))) (pg_name (i := 10) nd rfl (.inl rfl)) (pss_cons (ps_set (i := 11) nd rfl (.inl rfl) (pe_cmpR (r := rEqD K) (op_eqD hr.units) (pe_cl C_law_draw (hr.mono (by decide)) (by rfl) pass0 (pa_cons (pv 0) (pa_cons pe_int pa_nil))) pe_int (nomark _)))
      (pss_cons (ps_set (i := 12) nd rfl (.inl rfl) (pe_cl C_law_bill (hr.mono (by decide)) (by rfl) pass0 (pa_cons (pv 0) (pa_cons (pe_op op_cat (pe_op op_cat (pv 6) (pv 9)) (pe_ifExp (pt_val (pv 11)) (pe_lst pa_nil) (pv 7))) pa_nil))))
      (pss_cons (ps_expr (pe_bm PySem.F.plainAttrs_list PySem.F.slot_list_append PySem.F.type_list_append mt_append (pv 8) (pa_cons (pe_tupB (pa_cons (pv 10) (pa_cons (pe_cl C_law_number (hr.mono (by decide)) (by rfl) pass0 (pa_cons (pv 0) pa_nil)) (pa_cons (pv 11) (pa_cons (pv 12) pa_nil))))) pa_nil)))
      (pss_one (ps_expr (pe_bm PySem.F.plainAttrs_list PySem.F.slot_list_append PySem.F.type_list_append mt_append (pv 9) (pa_cons (pv 10) pa_nil))))))))
      (pss_cons (ps_set (i := 13) nd rfl (.inl rfl) (pe_callTy (r := rTupB K) call_tupB (by rfl) G.tuple_ (by decide +kernel) (pa_cons (pe_callB (r := rSortD K) (cr_sortedD (r65 hr)) (by rfl) G.sorted_ (by decide +kernel) (pa_cons (pe_lc (own := [("_law_tag", 10)]) rfl nd (pi_list (pv 6)) (blkOk_by (own := [("_law_tag", 10)]) (by kernel_rfl)) (fun _ _ _ _ _ => (pg_name (i := 10) nd rfl (.inl rfl))) (fun _ _ _ _ _ => pts_nil) (fun _ _ _ _ _ => (pe_tupB (pa_cons (pv 10) (pa_cons (pe_cl C_law_number (hr.mono (by decide)) (by rfl) pass0 (pa_cons (pv 0) pa_nil)) pa_nil))))) pa_nil)) pa_nil)))
      (pss_cons (ps_set (i := 14) nd rfl (.inl rfl) (pe_callTy (r := rTupB K) call_tupB (by rfl) G.tuple_ (by decide +kernel) (pa_cons (pe_callB (r := rSortD K) (cr_sortedD (r65 hr)) (by rfl) G.sorted_ (by decide +kernel) (pa_cons (pe_lc (own := [("_law_tag", 10)]) rfl nd (pi_list (pv 7)) (blkOk_by (own := [("_law_tag", 10)]) (by kernel_rfl)) (fun _ _ _ _ _ => (pg_name (i := 10) nd rfl (.inl rfl))) (fun _ _ _ _ _ => pts_nil) (fun _ _ _ _ _ => (pe_tupB (pa_cons (pv 10) (pa_cons (pe_cl C_law_some (hr.mono (by decide)) (by rfl) pass0 (pa_cons (pv 0) (pa_cons (pv 6) (pa_cons pe_int pa_nil)))) pa_nil))))) pa_nil)) pa_nil)))
      (pss_one (ps_ret (pe_tupB (pa_cons (pe_tupB (pa_cons (pv 13) (pa_cons (pv 14) (pa_cons (pe_callTy (r := rTupB K) call_tupB (by rfl) G.tuple_ (by decide +kernel) (pa_cons (pe_callB (r := rSortD K) (cr_sortedD (r65 hr)) (by rfl) G.sorted_ (by decide +kernel) (pa_cons (pv 8) pa_nil)) pa_nil)) pa_nil)))) (pa_cons (pe_slice (r := rSlL K) sl_list (pv 5) (po_some (pe_un un_neg pe_int)) po_none) pa_nil))))))))))))), ?_⟩
  have dr : ∀ {σ : L2.St} {V0 : Hp} {ρ : List (Option W)} {E : XK} {tn : TE} {n : Int}, Env σ V0 ρ → ρ[0]? = some (some .feed) → Ed tn σ V0 (.d (.int n)) → 0 < n → n < 100 → Ev (tCall (SpF F_law_draw) [] E (tCons (tVar 0) (tCons tn tNil))) σ V0 (IntS fun i => 0 ≤ i ∧ i < n) := fun {σ V0 ρ E tn n} he e0 hn h0 h1 => d_call (a_2 (d_var he e0) hn) ⟨n, rfl, h0, by omega, fun k a b => ⟨k, rfl, a, b⟩⟩
  refine q_par (Sa := IntS fun i => 1 ≤ i ∧ i ≤ 5) (Sb := IntS fun i => 0 ≤ i ∧ i < 6) h (ev_op d_i (dr h.env rfl d_i (by decide) (by decide)) fun x y ex ⟨j, ey, hj⟩ => by
    subst ex ey
    exact os_I0 (fun H => .int _) ⟨_, rfl, by omega, by omega⟩) (dr h.env rfl (d_op (S := fun w => w = .d (.int 6)) (d_var h.env (i := 1) rfl) d_i (os_I0 (fun H => .int _) rfl)) (by decide) (by decide)) (fun v u x y H1 e1 sx sy h1 => ?_)
  obtain ⟨gm, rfl, hg1, hg5⟩ := sx
  obtain ⟨pm, rfl, hp0, hp6⟩ := sy
  refine q_asg h1 (S := IntS fun i => 0 ≤ i ∧ i < 4 ∧ (0 < i → 1 < gm)) (d_if (b_test (d_op (d_var h1.env (i := 2) rfl) d_i (os_I0 (fun H => .bl _) rfl))) (fun hb => (dr h1.env rfl d_i (by decide) (by decide)).imp fun w ⟨i, ew, hi⟩ => ⟨i, ew, hi.1, hi.2, fun _ => of_decide_eq_true hb⟩) (fun _ => e_ed d_i ⟨by decide, by decide, fun z => by cases z⟩)) (fun v w H2 e2 sw iw h2 => ?_)
  obtain ⟨km, rfl, hk0, hk4, hkg⟩ := sw
  obtain ⟨gn, rfl⟩ := Int.eq_ofNat_of_zero_le (show 0 ≤ gm by omega)
  obtain ⟨pn, rfl⟩ := Int.eq_ofNat_of_zero_le hp0
  obtain ⟨kn, rfl⟩ := Int.eq_ofNat_of_zero_le hk0
  refine q_asg h2 (S := fun w => ∃ l : List Str, w = .d (.list (l.map PyData.str)) ∧ l.length = gn + kn + pn + 2 ∧ l.Nodup ∧ ∀ z ∈ l, isNameS z = true) (d_call (a_2 (d_var h2.env (i := 0) rfl) (d_op (S := fun w => w = .d (.int ((gn + kn + pn + 2 : Nat) : Int))) (d_op (S := fun w => w = .d (.int ((gn + kn + pn : Nat) : Int))) (d_op (S := fun w => w = .d (.int ((gn + kn : Nat) : Int))) (d_var h2.env (i := 2) rfl) (d_var h2.env (i := 4) rfl) (os_I0 (fun H => .int _) rfl)) (d_var h2.env (i := 3) rfl) (os_I0 (fun H => .int _) rfl)) d_i (os_I0 (fun H => .int _) rfl))) ⟨gn + kn + pn + 2, rfl, by omega, fun l h1 h2 h3 => ⟨l, rfl, h1, h2, h3⟩⟩) (fun v w H3 e3 sw iw h3 => ?_)
  obtain ⟨l, rfl, hll, hln, hlm⟩ := sw
  have hgk : ∀ {σ : L2.St} {V0 : Hp} {ρ : List (Option W)}, Env σ V0 ρ → ρ[2]? = some (some (.d (.int (gn : Nat)))) → ρ[4]? = some (some (.d (.int (kn : Nat)))) → Ed (tOp (rI0 fun i j => .int (i + j)) (tVar 2) (tVar 4)) σ V0 (.d (.int ((gn + kn : Nat) : Int))) := fun {σ V0 ρ} he a b => d_op (d_var he a) (d_var he b) (os_I0 (fun H => .int _) rfl)
  obtain ⟨own, picks, seg, z1, z2, ho, hp, hs, hz, hall⟩ := split4 hll
  have hog : own.length = gn := by rw [← ho, List.length_take]; omega
  have hpk : picks.length = kn := by rw [← hp, List.length_take, List.length_drop]; omega
  have hsp : seg.length = pn := by rw [← hs, List.length_take, List.length_drop]; omega
  have hnd : (own ++ picks ++ seg ++ [z1, z2]).Nodup := by rw [← hall]; exact hln
  have hnm : ∀ z ∈ own ++ picks ++ seg ++ [z1, z2], isNameS z = true := by rw [← hall]; exact hlm
  have hnd3 := (List.nodup_append.mp hnd).1
  have hnm3 : ∀ z ∈ own ++ picks ++ seg, isNameS z = true := fun z hz => hnm z (List.mem_append_left _ hz)
  refine q_asgT (js := [6, 7]) (Su := fun us => us = [.d (.list (own.map PyData.str)), .d (.list (picks.map PyData.str))]) h3 (ev_tup (ea_cons (Sa := fun w => w = .d (.list (own.map PyData.str))) (d_sl (lo := none) (hi := some (gn : Nat)) (d_var h3.env (i := 5) rfl) o_none (o_some (d_var h3.env (i := 2) rfl)) (ss_L (by rw [cutG_to, ← List.map_take, ho]))) fun x ex => ea1 ((d_sl (S := fun w => w = .d (.list (picks.map PyData.str))) (lo := some (gn : Nat)) (hi := some ((gn + kn : Nat) : Int)) (d_var h3.env (i := 5) rfl) (o_some (d_var h3.env (i := 2) rfl)) (o_some (hgk h3.env rfl rfl)) (ss_L (by rw [cutG_mid (by omega) (by rw [List.length_map]; omega), Nat.add_sub_cancel_left, ← List.map_drop, ← List.map_take, hp]))).imp fun w ew => ⟨[.list (own.map PyData.str), .list (picks.map PyData.str)], by rw [ex, ew]; rfl, by simp, _, tg_two, rfl⟩))) (fun xs us H4 e4 su h4 => ?_)
  subst su
  refine q_parF (zs := []) h4 (f_lst (zs := []) a_nil (by decide)) (by decide) (fun l1 l2 H5 ne e5 h5 m1 m2 => ?_)
  have hseg : cutG (l.map PyData.str) (some ((gn + kn : Nat) : Int)) (some (-2)) = seg.map PyData.str := by
    rw [show (-2 : Int) = -((2 : Nat) : Int) from rfl, cutG_midE (by decide) (by rw [List.length_map]; omega), List.length_map, show l.length - 2 - (gn + kn) = pn by omega, ← List.map_drop, ← List.map_take, hs]
  refine q_for (js := [10]) h5 (i_listM (l := seg) (f := PyData.str) (enc := fun z => .d (.str z)) (d_sl (S := fun w => w = .d (.list (seg.map PyData.str))) (lo := some ((gn + kn : Nat) : Int)) (hi := some (-2)) (d_var h5.env (i := 5) rfl) (o_some (hgk h5.env rfl rfl)) (o_some (d_un d_i (us_neg rfl))) (ss_L (by rw [hseg])))) (fun ws H6 ew e6 h6 => ?_)
  subst ew
  let PK : Nat → Str × Int × Bool × List (Str × Int) → Prop := fun i k => 0 ≤ k.2.1 ∧ k.2.1 < 10 ^ 79 ∧ risingB (k.2.2.2.map fun e => e.1) = true ∧ 1 ≤ k.2.2.2.length ∧ k.2.2.2.length ≤ 4 ∧ ∀ e ∈ k.2.2.2, 1 ≤ e.2 ∧ e.2 ≤ 4 ∧ (e.1 ∈ own ∨ e.1 ∈ seg.take i ∨ (k.2.2.1 = false ∧ e.1 ∈ picks))
  refine ⟨fun i σ' H' => At (l2 :: l1 :: M) H σ' H' [some .feed, some (.d (.int 5)), some (.d (.int (gn : Nat))), some (.d (.int (pn : Nat))), some (.d (.int (kn : Nat))), some (.d (.list (l.map PyData.str))), some (.d (.list (own.map PyData.str))), some (.d (.list (picks.map PyData.str))), some (.v (.ref l1)), some (.v (.ref l2)), none, none, none, none, none] ∧ ∃ ks : List (Str × Int × Bool × List (Str × Int)), ML (l2 :: l1 :: M) H H' l1 (ks.map eK) ∧ ML (l2 :: l1 :: M) H H' l2 ((seg.take i).map PyData.str) ∧ ks.map (fun k => k.1) = seg.take i ∧ ∀ (j : Nat) k, ks[j]? = some k → PK j k, ⟨h6, [], m1.mono e6, m2.mono e6, rfl, fun j k hk => by simp at hk⟩, fun i σ' H' H2 ⟨a, q, b, c, d⟩ e => ⟨a.mono e, q, b.mono e, c.mono e, d⟩, fun σ' H' v ⟨a, ks, b, c, d, hk⟩ => ?_, fun i x σ' H' hx v ⟨a, ks, b, c, d, hk⟩ => ⟨_, tg_name, fun xs hxs => ?_⟩⟩
  · rw [List.length_map, List.take_length] at d
    have nl1 : l1 ∉ M := fun m => h.al l1 m b.new
    have a3 := a.unhide.show_ (i := 8) (b.unhide ne) nl1 rfl
    have hkl : ks.length = seg.length := by rw [← d, List.length_map]
    refine q_asg a3 (S := fun w => ∃ ps : List (Str × Int), w = .d (.tuple ((sortN pnm ps).map eP)) ∧ ps.map (fun p => p.1) = own ∧ ∀ p ∈ ps, 0 ≤ p.2 ∧ p.2 < 10 ^ 79) (ev_cb (T := fun xs => ∃ ps : List (Str × Int), xs = [.d (.list ((sortN pnm ps).map eP))] ∧ ps.map (fun p => p.1) = own ∧ ∀ p ∈ ps, 0 ≤ p.2 ∧ p.2 < 10 ^ 79) (ea1 (ev_cb (T := fun xs => ∃ ps : List (Str × Int), xs = [.d (.list (ps.map eP))] ∧ ps.map (fun p => p.1) = own ∧ ∀ p ∈ ps, 0 ≤ p.2 ∧ p.2 < 10 ^ 79) (ea1 ((e_rmap (l := own) (enc := fun z => .d (.str z)) (f := eP) (fun z p => p.1 = z ∧ 0 ≤ p.2 ∧ p.2 < 10 ^ 79) a3.env (i_listM (f := PyData.str) (d_var a3.env (i := 6) rfl)) (js := [10]) (by decide) (by omega) fun z hz => ⟨_, tg_name, fun σ2 H2 e2 h2 => (ev_tup (S := fun w => ∃ n : Int, w = .d (eP (z, n)) ∧ 0 ≤ n ∧ n < 10 ^ 79) (ea_cons (Sa := fun w => w = .d (.str z)) (d_var h2 (i := 10) rfl) fun x ex => ea1 ((d_call (S := IntS fun n => 0 ≤ n ∧ n < 10 ^ 79) (a_1 (d_var h2 (i := 0) (x := .feed) rfl)) ⟨rfl, fun n h1 h2 => ⟨n, rfl, h1, h2⟩⟩).imp fun w ⟨n, ew, hn⟩ => ⟨[.str z, .int n], by rw [ex, ew]; rfl, by simp, n, rfl, hn⟩))).imp fun w ⟨n, ew, hn⟩ => ⟨(z, n), ew, rfl, hn⟩⟩).imp fun w ⟨ps, ew, hl, hR⟩ => ⟨ps, by rw [ew], map_of_get hl fun i x y hx hy => (hR i x y hx hy).1, fun p hp => by
        obtain ⟨i, hi⟩ := List.getElem?_of_mem hp
        have hil : i < own.length := by rw [← hl]; exact idx_lt hi
        exact (hR i own[i] p (List.getElem?_eq_getElem hil) hi).2⟩)) fun xs ⟨ps, ex, hp1, hp2⟩ => by
        subst ex
        have hpn : (ps.map pnm).Nodup := by rw [show ps.map pnm = own from hp1]; exact (List.nodup_append.mp (List.nodup_append.mp hnd3).1).1
        have hpl : ps.length ≤ 10000 := by have := congrArg List.length hp1; rw [List.length_map] at this; omega
        exact cs_sortT (l := ps) (nm := pnm) (rest := fun e => [.int e.2]) (enc := eP) (fun _ _ => rfl) hpn (fun x _ y _ => rfl) hpl (fun x _ => by simp [PyData.depth, PyData.depthAll]) fun b hb hr => ⟨ps, by rw [sortN_eq hb hr], hp1, hp2⟩)) fun xs ⟨ps, ex, hp1, hp2⟩ => by
      subst ex
      exact cs_tupL ⟨ps, rfl, hp1, hp2⟩) (fun v13 w H7 e7 sw iw a4 => ?_)
    obtain ⟨ps, rfl, hp1, hp2⟩ := sw
    refine q_asg a4 (S := fun w => ∃ cs : List (Str × List Str), w = .d (.tuple ((sortN cnm cs).map eC)) ∧ cs.map (fun c => c.1) = picks ∧ ∀ c ∈ cs, risingB c.2 = true ∧ 2 ≤ c.2.length ∧ c.2.length ≤ own.length ∧ ∀ z ∈ c.2, z ∈ own) (ev_cb (T := fun xs => ∃ cs : List (Str × List Str), xs = [.d (.list ((sortN cnm cs).map eC))] ∧ cs.map (fun c => c.1) = picks ∧ ∀ c ∈ cs, risingB c.2 = true ∧ 2 ≤ c.2.length ∧ c.2.length ≤ own.length ∧ ∀ z ∈ c.2, z ∈ own) (ea1 (ev_cb (T := fun xs => ∃ cs : List (Str × List Str), xs = [.d (.list (cs.map eC))] ∧ cs.map (fun c => c.1) = picks ∧ ∀ c ∈ cs, risingB c.2 = true ∧ 2 ≤ c.2.length ∧ c.2.length ≤ own.length ∧ ∀ z ∈ c.2, z ∈ own) (ea1 ((e_rmap (l := picks) (enc := fun z => .d (.str z)) (f := eC) (fun z c => c.1 = z ∧ risingB c.2 = true ∧ 2 ≤ c.2.length ∧ c.2.length ≤ own.length ∧ ∀ z ∈ c.2, z ∈ own) a4.env (i_listM (f := PyData.str) (d_var a4.env (i := 7) rfl)) (js := [10]) (by decide) (by omega) fun z hz => ⟨_, tg_name, fun σ2 H2 e2 h2 => (ev_tup (S := fun w => ∃ o : List Str, w = .d (eC (z, o)) ∧ risingB o = true ∧ 2 ≤ o.length ∧ o.length ≤ own.length ∧ ∀ z ∈ o, z ∈ own) (ea_cons (Sa := fun w => w = .d (.str z)) (d_var h2 (i := 10) rfl) fun x ex => ea1 ((d_call (S := fun w => ∃ o : List Str, w = .d (.tuple (o.map PyData.str)) ∧ risingB o = true ∧ 2 ≤ o.length ∧ o.length ≤ own.length ∧ ∀ z ∈ o, z ∈ own) (a_3 (d_var h2 (i := 0) (x := .feed) rfl) (d_var h2 (i := 6) (x := .d (.list (own.map PyData.str))) rfl) d_i) ⟨own, rfl, (List.nodup_append.mp (List.nodup_append.mp hnd3).1).1, by have := List.length_pos_of_mem hz; omega, by omega, fun o h1 h2 h3 h4 => ⟨o, rfl, h1, h2, h3, h4⟩⟩).imp fun w ⟨o, ew, hn⟩ => ⟨[.str z, .tuple (o.map PyData.str)], by rw [ex, ew]; rfl, by simp, o, rfl, hn⟩))).imp fun w ⟨o, ew, hn⟩ => ⟨(z, o), ew, rfl, hn⟩⟩).imp fun w ⟨cs, ew, hl, hR⟩ => ⟨cs, by rw [ew], map_of_get hl fun i x y hx hy => (hR i x y hx hy).1, fun p hp => by
        obtain ⟨i, hi⟩ := List.getElem?_of_mem hp
        have hil : i < picks.length := by rw [← hl]; exact idx_lt hi
        exact (hR i picks[i] p (List.getElem?_eq_getElem hil) hi).2⟩)) fun xs ⟨cs, ex, hc1, hc2⟩ => by
        subst ex
        have hpn : (cs.map cnm).Nodup := by rw [show cs.map cnm = picks from hc1]; exact (List.nodup_append.mp (List.nodup_append.mp hnd3).1).2.1
        have hpl : cs.length ≤ 10000 := by have := congrArg List.length hc1; rw [List.length_map] at this; omega
        exact cs_sortT (l := cs) (nm := cnm) (rest := fun e => [.tuple (e.2.map PyData.str)]) (enc := eC) (fun _ _ => rfl) hpn (fun x _ y _ => alike_eC x y) hpl (fun x _ => depth_eC x) fun b hb hr => ⟨cs, by rw [sortN_eq hb hr], hc1, hc2⟩)) fun xs ⟨cs, ex, hc1, hc2⟩ => by
      subst ex
      exact cs_tupL ⟨cs, rfl, hc1, hc2⟩) (fun v14 w H8 e8 sw iw a5 => ?_)
    obtain ⟨cs, rfl, hc1, hc2⟩ := sw
    have R : Raw own picks seg ps cs ks := ⟨hnd3, hnm3, by omega, by omega, by omega, by omega, hp1, hc1, d, hp2, hc2, hk⟩
    have hz1 := hnm z1 (List.mem_append_right _ List.mem_cons_self)
    have hz2 := hnm z2 (List.mem_append_right _ (List.mem_cons_of_mem _ List.mem_cons_self))
    have hzz : z1 ≠ z2 := fun z => by
      have := (List.nodup_append.mp hnd).2.1
      rw [z] at this
      simp at this
    have ho1 : z1 ∉ own ++ picks ++ seg := fun m => (List.nodup_append.mp hnd).2.2 _ m z1 List.mem_cons_self rfl
    have ho2 : z2 ∉ own ++ picks ++ seg := fun m => (List.nodup_append.mp hnd).2.2 _ m z2 (List.mem_cons_of_mem _ List.mem_cons_self) rfl
    refine s_ret a5 (S := T) (ev_tup (ea_cons (Sa := fun w => w = .d (enc (rawShp ps cs ks))) (ev_tup (ea_cons (Sa := fun w => w = .d (.tuple ((sortN pnm ps).map eP))) (d_var a5.env (i := 13) rfl) fun x ex => ea_cons (Sa := fun w => w = .d (.tuple ((sortN cnm cs).map eC))) (d_var a5.env (i := 14) rfl) fun y ey => ea1 ((ev_cb (S := fun w => w = .d (.tuple ((sortN knm ks).map eK))) (T := fun xs => xs = [.d (.list ((sortN knm ks).map eK))]) (ea1 (d_cb (a_1 (d_var a5.env (i := 8) rfl)) (cs_sortT (l := ks) (nm := knm) (rest := fun k => [.int k.2.1, .bool k.2.2.1, eB k.2.2.2]) (enc := eK) (fun _ _ => rfl) (by rw [show ks.map knm = seg from d]; exact (List.nodup_append.mp hnd3).2.1) (fun x _ y _ => alike_eK x y) (by omega) (fun x _ => depth_eK x) fun b hb hr => by rw [sortN_eq hb hr]))) fun xs ex => by
        subst ex
        exact cs_tupL rfl).imp fun w ew => ⟨[.tuple ((sortN pnm ps).map eP), .tuple ((sortN cnm cs).map eC), .tuple ((sortN knm ks).map eK)], by rw [ex, ey, ew]; rfl, by simp, rfl⟩))) fun x ex => ea1 ((d_sl (S := fun w => w = .d (.list [.str z1, .str z2])) (lo := some (-2)) (hi := none) (d_var a5.env (i := 5) (x := .d (.list (l.map PyData.str))) rfl) (o_some (d_un d_i (us_neg rfl))) o_none (ss_L (by rw [show (-2 : Int) = -((2 : Nat) : Int) from rfl, cutG_end (by decide) (by rw [List.length_map]; omega), List.length_map, ← List.map_drop, hz]; rfl))).imp fun w ew => ⟨[enc (rawShp ps cs ks), .list [.str z1, .str z2]], by rw [ex, ew]; rfl, by simp, hS own picks seg ps cs ks z1 z2 R (fun hne => by have := List.length_pos_iff.mpr hne; omega) hz1 hz2 hzz ho1 ho2⟩))) (fun v w H' e s i => k v H' w e s i)
  · rw [List.getElem?_map] at hx
    cases hz0 : seg[i]? with
    | none => rw [hz0] at hx; cases hx
    | some z0 =>
      rw [hz0] at hx
      cases hx
      have hi : i < seg.length := idx_lt hz0
      have hti : (seg.take i).length ≤ 5 := by rw [List.length_take]; omega
      have a1 := a.sets [10] hxs
      refine q_asg a1 (S := fun w => ∃ b, w = .d (.bool b)) (ev_op (Sa := IntS fun i => 0 ≤ i ∧ i < 2) (dr a1.env rfl d_i (by decide) (by decide)) d_i fun x y ⟨j, ex, _⟩ ey => by
        subst ex ey
        exact os_eqD rfl rfl ⟨_, rfl⟩) (fun v7 w H7 e7 sw iw a7 => ?_)
      obtain ⟨g, rfl⟩ := sw
      let pk : List Str := if g = true then [] else picks
      have hpkm : ∀ z ∈ pk, g = false ∧ z ∈ picks := fun z hz => by
        cases g with
        | true => exact absurd (show z ∈ ([] : List Str) from hz) List.not_mem_nil
        | false => exact ⟨rfl, hz⟩
      have hpkl : pk.length ≤ 3 := by
        cases g with
        | true => exact Nat.zero_le _
        | false => show picks.length ≤ 3; omega
      have htn : (own ++ seg.take i ++ pk).Nodup := by
        have h1 : (own ++ picks ++ seg.take i).Nodup := hnd3.sublist ((List.Sublist.refl _).append (List.take_sublist _ _))
        have h2 : (own ++ seg.take i ++ picks).Nodup := by
          rw [List.append_assoc] at h1 ⊢
          exact (List.Perm.append_left own (List.perm_append_comm)).nodup_iff.mp h1
        cases g with
        | true => show (own ++ seg.take i ++ []).Nodup; rw [List.append_nil]; exact (List.nodup_append.mp h2).1
        | false => exact h2
      have htm : ∀ z ∈ own ++ seg.take i ++ pk, isNameS z = true := fun z hz => by
        rcases List.mem_append.mp hz with hz | hz
        · rcases List.mem_append.mp hz with hz | hz
          · exact hnm3 z (List.mem_append_left _ (List.mem_append_left _ hz))
          · exact hnm3 z (List.mem_append_right _ (List.mem_of_mem_take hz))
        · exact hnm3 z (List.mem_append_left _ (List.mem_append_right _ (hpkm z hz).2))
      refine q_asgH a7 (S := fun w => ∃ bl : List (Str × Int), w = .d (eB bl) ∧ risingB (bl.map fun e => e.1) = true ∧ 1 ≤ bl.length ∧ bl.length ≤ 4 ∧ ∀ e ∈ bl, e.1 ∈ own ++ seg.take i ++ pk ∧ 1 ≤ e.2 ∧ e.2 ≤ 4) (eh_call a7.al (ah_2 (eh_of a7 (d_var a7.env (i := 0) rfl)) fun H8 e8 => eh_op (x := .d (.list (own.map PyData.str ++ (seg.take i).map PyData.str))) (y := .d (.list (pk.map PyData.str))) (S := fun w => w = .d (.list ((own ++ seg.take i ++ pk).map PyData.str))) (a7.mono e8).al (eh_cat (a7.mono e8) (c.mono (e7.trans e8)) rfl (d_var (a7.mono e8).env (i := 6) rfl) (by rw [List.length_map, List.length_map]; omega)) (fun H9 e9 => eh_of ((a7.mono e8).mono e9) (d_if (b_B (d_var ((a7.mono e8).mono e9).env (i := 11) rfl)) (fun hg => by subst hg; exact d_lst (ds := []) a_nil (by simp)) (fun hg => by subst hg; exact d_var ((a7.mono e8).mono e9).env (i := 7) rfl))) (os_addL (by rw [List.length_append, List.length_map, List.length_map, List.length_map]; omega) (by rw [List.map_append, List.map_append]))) fun ws ⟨y, ew, ey⟩ => ⟨own ++ seg.take i ++ pk, by rw [ew, ey], htn, htm, by rw [List.length_append, List.length_append]; omega, by rw [List.length_append, List.length_append]; omega, fun b b1 b2 b3 b4 => ⟨b, rfl, b1, b2, b3, b4⟩⟩) (fun v8 w H8 e8 sw a8 => ?_)
      obtain ⟨bl, rfl, hb1, hb2, hb3, hb4⟩ := sw
      refine q_app a8 ((b.mono e7).mono e8) rfl (S := fun w => ∃ n : Int, w = .d (eK (z0, n, g, bl)) ∧ 0 ≤ n ∧ n < 10 ^ 79) ((ev_tup (S := fun w => ∃ n : Int, w = .d (eK (z0, n, g, bl)) ∧ 0 ≤ n ∧ n < 10 ^ 79) (ea_cons (Sa := fun w => w = .d (.str z0)) (d_var a8.env (i := 10) rfl) fun x ex => ea_cons (Sa := IntS fun n => 0 ≤ n ∧ n < 10 ^ 79) (d_call (a_1 (d_var a8.env (i := 0) rfl)) ⟨rfl, fun n h1 h2 => ⟨n, rfl, h1, h2⟩⟩) fun y ⟨n, ey, hn⟩ => ea_cons (Sa := fun w => w = .d (.bool g)) (d_var a8.env (i := 11) rfl) fun u eu => ea1 ((d_var a8.env (i := 12) (x := .d (eB bl)) rfl).imp fun w ew => ⟨[.str z0, .int n, .bool g, eB bl], by rw [ex, ey, eu, ew]; rfl, by simp, n, rfl, hn⟩))).imp fun w ⟨n, ew, hn⟩ => ⟨_, ew, n, ew, hn⟩) (by rw [List.length_map]; have := congrArg List.length d; rw [List.length_map] at this; omega) (fun dd H9 ys e9 sd a9 m9 => ?_)
      obtain ⟨n, ed, hn0, hn1⟩ := sd
      cases ed
      have mc := ((c.mono e7).mono e8).mono e9
      have mc9 := mc.upd b.mem (fun z => ne z.symm) (o := .lst ys)
      refine s_app a9 mc9 rfl (S := fun w => w = .d (.str z0)) ((d_var a9.env (i := 10) (x := .d (.str z0)) rfl).imp fun w ew => ⟨_, ew, ew⟩) (by rw [List.length_map]; omega) (fun dd H10 zs e10 sd a10 m10 => ?_)
      cases sd
      have et : seg.take (i + 1) = seg.take i ++ [z0] := snoc_split hz0
      refine ⟨((((v.step e7).step e8).step e9).mut b.mem |>.step e10).mut c.mem, a10.lose [10, 11, 12], ks ++ [(z0, n, g, bl)], ?_, ?_, ?_, fun j k hj => ?_⟩
      · rw [List.map_append]
        exact (m9.mono e10).upd c.mem ne
      · rw [et, List.map_append]
        exact m10
      · rw [et, List.map_append, d]; rfl
      · have dl := congrArg List.length d
        rw [List.length_map, List.length_take] at dl
        by_cases hj2 : j < ks.length
        · rw [List.getElem?_append_left hj2] at hj
          exact hk j k hj
        · rw [List.getElem?_append_right (by omega)] at hj
          have hj0 : j - ks.length = 0 := by
            have := idx_lt hj
            simp at this
            omega
          rw [hj0] at hj
          cases hj
          have hji : j = i := by omega
          subst hji
          refine ⟨hn0, hn1, hb1, hb2, hb3, fun e he => ?_⟩
          obtain ⟨q1, q2, q3⟩ := hb4 e he
          refine ⟨q2, q3, ?_⟩
          rcases List.mem_append.mp q1 with q1 | q1
          · rcases List.mem_append.mp q1 with q1 | q1
            · exact .inl q1
            · exact .inr (.inl q1)
          · exact .inr (.inr (hpkm _ q1))
end
end Kl
set_option Elab.async false
set_option linter.all false
set_option maxRecDepth 100000
set_option maxHeartbeats 8000000
/-! S4: list(d.values()); a dict of texts that is filled. -/
namespace Kl
open PySem PySem.Spec PyProof.Rows L2
/-- d.values(), kept as an object -/
def ViewO (v d : Addr) : HO := .ext fun h => h.IsValuesView v d
def tValsM (td : TE) : TE := fun σ H Q => td σ H fun x H1 => ∃ (d : Addr) (kvs : List (Key × V)), x = .ref d ∧ Rd H1 d (.dK kvs) ∧ ∀ v, H1 v = none → Q (.ref v) (upd H1 v (ViewO v d))
def rListV : List V → Hp → VK → Prop := fun xs H Q => ∃ (v d : Addr) (kvs : List (Key × V)), xs = [.ref v] ∧ H v = some (ViewO v d) ∧ Rd H d (.dK kvs) ∧ ∀ p, H p = none → Q (.ref p) (upd H p (.lst (kvs.map fun kv => kv.2)))
theorem kv_vals : ∀ {kvs : List (Key × V)} {vs : List (Key × Value)}, KV kvs vs → Vals (kvs.map fun kv => kv.2) (vs.map fun kv => kv.2)
  | _, _, .nil => .nil
  | _, _, .cons r t => .cons r.2 (kv_vals t)
section
variable {X : Cx}
theorem pe_valsM {e : Expr} {td : TE} {apos cpos : Pos} (he : PE X e td) (hbase : attributeBase e "values" X.env (eval e X.env) = eval e X.env := by rfl) (hline : (apos.endLine == cpos.line) = true := by rfl) : PE X (.Call (.Attribute e "values" apos) [] [] cpos) (tValsM td) := by
  refine ⟨fun pins s σ H R I h => ?_⟩
  refine wpAny_Call_method (T := "dict") (id := "dict.values") hbase rfl hline F.plainAttrs_dict F.slot_dict_values F.type_dict_values (thn (he.run pins s σ H _ I h) fun u s1 ⟨x, H1, I1, rx, d, kvs, ex, hd, q⟩ => ?_)
  subst ex
  obtain rfl : u = Value.ref d := rx
  obtain ⟨z, lo, vs, rel, dd⟩ := dk_rd I1.hok hd
  refine ⟨dd.typeIs, dd.mapOf.noDict, ?_⟩
  have hg : (s1.heap.push { cls := .type "dict_values", data := .fields #[.ref d] }).get? s1.heap.objs.size = some { cls := .type "dict_values", data := .fields #[.ref d] } := Heap.get?_push_size _ rfl
  have fin : EP X pins σ R (.ref s1.heap.objs.size) { s1 with heap := s1.heap.push { cls := .type "dict_values", data := .fields #[.ref d] } } :=
    ⟨.ref s1.heap.objs.size, _, I1.laid (o := ViewO s1.heap.objs.size d) (t' := s1.toks) (fun b ob q => Heap.get?_push_of_some _ q) (Nat.le_refl _)
      ⟨⟨_, hg, rfl, rfl⟩, ⟨_, hg⟩, fun h1 h2 ⟨o, e1, e2⟩ st => ⟨o, st _ e1, e2⟩⟩, rfl, q _ (I1.hok.fresh (Nat.le_refl _))⟩
  show wpAny _ _ (callWith cpos (.builtin "dict.values") [.ref d] [] []) _ X.xe s1
  exact method_meetsIn F.slot_dict_values F.entry_dict_values rfl (PySem.evalArgs_none ⟨rfl, dd.typeIs, F.args_dict_values_1 _, _, meets_dict_values (mixKind X.prog X.w) d lo, ⟨vs, dd⟩, fin⟩)
theorem call_listV (hc : X.calm = true) : CallR X (.type "list") rListV := by
  intro pins s σ H xs us Q I r h
  obtain ⟨v, d, kvs, rfl, hv, hd, q⟩ := h
  obtain ⟨u, rfl, rx⟩ := vals1 r
  cases rx
  obtain ⟨z, lo, vs, rel, dd⟩ := dk_rd I.hok hd
  obtain ⟨ep, hat⟩ := dd.dictAt
  have vw : s.heap.IsValuesView v d := (I.hok v _ hv).1
  refine PySem.W.kdl_call (PySem.W.kdl_values (knd := mixKind X.prog X.w) (kvs := vs) (ep := ep)) (I.ok.hd hc) ⟨vw, hat⟩ (by rw [← rel.length]; exact z) fun h' tk acc c' hk hD hacc => ?_
  have ev : acc.toList = vs.map fun kv => kv.2 := PySem.W.kdl_vals_eq acc.toList (by rw [Array.length_toList]; exact hacc.1) fun j x e => hacc.2 j x (by rw [← Array.getElem?_toList]; exact e)
  have ex : Vals (kvs.map fun kv => kv.2) acc.toList := by rw [ev]; exact kv_vals rel
  exact ⟨.ref s.heap.objs.size, _, I.laid (o := .lst (kvs.map fun kv => kv.2)) (t' := tk) hk (Nat.le_refl _) ⟨by rw [List.length_map]; exact z, acc.toList, c', ex, by rw [Array.toArray_toList]; exact hD⟩, rfl, q _ (I.hok.fresh (Nat.le_refl _))⟩
end
section
variable {K : Frg} {σ : L2.St} {H H' : Hp} {ρ : List (Option W)} {N : List Addr} {B : Hp} {ta td tk tv te : TE} {tz : TS} {D : Ends} {S : W → Prop} {kvs : List (Str × PyData)} {kv : List (Str × Str)} {l : Addr}
/-- list(d.values()) -/
theorem d_listV (hd : Ed td σ H (.m kvs)) : Ed (tCB rListV (tCons (tValsM td) tNil)) σ H (.d (.list (kvs.map fun p => p.2))) := fun N H1 vw Q q =>
  hd N H1 vw _ fun x H2 w e2 s i => by
    subst s
    obtain ⟨a, es, rfl, h1, n1, h3, h4, h5⟩ := hid_m i
    refine ⟨a, es, rfl, .inl h1, fun v hv => ?_⟩
    have ne : a ≠ v := fun z => by rw [z, hv] at h1; cases h1
    have nv : v ∉ N := (vw.step e2).new hv
    refine ⟨v, a, es, rfl, upd_same, .inl (by rw [upd_ne ne]; exact h1), fun p hp => ?_⟩
    have np : p ∉ N := ((vw.step e2).step (Ex.new hv)).new hp
    exact q _ _ _ ((e2.trans (Ex.new hv)).trans (Ex.new hp)) rfl (.lst (hid_of upd_same np) (dps_mono (hid_mono ((Ex.new (o := ViewO v a) hv).trans (Ex.new hp)).w) _ _ h4))
theorem strK_nofeed {kv : List (Str × Str)} : ∀ c s l d, HO.dK (kv.map strK) ≠ feedO c s l d := fun c s l d z => by
  unfold feedO at z
  injection z with z
  have h := congrArg (fun l : List (Key × V) => (l[1]?).map fun q => q.2) z
  have h : ((kv.map strK)[1]?).map (fun q => q.2) = some (V.int s) := h
  rw [List.getElem?_map] at h
  cases q : kv[1]? with
  | none => rw [q] at h; cases h
  | some p =>
    rw [q] at h
    have h : some (V.str p.2) = some (V.int s) := h
    cases h
/-- a dict of texts to texts that stands nowhere in V0 -/
def WFd (V0 : Hp) (kv : List (Str × Str)) : W := .x (fun H v => ∃ l, v = .ref l ∧ V0 l = none ∧ H l = some (.dK (kv.map strK))) fun H H' v e ⟨l, h1, h2, h3⟩ => ⟨l, h1, h2, e.keep h3 strK_nofeed (fun _ z => by cases z)⟩
/-- .. in hand -/
structure MD (N : List Addr) (B H : Hp) (l : Addr) (kv : List (Str × Str)) : Prop where
  mem : l ∈ N
  new : B l = none
  is : H l = some (.dK (kv.map strK))
theorem MD.mono (m : MD N B H l kv) (e : Ex H H') : MD N B H' l kv := ⟨m.mem, m.new, e.keep m.is strK_nofeed⟩
/-- dict(pairs) -/
theorem f_dictL (ha : Ed ta σ H (.d (.list (kv.map eS)))) (hn : (kv.map fun p => p.1).Nodup) : Ed (tCB (rDictL K) (tCons ta tNil)) σ H (WFd H kv) := fun N H1 vw Q q =>
  ha N H1 vw _ fun x H2 w e2 s i => by
    subst s
    obtain ⟨a, us, rfl, h1, n1, d1⟩ := hid_lst i
    obtain ⟨ps, rfl, r⟩ := pairs_dq d1
    refine ⟨a, ps, kv.map strK, rfl, .inl (.inl h1), paired_imp (S := fun (p : Addr) (kv : Key × V) => SqT K H2 p [kV kv.1, kv.2]) (f := strK) (fun p q h => (hid_ta h).1.t) r, fun p hp => ?_⟩
    obtain ⟨m1, m2, m3⟩ := strk_m (H := hid N H2) (l := kv)
    rw [mergeK_nil (nodup_keys m1 (by rw [List.map_map]; exact hn))]
    exact q _ _ _ (e2.trans (Ex.new hp)) rfl ⟨p, rfl, fresh_at vw (e2.back hp), hid_of upd_same ((vw.step e2).new hp)⟩
/-- y = a new dict, taken in hand -/
theorem q_newD {i : Nat} (h : At N B σ H ρ) (he : Ed te σ (hid N H) (WFd (hid N H) kv)) (k : ∀ l H', l ∉ N → Ex H H' → At (l :: N) B (σ.set i (some (.ref l))) H' (ρ.set i (some (.v (.ref l)))) → MD (l :: N) B H' l kv → tz D (σ.set i (some (.ref l))) H') : tSeq (tAsg te (gName i)) tz D σ H := by
  refine he N H h.vw _ fun v H1 w e s iv => ?_
  subst s
  obtain ⟨l, rfl, h1, h2⟩ := iv
  obtain ⟨h3, h4⟩ := hid_get h2
  have hl0 : H l = none := by
    cases eH : H l with
    | none => rfl
    | some o => rw [hid_of eH h4] at h1; cases h1
  have hx : Exw (hid N H) (hid (l :: N) H1) := fun a o ha => by
    have na : a ≠ l := fun z => by rw [z, h1] at ha; cases ha
    have nm : a ∉ l :: N := fun m => (List.mem_cons.mp m).elim na (hid_get ha).2
    rcases e.w a o (hid_get ha).1 with q | ⟨c, s, x, d, s', x', d', z, q⟩ | ⟨ps, ps', z, q⟩
    · exact .inl (hid_of q nm)
    · exact .inr (.inl ⟨c, s, x, d, s', x', d', z, hid_of q nm⟩)
    · exact .inr (.inr ⟨ps, ps', z, hid_of q nm⟩)
  refine k l H1 h4 e ⟨fun a m => ?_, h.ex.trans e, (h.env.mono hx).set i (w := .v (.ref l)) rfl⟩ ⟨List.mem_cons_self, h.ex.back hl0, h3⟩
  rcases List.mem_cons.mp m with z | m
  · rw [z, h3]; nofun
  · exact e.some (h.al a m)
def putS (kv : List (Str × Str)) (k v : Str) : List (Str × Str) := if (kv.any fun p => decide (p.1 = k)) = true then kv.map (fun p => if p.1 = k then (p.1, v) else p) else kv ++ [(k, v)]
theorem putK_strK (kv : List (Str × Str)) (k v : Str) : putK (kv.map strK) (.inr k) (.str v) = (putS kv k v).map strK := by
  have e1 : ((kv.map strK).any fun q => decide (q.1 = (.inr k : Key))) = kv.any fun p => decide (p.1 = k) := by
    rw [List.any_map]
    refine congrArg (fun f => kv.any f) (funext fun p => ?_)
    exact decide_eq_decide.mpr ⟨fun z => inr_inj z, fun z => congrArg Sum.inr z⟩
  unfold putK putS
  rw [e1]
  by_cases h : (kv.any fun p => decide (p.1 = k)) = true
  · rw [if_pos h, if_pos h, List.map_map, List.map_map]
    refine List.map_congr_left fun p _ => ?_
    by_cases z : p.1 = k
    · have z2 : (strK p).1 = (.inr k : Key) := congrArg Sum.inr z
      show (if (strK p).1 = (.inr k : Key) then ((strK p).1, V.str v) else strK p) = strK (if p.1 = k then (p.1, v) else p)
      rw [if_pos z2, if_pos z]; rfl
    · have z2 : (strK p).1 ≠ (.inr k : Key) := fun q => z (inr_inj q)
      show (if (strK p).1 = (.inr k : Key) then ((strK p).1, V.str v) else strK p) = strK (if p.1 = k then (p.1, v) else p)
      rw [if_neg z2, if_neg z]
  · rw [if_neg h, if_neg h, List.map_append]; rfl
/-- d[k] = v -/
theorem s_dputM {i : Nat} {k v : Str} (h : At N B σ H ρ) (m : MD N B H l kv) (hi : ρ[i]? = some (some (.v (.ref l)))) (hk : Ed tk σ (hid N H) (.d (.str k))) (hv : Ed tv σ (hid N H) (.d (.str v))) (hl : kv.length < 10000)
    (q : ∀ H', Ex H H' → At N B σ (upd H' l (.dK ((putS kv k v).map strK))) ρ → MD N B (upd H' l (.dK ((putS kv k v).map strK))) l (putS kv k v) → D.nx σ (upd H' l (.dK ((putS kv k v).map strK)))) : sDPut (tVar i) tk tv D σ H := by
  refine at_ev h hv fun x H1 w e1 s1 i1 h1 => ?_
  subst s1
  cases i1
  obtain ⟨u, hu, iu⟩ := h1.env.at_ i _ hi
  cases (show u = .ref l from iu)
  refine ⟨_, hu, ?_⟩
  refine at_ev h1 (hk.mono (hid_mono e1.w)) fun y H2 w e2 s2 i2 h2 => ?_
  subst s2
  cases i2
  have m2 := m.mono (e1.trans e2)
  refine ⟨l, _, rfl, DPut.k (k := .inr k) m2.is (Nat.lt_of_lt_of_le (by rw [List.length_map]; exact hl) (by decide)), ?_⟩
  rw [putK_strK]
  exact q H2 (e1.trans e2) (h2.upd m2.mem m2.new (plain_dK m2.is)) ⟨m2.mem, m2.new, upd_same⟩
/-- filled: it is seen from now on -/
theorem At.showD {i : Nat} (h : At (l :: N) B σ H ρ) (m : MD (l :: N) B H l kv) (n : l ∉ N) (hi : ρ[i]? = some (some (.v (.ref l)))) : At N B σ H (ρ.set i (some (.m (mT kv)))) := by
  obtain ⟨v0, e0, i0⟩ := h.env.at_ i _ hi
  cases (show v0 = .ref l from i0)
  obtain ⟨m1, m2, m3⟩ := strk_m (H := hid N H) (l := kv)
  have e := (h.env.mono (hid_cons l N H)).set i (v := .ref l) (w := .m (mT kv)) ⟨l, kv.map strK, rfl, hid_of m.is n, m1, m2, m3⟩
  rw [set_self e0] at e
  exact ⟨fun a q => h.al a (List.mem_cons_of_mem _ q), h.ex, e⟩
end
end Kl
set_option Elab.async false
set_option linter.all false
set_option maxRecDepth 100000
set_option maxHeartbeats 8000000
/-! L18: _law_renamed. -/
namespace Kl
open PySem PySem.Spec PyProof.Rows L2
theorem putS_tags {tags : List Str} {f : Str → Str} {k v : Str} (hk : k ∈ tags) : putS (tags.map fun z => (z, f z)) k v = tags.map fun z => (z, if z = k then v else f z) := by
  unfold putS
  rw [if_pos (List.any_eq_true.mpr ⟨(k, f k), List.mem_map.mpr ⟨k, hk, rfl⟩, decide_eq_true rfl⟩), List.map_map]
  refine List.map_congr_left fun z _ => ?_
  show (if z = k then (z, v) else (z, f z)) = _
  by_cases e : z = k
  · rw [if_pos e, if_pos e]
  · rw [if_neg e, if_neg e]
theorem renT_nil (z : Str) : renT [] z = z := rfl
theorem renT_snoc {m : List (Str × Str)} {p : Str × Str} (h : p.1 ∉ m.map fun p => p.1) (z : Str) : renT (m ++ [p]) z = if z = p.1 then p.2 else renT m z := by
  unfold renT
  rw [List.find?_append]
  by_cases e : z = p.1
  · subst e
    have hn : (m.find? fun q => decide (q.1 = p.1)) = none := List.find?_eq_none.mpr fun q hq z => h (List.mem_map.mpr ⟨q, hq, of_decide_eq_true z⟩)
    rw [hn, if_pos rfl]
    simp
  · rw [if_neg e]
    have e2 : ¬ p.1 = z := fun q => e q.symm
    cases q : m.find? fun q => decide (q.1 = z) with
    | none => simp [e2]
    | some r => simp
/-- what the law's own renaming tells -/
def renQ (t : Shp) (d : PyData) (S : W → Prop) : Prop := (tblB t d = false → S (.d .none)) ∧ ∀ l, IsTbl t d l → ((t.nm.map (renT l)).Nodup → S (.d (enc (t.ren (renT l))))) ∧ (¬ (t.nm.map (renT l)).Nodup → S (.d .none))
section
variable {P : Program} {w : World} {K : Frg} {mg : Str → Option Value} {base : Heap} {C : Addr}
abbrev s_law_renamed : Stmt := topS 62
abbrev n_law_renamed : List Str := ["_law_store_here", "_law_what", "_law_late", "_law_old", "_law_new", "_law_stocks", "_law_eithers", "_law_rows", "_law_tag", "_law_ready", "_law_gives", "_law_bill_here", "_law_row", "_law_one", "_law_count"]
theorem sc_law_renamed : FnScope n_law_renamed ["_law_store_here", "_law_what"] (defScope s_law_renamed) := ⟨rfl, rfl, rfl, by decide +kernel, rfl, by decide +kernel, by decide +kernel⟩
def F_law_renamed : List W → (W → Prop) → Prop := fun ws S => ∃ t d, ws = [.d (enc t), .d d] ∧ Fit t ∧ Nice d ∧ (∀ ds, d = .tuple ds → ds.length ≤ 100) ∧ renQ t d S
theorem cl_law_renamed (D : Def K mg "_law_renamed" s_law_renamed) (G : Gm mg) (C_law_is_table : Cl P w K mg base CX0 2 "_law_is_table" [] (SpF F_law_is_table)) (C_law_all_tags : Cl P w K mg base CX0 1 "_law_all_tags" [] (SpF F_law_all_tags)) : Cl P w K mg base CX0 3 "_law_renamed" [] (SpF F_law_renamed) := by
  refine D.ok sc_law_renamed (fun _ _ _ _ _ _ us hl => match us, hl with | [_, _], _ => rfl) (fun ws S ⟨_, _, e, _⟩ => by rw [e]; rfl) ?_
  rintro f cdv A outer s H M vs ws T Q E hr ⟨t, d, rfl, hf, hnice, hdl, hS⟩ h k
  have nd := sc_law_renamed.nd
  refine ⟨_, (pss_cons (ps_if (pt_not (pt_val (pe_cl C_law_is_table (hr.mono (by decide)) (by rfl) pass0 (pa_cons (pv 0) (pa_cons (pv 1) pa_nil))))) (pss_one (ps_ret pe_non)) pss_nil)
      (pss_cons (ps_set (i := 2) nd rfl (.inr rfl) (pe_callTy (r := rDictL K) (call_dictP rfl) (by rfl) G.dict_ (by decide +kernel) (pa_cons (pe_lc (own := [("_law_tag", 8)]) rfl nd (pi_list (pe_cl C_law_all_tags (hr.mono (by decide)) (by rfl) pass0 (pa_cons (pv 0) pa_nil))) (blkOk_by (own := [("_law_tag", 8)]) (by kernel_rfl)) (fun _ _ _ _ _ => (pg_name (i := 8) nd rfl (.inl rfl))) (fun _ _ _ _ _ => pts_nil) (fun _ _ _ _ _ => (pe_tupB (pa_cons (pv 8) (pa_cons (pv 8) pa_nil))))) pa_nil)))
      (pss_cons (ps_for PassesOwn.never rfl (pi_tup (pv 1)) (pg_tup rfl (pgs_cons (pg_name (i := 3) nd rfl (.inl rfl)) (pgs_cons (pg_name (i := 4) nd rfl (.inl rfl)) pgs_nil))) (pss_one (ps_dput (hu_of hr) (pv 2) (pv 3) (pv 4) rfl)))
      (pss_cons (ps_if (pt_cmpR (r := rNeD K) (op_neD hr.units) (pe_callB (r := rLenK P w) call_lenK (by rfl) G.len_ PySem.boot_len (pa_cons (pe_callTy (r := rSetL K P w) (call_setL rfl) (by rfl) G.set_ (by decide +kernel) (pa_cons (pe_callTy (r := rListV) (call_listV rfl) (by rfl) G.list_ (by decide +kernel) (pa_cons (pe_valsM (pv 2)) pa_nil)) pa_nil)) pa_nil)) (pe_callB (r := rLenD) call_lenD (by rfl) G.len_ PySem.boot_len (pa_cons (pv 2) pa_nil)) (nomark _)) (pss_one (ps_ret pe_non)) pss_nil)
      (pss_cons (ps_set (i := 5) nd rfl (.inl rfl) (pe_callB (r := rSortD K) (cr_sortedD (r65 hr)) (by rfl) G.sorted_ (by decide +kernel) (pa_cons (pe_lc (own := [("_law_row", 12)]) rfl nd (pi_tup (pe_ix (r := rIxT K) ix_tup (pv 0) pe_int (fun _ _ => rfl))) (blkOk_by (own := [("_law_row", 12)]) (by kernel_rfl)) (fun _ _ _ _ _ => (pg_name (i := 12) nd rfl (.inl rfl))) (fun _ _ _ _ _ => pts_nil) (fun _ _ _ _ _ => (pe_tupB (pa_cons (pe_dget (hu_of hr) (pv 2) (pe_ix (r := rIxT K) ix_tup (pv 12) pe_int (fun _ _ => rfl)) (fun _ _ => rfl)) (pa_cons (pe_ix (r := rIxT K) ix_tup (pv 12) pe_int (fun _ _ => rfl)) pa_nil))))) pa_nil)))
      (pss_cons (ps_set (i := 6) nd rfl (.inl rfl) (pe_callB (r := rSortD K) (cr_sortedD (r65 hr)) (by rfl) G.sorted_ (by decide +kernel) (pa_cons (pe_lc (own := [("_law_row", 12)]) rfl nd (pi_tup (pe_ix (r := rIxT K) ix_tup (pv 0) pe_int (fun _ _ => rfl))) (blkOk_by (own := [("_law_row", 12)]) (by kernel_rfl)) (fun _ _ _ _ _ => (pg_name (i := 12) nd rfl (.inl rfl))) (fun _ _ _ _ _ => pts_nil) (fun _ _ _ _ _ => (pe_tupB (pa_cons (pe_dget (hu_of hr) (pv 2) (pe_ix (r := rIxT K) ix_tup (pv 12) pe_int (fun _ _ => rfl)) (fun _ _ => rfl)) (pa_cons (pe_callTy (r := rTupB K) call_tupB (by rfl) G.tuple_ (by decide +kernel) (pa_cons (pe_callB (r := rSortedS K) cr_sortedS (by rfl) G.sorted_ (by decide +kernel) (pa_cons (pe_lc (own := [("_law_tag", 8)]) rfl nd (pi_tupK (K' := K) rfl (pe_ix (r := rIxT K) ix_tup (pv 12) pe_int (fun _ _ => rfl))) (blkOk_by (own := [("_law_tag", 8)]) (by kernel_rfl)) (fun _ _ _ _ _ => (pg_name (i := 8) nd rfl (.inl rfl))) (fun _ _ _ _ _ => pts_nil) (fun _ _ _ _ _ => (pe_dget (hu_of hr) (pv 2) (pv 8) (fun _ _ => rfl)))) pa_nil)) pa_nil)) pa_nil))))) pa_nil)))
      (pss_cons (ps_set (i := 7) nd rfl (.inl rfl) (pe_lst pa_nil))
      (pss_cons (ps_for PassesOwn.never rfl (pi_tup (pe_ix (r := rIxT K) ix_tup (pv 0) pe_int (fun _ _ => rfl))) (pg_tup rfl (pgs_cons (pg_name (i := 8) nd rfl (.inl rfl)) (pgs_cons (pg_name (i := 9) nd rfl (.inl rfl)) (pgs_cons (pg_name (i := 10) nd rfl (.inl rfl)) (pgs_cons (pg_name (i := 11) nd rfl (.inl rfl)) pgs_nil))))) (pss_one (ps_expr (pe_bm PySem.F.plainAttrs_list PySem.F.slot_list_append PySem.F.type_list_append mt_append (pv 7) (pa_cons (pe_tupB (pa_cons (pe_dget (hu_of hr) (pv 2) (pv 8) (fun _ _ => rfl)) (pa_cons (pv 9) (pa_cons (pv 10) (pa_cons (pe_callTy (r := rTupB K) call_tupB (by rfl) G.tuple_ (by decide +kernel) (pa_cons (pe_callB (r := rSortD K) (cr_sortedD (r65 hr)) (by rfl) G.sorted_ (by decide +kernel) (pa_cons (pe_lc (own := [("_law_one", 13), ("_law_count", 14)]) (g := gTup K 2 (gCons (gName 13) (gCons (gName 14) gNil))) rfl nd (pi_tup (pv 11)) (blkOk_by (own := [("_law_one", 13), ("_law_count", 14)]) (by kernel_rfl)) (fun _ _ _ _ _ => (pg_tup rfl (pgs_cons (pg_name (i := 13) nd rfl (.inl rfl)) (pgs_cons (pg_name (i := 14) nd rfl (.inl rfl)) pgs_nil)))) (fun _ _ _ _ _ => pts_nil) (fun _ _ _ _ _ => (pe_tupB (pa_cons (pe_dget (hu_of hr) (pv 2) (pv 13) (fun _ _ => rfl)) (pa_cons (pv 14) pa_nil))))) pa_nil)) pa_nil)) pa_nil))))) pa_nil)))))
      (pss_one (ps_ret (pe_tupB (pa_cons (pe_callTy (r := rTupB K) call_tupB (by rfl) G.tuple_ (by decide +kernel) (pa_cons (pv 5) pa_nil)) (pa_cons (pe_callTy (r := rTupB K) call_tupB (by rfl) G.tuple_ (by decide +kernel) (pa_cons (pv 6) pa_nil)) (pa_cons (pe_callTy (r := rTupB K) call_tupB (by rfl) G.tuple_ (by decide +kernel) (pa_cons (pe_callB (r := rSortD K) (cr_sortedD (r65 hr)) (by rfl) G.sorted_ (by decide +kernel) (pa_cons (pv 7) pa_nil)) pa_nil)) pa_nil)))))))))))))), ?_⟩
  refine q_when h (b_not (b_B (d_call (S := fun w => w = .d (.bool (tblB t d))) (a_2 (d_var h.env (i := 0) rfl) (d_var h.env (i := 1) rfl)) ⟨t, d, rfl, hf, hnice, hdl, rfl⟩))) (fun e H1 e1 h1 => ?_) (fun e H1 e1 h1 => ?_)
  · refine s_ret h1 (S := T) (d_to d_n (hS.1 ?_)) (fun v w H' e s i => k v H' w e s i)
    cases q : tblB t d with
    | false => rfl
    | true => rw [q] at e; cases e
  have htb : tblB t d = true := by
    cases q : tblB t d with
    | true => rfl
    | false => rw [q] at e; cases e
  obtain ⟨l, hl⟩ := tblB_of htb
  have hld := hl.e
  subst hld
  obtain ⟨s1, s2⟩ := hS.2 l hl
  have hln : (l.map fun p => p.1).Nodup := (pw_of_rising hl.rise).imp fun h => ltS_ne h
  have hll : l.length ≤ 100 := by have := hdl _ rfl; rwa [List.length_map] at this
  have htn : t.tags.Nodup := (sortN_perm t.nm).nodup_iff.mpr hf.nd
  have htl : t.tags.length ≤ 60 := by rw [sortN_len]; exact hf.ln
  refine q_newD (kv := t.tags.map fun z => (z, renT (l.take 0) z)) h1 (f_dictL (d_is (d_map (l := t.tags) (enc := fun z => .d (.str z)) (f := fun z => eS (z, renT (l.take 0) z)) h1.env (i_listM (f := PyData.str) (d_call (a_1 (d_var h1.env (i := 0) rfl)) ⟨t, rfl, hf, rfl⟩)) (js := [8]) (by decide) (by omega) fun z hz => ⟨_, tg_name, fun σ' H' e' h' => d_tup (ds := [.str z, .str z]) (a_2 (d_var h' (i := 8) rfl) (d_var h' (i := 8) rfl)) (by simp)⟩) (by rw [List.map_map]; rfl)) (by rw [List.map_map]; exact (List.map_id _).symm ▸ htn)) (fun dl H2 hdl2 e2 h2 m2 => ?_)
  refine q_for (js := [3, 4]) h2 (i_tupM (l := l) (f := eS) (enc := fun p => .d (eS p)) (d_var h2.env (i := 1) rfl)) (fun ws H3 ew e3 h3 => ?_)
  subst ew
  refine ⟨fun i σ' H' => At (dl :: M) H σ' H' [some (.d (enc t)), some (.d (.tuple (l.map eS))), some (.v (.ref dl)), none, none, none, none, none, none, none, none, none, none, none, none] ∧ MD (dl :: M) H H' dl (t.tags.map fun z => (z, renT (l.take i) z)), ⟨h3, m2.mono e3⟩, fun i σ' H' H2 ⟨a, b⟩ e => ⟨a.mono e, b.mono e⟩, fun σ' H' v ⟨a, b⟩ => ?_, fun i x σ' H' hx v ⟨a, b⟩ => ?_⟩
  rotate_left
  · rw [List.getElem?_map] at hx
    cases hp : l[i]? with
    | none => rw [hp] at hx; cases hx
    | some p =>
      rw [hp] at hx
      cases hx
      refine ⟨_, tg_two, fun xs hxs => ?_⟩
      have a1 := a.sets [3, 4] hxs
      have hpm : p ∈ l := List.mem_of_getElem? hp
      have hpt : p.1 ∈ t.tags := sortN_mem.mpr (hl.own p hpm)
      refine s_dputM (k := p.1) (v := p.2) a1 b rfl (d_var a1.env (i := 3) rfl) (d_var a1.env (i := 4) rfl) (by rw [List.length_map]; omega) (fun H4 e4 a4 b4 => ⟨((v.step e4).mut b.mem), a4.lose [3, 4], ?_⟩)
      have ep : putS (t.tags.map fun z => (z, renT (l.take i) z)) p.1 p.2 = t.tags.map fun z => (z, renT (l.take (i + 1)) z) := by
        rw [putS_tags hpt, snoc_split hp]
        refine List.map_congr_left fun z _ => ?_
        rw [renT_snoc]
        intro hm
        have h1 := hln
        rw [← List.take_append_drop (i + 1) l, snoc_split hp, List.map_append, List.map_append] at h1
        exact (List.nodup_append.mp (List.nodup_append.mp h1).1).2.2 _ hm p.1 List.mem_cons_self rfl
      rw [ep] at b4 ⊢
      exact b4
  rw [List.length_map, List.take_length] at b
  have a1 := a.showD (i := 2) b hdl2 rfl
  generalize hF : renT l = F at s1 s2 a1
  have hlk : ∀ z, z ∈ t.nm → lk (mT (t.tags.map fun z => (z, F z))) z = some (.str (F z)) := fun z hz => by
    refine lk_mem ?_ ?_
    · rw [List.map_map, List.map_map]
      exact (List.map_id _).symm ▸ htn
    · exact List.mem_map.mpr ⟨(z, F z), List.mem_map.mpr ⟨z, sortN_mem.mpr hz, rfl⟩, rfl⟩
  have hiff : (t.tags.map F).Nodup ↔ (t.nm.map F).Nodup := ((sortN_perm t.nm).map F).nodup_iff
  have hvals : ((mT (t.tags.map fun z => (z, F z))).map fun p => p.2) = (t.tags.map F).map PyData.str := by
    rw [List.map_map, List.map_map, List.map_map]; rfl
  refine q_when a1 (C := fun x => x = !decide (t.nm.map F).Nodup) (b_is (b_test (d_op (d_cb (a_1 (d_cb (a_1 (d_is (d_listV (d_var a1.env (i := 2) rfl)) (congrArg (fun x => W.d (.list x)) hvals))) (cs_setL (P := P) (w := w) (by rw [List.length_map]; omega) rfl))) (cs_lenK rfl)) (d_cb (a_1 (d_var a1.env (i := 2) rfl)) (cs_lenD rfl)) (os_neD rfl rfl rfl))) ?_) (fun e H4 e4 h4 => ?_) (fun e H4 e4 h4 => ?_)
  · rw [eqv_int]
    refine congrArg (fun b => !b) (decide_eq_decide.mpr ?_)
    rw [List.length_map, ← hiff, show (List.map (fun z => (z, F z)) t.tags).length = (t.tags.map F).length by rw [List.length_map, List.length_map]]
    exact ⟨fun e => (once_eq _).mp (Int.ofNat.inj e), fun e => congrArg _ ((once_eq _).mpr e)⟩
  · refine s_ret h4 (S := T) (d_to d_n (s2 fun z => ?_)) (fun v w H' e s i => k v H' w e s i)
    rw [decide_eq_true z] at e; cases e
  have hnd : (t.nm.map F).Nodup := by
    cases q : decide (t.nm.map F).Nodup with
    | true => exact of_decide_eq_true q
    | false => rw [q] at e; cases e
  have np : t.pn.Nodup := (List.nodup_append.mp (List.nodup_append.mp hf.nd).1).1
  have nc : t.cn.Nodup := (List.nodup_append.mp (List.nodup_append.mp hf.nd).1).2.1
  have nk : t.kn.Nodup := (List.nodup_append.mp hf.nd).2.1
  have mp : ∀ z ∈ t.pn, z ∈ t.nm := fun z hz => List.mem_append_left _ (List.mem_append_left _ hz)
  have mc : ∀ z ∈ t.cn, z ∈ t.nm := fun z hz => List.mem_append_left _ (List.mem_append_right _ hz)
  have mk : ∀ z ∈ t.kn, z ∈ t.nm := fun z hz => List.mem_append_right _ hz
  have sub : ∀ {α β : Type} {m : List α} {nm : α → Str} {g : α → β} {nb : β → Str}, (∀ x, nb (g x) = F (nm x)) → (m.map nm).Nodup → (∀ z ∈ m.map nm, z ∈ t.nm) → ((m.map g).map nb).Nodup := fun {α β m nm g nb} hg h1 h2 => by
    have e : (m.map g).map nb = (m.map nm).map F := by rw [List.map_map, List.map_map]; exact List.map_congr_left fun x _ => hg x
    rw [e]
    exact nodup_sub hnd h1 h2
  refine q_asg h4 (S := fun w => w = .d (.list ((t.ren F).ps.map eP))) (d_cb (a_1 (d_is (d_map (l := t.ps) (enc := fun p => .d (eP p)) (f := fun p => eP (F p.1, p.2)) h4.env (i_tupM (f := eP) (d_op (d_var h4.env (i := 0) rfl) d_i (os_ixT (at_zero _ _) rfl))) (js := [12]) (by decide) (Nat.le_trans hf.lp (by decide)) fun p hp => ⟨_, tg_name, fun σ' H' e' h' => d_tup (ds := [.str (F p.1), .int p.2]) (a_2 (d_dget (d_var h' (i := 2) rfl) (d_op (d_var h' (i := 12) rfl) d_i (os_ixT (at_zero _ _) rfl)) (hlk _ (mp _ (List.mem_map_of_mem hp)))) (d_op (d_var h' (i := 12) rfl) d_i (os_ixT (at_1 _ _ _) rfl))) (by simp)⟩) (y := .d (.list ((t.ps.map fun p => (F p.1, p.2)).map eP))) (by rw [List.map_map]; rfl))) (cs_sortT (l := t.ps.map fun p => (F p.1, p.2)) (nm := pnm) (rest := fun e => [.int e.2]) (enc := eP) (fun _ _ => rfl) (sub (nm := fun p => p.1) (fun _ => rfl) np mp) (fun x _ y _ => rfl) (by rw [List.length_map]; exact Nat.le_trans hf.lp (by decide)) (fun x _ => by simp [PyData.depth, PyData.depthAll]) fun b hb hr => by rw [sortN_eq hb hr]; rfl)) (fun v5 w5 H5 e5 ew5 iw5 h5 => ?_)
  subst ew5
  refine q_asg h5 (S := fun w => w = .d (.list ((t.ren F).cs.map eC))) (d_cb (a_1 (d_is (d_map (l := t.cs) (enc := fun c => .d (eC c)) (f := fun c => eC (F c.1, sortN znm (c.2.map F))) h5.env (i_tupM (f := eC) (d_op (d_var h5.env (i := 0) rfl) d_i (os_ixT (at_1 _ _ _) rfl))) (js := [12]) (by decide) (Nat.le_trans hf.lc (by decide)) fun c hc => ⟨_, tg_name, fun σ' H' e' h' => ?_⟩) (y := .d (.list ((t.cs.map fun c => (F c.1, sortN znm (c.2.map F))).map eC))) (by rw [List.map_map]; rfl))) (cs_sortT (l := t.cs.map fun c => (F c.1, sortN znm (c.2.map F))) (nm := cnm) (rest := fun e => [.tuple (e.2.map PyData.str)]) (enc := eC) (fun _ _ => rfl) (sub (nm := fun p => p.1) (fun _ => rfl) nc mc) (fun x _ y _ => alike_eC x y) (by rw [List.length_map]; exact Nat.le_trans hf.lc (by decide)) (fun x _ => depth_eC x) fun b hb hr => by rw [sortN_eq hb hr]; rfl)) (fun v6 w6 H6 e6 ew6 iw6 h6 => ?_)
  · obtain ⟨c1, c2, c3, c4⟩ := hf.nc c hc
    refine d_tup (ds := [.str (F c.1), .tuple ((sortN znm (c.2.map F)).map PyData.str)]) (a_2 (d_dget (d_var h' (i := 2) rfl) (d_op (d_var h' (i := 12) rfl) d_i (os_ixT (at_zero _ _) rfl)) (hlk _ (mc _ (List.mem_map_of_mem hc)))) (d_cb (a_1 (d_cb (a_1 (d_is (d_map (l := c.2) (enc := fun z => .d (.str z)) (f := fun z => PyData.str (F z)) h' (i_tupM (f := PyData.str) (d_op (d_var h' (i := 12) rfl) d_i (os_ixT (at_1 _ _ _) rfl))) (js := [8]) (by decide) (Nat.le_trans c2 (by decide)) fun z hz => ⟨_, tg_name, fun σ' H' e' h'' => d_dget (d_var h'' (i := 2) rfl) (d_var h'' (i := 8) rfl) (hlk _ (c4 z hz))⟩) (y := .d (.list ((c.2.map F).map PyData.str))) (by rw [List.map_map]; rfl))) (cs_sortZ (by rw [List.length_map]; omega) (nodup_sub hnd c3 c4)))) (cs_tupL rfl))) (by simp)
  subst ew6
  let g7 : Str × Int × Bool × List (Str × Int) → Str × Int × Bool × List (Str × Int) := fun k => (F k.1, k.2.1, k.2.2.1, sortN bnm (k.2.2.2.map fun e => (F e.1, e.2)))
  refine q_new (i := 7) h6 (fun l7 hl7 h7 m7 => ?_)
  refine q_for (js := [8, 9, 10, 11]) h7 (i_tupM (l := t.ks) (f := eK) (enc := fun k => .d (eK k)) (d_op (d_var h7.env (i := 0) rfl) d_i (os_ixT (at_2 _ _ _ _) rfl))) (fun ws H8 ew e8 h8 => ?_)
  subst ew
  refine ⟨fun i σ' H' => At (l7 :: M) H σ' H' [some (.d (enc t)), some (.d (.tuple (l.map eS))), some (.m (mT (t.tags.map fun z => (z, F z)))), none, none, some (.d (.list ((t.ren F).ps.map eP))), some (.d (.list ((t.ren F).cs.map eC))), some (.v (.ref l7)), none, none, none, none, none, none, none] ∧ ML (l7 :: M) H H' l7 (((t.ks.take i).map g7).map eK), ⟨h8, m7.mono e8⟩, fun i σ' H' H2 ⟨a, b⟩ e => ⟨a.mono e, b.mono e⟩, fun σ' H' v ⟨a, b⟩ => ?_, fun i x σ' H' hx v ⟨a, b⟩ => ?_⟩
  · rw [List.length_map, List.take_length] at b
    have nl7 : l7 ∉ M := fun m => h.al l7 m b.new
    have a2 := a.show_ (i := 7) b nl7 rfl
    refine s_ret a2 (S := T) (d_to (d_tup (ds := [.tuple ((t.ren F).ps.map eP), .tuple ((t.ren F).cs.map eC), .tuple ((t.ren F).ks.map eK)]) (a_3 (d_cb (a_1 (d_var a2.env (i := 5) rfl)) (cs_tupL rfl)) (d_cb (a_1 (d_var a2.env (i := 6) rfl)) (cs_tupL rfl)) (d_cb (a_1 (d_cb (S := fun w => w = .d (.list ((t.ren F).ks.map eK))) (a_1 (d_var a2.env (i := 7) rfl)) (cs_sortT (l := t.ks.map g7) (nm := knm) (rest := fun k => [.int k.2.1, .bool k.2.2.1, eB k.2.2.2]) (enc := eK) (fun _ _ => rfl) (sub (nm := fun p => p.1) (fun _ => rfl) nk mk) (fun x _ y _ => alike_eK x y) (by rw [List.length_map]; exact Nat.le_trans hf.lk (by decide)) (fun x _ => depth_eK x) fun b hb hr => by rw [sortN_eq hb hr]; rfl))) (cs_tupL rfl))) (by simp)) (s1 hnd)) (fun v w H' e s i => k v H' w e s i)
  · rw [List.getElem?_map] at hx
    cases hk : t.ks[i]? with
    | none => rw [hk] at hx; cases hx
    | some kk =>
      rw [hk] at hx
      cases hx
      have hkm := List.mem_of_getElem? hk
      obtain ⟨k1, k2, k3, k4, k5, k6⟩ := hf.nk kk hkm
      refine ⟨_, tg_four, fun xs hxs => ?_⟩
      have a1 := a.sets [8, 9, 10, 11] hxs
      have k6' : ∀ z ∈ kk.2.2.2.map fun e => e.1, z ∈ t.nm := fun z hz => by
        obtain ⟨e, he, rfl⟩ := List.mem_map.mp hz
        exact (k6 e he).1
      refine s_app a1 b rfl (S := fun w => w = .d (eK (g7 kk))) ((d_tup (ds := [.str (F kk.1), .int kk.2.1, .bool kk.2.2.1, eB (sortN bnm (kk.2.2.2.map fun e => (F e.1, e.2)))]) (a_cons (d_dget (d_var a1.env (i := 2) rfl) (d_var a1.env (i := 8) rfl) (hlk _ (mk _ (List.mem_map_of_mem hkm)))) (a_3 (d_var a1.env (i := 9) rfl) (d_var a1.env (i := 10) rfl) (d_cb (a_1 (d_cb (S := fun w => w = .d (.list ((sortN bnm (kk.2.2.2.map fun e => (F e.1, e.2))).map eP))) (a_1 (d_is (d_map (l := kk.2.2.2) (enc := fun e => .d (eP e)) (f := fun e => eP (F e.1, e.2)) a1.env (i_tupM (f := eP) (d_var a1.env (i := 11) rfl)) (js := [13, 14]) (by decide) (Nat.le_trans k4 (by decide)) fun e he => ⟨_, tg_two, fun σ' H' e' h' => d_tup (ds := [.str (F e.1), .int e.2]) (a_2 (d_dget (d_var h' (i := 2) rfl) (d_var h' (i := 13) rfl) (hlk _ (k6 e he).1)) (d_var h' (i := 14) rfl)) (by simp)⟩) (y := .d (.list ((kk.2.2.2.map fun e => (F e.1, e.2)).map eP))) (by rw [List.map_map]; rfl))) (cs_sortT (l := kk.2.2.2.map fun e => (F e.1, e.2)) (nm := bnm) (rest := fun e => [.int e.2]) (enc := eP) (fun _ _ => rfl) (sub (nm := fun e => e.1) (fun _ => rfl) k5 k6') (fun x _ y _ => rfl) (by rw [List.length_map]; exact Nat.le_trans k4 (by decide)) (fun x _ => by simp [PyData.depth, PyData.depthAll]) fun b hb hr => by rw [sortN_eq hb hr]))) (cs_tupL rfl)))) (by simp)).imp fun w ew => ⟨_, ew, ew⟩) (by rw [List.length_map, List.length_map, List.length_take]; have := hf.lk; omega) (fun dd H9 ys e9 sd a9 m9 => ?_)
      cases sd
      refine ⟨(v.step e9).mut b.mem, a9.lose [8, 9, 10, 11], ?_⟩
      rw [snoc_split hk, List.map_append, List.map_append]
      exact m9
end
end Kl
set_option Elab.async false
set_option linter.all false
set_option maxRecDepth 100000
set_option maxHeartbeats 8000000
/-! S5: t[::-1] of a tuple. -/
namespace Kl
open PySem PySem.Spec PyProof.Rows L2
theorem adjust_back (n : Nat) : Builtin.Slice.sliceAdjust none none (-1) (n : Int) = ((n : Int) - 1, -1) := rfl
theorem places_back (n : Nat) : Builtin.Slice.slicePlaces ((n : Int) - 1) (-1) (-1) = n := by
  unfold Builtin.Slice.slicePlaces
  have h1 : ¬ ((-1 : Int) > 0) := by omega
  by_cases h : (n : Int) - 1 > -1
  · have e : ((n : Int) - 1 - -1 - 1) / (- -1) + 1 = (n : Int) := by
      rw [show (- -1 : Int) = 1 by decide, Int.ediv_one]
      omega
    simp only [h1, if_false, h, if_true, e, Int.toNat_natCast]
  · simp only [h1, if_false, h]
    omega
theorem fm_congr {α β : Type} {f g : α → Option β} : ∀ {l : List α}, (∀ x ∈ l, f x = g x) → l.filterMap f = l.filterMap g
  | [], _ => rfl
  | a :: l, h => by rw [List.filterMap_cons, List.filterMap_cons, h a List.mem_cons_self, fm_congr fun x hx => h x (List.mem_cons_of_mem _ hx)]
theorem pick_back (xs : Array Value) : ((List.range xs.size).filterMap fun (k : Nat) => xs[((xs.size : Int) - 1 + (k : Int) * -1).toNat]?).toArray = xs.toList.reverse.toArray := by
  have e : ((List.range xs.size).filterMap fun (k : Nat) => xs[((xs.size : Int) - 1 + (k : Int) * -1).toNat]?) = ((List.range xs.size).map fun k => xs.size - 1 - k).filterMap (xs[·]?) := by
    rw [List.filterMap_map]
    refine fm_congr fun k hk => ?_
    have := List.mem_range.mp hk
    show xs[((xs.size : Int) - 1 + (k : Int) * -1).toNat]? = xs[xs.size - 1 - k]?
    rw [show ((xs.size : Int) - 1 + (k : Int) * -1).toNat = xs.size - 1 - k by omega]
  rw [e, PySem.W.krv_range, List.filterMap_reverse, PySem.W.krv_all]
section
variable {prog : Program} {w : World} {A : Around} {E : Value → Shared → Prop} {s : Shared}
theorem get_back {t sl : Addr} {items : Array Value} {u : Tok} {Q : Value → Shared → Prop} (ht : IsTup s.heap t items) (hs : s.heap.IsSliceOf sl .none .none (.int (-1) u)) (hsz : items.size ≤ sizeLine)
    (h : Q (.ref s.heap.objs.size) { s with heap := s.heap.push { cls := .type "tuple", data := .seq items.toList.reverse.toArray } }) : wpAny (model prog w) A (getItem (.ref t) (.ref sl)) Q E s := by
  have hn : sizeOk (.seq items.toList.reverse.toArray) := by
    show items.toList.reverse.toArray.size ≤ sizeLine
    rw [List.size_toArray, List.length_reverse, Array.length_toList]
    exact hsz
  obtain ⟨os, h1, h2, h3⟩ := id hs
  have hT : s.TypeIs (.ref sl) "slice" := ⟨os, h1, h2⟩
  have ap : ∀ {R : Int × Int × Nat → Shared → Prop}, R ((items.size : Int) - 1, -1, items.size) s → wpAny (model prog w) A.in1 (Builtin.Slice.sliceApplied (.ref sl) (pure (items.size : Int))) R E s ∧ wpAny (model prog w) A (Builtin.Slice.sliceApplied (.ref sl) (pure (items.size : Int))) R E s := fun {R} r => by
    constructor <;>
    · unfold Builtin.Slice.sliceApplied Builtin.Slice.sliceFields
      refine wpAny_bind (wpAny_bind (wpAny_field h1 h3 (x := .none) rfl (wpAny_bind (wpAny_field h1 h3 (x := .none) rfl (wpAny_bind (wpAny_field h1 h3 (x := .int (-1) u) rfl (wpAny_pure ?_)))))))
      refine wpAny_bind (slicePart_int ?_)
      show wpAny _ _ (if ((-1 : Int) == 0) = true then _ else _) _ _ s
      rw [if_neg (by decide)]
      refine wpAny_bind (slicePart_none (wpAny_bind (slicePart_none (wpAny_bind (wpAny_pure ?_)))))
      show wpAny _ _ (match Builtin.Slice.sliceAdjust none none (-1) (items.size : Int) with | (lo, hi) => pure (lo, (-1 : Int), Builtin.Slice.slicePlaces lo hi (-1))) _ _ s
      rw [adjust_back]
      show wpAny _ _ (pure ((items.size : Int) - 1, (-1 : Int), Builtin.Slice.slicePlaces ((items.size : Int) - 1) (-1) (-1))) _ _ s
      rw [places_back]
      exact wpAny_pure r
  unfold getItem
  try with_reducible refine wpAny_holding ?_
  first | refine wpAny_bind (wpAny_pure ?_) | skip
  refine wpAny_bind (wpAny_sequenceKey ht.typeIs (by decide) ?_)
  refine wpAny_bind (wpAny_callSpecial?_slot (name := Str.ofString "__getitem__") ht.typeIs PyProof.Rows.slot_tuple_getitem
    (wpAny_call_entry PyProof.Rows.slot_tuple_getitem ht.typeIs entry_tuple_getitem ?_ (args_tuple_getitem _ _)))
  show wpAny _ _ (Builtin.Tuple.tupleItemsOf (.ref t) >>= _) _ _ s
  refine wpAny_bind (tupleItemsOf_ ht ?_)
  refine wpAny_bind (wpAny_typeOf hT ?_)
  rw [if_pos (by decide)]
  have ns : ((-1 : Int) == 1) = false := by decide
  have fin : ∀ {R : Value → Shared → Prop}, True := fun {_} => trivial
  first
    | refine wpAny_bind (ap ?_).1
    | refine wpAny_bind (ap ?_).2
  show wpAny _ _ (if (((items.size : Int) - 1) == 0 && (-1 : Int) == 1 && items.size == items.size) = true then _ else _) _ _ s
  rw [if_neg (by rw [ns, Bool.and_false, Bool.false_and]; exact Bool.false_ne_true), pick_back]
  first
    | exact wpAny_bind (m := Builtin.Tuple.tupleExact _) (wpAny_newObj_type (wpAny_pure ⟨_, rfl, wpAny_pure h⟩) hn)
    | exact wpAny_bind (m := Builtin.Tuple.tupleExact _) (wpAny_newObj_type (wpAny_bind (wpAny_pure (wpAny_pure ⟨_, rfl, wpAny_pure h⟩))) hn)
    | exact wpAny_bind (wpAny_bind (m := Builtin.Tuple.tupleExact _) (wpAny_newObj_type (wpAny_pure (wpAny_pure ⟨_, rfl, wpAny_pure h⟩)) hn))
    | exact wpAny_bind (wpAny_bind (m := Builtin.Tuple.tupleExact _) (wpAny_newObj_type (wpAny_pure ⟨_, rfl, wpAny_pure h⟩) hn))
end
def tBack (K : Frg) (te tm : TE) : TE := fun σ H Q => te σ H fun x H1 => tm σ H1 fun m H2 => m = .int (-1) ∧ ∃ (a : Addr) (xs : List V), x = .ref a ∧ SqT K H2 a xs ∧ xs.length ≤ sizeLine ∧ ∀ p o, H2 p = none → TupO o → Q (.ref p) (upd H2 p (.frz o (.tup xs.reverse)))
theorem vals_back {xs : List V} {us : List Value} (r : Vals xs us) : Vals xs.reverse us.reverse := by
  induction r with
  | nil => exact .nil
  | cons r t ih => rw [List.reverse_cons, List.reverse_cons]; exact ih.append (.cons r .nil)
section
variable {X : Cx}
theorem pe_back {e m : Expr} {te tm : TE} {p2 pos : Pos} (he : PE X e te) (hm : PE X m tm) : PE X (.Subscript e (.Slice none none (some m) p2) pos) (tBack X.K te tm) := by
  refine ⟨fun pins s σ H Q I h => ?_⟩
  refine Subscript_ (thn (he.run pins s σ H _ I h) fun v s1 ⟨x, H1, I1, r1, q1⟩ => ?_)
  refine wpAny_Slice ?_
  rw [evalPart_none]
  refine wpAny_pure (wpAny_pure ?_)
  rw [evalPart_some]
  refine thn (hm.run pins s1 σ H1 _ I1 q1) fun vm s2 ⟨y, H2, I2, r2, em, a, xs, ex, ha, hz, q2⟩ => ?_
  subst em ex
  obtain ⟨tk, rfl⟩ := r2
  cases r1
  have I3 : L2.Inv X pins σ H2 { s2 with heap := s2.heap.push { cls := .type "slice", data := .fields #[.none, .none, .int (-1) tk] } } := I2.kept (t' := s2.toks) fun b ob q => Heap.get?_push_of_some _ q
  obtain ⟨its, r, ht, hz'⟩ := I3.tuple ha
  show wpAny (model X.prog X.w) X.A (subscriptTail e (.Slice none none (some m) p2) (.ref a) (.ref s2.heap.objs.size)) (EP X pins σ Q) X.xe { s2 with heap := s2.heap.push { cls := .type "slice", data := .fields #[.none, .none, .int (-1) tk] } }
  refine tail_any (ops := [.ref a, .ref s2.heap.objs.size]) ht.typeIs PyProof.Rows.slot_tuple_getitem.lookup (get_back ht (Heap.IsSliceOf.new ..) (by rw [List.size_toArray, ← r.length]; exact hz) ?_) (by with_unfolding_all rfl)
  exact ⟨.ref (s2.heap.push { cls := .type "slice", data := .fields #[.none, .none, .int (-1) tk] }).objs.size, _, I3.laid (t' := s2.toks) (fun b o e => Heap.get?_push_of_some _ e) (Nat.le_refl _) (frz_tup (its := its.reverse) (by rw [List.length_reverse]; exact hz) (vals_back r)), rfl, q2 _ _ (I3.hok.fresh (Nat.le_refl _)) (tupo its.reverse)⟩
end
section
variable {K : Frg} {σ : L2.St} {H : Hp} {te tm : TE} {ds : List PyData}
theorem d_back (he : Ed te σ H (.d (.tuple ds))) (hm : Ed tm σ H (.d (.int (-1)))) (hl : ds.length ≤ 100000) : Ed (tBack K te tm) σ H (.d (.tuple ds.reverse)) := fun N H1 vw Q q =>
  he N H1 vw _ fun x H2 w e2 s i => by
    subst s
    refine hm N H2 (vw.step e2) _ fun y H3 w e3 s j => ?_
    subst s
    cases j
    obtain ⟨a, xs, rfl, h1, n1, d1⟩ := hid_tup (is_mono (hid_mono e3.w) i)
    refine ⟨rfl, a, xs, rfl, h1.t, Nat.le_trans (by rw [dps_len d1]; exact hl) (by decide), fun p o hp to => ?_⟩
    have v3 := (vw.step e2).step e3
    exact q _ _ _ ((e2.trans e3).trans (Ex.new hp)) rfl (new_tup v3.al hp to (dps_rev d1))
end
end Kl
set_option Elab.async false
set_option linter.all false
set_option maxRecDepth 100000
set_option maxHeartbeats 8000000
/-! L19: _law_spoilt. -/
namespace Kl
open PySem PySem.Spec PyProof.Rows L2
mutual
/-- texts and tuples of such -/
def stB : PyData → Bool
  | .str z => PySem.PyData.strOk z && decide (z.length ≤ 100)
  | .tuple xs => stAll xs
  | _ => false
def stAll : List PyData → Bool
  | [] => true
  | x :: xs => stB x && stAll xs
end
mutual
theorem st_nice : ∀ d : PyData, stB d = true → niceB d = true
  | .str z, h => h
  | .tuple xs, h => st_niceAll xs h
  | .none, h => by cases h
  | .bool _, h => by cases h
  | .int _, h => by cases h
  | .list _, h => by cases h
  | .dict _, h => by cases h
theorem st_niceAll : ∀ ds : List PyData, stAll ds = true → niceAll ds = true
  | [], _ => rfl
  | d :: ds, h => by
    have h : (stB d && stAll ds) = true := h
    rw [Bool.and_eq_true] at h
    show (niceB d && niceAll ds) = true
    rw [st_nice d h.1, st_niceAll ds h.2]; rfl
end
theorem stAll_mem : ∀ {ds : List PyData}, stAll ds = true → ∀ d ∈ ds, stB d = true
  | [], _, d, hd => by cases hd
  | x :: ds, h, d, hd => by
    have h : (stB x && stAll ds) = true := h
    rw [Bool.and_eq_true] at h
    rcases List.mem_cons.mp hd with e | hd
    · rw [e]; exact h.1
    · exact stAll_mem h.2 d hd
theorem niceAll_of : ∀ {ds : List PyData}, (∀ d ∈ ds, niceB d = true) → niceAll ds = true
  | [], _ => rfl
  | x :: ds, h => by
    show (niceB x && niceAll ds) = true
    rw [h x List.mem_cons_self, niceAll_of fun d hd => h d (List.mem_cons_of_mem _ hd)]; rfl
theorem depthAll_of {c : Nat} : ∀ {ds : List PyData}, (∀ d ∈ ds, d.depth ≤ c) → PyData.depthAll ds ≤ c
  | [], _ => Nat.zero_le _
  | x :: ds, h => by
    show max x.depth (PyData.depthAll ds) ≤ c
    exact Nat.max_le.mpr ⟨h x List.mem_cons_self, depthAll_of fun d hd => h d (List.mem_cons_of_mem _ hd)⟩
theorem depthAll_mem : ∀ {ds : List PyData} {d : PyData}, d ∈ ds → d.depth ≤ PyData.depthAll ds
  | [], d, hd => by cases hd
  | x :: ds, d, hd => by
    show d.depth ≤ max x.depth (PyData.depthAll ds)
    rcases List.mem_cons.mp hd with e | hd
    · rw [e]; exact Nat.le_max_left _ _
    · exact Nat.le_trans (depthAll_mem hd) (Nat.le_max_right _ _)
theorem wtAll_app : ∀ (xs ys : List PyData), wtAll (xs ++ ys) = wtAll xs + wtAll ys
  | [], ys => by show wtAll ys = 0 + wtAll ys; omega
  | x :: xs, ys => by
    show wt x + 2 + wtAll (xs ++ ys) = wt x + 2 + wtAll xs + wtAll ys
    rw [wtAll_app xs ys]; omega
theorem wtAll_cons (x : PyData) (xs : List PyData) : wtAll (x :: xs) = wt x + 2 + wtAll xs := rfl
theorem wtAll_rev : ∀ xs : List PyData, wtAll xs.reverse = wtAll xs
  | [] => rfl
  | x :: xs => by
    rw [List.reverse_cons, wtAll_app, wtAll_rev xs, wtAll_cons, wtAll_cons]
    show _ + (wt x + 2 + 0) = _
    omega
theorem wtAll_split (xs : List PyData) (k : Nat) : wtAll xs = wtAll (xs.take k) + wtAll (xs.drop k) := by rw [← wtAll_app, List.take_append_drop]
theorem wtAll_at {xs : List PyData} {k : Nat} {e : PyData} (h : xs[k]? = some e) : wtAll xs = wtAll (xs.take k) + (wt e + 2) + wtAll (xs.drop (k + 1)) := by
  rw [wtAll_split xs (k + 1), snoc_split h, wtAll_app]
  rfl
theorem wtAll_len : ∀ xs : List PyData, xs.length ≤ wtAll xs
  | [] => Nat.le_refl _
  | x :: xs => by have := wtAll_len xs; rw [List.length_cons, wtAll_cons]; omega
def lenT : PyData → Nat
  | .tuple ds => ds.length
  | _ => 0
/-- what a spoilt value may be -/
structure Spo (d d' : PyData) : Prop where
  ni : niceB d' = true
  wt : wt d' ≤ 2 * Kl.wt d + 1000
  dp : d'.depth ≤ d.depth + 3
  ln : lenT d' ≤ lenT d + 2
def oddB (d : PyData) : Bool := niceB d && (decide (wt d ≤ 300) && (decide (d.depth ≤ 3) && decide (lenT d ≤ 2)))
theorem odd_all : strangeL.all oddB = true := by decide +kernel
theorem odd_of {o : PyData} (h : o ∈ strangeL) : niceB o = true ∧ wt o ≤ 300 ∧ o.depth ≤ 3 ∧ lenT o ≤ 2 := by
  have h := List.all_eq_true.mp odd_all o h
  unfold oddB at h
  simp only [Bool.and_eq_true, decide_eq_true_eq] at h
  exact h
theorem spo_odd {d o : PyData} (h : o ∈ strangeL) : Spo d o := by
  obtain ⟨h1, h2, h3, h4⟩ := odd_of h
  exact ⟨h1, by omega, by omega, by omega⟩
theorem spo_tup {xs ys : List PyData} (hx : stAll xs = true) (hm : ∀ y ∈ ys, y ∈ xs ∨ (niceB y = true ∧ y.depth ≤ PyData.depthAll xs + 3)) (hw : wtAll ys ≤ 2 * wtAll xs + 1000) (hl : ys.length ≤ xs.length + 2) : Spo (.tuple xs) (.tuple ys) where
  ni := niceAll_of fun y hy => (hm y hy).elim (fun h => st_nice y (stAll_mem hx y h)) fun h => h.1
  wt := by show 6 + wtAll ys ≤ 2 * (6 + wtAll xs) + 1000; omega
  dp := by
    have : PyData.depthAll ys ≤ PyData.depthAll xs + 3 := depthAll_of fun y hy => (hm y hy).elim (fun h => Nat.le_trans (depthAll_mem h) (Nat.le_add_right _ _)) fun h => h.2
    show PyData.depthAll ys + 1 ≤ PyData.depthAll xs + 1 + 3
    omega
  ln := hl
theorem spo_list {xs : List PyData} (hx : stAll xs = true) : Spo (.tuple xs) (.list xs) where
  ni := st_niceAll xs hx
  wt := by show 6 + wtAll xs ≤ 2 * (6 + wtAll xs) + 1000; omega
  dp := by show PyData.depthAll xs + 1 ≤ PyData.depthAll xs + 1 + 3; omega
  ln := Nat.zero_le _
theorem spo_at {xs : List PyData} {k : Nat} {e e' : PyData} (hx : stAll xs = true) (h : xs[k]? = some e) (s : Spo e e') : Spo (.tuple xs) (.tuple (xs.take k ++ [e'] ++ xs.drop (k + 1))) := by
  have hw := wtAll_at h
  have he : e ∈ xs := List.mem_of_getElem? h
  have hk := idx_lt h
  refine spo_tup hx (fun y hy => ?_) ?_ ?_
  · rcases List.mem_append.mp hy with hy | hy
    · rcases List.mem_append.mp hy with hy | hy
      · exact .inl (List.mem_of_mem_take hy)
      · rw [List.mem_singleton.mp hy]
        exact .inr ⟨s.ni, Nat.le_trans s.dp (Nat.add_le_add_right (depthAll_mem he) 3)⟩
    · exact .inl (List.mem_of_mem_drop hy)
  · have := s.wt
    rw [wtAll_app, wtAll_app]
    show wtAll (xs.take k) + (wt e' + 2 + 0) + wtAll (xs.drop (k + 1)) ≤ _
    omega
  · simp only [List.length_append, List.length_take, List.length_drop, List.length_cons, List.length_nil]; omega
theorem spo_four {xs : List PyData} {k : Nat} {o : PyData} (hx : stAll xs = true) (hk : k ≤ xs.length) (ho : o ∈ strangeL) : ∀ d ∈ ([.tuple (xs.take k ++ xs.drop (k + 1)), .tuple (xs.take k ++ (xs.drop k).take 1 ++ xs.drop k), .tuple (xs.take k ++ [o] ++ xs.drop k), .tuple (xs.take k ++ ((xs.drop k).take 2).reverse ++ xs.drop (k + 2))] : List PyData), Spo (.tuple xs) d := by
  obtain ⟨o1, o2, o3, o4⟩ := odd_of ho
  have w1 := wtAll_split xs k
  have w2 := wtAll_split xs (k + 1)
  have w3 := wtAll_split (xs.drop k) 1
  have w4 := wtAll_split (xs.drop k) 2
  rw [List.drop_drop] at w3 w4
  intro d hd
  simp only [List.mem_cons, List.not_mem_nil, or_false] at hd
  rcases hd with e | e | e | e <;> subst e
  · refine spo_tup hx (fun y hy => .inl ?_) (by rw [wtAll_app]; omega) (by simp only [List.length_append, List.length_take, List.length_drop]; omega)
    rcases List.mem_append.mp hy with hy | hy
    · exact List.mem_of_mem_take hy
    · exact List.mem_of_mem_drop hy
  · refine spo_tup hx (fun y hy => .inl ?_) (by rw [wtAll_app, wtAll_app]; omega) (by simp only [List.length_append, List.length_take, List.length_drop]; omega)
    rcases List.mem_append.mp hy with hy | hy
    · rcases List.mem_append.mp hy with hy | hy
      · exact List.mem_of_mem_take hy
      · exact List.mem_of_mem_drop (List.mem_of_mem_take hy)
    · exact List.mem_of_mem_drop hy
  · refine spo_tup hx (fun y hy => ?_) ?_ (by simp only [List.length_append, List.length_take, List.length_drop, List.length_cons, List.length_nil]; omega)
    · rcases List.mem_append.mp hy with hy | hy
      · rcases List.mem_append.mp hy with hy | hy
        · exact .inl (List.mem_of_mem_take hy)
        · rw [List.mem_singleton.mp hy]
          exact .inr ⟨o1, by omega⟩
      · exact .inl (List.mem_of_mem_drop hy)
    · rw [wtAll_app, wtAll_app]
      show wtAll (xs.take k) + (wt o + 2 + 0) + wtAll (xs.drop k) ≤ _
      omega
  · refine spo_tup hx (fun y hy => .inl ?_) (by rw [wtAll_app, wtAll_app, wtAll_rev]; omega) (by simp only [List.length_append, List.length_take, List.length_drop, List.length_reverse]; omega)
    rcases List.mem_append.mp hy with hy | hy
    · rcases List.mem_append.mp hy with hy | hy
      · exact List.mem_of_mem_take hy
      · exact List.mem_of_mem_drop (List.mem_of_mem_take (List.mem_reverse.mp hy))
    · exact List.mem_of_mem_drop hy
theorem cutG_midA {α : Type} {xs : List α} {m n : Nat} (h : m ≤ n) (hm : m ≤ xs.length) : cutG xs (some (m : Int)) (some (n : Int)) = (xs.drop m).take (n - m) := by
  rcases Nat.le_total n xs.length with hn | hn
  · exact cutG_mid h hn
  · unfold cutG
    rw [show HT.sIx xs.length 0 (some (m : Int)) = min m xs.length from HT.sIx_nat xs.length 0 m, show HT.sIx xs.length xs.length (some (n : Int)) = min n xs.length from HT.sIx_nat xs.length xs.length n, Nat.min_eq_left hm, Nat.min_eq_right hn]
    rw [List.take_of_length_le (by rw [List.length_drop]; exact Nat.le_refl _), List.take_of_length_le (by rw [List.length_drop]; omega)]
theorem st_int {d : PyData} (h : stB d = true) : dInt d = false := by cases d <;> first | rfl | cases h
section
variable {P : Program} {w : World} {K : Frg} {mg : Str → Option Value} {base : Heap} {C : Addr}
abbrev s_law_spoilt : Stmt := topS 59
abbrev n_law_spoilt : List Str := ["_law_feed_here", "_law_what", "_law_k", "_law_style", "_law_odd", "_law_some_here"]
theorem sc_law_spoilt : FnScope n_law_spoilt ["_law_feed_here", "_law_what"] (defScope s_law_spoilt) := ⟨rfl, rfl, rfl, by decide +kernel, rfl, by decide +kernel, by decide +kernel⟩
def F_law_spoilt (n : Nat) : List W → (W → Prop) → Prop := fun ws S => ∃ d, ws = [.feed, .d d] ∧ stB d = true ∧ d.depth < n ∧ wt d ≤ 20000 ∧ ∀ d', Spo d d' → S (.d d')
theorem cl_law_spoilt_step {n : Nat} (D : Def K mg "_law_spoilt" s_law_spoilt) (G : Gm mg) (C_law_draw : Cl P w K mg base CX0 1 "_law_draw" [] (SpF F_law_draw)) (C_law_strange : Cl P w K mg base CX0 3 "_law_strange" [] (SpF F_law_strange))
    (C_law_spoilt : Cl P w K mg base CX0 (3 + n) "_law_spoilt" [] (SpF (F_law_spoilt n))) : Cl P w K mg base CX0 (3 + n + 1) "_law_spoilt" [] (SpF (F_law_spoilt (n + 1))) := by
  refine D.ok sc_law_spoilt (fun _ _ _ _ _ _ us hl => match us, hl with | [_, _], _ => rfl) (fun ws S ⟨_, e, _⟩ => by rw [e]; rfl) ?_
  rintro f cdv A outer s H M vs ws T Q E hr ⟨d, rfl, hst, hdp, hwt, hS⟩ h k
  have nd := sc_law_spoilt.nd
  refine ⟨_, (pss_cons (ps_if (PW.pt (pw_and (pt_val (pe_callB (r := rIsi K) call_isi (by rfl) G.isinstance_ (by decide +kernel) (pa_cons (pv 1) (pa_cons (p_ty "tuple" (by rfl) G.tuple_ (by decide +kernel)) pa_nil)))) (pw_and (pt_cmpR op_gt (pe_callB (r := rLen K) call_len (by rfl) G.len_ PySem.boot_len (pa_cons (pv 1) pa_nil)) pe_int (nomark _)) (pw_and1 (pt_cmpR op_gt (pe_cl C_law_draw (hr.mono (by omega)) (by rfl) pass0 (pa_cons (pv 0) (pa_cons pe_int pa_nil))) pe_int (nomark _)))))) (pss_cons (ps_set (i := 2) nd rfl (.inl rfl) (pe_cl C_law_draw (hr.mono (by omega)) (by rfl) pass0 (pa_cons (pv 0) (pa_cons (pe_callB (r := rLen K) call_len (by rfl) G.len_ PySem.boot_len (pa_cons (pv 1) pa_nil)) pa_nil))))
      (pss_one (ps_ret (pe_op op_catB (pe_op op_catB (pe_slice (r := rSlB K) sl_tupB (pv 1) po_none (po_some (pv 2))) (pe_tupB (pa_cons (pe_cl C_law_spoilt (hr.mono (by omega)) (by rfl) pass0 (pa_cons (pv 0) (pa_cons (pe_ix (r := rIxT K) ix_tup (pv 1) (pv 2) (fun _ _ => rfl)) pa_nil))) pa_nil))) (pe_slice (r := rSlB K) sl_tupB (pv 1) (po_some (pe_op op_add (pv 2) pe_int)) po_none))))) pss_nil)
      (pss_cons (ps_par (i := 3) (j := 4) (by rfl) nd rfl rfl (by decide) rfl rfl (pa_cons (pe_cl C_law_draw (hr.mono (by omega)) (by rfl) pass0 (pa_cons (pv 0) (pa_cons pe_int pa_nil))) (pa_cons (pe_cl C_law_strange (hr.mono (by omega)) (by rfl) pass0 (pa_cons (pv 0) pa_nil)) pa_nil)) (by rfl))
      (pss_cons (ps_if (PW.pt (pw_and (pt_val (pe_callB (r := rIsi K) call_isi (by rfl) G.isinstance_ (by decide +kernel) (pa_cons (pv 1) (pa_cons (p_ty "tuple" (by rfl) G.tuple_ (by decide +kernel)) pa_nil)))) (pw_and1 (pt_cmpR op_lt (pv 3) pe_int (nomark _))))) (pss_cons (ps_set (i := 2) nd rfl (.inl rfl) (pe_cl C_law_draw (hr.mono (by omega)) (by rfl) pass0 (pa_cons (pv 0) (pa_cons (pe_op op_add (pe_callB (r := rLen K) call_len (by rfl) G.len_ PySem.boot_len (pa_cons (pv 1) pa_nil)) pe_int) pa_nil))))
      (pss_cons (ps_set (i := 5) nd rfl (.inl rfl) (pe_lst (pa_cons (pe_op op_catB (pe_slice (r := rSlB K) sl_tupB (pv 1) po_none (po_some (pv 2))) (pe_slice (r := rSlB K) sl_tupB (pv 1) (po_some (pe_op op_add (pv 2) pe_int)) po_none)) (pa_cons (pe_op op_catB (pe_op op_catB (pe_slice (r := rSlB K) sl_tupB (pv 1) po_none (po_some (pv 2))) (pe_slice (r := rSlB K) sl_tupB (pv 1) (po_some (pv 2)) (po_some (pe_op op_add (pv 2) pe_int)))) (pe_slice (r := rSlB K) sl_tupB (pv 1) (po_some (pv 2)) po_none)) (pa_cons (pe_op op_catB (pe_op op_catB (pe_slice (r := rSlB K) sl_tupB (pv 1) po_none (po_some (pv 2))) (pe_tupB (pa_cons (pv 4) pa_nil))) (pe_slice (r := rSlB K) sl_tupB (pv 1) (po_some (pv 2)) po_none)) pa_nil)))))
      (pss_cons (ps_expr (pe_bm PySem.F.plainAttrs_list PySem.F.slot_list_append PySem.F.type_list_append mt_append (pv 5) (pa_cons (pe_op op_catB (pe_op op_catB (pe_slice (r := rSlB K) sl_tupB (pv 1) po_none (po_some (pv 2))) (pe_back (pe_slice (r := rSlB K) sl_tupB (pv 1) (po_some (pv 2)) (po_some (pe_op op_add (pv 2) pe_int))) (pe_un un_neg pe_int))) (pe_slice (r := rSlB K) sl_tupB (pv 1) (po_some (pe_op op_add (pv 2) pe_int)) po_none)) pa_nil)))
      (pss_one (ps_ret (pe_ifExp (pt_cmpR (r := rEqD K) (op_eqD hr.units) (pv 3) pe_int (nomark _)) (pe_callTy (r := rListOf K) call_list_of (by rfl) G.list_ (by decide +kernel) (pa_cons (pv 1) pa_nil)) (pe_ix (r := rIxL K) ix_list (pv 5) (pv 3) (fun _ _ => rfl)))))))) pss_nil)
      (pss_cons (ps_if (PW.pt (pw_and (pt_val (pe_callB (r := rIsi K) call_isi (by rfl) G.isinstance_ (by decide +kernel) (pa_cons (pv 1) (pa_cons (p_ty "int" (by rfl) G.int_ (by decide +kernel)) pa_nil)))) (pw_and (pt_not (pt_val (pe_callB (r := rIsi K) call_isi (by rfl) G.isinstance_ (by decide +kernel) (pa_cons (pv 1) (pa_cons (p_ty "bool" (by rfl) G.bool_ (by decide +kernel)) pa_nil))))) (pw_and1 (pt_cmpR op_lt (pv 3) pe_int (nomark _)))))) (pss_one (ps_ret (pe_ix (r := rIxL K) ix_list (pe_lst (pa_cons (pe_op op_add (pv 1) pe_int) (pa_cons (pe_op op_sub (pv 1) pe_int) (pa_cons (pe_un un_neg (pv 1)) pa_nil)))) (pv 3) (fun _ _ => rfl)))) pss_nil)
      (pss_one (ps_ret (pv 4))))))), ?_⟩
  have dr : ∀ {σ : L2.St} {V0 : Hp} {ρ : List (Option W)} {E : XK} {tn : TE} {n : Int}, Env σ V0 ρ → ρ[0]? = some (some .feed) → Ed tn σ V0 (.d (.int n)) → 0 < n → n < 1000000 → Ev (tCall (SpF F_law_draw) [] E (tCons (tVar 0) (tCons tn tNil))) σ V0 (IntS fun i => 0 ≤ i ∧ i < n) := fun {σ V0 ρ E tn n} he e0 hn h0 h1 => d_call (a_2 (d_var he e0) hn) ⟨n, rfl, h0, by omega, fun k a b => ⟨k, rfl, a, b⟩⟩
  refine q_when h (C := fun b => b = true → ∃ xs, d = .tuple xs ∧ 0 < xs.length) (eb_and (B' := fun b => b = dTup d) (b_B (d_cb (a_2 (d_var h.env (i := 1) rfl) d_v) (cs_isiTup rfl))) (fun e => ?_) (fun _ z => by cases z)) (fun e H1 e1 h1 => ?_) (fun _ H1 e1 h1 => ?_)
  · obtain ⟨xs, rfl⟩ := isTup_shape e.symm
    exact eb_and (B' := fun b => b = decide ((0 : Int) < (xs.length : Nat))) (b_test (d_op (d_cb (a_1 (d_var h.env (i := 1) rfl)) (cs_lenT rfl)) d_i (os_I0 (fun H => .bl _) rfl))) (fun e2 => eb_test (ev_op (dr h.env rfl d_i (by decide) (by decide)) d_i fun x y ⟨j, ex, _⟩ ey => by
      subst ex ey
      exact os_I0 (fun H => .bl _) ⟨_, rfl, fun _ => ⟨xs, rfl, by have := of_decide_eq_true e2.symm; omega⟩⟩)) (fun _ z => by cases z)
  · obtain ⟨xs, rfl, hx0⟩ := e rfl
    have hwx : wtAll xs ≤ 20000 := by have h6 : 6 + wtAll xs ≤ 20000 := hwt; omega
    have hxl : xs.length ≤ 20000 := Nat.le_trans (wtAll_len xs) hwx
    refine q_asg h1 (dr h1.env rfl (d_cb (S := fun w => w = .d (.int (xs.length : Nat))) (a_1 (d_var h1.env (i := 1) rfl)) (cs_lenT rfl)) (by omega) (by omega)) (fun v w H2 e2 sw iw h2 => ?_)
    obtain ⟨i, rfl, hi0, hi1⟩ := sw
    obtain ⟨i, rfl⟩ := Int.eq_ofNat_of_zero_le hi0
    have hi : i < xs.length := by omega
    have he : xs[i]? = some xs[i] := List.getElem?_eq_getElem hi
    have hem : xs[i] ∈ xs := List.getElem_mem hi
    have hsx : stAll xs = true := hst
    have hw1 : wt xs[i] ≤ 20000 := by have := wtAll_at he; omega
    have hd1 : PyData.depthAll xs + 1 < n + 1 := hdp
    refine s_ret h2 (S := T) (ev_op (Sa := fun w => ∃ e', w = .d (.tuple (xs.take i ++ [e'])) ∧ Spo xs[i] e') (Sb := fun w => w = .d (.tuple (xs.drop (i + 1)))) (ev_op (Sa := fun w => w = .d (.tuple (xs.take i))) (Sb := fun w => ∃ e', w = .d (.tuple [e']) ∧ Spo xs[i] e') (d_sl (lo := none) (hi := some (i : Nat)) (d_var h2.env (i := 1) rfl) o_none (o_some (d_var h2.env (i := 2) rfl)) (ss_T (by rw [cutG_to]))) (ev_tup (ea1 ((d_call (S := fun w => ∃ e', w = .d e' ∧ Spo xs[i] e') (a_2 (d_var h2.env (i := 0) rfl) (d_op (S := fun w => w = .d xs[i]) (d_var h2.env (i := 1) rfl) (d_var h2.env (i := 2) rfl) (os_ixT (atI_nat he) rfl))) ⟨xs[i], rfl, stAll_mem hsx _ hem, by have := depthAll_mem hem; omega, hw1, fun e' s => ⟨e', rfl, s⟩⟩).imp fun w ⟨e', ew, s⟩ => ⟨[e'], by rw [ew]; rfl, by simp, e', rfl, s⟩))) fun x y ex ⟨e', ey, s⟩ => by
        subst ex ey
        exact os_addT (by rw [List.length_take, List.length_singleton]; omega) ⟨e', rfl, s⟩) (d_sl (lo := some ((i + 1 : Nat) : Int)) (hi := none) (d_var h2.env (i := 1) rfl) (o_some (d_op (d_var h2.env (i := 2) rfl) d_i (os_I0 (fun H => .int _) rfl))) o_none (ss_T (by rw [cutG_from]))) fun x y ⟨e', ex, s⟩ ey => by
        subst ex ey
        exact os_addT (by simp only [List.length_append, List.length_take, List.length_drop, List.length_singleton]; omega) (hS _ (spo_at hsx he s))) (fun v w H' e s i => k v H' w e s i)
  refine q_par h1 (dr h1.env rfl d_i (by decide) (by decide)) (Sb := fun w => ∃ o ∈ strangeL, w = .d o) (d_call (a_1 (d_var h1.env (i := 0) rfl)) ⟨rfl, fun o ho => ⟨o, ho, rfl⟩⟩) (fun v u x y H2 e2 sx sy h2 => ?_)
  obtain ⟨st, rfl, hst0, hst6⟩ := sx
  obtain ⟨o, ho, rfl⟩ := sy
  refine q_when h2 (b_and (b_B (d_cb (a_2 (d_var h2.env (i := 1) rfl) d_v) (cs_isiTup rfl))) fun _ => b_test (d_op (d_var h2.env (i := 3) rfl) d_i (os_I0 (fun H => .bl _) rfl))) (fun e H3 e3 h3 => ?_) (fun _ H3 e3 h3 => ?_)
  · have e := e.symm
    rw [Bool.and_eq_true] at e
    obtain ⟨xs, rfl⟩ := isTup_shape e.1
    have hst5 : st < 5 := of_decide_eq_true e.2
    have hwx : wtAll xs ≤ 20000 := by have h6 : 6 + wtAll xs ≤ 20000 := hwt; omega
    have hxl : xs.length ≤ 20000 := Nat.le_trans (wtAll_len xs) hwx
    have hsx : stAll xs = true := hst
    refine q_asg h3 (dr h3.env rfl (d_op (S := fun w => w = .d (.int ((xs.length + 1 : Nat) : Int))) (d_cb (a_1 (d_var h3.env (i := 1) rfl)) (cs_lenT rfl)) d_i (os_I0 (fun H => .int _) rfl)) (by omega) (by omega)) (fun v w H4 e4 sw iw h4 => ?_)
    obtain ⟨i, rfl, hi0, hi1⟩ := sw
    obtain ⟨i, rfl⟩ := Int.eq_ofNat_of_zero_le hi0
    have hi : i ≤ xs.length := by omega
    have tk : ∀ {σ : L2.St} {V0 : Hp} {ρ : List (Option W)}, Env σ V0 ρ → ρ[1]? = some (some (.d (.tuple xs))) → ρ[2]? = some (some (.d (.int (i : Nat)))) → Ed (tSl (rSlB K) (tVar 1) tNoPart (tPart (tVar 2))) σ V0 (.d (.tuple (xs.take i))) := fun {σ V0 ρ} he h1 h2 => d_sl (lo := none) (hi := some (i : Nat)) (d_var he h1) o_none (o_some (d_var he h2)) (ss_T (by rw [cutG_to]))
    have dp0 : ∀ {σ : L2.St} {V0 : Hp} {ρ : List (Option W)}, Env σ V0 ρ → ρ[1]? = some (some (.d (.tuple xs))) → ρ[2]? = some (some (.d (.int (i : Nat)))) → Ed (tSl (rSlB K) (tVar 1) (tPart (tVar 2)) tNoPart) σ V0 (.d (.tuple (xs.drop i))) := fun {σ V0 ρ} he h1 h2 => d_sl (lo := some (i : Nat)) (hi := none) (d_var he h1) (o_some (d_var he h2)) o_none (ss_T (by rw [cutG_from]))
    have dpc : ∀ {σ : L2.St} {V0 : Hp} {ρ : List (Option W)} {c : Nat}, Env σ V0 ρ → ρ[1]? = some (some (.d (.tuple xs))) → ρ[2]? = some (some (.d (.int (i : Nat)))) → Ed (tSl (rSlB K) (tVar 1) (tPart (tOp (rI0 fun i j => .int (i + j)) (tVar 2) (tC (.int (c : Nat))))) tNoPart) σ V0 (.d (.tuple (xs.drop (i + c)))) := fun {σ V0 ρ c} he h1 h2 => d_sl (lo := some ((i + c : Nat) : Int)) (hi := none) (d_var he h1) (o_some (d_op (d_var he h2) d_i (os_I0 (fun H => .int _) rfl))) o_none (ss_T (by rw [cutG_from]))
    have mdc : ∀ {σ : L2.St} {V0 : Hp} {ρ : List (Option W)} {c : Nat}, Env σ V0 ρ → ρ[1]? = some (some (.d (.tuple xs))) → ρ[2]? = some (some (.d (.int (i : Nat)))) → Ed (tSl (rSlB K) (tVar 1) (tPart (tVar 2)) (tPart (tOp (rI0 fun i j => .int (i + j)) (tVar 2) (tC (.int (c : Nat)))))) σ V0 (.d (.tuple ((xs.drop i).take c))) := fun {σ V0 ρ c} he h1 h2 => d_sl (lo := some (i : Nat)) (hi := some ((i + c : Nat) : Int)) (d_var he h1) (o_some (d_var he h2)) (o_some (d_op (d_var he h2) d_i (os_I0 (fun H => .int _) rfl))) (ss_T (by rw [cutG_midA (by omega) hi, Nat.add_sub_cancel_left]))
    have l1 : (xs.take i).length ≤ 20000 := by rw [List.length_take]; omega
    have l2 : ∀ c, (xs.drop c).length ≤ 20000 := fun c => by rw [List.length_drop]; omega
    have l3 : ∀ c, ((xs.drop i).take c).length ≤ 20000 := fun c => by rw [List.length_take, List.length_drop]; omega
    refine q_newA (ds := [.tuple (xs.take i ++ xs.drop (i + 1)), .tuple (xs.take i ++ (xs.drop i).take 1 ++ xs.drop i), .tuple (xs.take i ++ [o] ++ xs.drop i)]) h4 (a_3 (d_op (tk h4.env rfl rfl) (dpc (c := 1) h4.env rfl rfl) (os_addT (by have := l2 (i + 1); omega) rfl)) (d_op (S := fun w => w = .d (.tuple (xs.take i ++ (xs.drop i).take 1 ++ xs.drop i))) (d_op (S := fun w => w = .d (.tuple (xs.take i ++ (xs.drop i).take 1))) (tk h4.env rfl rfl) (mdc (c := 1) h4.env rfl rfl) (os_addT (by have := l3 1; omega) rfl)) (dp0 h4.env rfl rfl) (os_addT (by rw [List.length_append]; have := l3 1; have := l2 i; omega) rfl)) (d_op (S := fun w => w = .d (.tuple (xs.take i ++ [o] ++ xs.drop i))) (d_op (S := fun w => w = .d (.tuple (xs.take i ++ [o]))) (tk h4.env rfl rfl) (d_tup (ds := [o]) (a_1 (d_var h4.env (i := 4) rfl)) (by simp)) (os_addT (by rw [List.length_singleton]; omega) rfl)) (dp0 h4.env rfl rfl) (os_addT (by rw [List.length_append, List.length_singleton]; have := l2 i; omega) rfl))) (by simp) (fun l H5 hl5 nl5 ys e5 h5 m5 => ?_)
    refine q_app h5 m5 rfl (S := fun w => w = .d (.tuple (xs.take i ++ ((xs.drop i).take 2).reverse ++ xs.drop (i + 2)))) ((d_op (S := fun w => w = .d (.tuple (xs.take i ++ ((xs.drop i).take 2).reverse ++ xs.drop (i + 2)))) (d_op (S := fun w => w = .d (.tuple (xs.take i ++ ((xs.drop i).take 2).reverse))) (tk h5.env rfl rfl) (d_back (mdc (c := 2) h5.env rfl rfl) (d_un d_i (us_neg rfl)) (by have := l3 2; omega)) (os_addT (by rw [List.length_reverse]; have := l3 2; omega) rfl)) (dpc (c := 2) h5.env rfl rfl) (os_addT (by rw [List.length_append, List.length_reverse]; have := l3 2; have := l2 (i + 2); omega) rfl)).imp fun w ew => ⟨_, ew, ew⟩) (by simp) (fun dd H6 zs e6 sd h6 m6 => ?_)
    cases sd
    have h7 := h6.show_ (i := 5) m6 nl5 rfl
    have h4s := spo_four hsx hi ho
    refine s_ret h7 (S := T) (d_if (b_test (d_op (d_var h7.env (i := 3) rfl) d_i (os_eqD rfl rfl rfl))) (fun _ => d_cb (a_1 (d_var h7.env (i := 1) rfl)) (cs_listT (hS _ (spo_list hsx)))) (fun q => ix_any (ds := _) (d_var h7.env (i := 5) rfl) (e_ed (d_var h7.env (i := 3) rfl) ⟨hst0, ?_⟩) fun d hd => hS d (h4s d hd))) (fun v w H' e s i => k v H' w e s i)
    rw [eqv_int] at q
    have : st ≠ 4 := of_decide_eq_false q
    show st < 4
    omega
  refine q_when h3 (b_and (b_B (d_cb (a_2 (d_var h3.env (i := 1) rfl) d_v) (cs_isiInt rfl))) (b := false) fun z => by rw [st_int hst] at z; cases z) (fun e H4 e4 h4 => by rw [Bool.and_false] at e; cases e) (fun _ H4 e4 h4 => ?_)
  exact s_ret h4 (S := T) (d_to (d_var h4.env (i := 4) rfl) (hS _ (spo_odd ho))) (fun v w H' e s i => k v H' w e s i)
theorem cl_law_spoilt (D : Def K mg "_law_spoilt" s_law_spoilt) (G : Gm mg) (C_law_draw : Cl P w K mg base CX0 1 "_law_draw" [] (SpF F_law_draw)) (C_law_strange : Cl P w K mg base CX0 3 "_law_strange" [] (SpF F_law_strange)) : ∀ n, Cl P w K mg base CX0 (3 + n) "_law_spoilt" [] (SpF (F_law_spoilt n))
  | 0 => D.ok (k := 2) sc_law_spoilt (fun _ _ _ _ _ _ us hl => match us, hl with | [_, _], _ => rfl) (fun ws S ⟨_, e, _⟩ => by rw [e]; rfl) fun f cdv A outer s H M vs ws T Q E hr hF => by
    obtain ⟨_, _, _, h, _⟩ := hF
    cases h
  | n + 1 => cl_law_spoilt_step D G C_law_draw C_law_strange (cl_law_spoilt D G C_law_draw C_law_strange n)
end
end Kl
set_option Elab.async false
set_option linter.all false
set_option maxRecDepth 100000
set_option maxHeartbeats 8000000
/-! L20: _law_tables. -/
namespace Kl
open PySem PySem.Spec PyProof.Rows L2
section
variable {K : Frg} {σ : L2.St} {H : Hp} {ρ : List (Option W)} {N : List Addr} {B : Hp} {ta tb : TE} {tz : TS} {D : Ends} {xs ys : List PyData}
/-- y = a + b, the list y to be filled on -/
theorem q_newC {i : Nat} (h : At N B σ H ρ) (ha : Ed ta σ (hid N H) (.d (.list xs))) (hb : Ed tb σ (hid N H) (.d (.list ys))) (hl : xs.length + ys.length ≤ 100000)
    (k : ∀ l H' zs, l ∉ N → Ex H H' → At (l :: N) B (σ.set i (some (.ref l))) (upd H' l (.lst zs)) (ρ.set i (some (.v (.ref l)))) → ML (l :: N) B (upd H' l (.lst zs)) l (xs ++ ys) → tz D (σ.set i (some (.ref l))) (upd H' l (.lst zs))) :
    tSeq (tAsg (tOp rCat ta tb) (gName i)) tz D σ H := by
  refine ha N H h.vw _ fun v H1 w e s iv => ?_
  subst s
  refine hb N H1 (h.vw.step e) _ fun u H2 w e2 s iu => ?_
  subst s
  obtain ⟨a, us, rfl, h1, n1, d1⟩ := hid_lst (is_mono (hid_mono e2.w) iv)
  obtain ⟨b, zs, rfl, h2, n2, d2⟩ := hid_lst iu
  have h3 := h.mono (e.trans e2)
  refine ⟨a, b, us, zs, rfl, rfl, h1, h2, Nat.le_trans (by rw [dps_len d1, dps_len d2]; exact hl) (by decide), fun l hn => k l H2 (us ++ zs) (fun m => h3.al l m hn) (e.trans e2) (h3.hide hn i _) ⟨List.mem_cons_self, h3.ex.back hn, us ++ zs, upd_same, ?_⟩⟩
  rw [hid_new hn]
  exact dps_app d1 d2
end
/-- a short text -/
structure OkS (z : Str) : Prop where
  ok : PySem.PyData.strOk z = true
  ln : z.length ≤ 10
theorem OkS.of {z : Str} (h : isNameS z = true) : OkS z := ⟨name_ok h, Nat.le_trans (name_len h) (by decide)⟩
theorem OkS.st {z : Str} (h : OkS z) : stB (.str z) = true := by
  show (PySem.PyData.strOk z && decide (z.length ≤ 100)) = true
  rw [h.ok, decide_eq_true (Nat.le_trans h.ln (by decide))]; rfl
theorem OkS.wt {z : Str} (h : OkS z) : Kl.wt (.str z) ≤ 106 := by
  show 10 * z.length + 6 ≤ 106
  have := h.ln; omega
/-- a value that may be asked as a table -/
structure TabOk (d : PyData) : Prop where
  ni : Nice d
  ln : ∀ xs, d = .tuple xs → xs.length ≤ 100
theorem eS_st {p : Str × Str} (h : OkS p.1 ∧ OkS p.2) : stB (eS p) = true := by
  show (stB (.str p.1) && (stB (.str p.2) && true)) = true
  rw [h.1.st, h.2.st]; rfl
theorem eS_wt {p : Str × Str} (h : OkS p.1 ∧ OkS p.2) : wt (eS p) ≤ 222 := by
  have h1 := h.1.wt; have h2 := h.2.wt
  show 6 + (wt (.str p.1) + 2 + (wt (.str p.2) + 2 + 0)) ≤ 222
  omega
theorem stAll_map {α : Type} {f : α → PyData} : ∀ {l : List α}, (∀ x ∈ l, stB (f x) = true) → stAll (l.map f) = true
  | [], _ => rfl
  | x :: l, h => by
    show (stB (f x) && stAll (l.map f)) = true
    rw [h x List.mem_cons_self, stAll_map fun y hy => h y (List.mem_cons_of_mem _ hy)]; rfl
section
variable {l : List (Str × Str)} (h : ∀ p ∈ l, OkS p.1 ∧ OkS p.2)
include h
theorem pairs_st : stB (.tuple (l.map eS)) = true := stAll_map fun p hp => eS_st (h p hp)
theorem pairs_wt : wtAll (l.map eS) ≤ l.length * 224 := wtAll_map (c := 222) fun p hp => eS_wt (h p hp)
theorem pairs_dp : PyData.depthAll (l.map eS) ≤ 1 := depthAll_of fun d hd => by
  obtain ⟨p, hp, rfl⟩ := List.mem_map.mp hd
  show max 0 (max 0 0) + 1 ≤ 1
  decide
theorem tok_pairs (hl : l.length ≤ 100) : TabOk (.tuple (l.map eS)) := by
  have h1 := pairs_wt h; have h2 := pairs_dp h
  exact ⟨⟨st_nice _ (pairs_st h), by show 6 + wtAll (l.map eS) ≤ 400000; omega, by show PyData.depthAll (l.map eS) + 1 ≤ 30; omega⟩, fun xs e => by cases e; rw [List.length_map]; exact hl⟩
theorem tok_plist (hl : l.length ≤ 100) : TabOk (.list (l.map eS)) := by
  have h1 := pairs_wt h; have h2 := pairs_dp h
  exact ⟨⟨st_niceAll _ (show stAll (l.map eS) = true from pairs_st h), by show 6 + wtAll (l.map eS) ≤ 400000; omega, by show PyData.depthAll (l.map eS) + 1 ≤ 30; omega⟩, fun xs e => by cases e⟩
end
theorem tok_nice {d : PyData} (h1 : niceB d = true) (h2 : wt d ≤ 2000) (h3 : d.depth ≤ 30) (h4 : lenT d ≤ 100) : TabOk d := ⟨⟨h1, by omega, h3⟩, fun xs e => by subst e; exact h4⟩
theorem tok_two {a b : Str} (ha : OkS a) (hb : OkS b) : TabOk (eS (a, b)) := tok_nice (st_nice _ (eS_st ⟨ha, hb⟩)) (Nat.le_trans (eS_wt (p := (a, b)) ⟨ha, hb⟩) (by decide)) (by show max 0 (max 0 0) + 1 ≤ 30; decide) (by show 2 ≤ 100; decide)
theorem tok_three {a b : Str} (ha : OkS a) (hb : OkS b) : TabOk (.tuple [.tuple [.str a, .str b, .int 1]]) := by
  have h1 := ha.wt; have h2 := hb.wt
  refine tok_nice ?_ ?_ (by show max (max 0 (max 0 (max 0 0)) + 1) 0 + 1 ≤ 30; decide) (by show 1 ≤ 100; decide)
  · show ((niceB (.str a) && (niceB (.str b) && true)) && true) = true
    rw [st_nice _ ha.st, st_nice _ hb.st]; rfl
  · show 6 + (6 + (wt (.str a) + 2 + (wt (.str b) + 2 + (90 + 2 + 0))) + 2 + 0) ≤ 2000
    omega
theorem tok_lst {a b : Str} (ha : OkS a) (hb : OkS b) : TabOk (.tuple [.list [.str a, .str b]]) := by
  have h1 := ha.wt; have h2 := hb.wt
  refine tok_nice ?_ ?_ (by show max (max 0 (max 0 0) + 1) 0 + 1 ≤ 30; decide) (by show 1 ≤ 100; decide)
  · show ((niceB (.str a) && (niceB (.str b) && true)) && true) = true
    rw [st_nice _ ha.st, st_nice _ hb.st]; rfl
  · show 6 + (6 + (wt (.str a) + 2 + (wt (.str b) + 2 + 0)) + 2 + 0) ≤ 2000
    omega
theorem tok_spo {l : List (Str × Str)} {d : PyData} (h : ∀ p ∈ l, OkS p.1 ∧ OkS p.2) (hl : l.length ≤ 60) (s : Spo (.tuple (l.map eS)) d) : TabOk d := by
  have h1 := pairs_wt h; have h2 := pairs_dp h
  have s2 := s.wt; have s3 := s.dp; have s4 := s.ln
  have s2 : wt d ≤ 2 * (6 + wtAll (l.map eS)) + 1000 := s2
  have s3 : d.depth ≤ PyData.depthAll (l.map eS) + 1 + 3 := s3
  have s4 : lenT d ≤ (l.map eS).length + 2 := s4
  rw [List.length_map] at s4
  exact ⟨⟨s.ni, by omega, by omega⟩, fun xs e => by subst e; have s4 : xs.length ≤ l.length + 2 := s4; omega⟩
theorem cut_last {α : Type} {xs : List α} : (cutG xs (some (-1)) none).length ≤ 1 ∧ ∀ x ∈ cutG xs (some (-1)) none, x ∈ xs := by
  cases xs with
  | nil => exact ⟨Nat.zero_le _, fun x hx => hx⟩
  | cons a l =>
    have e : cutG (a :: l) (some (-1)) none = (a :: l).drop ((a :: l).length - 1) := cutG_end (k := 1) (by decide) (by simp)
    rw [e]
    exact ⟨by rw [List.length_drop]; omega, fun x hx => List.mem_of_mem_drop hx⟩
theorem at_back {α : Type} {xs : List α} {k : Nat} (hk : k < xs.length) : ∃ x ∈ xs, atI xs ((k : Int) - 1) = some x := by
  cases k with
  | zero =>
    have hne : xs ≠ [] := fun e => by rw [e] at hk; cases hk
    have e := List.dropLast_concat_getLast hne
    refine ⟨xs.getLast hne, List.getLast_mem hne, ?_⟩
    have h := atI_last xs.dropLast (xs.getLast hne)
    rw [e] at h
    exact h
  | succ k =>
    refine ⟨xs[k], List.getElem_mem _, ?_⟩
    rw [show (((k + 1 : Nat) : Int) - 1) = (k : Int) by omega]
    exact atI_nat (List.getElem?_eq_getElem (by omega))
section
variable {P : Program} {w : World} {K : Frg} {mg : Str → Option Value} {base : Heap} {C : Addr}
abbrev s_law_tables : Stmt := topS 66
abbrev n_law_tables : List Str := ["_law_feed_here", "_law_store_here", "_law_spare", "_law_good", "_law_every", "_law_found", "_law_tag", "_law_k", "_law_lap"]
theorem sc_law_tables : FnScope n_law_tables ["_law_feed_here", "_law_store_here", "_law_spare"] (defScope s_law_tables) := ⟨rfl, rfl, rfl, by decide +kernel, rfl, by decide +kernel, by decide +kernel⟩
def F_law_tables : List W → (W → Prop) → Prop := fun ws S => ∃ (t : Shp) (z1 z2 : Str), ws = [.feed, .d (enc t), .d (.list [.str z1, .str z2])] ∧ Fit t ∧ t.ps ≠ [] ∧ isNameS z1 = true ∧ isNameS z2 = true ∧ ∀ ds : List PyData, (∀ d ∈ ds, TabOk d) → ds.length ≤ 100 → S (.d (.list ds))
theorem cl_law_tables (D : Def K mg "_law_tables" s_law_tables) (G : Gm mg) (C_law_table_of : Cl P w K mg base CX0 2 "_law_table_of" [] (SpF F_law_table_of)) (C_law_all_tags : Cl P w K mg base CX0 1 "_law_all_tags" [] (SpF F_law_all_tags)) (C_law_spoilt : Cl P w K mg base CX0 7 "_law_spoilt" [] (SpF (F_law_spoilt 4))) : Cl P w K mg base CX0 8 "_law_tables" [] (SpF F_law_tables) := by
  refine D.ok sc_law_tables (fun _ _ _ _ _ _ us hl => match us, hl with | [_, _, _], _ => rfl) (fun ws S ⟨_, _, _, e, _⟩ => by rw [e]; rfl) ?_
  rintro f cdv A outer s H M vs ws T Q E hr ⟨t, z1, z2, rfl, hf, hne, hz1, hz2, hS⟩ h k
  have nd := sc_law_tables.nd
  refine ⟨_, (pss_cons (ps_asg (g := gTup K 2 (gCons (gName 3) (gCons (gName 4) gNil))) (pe_tupB (pa_cons (pe_cl C_law_table_of (hr.mono (by decide)) (by rfl) pass0 (pa_cons (pv 0) (pa_cons (pv 1) (pa_cons (pv 2) pa_nil)))) (pa_cons (pe_cl C_law_all_tags (hr.mono (by decide)) (by rfl) pass0 (pa_cons (pv 1) pa_nil)) pa_nil))) (pg_tup rfl (pgs_cons (pg_name (i := 3) nd rfl (.inr rfl)) (pgs_cons (pg_name (i := 4) nd rfl (.inr rfl)) pgs_nil))))
      (pss_cons (ps_set (i := 5) nd rfl (.inl rfl) (pe_lst (pa_cons (pv 3) (pa_cons (pe_back (pv 3) (pe_un un_neg pe_int)) (pa_cons (pe_op op_catB (pv 3) (pe_slice (r := rSlB K) sl_tupB (pv 3) (po_some (pe_un un_neg pe_int)) po_none)) (pa_cons (pe_callTy (r := rListOf K) call_list_of (by rfl) G.list_ (by decide +kernel) (pa_cons (pv 3) pa_nil)) (pa_cons (pe_tupB pa_nil) (pa_cons pe_non (pa_cons (pe_tupB (pa_cons (pe_tupB (pa_cons (pe_ix (r := rIxL K) ix_list (pv 4) pe_int (fun _ _ => rfl)) (pa_cons (pe_ix (r := rIxL K) ix_list (pv 4) (pe_un un_neg pe_int) (fun _ _ => rfl)) pa_nil))) pa_nil)) (pa_cons (pe_tupB (pa_cons (pe_tupB (pa_cons (pe_ix (r := rIxL K) ix_list (pv 4) pe_int (fun _ _ => rfl)) (pa_cons pe_str pa_nil))) pa_nil)) pa_nil))))))))))
      (pss_cons (ps_set (i := 5) nd rfl (.inl rfl) (pe_op op_cat (pv 5) (pe_lst (pa_cons (pe_tupB (pa_cons (pe_tupB (pa_cons (pe_ix (r := rIxL K) ix_list (pv 4) pe_int (fun _ _ => rfl)) (pa_cons (pe_ix (r := rIxL K) ix_list (pv 2) pe_int (fun _ _ => rfl)) pa_nil))) (pa_cons (pe_tupB (pa_cons (pe_ix (r := rIxL K) ix_list (pv 4) pe_int (fun _ _ => rfl)) (pa_cons (pe_ix (r := rIxL K) ix_list (pv 2) pe_int (fun _ _ => rfl)) pa_nil))) pa_nil))) (pa_cons (pe_tupB (pa_cons (pe_tupB (pa_cons (pe_ix (r := rIxL K) ix_list (pv 2) pe_int (fun _ _ => rfl)) (pa_cons (pe_ix (r := rIxL K) ix_list (pv 2) pe_int (fun _ _ => rfl)) pa_nil))) pa_nil)) (pa_cons (pe_tupB (pa_cons (pe_tupB (pa_cons (pe_ix (r := rIxL K) ix_list (pv 4) pe_int (fun _ _ => rfl)) (pa_cons (pe_ix (r := rIxL K) ix_list (pv 4) pe_int (fun _ _ => rfl)) pa_nil))) pa_nil)) pa_nil))))))
      (pss_cons (ps_set (i := 5) nd rfl (.inl rfl) (pe_op op_cat (pv 5) (pe_lst (pa_cons (pe_tupB (pa_cons (pe_ix (r := rIxL K) ix_list (pv 4) pe_int (fun _ _ => rfl)) (pa_cons (pe_ix (r := rIxL K) ix_list (pv 2) pe_int (fun _ _ => rfl)) pa_nil))) (pa_cons (pe_tupB (pa_cons (pe_tupB (pa_cons (pe_ix (r := rIxL K) ix_list (pv 4) pe_int (fun _ _ => rfl)) (pa_cons (pe_ix (r := rIxL K) ix_list (pv 2) pe_int (fun _ _ => rfl)) (pa_cons pe_int pa_nil)))) pa_nil)) (pa_cons (pe_tupB (pa_cons (pe_lst (pa_cons (pe_ix (r := rIxL K) ix_list (pv 4) pe_int (fun _ _ => rfl)) (pa_cons (pe_ix (r := rIxL K) ix_list (pv 2) pe_int (fun _ _ => rfl)) pa_nil))) pa_nil)) (pa_cons (pe_tupB (pa_cons (pe_tupB (pa_cons (pe_ix (r := rIxL K) ix_list (pv 4) (pe_un un_neg pe_int) (fun _ _ => rfl)) (pa_cons (pe_ix (r := rIxL K) ix_list (pv 2) pe_int (fun _ _ => rfl)) pa_nil))) pa_nil)) pa_nil)))))))
      (pss_cons (ps_expr (pe_bm PySem.F.plainAttrs_list PySem.F.slot_list_append PySem.F.type_list_append mt_append (pv 5) (pa_cons (pe_callTy (r := rTupB K) call_tupB (by rfl) G.tuple_ (by decide +kernel) (pa_cons (pe_lc (own := [("_law_tag", 6)]) rfl nd (pi_list (pv 4)) (blkOk_by (own := [("_law_tag", 6)]) (by kernel_rfl)) (fun _ _ _ _ _ => (pg_name (i := 6) nd rfl (.inl rfl))) (fun _ _ _ _ _ => pts_nil) (fun _ _ _ _ _ => (pe_tupB (pa_cons (pv 6) (pa_cons (pe_ix (r := rIxL K) ix_list (pv 2) pe_int (fun _ _ => rfl)) pa_nil))))) pa_nil)) pa_nil)))
      (pss_cons (ps_expr (pe_bm PySem.F.plainAttrs_list PySem.F.slot_list_append PySem.F.type_list_append mt_append (pv 5) (pa_cons (pe_callTy (r := rTupB K) call_tupB (by rfl) G.tuple_ (by decide +kernel) (pa_cons (pe_lc (own := [("_law_k", 7)]) rfl nd (pi_range1 (by rfl) G.range_ (pa_cons (pe_callB (r := rLen K) call_len (by rfl) G.len_ PySem.boot_len (pa_cons (pv 4) pa_nil)) pa_nil)) (blkOk_by (own := [("_law_k", 7)]) (by kernel_rfl)) (fun _ _ _ _ _ => (pg_name (i := 7) nd rfl (.inl rfl))) (fun _ _ _ _ _ => pts_nil) (fun _ _ _ _ _ => (pe_tupB (pa_cons (pe_ix (r := rIxL K) ix_list (pv 4) (pv 7) (fun _ _ => rfl)) (pa_cons (pe_ix (r := rIxL K) ix_list (pv 4) (pe_op op_sub (pv 7) pe_int) (fun _ _ => rfl)) pa_nil))))) pa_nil)) pa_nil)))
      (pss_one (ps_ret (pe_op op_cat (pe_op op_cat (pv 5) (pe_lst (pa_cons (pe_cl C_law_table_of (hr.mono (by decide)) (by rfl) pass0 (pa_cons (pv 0) (pa_cons (pv 1) (pa_cons (pv 2) pa_nil)))) pa_nil))) (pe_lc (own := [("_law_lap", 8)]) rfl nd (pi_range1 (by rfl) G.range_ (pa_cons pe_int pa_nil)) (blkOk_by (own := [("_law_lap", 8)]) (by kernel_rfl)) (fun _ _ _ _ _ => (pg_name (i := 8) nd rfl (.inl rfl))) (fun _ _ _ _ _ => pts_nil) (fun _ _ _ _ _ => (pe_cl C_law_spoilt (hr.mono (by decide)) (by rfl) pass0 (pa_cons (pv 0) (pa_cons (pv 3) pa_nil)))))))))))))), ?_⟩
  have k1 := OkS.of hz1
  have k2 := OkS.of hz2
  have htl : t.tags.length ≤ 60 := by rw [sortN_len]; exact hf.ln
  have hto : ∀ z ∈ t.tags, OkS z := fun z hz => OkS.of (hf.ok z (sortN_mem.mp hz))
  have htp : 0 < t.tags.length := by
    rw [sortN_len]
    have := List.length_pos_iff.mpr hne
    simp only [Shp.nm, Shp.pn, List.length_append, List.length_map]
    omega
  obtain ⟨a0, ha0, ea0⟩ : ∃ a ∈ t.tags, atI (t.tags.map PyData.str) 0 = some (.str a) := ⟨t.tags[0], List.getElem_mem _, atI_nat (j := 0) (by rw [List.getElem?_map, List.getElem?_eq_getElem htp]; rfl)⟩
  obtain ⟨aL, haL, eaL⟩ : ∃ a ∈ t.tags, atI (t.tags.map PyData.str) (-1) = some (.str a) := by
    obtain ⟨x, hx, ex⟩ := at_back (xs := t.tags.map PyData.str) (k := 0) (by rw [List.length_map]; exact htp)
    obtain ⟨a, ha, rfl⟩ := List.mem_map.mp hx
    exact ⟨a, ha, ex⟩
  have ko0 := hto a0 ha0
  have koL := hto aL haL
  refine q_asgT (js := [3, 4]) (Su := fun us => ∃ g : List (Str × Str), us = [.d (.tuple (g.map eS)), .d (.list (t.tags.map PyData.str))] ∧ (∀ p ∈ g, OkS p.1 ∧ OkS p.2) ∧ g.length ≤ 60) h (ev_tup (ea_cons (Sa := fun w => ∃ g : List (Str × Str), w = .d (.tuple (g.map eS)) ∧ (∀ p ∈ g, OkS p.1 ∧ OkS p.2) ∧ g.length ≤ 60) (d_call (a_3 (d_var h.env (i := 0) rfl) (d_var h.env (i := 1) rfl) (d_var h.env (i := 2) rfl)) ⟨t, z1, z2, rfl, hf, hz1, hz2, fun g hg hl => ⟨g, rfl, fun p hp => ⟨OkS.of (hg p hp).1, OkS.of (hg p hp).2⟩, hl⟩⟩) fun x ⟨g, ex, hg⟩ => ea1 ((d_call (S := fun w => w = .d (.list (t.tags.map PyData.str))) (a_1 (d_var h.env (i := 1) rfl)) ⟨t, rfl, hf, rfl⟩).imp fun w ew => ⟨[.tuple (g.map eS), .list (t.tags.map PyData.str)], by rw [ex, ew]; rfl, by simp, _, tg_two, g, rfl, hg⟩))) (fun xs us H1 e1 su h1 => ?_)
  obtain ⟨g, rfl, hg, hgl⟩ := su
  have e0 : ∀ {σ : L2.St} {V0 : Hp} {ρ : List (Option W)}, Env σ V0 ρ → ρ[4]? = some (some (.d (.list (t.tags.map PyData.str)))) → Ed (tOp (rIxL K) (tVar 4) (tC (.int 0))) σ V0 (.d (.str a0)) := fun {σ V0 ρ} he h4 => d_op (d_var he h4) d_i (os_ixL ea0 rfl)
  have eL : ∀ {σ : L2.St} {V0 : Hp} {ρ : List (Option W)}, Env σ V0 ρ → ρ[4]? = some (some (.d (.list (t.tags.map PyData.str)))) → Ed (tOp (rIxL K) (tVar 4) (tUn (rU fun i => .int (-i)) (tC (.int 1)))) σ V0 (.d (.str aL)) := fun {σ V0 ρ} he h4 => d_op (d_var he h4) (d_un d_i (us_neg rfl)) (os_ixL eaL rfl)
  have s0 : ∀ {σ : L2.St} {V0 : Hp} {ρ : List (Option W)}, Env σ V0 ρ → ρ[2]? = some (some (.d (.list [.str z1, .str z2]))) → Ed (tOp (rIxL K) (tVar 2) (tC (.int 0))) σ V0 (.d (.str z1)) := fun {σ V0 ρ} he h4 => d_op (d_var he h4) d_i (os_ixL (atI_nat (j := 0) rfl) rfl)
  have s1 : ∀ {σ : L2.St} {V0 : Hp} {ρ : List (Option W)}, Env σ V0 ρ → ρ[2]? = some (some (.d (.list [.str z1, .str z2]))) → Ed (tOp (rIxL K) (tVar 2) (tC (.int 1))) σ V0 (.d (.str z2)) := fun {σ V0 ρ} he h4 => d_op (d_var he h4) d_i (os_ixL (atI_nat (j := 1) rfl) rfl)
  have two : ∀ {σ : L2.St} {V0 : Hp} {ta tb : TE} {a b : Str}, Ed ta σ V0 (.d (.str a)) → Ed tb σ V0 (.d (.str b)) → Ed (tTupB (tCons ta (tCons tb tNil))) σ V0 (.d (eS (a, b))) := fun {σ V0 ta tb a b} h1 h2 => d_tup (ds := [.str a, .str b]) (a_2 h1 h2) (by simp)
  have one : ∀ {σ : L2.St} {V0 : Hp} {ta : TE} {d : PyData}, Ed ta σ V0 (.d d) → Ed (tTupB (tCons ta tNil)) σ V0 (.d (.tuple [d])) := fun {σ V0 ta d} h1 => d_tup (ds := [d]) (a_1 h1) (by simp)
  have hA : OkS ("A" : Str) := ⟨by decide +kernel, by decide +kernel⟩
  obtain ⟨hc1, hc2⟩ := cut_last (xs := g)
  let L1 : List PyData := [.tuple (g.map eS), .tuple (g.map eS).reverse, .tuple (g.map eS ++ cutG (g.map eS) (some (-1)) none), .list (g.map eS), .tuple [], .none, .tuple [eS (a0, aL)], .tuple [eS (a0, "A")]]
  have o1 : ∀ d ∈ L1, TabOk d := fun d hd => by
    have hd : d ∈ ([.tuple (g.map eS), .tuple (g.map eS).reverse, .tuple (g.map eS ++ cutG (g.map eS) (some (-1)) none), .list (g.map eS), .tuple [], .none, .tuple [eS (a0, aL)], .tuple [eS (a0, "A")]] : List PyData) := hd
    simp only [List.mem_cons, List.not_mem_nil, or_false] at hd
    rcases hd with e | e | e | e | e | e | e | e <;> subst e
    · exact tok_pairs hg (by omega)
    · rw [← List.map_reverse]
      exact tok_pairs (l := g.reverse) (fun p hp => hg p (List.mem_reverse.mp hp)) (by rw [List.length_reverse]; omega)
    · rw [cutG_map, ← List.map_append]
      exact tok_pairs (l := g ++ cutG g (some (-1)) none) (fun p hp => (List.mem_append.mp hp).elim (hg p) fun hp => hg p (hc2 p hp)) (by rw [List.length_append]; omega)
    · exact tok_plist hg (by omega)
    · exact tok_nice rfl (by decide) (by decide) (by decide)
    · exact tok_nice rfl (by decide) (by decide) (by decide)
    · exact tok_pairs (l := [(a0, aL)]) (fun p hp => by rw [List.mem_singleton.mp hp]; exact ⟨ko0, koL⟩) (by simp)
    · exact tok_pairs (l := [(a0, ("A" : Str))]) (fun p hp => by rw [List.mem_singleton.mp hp]; exact ⟨ko0, hA⟩) (by simp)
  let L2 : List PyData := [.tuple [eS (a0, z1), eS (a0, z2)], .tuple [eS (z1, z2)], .tuple [eS (a0, a0)]]
  have o2 : ∀ d ∈ L2, TabOk d := fun d hd => by
    have hd : d ∈ ([.tuple [eS (a0, z1), eS (a0, z2)], .tuple [eS (z1, z2)], .tuple [eS (a0, a0)]] : List PyData) := hd
    simp only [List.mem_cons, List.not_mem_nil, or_false] at hd
    rcases hd with e | e | e <;> subst e
    · refine tok_pairs (l := [(a0, z1), (a0, z2)]) (fun p hp => ?_) (by simp)
      simp only [List.mem_cons, List.not_mem_nil, or_false] at hp
      rcases hp with e | e <;> subst e
      · exact ⟨ko0, k1⟩
      · exact ⟨ko0, k2⟩
    · exact tok_pairs (l := [(z1, z2)]) (fun p hp => by rw [List.mem_singleton.mp hp]; exact ⟨k1, k2⟩) (by simp)
    · exact tok_pairs (l := [(a0, a0)]) (fun p hp => by rw [List.mem_singleton.mp hp]; exact ⟨ko0, ko0⟩) (by simp)
  let L3 : List PyData := [eS (a0, z1), .tuple [.tuple [.str a0, .str z1, .int 1]], .tuple [.list [.str a0, .str z1]], .tuple [eS (aL, z2)]]
  have o3 : ∀ d ∈ L3, TabOk d := fun d hd => by
    have hd : d ∈ ([eS (a0, z1), .tuple [.tuple [.str a0, .str z1, .int 1]], .tuple [.list [.str a0, .str z1]], .tuple [eS (aL, z2)]] : List PyData) := hd
    simp only [List.mem_cons, List.not_mem_nil, or_false] at hd
    rcases hd with e | e | e | e <;> subst e
    · exact tok_two ko0 k1
    · exact tok_three ko0 k1
    · exact tok_lst ko0 k1
    · exact tok_pairs (l := [(aL, z2)]) (fun p hp => by rw [List.mem_singleton.mp hp]; exact ⟨koL, k2⟩) (by simp)
  refine q_asg h1 (S := fun w => w = .d (.list L1)) (d_lst (ds := L1) (a_cons (d_var h1.env (i := 3) rfl) (a_cons (d_back (d_var h1.env (i := 3) rfl) (d_un d_i (us_neg rfl)) (by rw [List.length_map]; omega)) (a_cons (d_op (d_var h1.env (i := 3) rfl) (d_sl (S := fun w => w = .d (.tuple (cutG (g.map eS) (some (-1)) none))) (lo := some (-1)) (hi := none) (d_var h1.env (i := 3) rfl) (o_some (d_un d_i (us_neg rfl))) o_none (ss_T rfl)) (os_addT (by rw [cutG_map, List.length_map, List.length_map]; omega) rfl)) (a_cons (d_cb (a_1 (d_var h1.env (i := 3) rfl)) (cs_listT rfl)) (a_cons (d_tup (ds := []) a_nil (by simp)) (a_cons d_n (a_cons (one (two (e0 h1.env rfl) (eL h1.env rfl))) (a_cons (one (two (e0 h1.env rfl) d_s)) a_nil)))))))) (by show 8 ≤ 100000; decide)) (fun v w H2 e2 ew iw h2 => ?_)
  subst ew
  refine q_asg h2 (S := fun w => w = .d (.list (L1 ++ L2))) (d_op (d_var h2.env (i := 5) rfl) (d_lst (ds := L2) (a_3 (d_tup (ds := [eS (a0, z1), eS (a0, z2)]) (a_2 (two (e0 h2.env rfl) (s0 h2.env rfl)) (two (e0 h2.env rfl) (s1 h2.env rfl))) (by simp)) (one (two (s0 h2.env rfl) (s1 h2.env rfl))) (one (two (e0 h2.env rfl) (e0 h2.env rfl)))) (by show 3 ≤ 100000; decide)) (os_addL (by show 8 + 3 ≤ 100000; decide) rfl)) (fun v w H3 e3 ew iw h3 => ?_)
  subst ew
  refine q_newC (xs := L1 ++ L2) (ys := L3) h3 (d_var h3.env (i := 5) rfl) (d_lst (ds := L3) (a_cons (two (e0 h3.env rfl) (s0 h3.env rfl)) (a_3 (one (d_tup (ds := [.str a0, .str z1, .int 1]) (a_3 (e0 h3.env rfl) (s0 h3.env rfl) d_i) (by simp))) (one (d_lst (ds := [.str a0, .str z1]) (a_2 (e0 h3.env rfl) (s0 h3.env rfl)) (by simp))) (one (two (eL h3.env rfl) (s1 h3.env rfl))))) (by show 4 ≤ 100000; decide)) (by show 11 + 4 ≤ 100000; decide) (fun l H4 zs nl e4 h4 m4 => ?_)
  refine q_app h4 m4 rfl (S := fun w => w = .d (.tuple ((t.tags.map fun z => (z, z1)).map eS))) ((d_cb (S := fun w => w = .d (.tuple ((t.tags.map fun z => (z, z1)).map eS))) (a_1 (d_map (l := t.tags) (enc := fun z => .d (.str z)) (f := fun z => eS (z, z1)) h4.env (i_listM (f := PyData.str) (d_var h4.env (i := 4) rfl)) (js := [6]) (by decide) (by omega) fun z hz => ⟨_, tg_name, fun σ' H' e' h' => two (d_var h' (i := 6) rfl) (s0 h' rfl)⟩)) (cs_tupL (by rw [List.map_map]; rfl))).imp fun w ew => ⟨_, ew, ew⟩) (by show 15 < 60000; decide) (fun dd H5 ys e5 sd h5 m5 => ?_)
  cases sd
  refine q_app h5 m5 rfl (S := fun w => ∃ q : List (Str × Str), w = .d (.tuple (q.map eS)) ∧ q.length = t.tags.length ∧ ∀ p ∈ q, OkS p.1 ∧ OkS p.2) ((ev_cb (S := fun w => ∃ q : List (Str × Str), w = .d (.tuple (q.map eS)) ∧ q.length = t.tags.length ∧ ∀ p ∈ q, OkS p.1 ∧ OkS p.2) (T := fun xs => ∃ q : List (Str × Str), xs = [.d (.list (q.map eS))] ∧ q.length = t.tags.length ∧ ∀ p ∈ q, OkS p.1 ∧ OkS p.2) (ea1 ((e_rmap (l := List.range t.tags.length) (enc := fun i => W.d (.int (0 + (i : Nat)))) (f := eS) (fun _ p => OkS p.1 ∧ OkS p.2) h5.env ?_ (js := [7]) (by decide) (by rw [List.length_range]; omega) fun i hi => ⟨_, tg_name, fun σ' H' e' h' => ?_⟩).imp fun w ⟨q, ew, hl, hR⟩ => ⟨q, by rw [ew], by rw [hl, List.length_range], fun p hp => by
      obtain ⟨i, hi⟩ := List.getElem?_of_mem hp
      have hil : i < t.tags.length := by have := idx_lt hi; rw [hl, List.length_range] at this; exact this
      exact hR i i p (List.getElem?_range hil) hi⟩)) fun xs ⟨q, ex, hq⟩ => by
      subst ex
      exact cs_tupL ⟨q, rfl, hq⟩).imp fun w ⟨q, ew, hq⟩ => ⟨_, ew, q, ew, hq⟩) (by show 16 < 60000; decide) (fun dd H6 ys6 e6 sd h6 m6 => ?_)
  · have hi := i_range (j := (t.tags.length : Nat)) (σ := _) (te := tCB (rLen K) (tCons (tVar 4) tNil)) (d_is (d_cb (a_1 (d_var h5.env (i := 4) rfl)) (cs_lenL rfl)) (by rw [List.length_map])) (by omega) (by omega)
    rw [Int.toNat_natCast] at hi
    exact hi
  · have hit := List.mem_range.mp hi
    obtain ⟨x, hx, ex⟩ := at_back (xs := t.tags.map PyData.str) (k := i) (by rw [List.length_map]; exact hit)
    obtain ⟨b, hb, rfl⟩ := List.mem_map.mp hx
    have e7 : (W.d (.int (0 + (i : Nat))) : W) = .d (.int (i : Nat)) := by rw [Int.zero_add]
    have hv : Ed (tVar 7) σ' H' (.d (.int (i : Nat))) := d_is (d_var h' (i := 7) rfl) e7
    exact (two (d_op (d_var h' (i := 4) rfl) hv (os_ixL (atI_nat (v := .str t.tags[i]) (by rw [List.getElem?_map, List.getElem?_eq_getElem hit]; rfl)) rfl)) (d_op (d_var h' (i := 4) rfl) (d_op (S := fun w => w = .d (.int ((i : Int) - 1))) hv d_i (os_I0 (fun H => .int _) rfl)) (os_ixL ex rfl))).imp fun w ew => ⟨(t.tags[i], b), ew, hto _ (List.getElem_mem _), hto b hb⟩
  obtain ⟨q, eq, hql, hq⟩ := sd
  cases eq
  have h7 := h6.show_ (i := 5) m6 nl rfl
  let L4 : List PyData := L1 ++ L2 ++ L3 ++ [.tuple ((t.tags.map fun z => (z, z1)).map eS)] ++ [.tuple (q.map eS)]
  have o4 : ∀ d ∈ L4, TabOk d := fun d hd => by
    rcases List.mem_append.mp hd with hd | hd
    · rcases List.mem_append.mp hd with hd | hd
      · rcases List.mem_append.mp hd with hd | hd
        · exact (List.mem_append.mp hd).elim (o1 d) (o2 d)
        · exact o3 d hd
      · rw [List.mem_singleton.mp hd]
        refine tok_pairs (fun p hp => ?_) (by rw [List.length_map]; omega)
        obtain ⟨z, hz, rfl⟩ := List.mem_map.mp hp
        exact ⟨hto z hz, k1⟩
    · rw [List.mem_singleton.mp hd]
      exact tok_pairs hq (by omega)
  refine s_ret h7 (S := T) (ev_op (Sa := fun w => ∃ d, w = .d (.list (L4 ++ [d])) ∧ TabOk d) (Sb := fun w => ∃ ds : List PyData, w = .d (.list (ds.map id)) ∧ ds.length = 4 ∧ ∀ d ∈ ds, TabOk d) (ev_op (Sa := fun w => w = .d (.list L4)) (Sb := fun w => ∃ d, w = .d (.list [d]) ∧ TabOk d) (d_var h7.env (i := 5) rfl) (ev_lst (ea1 ((d_call (S := fun w => ∃ d, w = .d d ∧ TabOk d) (a_3 (d_var h7.env (i := 0) (x := .feed) rfl) (d_var h7.env (i := 1) (x := .d (enc t)) rfl) (d_var h7.env (i := 2) (x := .d (.list [.str z1, .str z2])) rfl)) ⟨t, z1, z2, rfl, hf, hz1, hz2, fun g hg hl => ⟨_, rfl, tok_pairs (fun p hp => ⟨OkS.of (hg p hp).1, OkS.of (hg p hp).2⟩) (by omega)⟩⟩).imp fun w ⟨d, ew, hd⟩ => ⟨[d], by rw [ew]; rfl, by simp, d, rfl, hd⟩))) fun x y ex ⟨d, ey, hd⟩ => by
      subst ex ey
      exact os_addL (by show 17 + 1 ≤ 100000; decide) ⟨d, rfl, hd⟩) ((e_rmap (l := List.range 4) (enc := fun i => W.d (.int (0 + (i : Nat)))) (f := id) (fun _ d => TabOk d) h7.env (i_range (j := 4) d_i (by decide) (by decide)) (js := [8]) (by decide) (by decide) fun i hi => ⟨_, tg_name, fun σ' H' e' h' => d_call (a_2 (d_var h' (i := 0) (x := .feed) rfl) (d_var h' (i := 3) (x := .d (.tuple (g.map eS))) rfl)) ⟨_, rfl, pairs_st hg, by have := pairs_dp hg; show PyData.depthAll (g.map eS) + 1 < 4; omega, by have := pairs_wt hg; show 6 + wtAll (g.map eS) ≤ 20000; omega, fun d' s => ⟨d', rfl, tok_spo hg hgl s⟩⟩⟩).imp fun w ⟨ds, ew, hl, hR⟩ => ⟨ds, ew, by rw [hl]; rfl, fun d hd => by
      obtain ⟨i, hi⟩ := List.getElem?_of_mem hd
      have hil : i < 4 := by have := idx_lt hi; rw [hl] at this; exact this
      exact hR i i d (List.getElem?_range hil) hi⟩) fun x y ⟨d, ex, hd⟩ ⟨ds, ey, hl, hds⟩ => by
      subst ex ey
      rw [List.map_id]
      refine os_addL (by show 18 + ds.length ≤ 100000; omega) (hS _ (fun x hx => ?_) ?_)
      · rcases List.mem_append.mp hx with hx | hx
        · rcases List.mem_append.mp hx with hx | hx
          · exact o4 x hx
          · rw [List.mem_singleton.mp hx]; exact hd
        · exact hds x hx
      · rw [List.length_append]
        show 18 + ds.length ≤ 100
        omega) (fun v w H' e s i => k v H' w e s i)
end
end Kl
set_option Elab.async false
set_option linter.all false
set_option maxRecDepth 100000
set_option maxHeartbeats 8000000
/-! X3: a caught NotUsable is asked by _law_refusal. -/
namespace Kl
open PySem PySem.Spec PyProof.Rows L2
/-- what the class at C says -/
structure RefC (K : Frg) (C : Addr) : Prop where
  cl : (PySem.W.clsIn K C).isSome = true
  ga : PySem.W.findIn K (.ref C) "__getattribute__" = some (some (.builtin "BaseException.__getattribute__"))
  gg : PySem.W.findIn K (.ref C) "__getattr__" = some none
  sub : PySem.W.subIn K (.ref C) (.type "BaseException") = some true
  ha : PySem.W.findIn K (.ref C) "__class__" = some (some (.builtin "object.__class__"))
  hn : PySem.W.specialIn K (.builtin "object.__class__") "__get__" = some (some (.builtin "getset_descriptor.__get__"))
  ht : PySem.W.takesIn K (.builtin "object.__class__") = some true
  hm : PySem.W.mroIn K C (.type "object") = some true
  hd : PySem.W.hasDictIn K C = true
  wd : PySem.W.findIn K (.ref C) "word" = some none
  at_ : PySem.W.findIn K (.ref C) "at" = some none
/-- no hidden thing is an exception's dict -/
def NoX (N : List Addr) (H : Hp) : Prop := ∀ l ∈ N, ∃ o, H l = some o ∧ ∀ fs, o ≠ .xd fs
theorem NoX.al {N : List Addr} {H : Hp} (h : NoX N H) : ∀ l ∈ N, H l ≠ none := fun l m => by
  obtain ⟨o, e, _⟩ := h l m
  rw [e]; nofun
theorem NoX.out {N : List Addr} {H : Hp} (h : NoX N H) {l : Addr} {fs : List (Str × V)} (e : H l = some (.xd fs)) : l ∉ N := fun m => by
  obtain ⟨o, e2, n⟩ := h l m
  rw [e] at e2
  cases e2
  exact n fs rfl
theorem NoX.mono {N : List Addr} {H H' : Hp} (h : NoX N H) (e : Exw H H') : NoX N H' := fun l m => by
  obtain ⟨o, e1, n⟩ := h l m
  rcases e l o e1 with q | ⟨c, s, x, d, s', x', d', z, q⟩ | ⟨ps, ps', z, q⟩
  · exact ⟨o, q, n⟩
  · exact ⟨_, q, fun fs z => by unfold feedO at z; cases z⟩
  · exact ⟨_, q, fun fs z => by cases z⟩
def rIsX (K : Frg) (C a : Addr) (d : Option Addr) : List V → Hp → VK → Prop := fun xs H Q => ∃ (c : V) (cv : Value) (b : Bool) (dd : Addr) (fs : List (Str × V)), xs = [.ref a, c] ∧ (∀ u, RelV c u → u = cv) ∧ PySem.W.kitOne K (.ref C) cv = some b ∧ d = some dd ∧ H dd = some (.xd fs) ∧ Q (.bl b) H
section
variable {X : Cx} {a C : Addr} {oe : Obj} {d : Option Addr}
theorem inst_at {pins : List (Addr × Obj)} {σ : L2.St} {H : Hp} {s : Shared} {dd : Addr} {fs : List (Str × V)} (I : L2.Inv X pins σ H s) (hp : (a, oe) ∈ X.pn) (hz : Zc (.ref C) d oe) (hf : ∃ vs, oe.data = .fields vs) (ed : d = some dd) (ea : H dd = some (.xd fs)) :
    ∃ od, PySem.W.InstAt s.heap a oe C (some od) ∧ ∀ n v, fs.lookup n = some v → ∃ u, PySem.W.lookIn n od = some (some u) ∧ L2.RelV v u := by
  obtain ⟨ha, _⟩ := I.pin (a, oe) (List.mem_append_left _ hp)
  obtain ⟨vs, hv⟩ := hf
  obtain ⟨mA, hns, hr⟩ := (show ObjOk X.prog X.w H s.heap dd (.xd fs) from I.hok dd _ ea)
  obtain ⟨od, ho, hl⟩ := lookIn_ns hns
  refine ⟨od, ⟨ha, hz.1, by unfold PySem.W.notCls; rw [hv] <;> rfl, by rw [hz.2, ed]; exact ho⟩, fun n v e => ?_⟩
  obtain ⟨u, hu, ru⟩ := RelO.some_of (v := v) (o := mA n) (by rw [← e]; exact hr n)
  exact ⟨u, by rw [hl, hu], ru⟩
theorem call_isH (R : RefC X.K C) (hp : (a, oe) ∈ X.pn) (hz : Zc (.ref C) d oe) (hf : ∃ vs, oe.data = .fields vs) : CallR X (.builtin "isinstance") (rIsX X.K C a d) := by
  intro pins s σ H xs us Q I r h
  obtain ⟨c, cv, b, dd, fs, rfl, hcv, e, ed, ea, q⟩ := h
  cases r with
  | cons rx rr =>
    cases rr with
    | cons rt rr =>
      cases rr
      cases rx
      have ec := hcv _ rt
      subst ec
      obtain ⟨od, J, _⟩ := inst_at I hp hz hf ed ea
      exact PySem.W.kia_one (PySem.W.kitx_exc R.cl R.ga R.gg R.sub R.ha R.hn R.ht R.hm) I.kIn J e (fun z => nomatch z) fun tk => ⟨.bl b, H, I.kept (t' := tk) fun _ _ z => z, rfl, q⟩
theorem pe_xfH {e : Expr} {te : TE} {pos : Pos} {n : Str} (R : RefC X.K C) (hno : PySem.W.findIn X.K (.ref C) n = some none) (hp : (a, oe) ∈ X.pn) (hz : Zc (.ref C) d oe) (hf : ∃ vs, oe.data = .fields vs) (he : PE X e te)
    (hb : attributeBase e n X.env (eval e X.env) = eval e X.env := by rfl) : PE X (.Attribute e n pos) (tXf a (.ref C) d C n te) := by
  refine ⟨fun pins s σ H Q I h => attr_of hb (thn (he.run pins s σ H _ I h) fun u s1 hh => ?_)⟩
  obtain ⟨x, H1, I1, rx, ex, _, dd, fs, v, ed, ea, l, q⟩ := hh
  subst ex
  obtain rfl : u = Value.ref a := rx
  obtain ⟨od, J, hl⟩ := inst_at I1 hp hz hf ed ea
  obtain ⟨u, hu, ru⟩ := hl n v l
  exact HandSPX.exc_get I1.kIn J R.ga R.gg R.sub (PySem.W.findObj_own R.hd hno rfl hu) (handed_of ru) ⟨v, H1, I1.tok _, ru, q⟩
/-- l.count(b), l a list of truth values -/
def rCntB (K : Frg) : V → List V → Hp → VK → Prop := fun x xs H Q => ∃ (p : Addr) (bs : List Bool) (b : Bool), x = .ref p ∧ xs = [.bl b] ∧ SqL K H p (bs.map V.bl) ∧ Q (.int (((bs.map PyData.bool).countP fun y => PyData.eqv y (.bool b) : Nat) : Int)) H
theorem reads_bools {h : Heap} : ∀ {bs : List Bool} {us : List Value}, Vals (bs.map V.bl) us → ∃ as, ReadsAll h us (bs.map PyData.bool) as
  | [], _, r => by cases r; exact ⟨[], .nil⟩
  | b :: bs, _, r => by
    cases r with
    | cons r1 r2 =>
      cases r1
      obtain ⟨as, q⟩ := reads_bools (h := h) r2
      exact ⟨[] ++ as, .cons (.bool b) q⟩
theorem plain_bools : ∀ bs : List Bool, PyData.plainAll (bs.map PyData.bool) = true
  | [] => rfl
  | b :: bs => by
    show (PyData.plain (.bool b) && PyData.plainAll (bs.map PyData.bool)) = true
    rw [plain_bools bs]; rfl
theorem mt_cntB (hu : X.A.units + 64 < cLine) : MtR X "list.count" (rCntB X.K) := by
  intro pins s σ H x xs v us Q I rx rxs h
  obtain ⟨p, bs, b, rfl, rfl, hs, q⟩ := h
  cases rx
  obtain ⟨u, rfl, ru⟩ := vals1 rxs
  cases ru
  obtain ⟨its, rv, pl, hlen⟩ := I.list hs
  obtain ⟨as, ra⟩ := reads_bools (h := s.heap) rv
  have hd : PyData.depth (.bool b) = 0 := rfl
  exact PySem.SeqAt.count_list_data pl.isList (by simpa using ra) (.bool b) (plain_bools bs) rfl (by rw [hd]; omega) ⟨.int _, H, I.kept (t' := s.toks + 1) fun _ _ z => z, ⟨_, rfl⟩, q⟩
end
/-- a caught exception: its place, its own dict -/
def WE (a dd : Addr) (fs : List (Str × V)) : W := .x (fun H v => v = .ref a ∧ H dd = some (.xd fs)) fun H H' v e ⟨h1, h2⟩ => ⟨h1, e.keep h2 (fun _ _ _ _ z => by unfold feedO at z; cases z) (fun _ z => by cases z)⟩
section
variable {K : Frg} {σ : L2.St} {H : Hp} {ρ : List (Option W)} {te : TE} {S : W → Prop} {a dd C : Addr} {fs : List (Str × V)}
theorem d_isX {i : Nat} {c : V} {cv : Value} {b : Bool} (h : Env σ H ρ) (hi : ρ[i]? = some (some (WE a dd fs))) (hc : ∀ u, L2.RelV c u → u = cv) (hk : PySem.W.kitOne K (.ref C) cv = some b) : Ed (tCB (rIsX K C a (some dd)) (tCons (tVar i) (tCons (tC c) tNil))) σ H (.d (.bool b)) :=
  d_cb (a_2 (d_var h hi) d_v) fun N H1 al vs ia Q q => by
    cases ia with
    | cons i1 ia =>
      cases ia with
      | cons i2 ia =>
        cases ia
        obtain ⟨e1, e2⟩ := i1
        have i2 : _ = c := i2
        subst e1 i2
        exact ⟨_, cv, b, dd, fs, rfl, hc, hk, rfl, (hid_get e2).1, q _ H1 _ (Ex.refl _) rfl (.bl b)⟩
theorem d_xf {i : Nat} {n : Str} {v : V} {d : PyData} (h : Env σ H ρ) (hi : ρ[i]? = some (some (WE a dd fs))) (hl : fs.lookup n = some v) (hd : ∀ H, Dq H v d) : Ed (tXf a (.ref C) (some dd) C n (tVar i)) σ H (.d d) := fun N H1 vw Q q => by
  refine (d_var h hi) N H1 vw _ fun x H2 w e s ix => ?_
  subst s
  obtain ⟨e1, e2⟩ := ix
  subst e1
  exact ⟨rfl, rfl, dd, fs, v, rfl, (hid_get e2).1, hl, q v H2 (.d d) e rfl (hd _)⟩
theorem d_cntB {bs : List Bool} {b : Bool} (h : Ed te σ H (.d (.list (bs.map PyData.bool)))) : Ed (tBM K "list" (rCntB K) te (tCons (tC (.bl b)) tNil)) σ H (.d (.int (((bs.map PyData.bool).countP fun y => PyData.eqv y (.bool b) : Nat) : Int))) := fun N H1 vw Q q => by
  refine h N H1 vw _ fun x H2 w e s ix => ?_
  subst s
  obtain ⟨l, us, rfl, h1, n1, d1⟩ := hid_lst ix
  have eu := of_dps_bool d1
  subst eu
  exact ⟨.inl ⟨rfl, _, .inl (.inl h1)⟩, l, bs, b, rfl, rfl, .inl (.inl h1), q _ H2 _ e rfl (.int _)⟩
end
section
variable {CX : CXT} {P : Program} {w : World} {K : Frg} {mg : Str → Option Value} {base : Heap}
/-- a def entered where an exception is handled that stands pinned -/
theorem hot_run {f : Addr} {name qual : Str} {params : Arguments} {body : List Stmt} {scope : Scope} {dV kV doc pm cdv ct oc : Value} {an od : Option Addr} {osl : Array (Option Value)} {N ps : List Str} (lk : K.lookup f = some ⟨oc, od, .func (PySem.W.fnOf name qual params body scope dV kV doc pm an cdv ct), osl⟩)
    (hcd : PySem.W.codeIn K cdv qual = true) (S : FnScope N ps scope) {A : Around} {outer : List PySem.Env} {s : Shared} {H : Hp} {p : Addr × Obj} {args : Args} {us : List Value} {vs : List V} {Q : VK} {E : XK} (hd : A.depth < recursionLimit) (hpin : L2H.PinOk outer H s p) (e0 : Env0 P w K mg base A outer s H)
    (hb : BindsTo s (PySem.W.fnOf name qual params body scope dV kV doc pm an cdv ct) args (ps.zip us)) (r : Vals vs us) (hl : vs.length = ps.length)
    (hbody : ∃ t, PSs (L2H.cxH CX P w K mg base N qual scope f cdv A outer s H E p) body t ∧ t { nx := fun _ H' => Q .non H', rt := Q } (L2.start N vs) H) : codeAny (model P w) A (.call (.ref f) args) (CR CX outer P w H s Q E) s := by
  have kin : K.In s.heap := e0.mod.kin.keeps fun b o e => (e0.bs b o e).1
  have lim : s.heap.NoLimit := e0.mod.nolimit.keeps fun b o e => (e0.bs b o e).1
  refine codeAny_call_function hd (kin _ _ lk) rfl S.co S.gen rfl (PySem.W.codeRec_of kin hcd) (hb _ _ _ _ ?_)
  refine wpAny_newFunctionEnv_cells S.kind (fun y hy => ?_) fun env he s1 x => ?_
  · rcases S.par y.1 (List.of_mem_zip (a := y.1) (b := y.2) hy).1 with q | q
    · exact .inl q
    · exact .inr ⟨q, PySem.W.cellsFrom_some _ _ _ (.inl q)⟩
  · subst he
    refine ⟨lim.keeps x.toInCall.keep, codeAny_func ?_⟩
    obtain ⟨t, ht, hq⟩ := hbody
    have I := L2H.inv_startH (CX := CX) (E := E) S hpin e0 hl r x
    refine wpAny_mono (ht.run [] s1 (L2.start N vs) H _ I hq) (fun fl s' hs => ?_) fun _ _ hs => hs
    cases fl with
    | ret u =>
      obtain ⟨v, σ', H', J, rv, q⟩ := hs
      exact ⟨v, H', J.os, J.bare, J.base, J.hok, rv, q⟩
    | next =>
      obtain ⟨σ', H', J, q⟩ := hs
      exact ⟨.non, H', J.os, J.bare, J.base, J.hok, rfl, q⟩
    | brk => exact hs.elim fun _ z => z.elim fun _ z => z.2.elim
    | cont => exact hs.elim fun _ z => z.elim fun _ z => z.2.elim
abbrev s_law_refusal : Stmt := topS 56
abbrev n_law_refusal : List Str := ["_law_e", "_law_families"]
theorem sc_law_refusal : FnScope n_law_refusal ["_law_e"] (defScope s_law_refusal) := ⟨rfl, rfl, rfl, by decide +kernel, rfl, by decide +kernel, by decide +kernel⟩
/-- the families of errors, as isinstance tells them of NotUsable -/
structure Fams (K : Frg) (mg : Str → Option Value) (C : Addr) : Prop where
  paper : ∃ a, mg "PaperError" = some (.ref a) ∧ PySem.W.kitOne K (.ref C) (.ref a) = some false
  shop : ∃ a, mg "ShopError" = some (.ref a) ∧ PySem.W.kitOne K (.ref C) (.ref a) = some true
  live : ∃ a, mg "LiveError" = some (.ref a) ∧ PySem.W.kitOne K (.ref C) (.ref a) = some false
  text : ∃ a, mg "TextError" = some (.ref a) ∧ PySem.W.kitOne K (.ref C) (.ref a) = some false
  nu : mg "NotUsable" = some (.ref C) ∧ PySem.W.kitOne K (.ref C) (.ref C) = some true
  ve : PySem.W.kitOne K (.ref C) (.type "ValueError") = some true
def xfs (z : Str) : List (Str × V) := [("at", .int (-1)), ("word", .str z)]
theorem ref_body {C : Addr} (G : Gm mg) (R : RefC K C) (F : Fams K mg C) {f : Addr} {cd : Value} {A : Around} {outer : List PySem.Env} {s : Shared} {H : Hp} {E : XK} {a dd : Addr} {oe : Obj} {M : List Addr} {z : Str} {Q : VK} (hu : A.units + 80 < cLine) (hz : Zc (.ref C) (some dd) oe) (hf : ∃ vs, oe.data = .fields vs)
    (hm : NoX M H) (hdd : H dd = some (.xd (xfs z))) (q : ∀ v H', Ex H H' → Is (hid M H') v (.d (.tuple [.str "use", .str z, .int (-1)])) → Q v H') :
    ∃ t, PSs (L2H.cxH CX P w K mg base n_law_refusal "_law_refusal" (defScope s_law_refusal) f cd A outer s H E (a, oe)) (defBody s_law_refusal) t ∧ t { nx := fun _ H' => Q .non H', rt := Q } (L2.start n_law_refusal [.ref a]) H := by
  have nd := sc_law_refusal.nd
  obtain ⟨a1, m1, k1⟩ := F.paper
  obtain ⟨a2, m2, k2⟩ := F.shop
  obtain ⟨a3, m3, k3⟩ := F.live
  obtain ⟨a4, m4, k4⟩ := F.text
  obtain ⟨m5, k5⟩ := F.nu
  have hp : (a, oe) ∈ (L2H.cxH CX P w K mg base n_law_refusal "_law_refusal" (defScope s_law_refusal) f cd A outer s H E (a, oe)).pn := List.mem_cons_self
  have hu2 : (L2H.cxH CX P w K mg base n_law_refusal "_law_refusal" (defScope s_law_refusal) f cd A outer s H E (a, oe)).A.units + 64 < cLine := by show A.units + 3 + 64 < cLine; omega
  have is1 := call_isH (X := L2H.cxH CX P w K mg base n_law_refusal "_law_refusal" (defScope s_law_refusal) f cd A outer s H E (a, oe)) R hp hz hf
  refine ⟨_, (pss_cons (ps_set (i := 1) nd rfl (.inl rfl) (pe_lst (pa_cons (pe_callB is1 (by rfl) G.isinstance_ (by decide +kernel) (pa_cons (pv 0) (pa_cons (p_glob (v := .ref a1) (by rfl) ⟨_, m1, rfl⟩) pa_nil))) (pa_cons (pe_callB is1 (by rfl) G.isinstance_ (by decide +kernel) (pa_cons (pv 0) (pa_cons (p_glob (v := .ref a2) (by rfl) ⟨_, m2, rfl⟩) pa_nil))) (pa_cons (pe_callB is1 (by rfl) G.isinstance_ (by decide +kernel) (pa_cons (pv 0) (pa_cons (p_glob (v := .ref a3) (by rfl) ⟨_, m3, rfl⟩) pa_nil))) pa_nil)))))
      (pss_cons (ps_expr (pe_bm PySem.F.plainAttrs_list PySem.F.slot_list_append PySem.F.type_list_append mt_append (pv 1) (pa_cons (pe_callB is1 (by rfl) G.isinstance_ (by decide +kernel) (pa_cons (pv 0) (pa_cons (p_glob (v := .ref a4) (by rfl) ⟨_, m4, rfl⟩) pa_nil))) pa_nil)))
      (pss_cons (ps_if (PW.pt (pw_or (pt_cmpR (r := rNeD K) (op_neD hu2) (pe_bm PySem.F.plainAttrs_list PySem.F.slot_list_count PySem.F.type_list_count (mt_cntB hu2) (pv 1) (pa_cons pe_bl pa_nil)) pe_int (nomark _)) (pw_or1 (pt_not (pt_val (pe_callB is1 (by rfl) G.isinstance_ (by decide +kernel) (pa_cons (pv 0) (pa_cons (p_ty "ValueError" (by rfl) G.ValueError_ (by decide +kernel)) pa_nil)))))))) (pss_one (ps_ret (pe_tupB (pa_cons pe_str (pa_cons pe_str (pa_cons (pe_un un_neg pe_int) pa_nil)))))) pss_nil)
      (pss_one (ps_ret (pe_ifExp (PW.pt (pw_and (pt_val (pe_callB is1 (by rfl) G.isinstance_ (by decide +kernel) (pa_cons (pv 0) (pa_cons (p_glob (v := .ref C) (by rfl) ⟨_, m5, rfl⟩) pa_nil)))) (pw_and1 (pt_val (pe_ix (r := rIxL K) ix_list (pv 1) pe_int (fun _ _ => rfl)))))) (pe_tupB (pa_cons pe_str (pa_cons (pe_xfH R R.wd hp hz hf (pv 0)) (pa_cons (pe_xfH R R.at_ hp hz hf (pv 0)) pa_nil)))) (pe_tupB (pa_cons pe_str (pa_cons pe_str (pa_cons (pe_un un_neg pe_int) pa_nil)))))))))), ?_⟩
  have h : At M H (L2.start n_law_refusal [.ref a]) H ([WE a dd (xfs z)].map some ++ List.replicate (n_law_refusal.length - [WE a dd (xfs z)].length) none) :=
    ⟨hm.al, Ex.refl _, env_start (.cons ⟨rfl, hid_of hdd (hm.out hdd)⟩ .nil) (by simp)⟩
  refine q_newA (ds := [.bool false, .bool true, .bool false]) h (a_3 (d_isX h.env (i := 0) rfl (fun u e => e) k1) (d_isX h.env (i := 0) rfl (fun u e => e) k2) (d_isX h.env (i := 0) rfl (fun u e => e) k3)) (by decide) (fun l H1 hl nl ys e1 h1 n1 => ?_)
  refine q_app h1 n1 rfl (S := fun w => w = .d (.bool false)) ((d_isX (c := .ref a4) h1.env (i := 0) rfl (fun u e => e) k4).imp fun w ew => ⟨_, ew, ew⟩) (by decide) (fun d H2 zs e2 sd h2 n2 => ?_)
  cases sd
  have h3 := h2.show_ (i := 1) n2 nl rfl
  refine q_when h3 (C := fun x => x = false) (b_is (b_or (b_test (d_op (d_cntB (bs := [false, true, false, false]) (d_var h3.env (i := 1) rfl)) d_i (os_neD rfl rfl rfl))) fun _ => b_not (b_B (d_isX h3.env (i := 0) rfl (fun u e => e) F.ve))) (by decide +kernel)) (fun e => by cases e) (fun _ H4 e4 h4 => ?_)
  refine s_ret h4 (d_if (b := true) (b_is (b_and (b_B (d_isX h4.env (i := 0) rfl (fun u e => e) k5)) fun _ => b_B (d_op (d_var h4.env (i := 1) rfl) d_i (os_ixL (d := .bool true) (atI_nat (j := 1) rfl) rfl))) rfl) (fun _ => d_tup (ds := [.str "use", .str z, .int (-1)]) (a_3 d_s (d_xf (v := .str z) h4.env (i := 0) rfl (by rfl) (fun _ => .str _)) (d_xf (v := .int (-1)) h4.env (i := 0) rfl (by rfl) (fun _ => .int _))) (by simp)) (fun z => by cases z)) (fun v w H' e s i => ?_)
  subst s
  exact q v H' e i
end
end Kl
set_option Elab.async false
set_option linter.all false
set_option maxRecDepth 100000
set_option maxHeartbeats 8000000
/-! X4: a lambda is handed to _law_said: what stays; _law_said. -/
namespace Kl
open PySem PySem.Spec PyProof.Rows L2 LamX
/-- the table at P has grown by a code object, or nothing was made -/
def Grown (P : Addr) (q : Str) (c' : Addr) (H H1 : Hp) : Prop := H1 = H ∨ ∃ ps ps', H P = some (.tbl ps) ∧ H c' = none ∧ H1 = L2.upd (L2.upd H P (.tbl ps')) c' (CodeO c' q)
theorem Grown.exw {P : Addr} {q : Str} {c' : Addr} {H H1 : Hp} (g : Grown P q c' H H1) : Exw H H1 := by
  rcases g with e | ⟨ps, ps', h1, h2, e⟩
  · rw [e]; exact Exw.refl H
  · subst e
    intro b o hb
    have n1 : b ≠ c' := ne_of_none hb h2
    by_cases e : b = P
    · subst e
      rw [h1] at hb
      cases hb
      exact .inr (.inr ⟨ps, ps', rfl, by rw [upd_ne n1, upd_same]⟩)
    · exact .inl (by rw [upd_ne n1, upd_ne e]; exact hb)
theorem Grown.tabs {P : Addr} {q : Str} {c' : Addr} {H H1 : Hp} (g : Grown P q c' H H1) (h : TabS H1 P q) {T : List (Addr × Str)} (hu : ∀ r ∈ T, r.1 = P → r.2 = q) (hT : Tabs T H) : Tabs T H1 := fun r hr => by
  by_cases e : r.1 = P
  · rw [hu r hr e, e]; exact h
  · obtain ⟨ps, h1, h2, h3⟩ := hT r hr
    have keep : ∀ b o, H b = some o → (∀ ps, o ≠ .tbl ps) → H1 b = some o := fun b o hb n => by
      rcases g.exw b o hb with z | ⟨_, _, _, _, _, _, _, z, _⟩ | ⟨ps, _, z, _⟩
      · exact z
      · subst z
        rcases g with e | ⟨ps, ps', a1, a2, e⟩
        · rw [e]; exact hb
        · rw [e, upd_ne (ne_of_none hb a2), upd_ne fun z => by rw [z, a1] at hb; exact feed_tbl (Option.some.inj hb).symm]
          exact hb
      · exact absurd z (n ps)
    refine ⟨ps, ?_, h2, fun pos cv hc => ?_⟩
    · rcases g with z | ⟨qs, qs', a1, a2, z⟩
      · rw [z]; exact h1
      · rw [z, upd_ne (ne_of_none h1 a2), upd_ne e]; exact h1
    · obtain ⟨c, e1, e2⟩ := h3 pos cv hc
      exact ⟨c, e1, keep _ _ e2 codeO_ne⟩
section
variable {X : Cx} {pins : List (Addr × Obj)} {σ : L2.St} {H : Hp} {s : Shared}
theorem lam_new {c P : Addr} {params : Arguments} {body : Expr} {scope : Scope} {pos : Pos} {E : Value → Shared → Prop} {Q : Value → Shared → Prop} (I : L2.Inv X pins σ H s) (TB : TabB X.base X.mg c P) (hcode : X.env.code = .ref c) (hT : TabS H P (X.env.qual ++ "<lambda>"))
    (hdef : defaultsOf params X.env = ([], [])) (hfree : ∀ y ∈ scope.names, y.2 = .free → ∃ c, X.env.cells.lookup y.1 = some c)
    (h : ∀ (f c' : Addr) (pm ctv : Value) (H1 : Hp) (s' : Shared), L2.Inv X pins σ H1 s' → Grown P (X.env.qual ++ "<lambda>") c' H H1 → TabS H1 P (X.env.qual ++ "<lambda>") →
      s'.heap.get? f = some (PySem.W.kla_obj "<lambda>" (X.env.qual ++ "<lambda>") params body scope (cloFrom X.env.cells scope.names []) pm c' ctv) → H1 f = none → f ∉ frs X.stack → H1 c' = some (CodeO c' (X.env.qual ++ "<lambda>")) → Q (.ref f) s') :
    wpAny (model X.prog X.w) X.A (eval (.Lambda params body scope pos) X.env) Q E s := by
  obtain ⟨ps, hP, ht, ha⟩ := id hT
  have atP : s.heap.get? P = some { cls := .none, data := .fields ps } := I.hok P _ hP
  have far : ∀ f, s.heap.objs.size ≤ f → f ∉ frs X.stack := fun f hf z => (List.mem_cons.mp (I.stkSub _ z)).elim (fun e => absurd (Nat.lt_of_lt_of_le I.lt (e ▸ hf)) (Nat.lt_irrefl _)) (I.nofs hf)
  refine PySem.W.kla_eval hdef ?_
  cases hc : codeAmong pos ps.toList with
  | some cv =>
    obtain ⟨c', rfl, hco⟩ := ha pos cv hc
    refine PySem.W.kla_makeFunctionHit (mg := X.mg) (c := c) (P := P) (ps := ps) (closure_ok hfree) I.ok.glob (I.mod.glob.keeps I.bk) hcode (TB.code.keeps I.bk) atP ht hc (TB.bm.keeps I.bk) fun ctv h' tk hx hsz => ?_
    exact h h'.objs.size c' _ ctv H _ (I.kept (t' := tk) fun b o e => Heap.get?_push_of_some _ (hx b o e)) (.inl rfl) hT (Heap.get?_push_size _ rfl) (I.hok.fresh hsz) (far _ hsz) hco
  | none =>
    refine PySem.W.kla_makeFunction (mg := X.mg) (c := c) (P := P) (ps := ps) (closure_ok hfree) I.ok.glob (I.mod.glob.keeps I.bk) hcode (TB.code.keeps I.bk) atP ht hc TB.gP (TB.bm.keeps I.bk) fun c' ctv h' tk hx hge hlt hrec htb => ?_
    obtain ⟨c2, oc, vs, t, e2, hoc, hd, hv⟩ := hrec
    cases e2
    have hsz : s.heap.objs.size ≤ h'.objs.size := Nat.le_trans hge (Nat.le_of_lt hlt)
    have nC : H c' = none := I.hok.fresh hge
    have I1 := inv_table (t' := tk) (more := #[rawInt pos.line, rawInt pos.col, .ref c']) (h' := h'.push (PySem.W.kla_obj "<lambda>" (X.env.qual ++ "<lambda>") params body scope (cloFrom X.env.cells scope.names []) ((X.mg "__name__").getD .none) c' ctv)) I hP
      (fun b o hb e => Heap.get?_push_of_some _ (hx b o hb e)) (Heap.get?_push_of_some _ htb) hge ⟨oc, vs, t, Heap.get?_push_of_some _ hoc, hd, hv⟩
    have g : Grown P (X.env.qual ++ "<lambda>") c' H (L2.upd (L2.upd H P (.tbl (ps ++ #[rawInt pos.line, rawInt pos.col, .ref c']))) c' (CodeO c' (X.env.qual ++ "<lambda>"))) := .inr ⟨ps, _, hP, nC, rfl⟩
    have n1 : h'.objs.size ≠ c' := Nat.ne_of_gt hlt
    have n2 : h'.objs.size ≠ P := Nat.ne_of_gt (Nat.lt_of_lt_of_le (Heap.lt_size atP) hsz)
    refine h h'.objs.size c' _ ctv _ _ I1 g ⟨_, by rw [upd_ne (ne_of_none hP nC), upd_same], ?_, fun p' cv hcv => ?_⟩ (Heap.get?_push_size _ rfl) (by rw [upd_ne n1, upd_ne n2]; exact I.hok.fresh hsz) (far _ hsz) upd_same
    · rw [show (ps ++ #[rawInt pos.line, rawInt pos.col, .ref c']).toList = ps.toList ++ [rawInt pos.line, rawInt pos.col, .ref c'] by simp]
      exact PySem.TriplesOk_snoc _ _ _ _ ht
    · rw [show (ps ++ #[rawInt pos.line, rawInt pos.col, .ref c']).toList = ps.toList ++ [rawInt pos.line, rawInt pos.col, .ref c'] by simp] at hcv
      rcases among_app _ ht hcv with z | z
      · obtain ⟨c0, e1, e3⟩ := ha p' cv z
        refine ⟨c0, e1, ?_⟩
        rcases g.exw c0 _ e3 with q | ⟨_, _, _, _, _, _, _, q, _⟩ | ⟨_, _, q, _⟩
        · exact q
        · unfold feedO CodeO at q; cases q
        · exact absurd q (codeO_ne _)
      · exact ⟨c', z, upd_same⟩
end
/-- x(lambda: body): P, the table of the maker's code; q, the lambda's name -/
def tLamW (P : Addr) (q : Str) (TT : (XK → Hp → VK → Prop) → Hp → VK → Prop) (t : XK → TE) : TE := fun σ H Q => TabS H P q ∧ ∀ H1, Exw H H1 → (∀ T, (∀ r ∈ T, r.1 = P → r.2 = q) → Tabs T H → Tabs T H1) → TT (fun E H' Q' => t E σ H' Q') H1 Q
section
variable {X : Cx}
theorem pe_lamW {TT : (XK → Hp → VK → Prop) → Hp → VK → Prop} {x a : Str} {g c P : Addr} {k : Nat} {pg : Arguments} {bg : List Stmt} {sg : Scope} {dV kV doc pm cdv ct oc : Value} {an od : Option Addr} {osl : Array (Option Value)} {Ng : List Str}
    {params : Arguments} {body : Expr} {scope : Scope} {t : XK → TE} {p lpos pos : Pos} (hg : Gl X x) (hm : X.mg x = some (.ref g)) (hk : PySem.W.keepIn X.K (.ref g) = true)
    (lk : X.K.lookup g = some ⟨oc, od, .func (PySem.W.fnOf x x pg bg sg dV kV doc pm an cdv ct), osl⟩) (hcg : PySem.W.codeIn X.K cdv x = true) (hb : L2.Binds X.K (PySem.W.fnOf x x pg bg sg dV kV doc pm an cdv ct) [a] []) (Sg : FnScope Ng [a] sg) (hNg : Ng[0]? = some a) (hva : Vis sg a)
    (hG : GivesTo X Ng x sg g cdv bg a (X.env.qual ++ "<lambda>") TT) (TB : TabB X.base X.mg c P) (hcode : X.env.code = .ref c) (hr : Room (k + 2) X.A) (L : LamS X.env.scope scope) (hdef : defaultsOf params X.env = ([], []))
    (hbind : ∀ (q : Str) (cl : List (Str × Addr)) (pm cv ctv : Value), bindArgs (PySem.W.kla_fn "<lambda>" q params body scope cl pm cv ctv) ⟨[], []⟩ = pure [])
    (hbody : ∀ (A : Around) (outer : List PySem.Env) (s : Shared) (H : Hp) (E : XK) (f c' : Addr), Room k (A.deeper (lamEnv X scope s.heap.objs.size f c')) → PE (lamCx X A outer s H E scope f c') body (t E))
    (hdb : (x == ("__debug__" : Str)) = false := by decide) (hd : (a == ("__debug__" : Str)) = false := by decide) (hcd : (a == ("__classdict__" : Str)) = false := by decide) :
    PE X (.Call (.Name x p) [.Lambda params body scope lpos] [] pos) (tLamW P (X.env.qual ++ "<lambda>") TT t) := by
  refine ⟨fun pins s σ H Q I h => wpAny_Call_Name_kw (ld_glob I hg hm ?_ hdb)⟩
  obtain ⟨hT, h⟩ := h
  refine PySem.W.callWith_K (h₀ := X.base) I.ok.mod.kin hk ?_ (by rfl) (by rfl)
  show wpAny _ _ (spliced ((false, eval (.Lambda params body scope lpos) X.env) :: backTo pos (starEach [] X.env))) _ _ s
  refine Calls.spliced_cons (lam_new I TB hcode hT hdef (L.has I.ok) fun f c' pm' ctv H1 s' I1 gr T1 hf hfn hfr hco => Calls.spliced_nil ⟨I1.kIn, wpAny_call (codeAny_mono (run_ofS (CX := C8.CX0) (Q := Q) (E := C8.E0) (N := Ng) (ps := [a]) (us := [.ref f]) (vs := [.ref f]) lk hcg Sg hr I1.env0 (hb s' [.ref f] I1.kIn rfl) (.cons rfl .nil) rfl fun hr' => ?_) fun r s2 hq => ?_)⟩)
  · obtain ⟨t', ht', hq'⟩ := hG f c' s' H1 Q (fun E H' Q' => t E σ H' Q') (fun W pn xe E p1 p2 tk hW => pe_act (i := 0) I1 L hf hfn hfr (hbind _ _ _ _ _) tk hW hr' (fun A outer s H hr2 => hbody A outer s H E f c' hr2) hNg hva hd hcd) hco (h H1 gr.exw fun T hu hTT => gr.tabs T1 hu hTT)
    exact ⟨t', ht'.nox, hq'⟩
  · cases r with
    | error e => exact (show False from hq).elim
    | ok fl =>
      cases fl with
      | ret u => exact I1.after hq
      | next => exact False.elim hq
      | brk => exact False.elim hq
      | cont => exact False.elim hq
end
end Kl
set_option Elab.async false
set_option linter.all false
set_option maxRecDepth 100000
set_option maxHeartbeats 8000000
/-! X5: _law_said. -/
namespace Kl
open PySem PySem.Spec PyProof.Rows L2 LamX
/-- _law_refusal(e) in the suite that caught e -/
def tRef (C a : Addr) (cls : Value) (d : Option Addr) (t : TA) : TE := fun σ H Q => t σ H fun vs H1 => vs = [.ref a] ∧ cls = .ref C ∧ ∃ (dd : Addr) (z : Str) (N : List Addr), d = some dd ∧ H1 dd = some (.xd (xfs z)) ∧ NoX N H1 ∧ ∀ v H2, Ex H1 H2 → Is (hid N H2) v (.d (.tuple [.str "use", .str z, .int (-1)])) → Q v H2
theorem pe_refusal {Y : Cx} {C a : Addr} {oe : Obj} {cls : Value} {d : Option Addr} {pn : List (Addr × Obj)} (G : Gm Y.mg) (R : RefC Y.K C) (F : Fams Y.K Y.mg C) (DR : Def Y.K Y.mg "_law_refusal" s_law_refusal) (hz : Zc cls d oe) (hf : ∃ vs, oe.data = .fields vs) (hd : Y.A.depth < recursionLimit) (hu : Y.A.units + 80 < cLine)
    {q pos : Pos} {e : Expr} {es : List Expr} {t : TA} (hg : Gl Y "_law_refusal") (ha : PA (Y.suite a ((a, oe) :: pn)) (e :: es) t)
    (he : starEach (e :: es) Y.env = (false, eval e Y.env) :: starEach es Y.env := by rfl) (hpl : (backTo pos (starEach es Y.env)).any (·.1) = false := by rfl) :
    PE (Y.suite a ((a, oe) :: pn)) (.Call (.Name "_law_refusal" q) (e :: es) [] pos) (tRef C a cls d t) := by
  obtain ⟨f, fd, Fn, hm⟩ := DR.ex
  have hk := Fn.kp
  have hb : L2.Binds Y.K fd ["_law_e"] [] := Fn.binds (ps := ["_law_e"]) (fun _ _ _ _ _ _ us hl => match us, hl with | [_], _ => rfl)
  obtain ⟨oc, od, kV, doc, pm, an, cdv, ct, osl, rfl, lk, hcd⟩ := Fn.ex
  refine ⟨fun pins s σ H Q I h => wpAny_Call_Name_kw (ld_glob I hg hm ?_ (by decide))⟩
  refine PySem.W.callWith_K (h₀ := Y.base) I.ok.mod.kin hk (thn (ha.run pos pins s σ H _ I h) fun us s1 ⟨vs, H1, I1, r, q⟩ => ⟨I1.kIn, ?_⟩) he hpl
  obtain ⟨ev, ec, dd, z, N, ed, ea, nx, q⟩ := q
  subst ev ec ed
  have P1 := I1.pin (a, oe) (List.mem_append_left _ List.mem_cons_self)
  have hl : us.length = 1 := r.length.symm
  have b := hb s1 us I1.kIn (by rw [List.append_nil]; exact hl)
  rw [List.append_nil] at b
  refine wpAny_call (codeAny_mono (hot_run (CX := C8.CX0) (E := C8.E0) (Q := Q) (p := (a, oe)) (outer := (Y.suite a ((a, oe) :: pn)).stack) lk hcd sc_law_refusal hd ⟨P1.1, P1.2.1, fun hm => (List.mem_cons.mp (I1.stkSub a hm)).elim P1.2.2.1 P1.2.2.2.1, P1.2.2.2.2⟩ I1.env0 b r rfl (ref_body G R F (M := N) hu hz hf nx ea q)) fun r s' hq => ?_)
  cases r with
  | error e => exact (show False from hq).elim
  | ok fl =>
    cases fl with
    | ret u => exact I1.after hq
    | next => exact False.elim hq
    | brk => exact False.elim hq
    | cont => exact False.elim hq
abbrev s_law_said : Stmt := topS 57
abbrev n_law_said : List Str := ["_law_query", "_law_e"]
theorem sc_law_said : FnScope n_law_said ["_law_query"] (defScope s_law_said) := ⟨rfl, rfl, rfl, by decide +kernel, rfl, by decide +kernel, by decide +kernel⟩
/-- what _law_said makes of the query's reading -/
def TTsaid (C : Addr) : (XK → Hp → VK → Prop) → Hp → VK → Prop := fun tl H Q =>
  tl (fun cls d H' => cls = .ref C ∧ ∃ (dd : Addr) (z : Str) (N : List Addr), d = some dd ∧ H' dd = some (.xd (xfs z)) ∧ NoX N H' ∧ ∀ v H2, Ex H' H2 → Is (hid N H2) v (.d (.tuple [.str "use", .str z, .int (-1)])) → Q v H2) H
    (fun v H' => 2 ≤ sizeLine ∧ ∀ p o, H' p = none → TupO o → Q (.ref p) (L2.upd H' p (.frz o (.tup [.str "told", v]))))
/-- the class that _law_said catches -/
def Kite (K : Frg) (mg : Str → Option Value) (C : Addr) : Prop := ∃ CK, mg "KitError" = some (.ref CK) ∧ PySem.W.exmOne K (.ref C) (.ref CK) = some true
theorem said_gives {X : Cx} {C g : Addr} {cdg : Value} {q : Str} (G : Gm X.mg) (R : RefC X.K C) (F : Fams X.K X.mg C) (KE : Kite X.K X.mg C) (DR : Def X.K X.mg "_law_refusal" s_law_refusal) (hd : X.A.depth + 1 < recursionLimit) (hu : X.A.units + 100 < cLine) :
    GivesTo X n_law_said "_law_said" (defScope s_law_said) g cdg (defBody s_law_said) "_law_query" q (TTsaid C) := by
  obtain ⟨CK, hme, hyes⟩ := KE
  intro f c' s H Q tl act hc h
  have nd := sc_law_said.nd
  refine ⟨_, pss_one (L2.ps_try_as (X := (cxOf C8.CX0 X.prog X.w X.K X.mg X.base n_law_said "_law_said" (defScope s_law_said) g cdg X.A X.stack s H C8.E0).nox) (i := 1) (c := .ref CK)
      (tb := fun W D σ H => ∃ Ech : XK, (∀ cls d σ' H', Ech cls d H' → W cls d σ' H') ∧ σ[0]? = some (some (.ref f)) ∧ H c' = some (CodeO c' q) ∧ tl Ech H fun v H' => 2 ≤ sizeLine ∧ ∀ p o, H' p = none → TupO o → D.rt (.ref p) (L2.upd H' p (.frz o (.tup [.str "told", v]))))
      (ts := fun a cls d D σ H => (∃ σ0 : L2.St, σ = σ0.set 1 (some (.ref a))) ∧ cls = .ref C ∧ ∃ (dd : Addr) (z : Str) (N : List Addr), d = some dd ∧ H dd = some (.xd (xfs z)) ∧ NoX N H ∧ ∀ v H2, Ex H H2 → Is (hid N H2) v (.d (.tuple [.str "use", .str z, .int (-1)])) → D.rt v H2) (Wout := fun _ _ _ _ => False)
      rfl rfl nd rfl rfl ⟨by rfl, by decide, .inl hme⟩ L2.takes0 (fun W pn xe tk _ => ?_) (fun a oe cls d pn hz hf => ?_)), ?_⟩
  · refine ⟨fun pins s' σ H' D I h' => ?_⟩
    obtain ⟨Ech, hW, h1, h2, h3⟩ := h'
    exact (pss_one (ps_ret (pe_tupB (pa_cons pe_str (pa_cons (act W pn xe Ech _ _ tk hW) pa_nil))))).run pins s' σ H' D I ⟨h1, h2, h3⟩
  · refine ⟨fun pins s' σ H' D I h' => ?_⟩
    obtain ⟨⟨σ0, e0⟩, h2⟩ := h'
    have hl : σ.length = 2 := I.len
    refine (pss_one (ps_ret (pe_refusal (Y := (cxOf C8.CX0 X.prog X.w X.K X.mg X.base n_law_said "_law_said" (defScope s_law_said) g cdg X.A X.stack s H C8.E0).nox) G R F DR hz hf hd (by show X.A.units + 3 + 80 < cLine; omega) (by rfl) (pa_cons (pv 1) pa_nil)))).run pins s' σ H' D I ⟨.ref a, ?_, rfl, h2⟩
    rw [e0] at hl ⊢
    rw [List.length_set] at hl
    exact List.getElem?_set_self (by omega)
  · refine ⟨_, fun cls d σ' H' hE => ?_, rfl, hc, h⟩
    obtain ⟨ec, dd, z, N, ed, e2, e3, e4⟩ := hE
    subst ec
    exact ⟨true, hyes, fun _ a _ => ⟨⟨σ', rfl⟩, rfl, dd, z, N, ed, e2, e3, e4⟩, fun z => by cases z⟩
end Kl
set_option Elab.async false
set_option linter.all false
set_option maxRecDepth 100000
set_option maxHeartbeats 8000000
/-! X6: repr; defs that are run where no repr is under way; calls by keywords alone. -/
namespace Kl
open PySem PySem.Spec PyProof.Rows L2 LamX
mutual
theorem nice_noDict : ∀ d : PyData, niceB d = true → d.hasDict = false
  | .none, _ => rfl
  | .bool _, _ => rfl
  | .int _, _ => rfl
  | .str _, _ => rfl
  | .list xs, h => nice_noDicts xs h
  | .tuple xs, h => nice_noDicts xs h
  | .dict _, h => by cases h
theorem nice_noDicts : ∀ ds : List PyData, niceAll ds = true → PyData.hasDictAll ds = false
  | [], _ => rfl
  | d :: ds, h => by
    have h : (niceB d && niceAll ds) = true := h
    rw [Bool.and_eq_true] at h
    show (d.hasDict || PyData.hasDictAll ds) = false
    rw [nice_noDict d h.1, nice_noDicts ds h.2]; rfl
end
theorem Nice.sz {d : PyData} (n : Nice d) : d.shown.length ≤ sizeLine := Nat.le_trans (nice_len d n.ok) (Nat.le_trans n.wt (by decide))
def rRepr (K : Frg) : List V → Hp → VK → Prop := fun xs H Q => ∃ (x : V) (d : PyData), xs = [x] ∧ Dp K H x d ∧ Nice d ∧ Q (.str d.shown) H
theorem call_reprD {X : Cx} (hg : X.A.guards = some []) (hu : X.A.units + 64 < cLine) : CallR X (.builtin "repr") (rRepr X.K) := by
  intro pins s σ H xs us Q I r h
  obtain ⟨x, d, rfl, hd, n, q⟩ := h
  obtain ⟨u, rfl, rx⟩ := vals1 r
  obtain ⟨as, rd⟩ := Dp.reads I d x u hd rx
  have fin : ∀ (h' : Heap) (t : Tok) (tk : Nat), (∀ b o, s.heap.get? b = some o → h'.get? b = some o) → EP X pins σ Q (.str d.shown t) { s with heap := h', toks := tk } := fun h' t tk k => ⟨.str d.shown, H, I.kept (t' := tk) k, ⟨t, rfl⟩, q⟩
  have hdp := n.depth
  cases d with
  | none => cases rd; exact PySem.P.repr_of_none (fin _ _ _ fun _ _ e => e)
  | bool b => cases rd; exact PySem.P.repr_of_bool (fin _ _ _ fun _ _ e => e)
  | int i =>
    cases rd
    have hs : decide (i.natAbs.log2 < 1920) = true := nice_show (.int i) n.ok
    exact PySem.P.repr_of_int (of_decide_eq_true hs) (fin _ _ _ fun _ _ e => e)
  | str z =>
    cases rd
    exact PySem.P.repr_of_str (fin _ _ _ fun _ _ e => e) n.sz
  | list xs =>
    obtain ⟨a, rfl⟩ := isRef_of_reads rd rfl
    exact repr_of_reads' rd (nice_show _ n.ok) (PyData.noDict_hsm (nice_noDict _ n.ok)) hg (by omega) (fun _ _ e => e) (fun h' u tk hk => fin h' u tk hk) n.sz
  | tuple xs =>
    obtain ⟨a, rfl⟩ := isRef_of_reads rd rfl
    exact repr_of_reads' rd (nice_show _ n.ok) (PyData.noDict_hsm (nice_noDict _ n.ok)) hg (by omega) (fun _ _ e => e) (fun h' u tk hk => fin h' u tk hk) n.sz
  | dict _ => exact absurd n.ok (by intro z; cases z)
section
variable {K : Frg} {σ : L2.St} {H : Hp} {S : W → Prop} {te : TE}
theorem cs_repr {d : PyData} (n : Nice d) (s : S (.d (.str d.shown))) : CaS (rRepr K) [.d d] S := ca1 fun N H al v i Q q => ⟨v, d, rfl, dq_dp d v (dp_mono (hid_ex N H) d v i), n, q _ H _ (Ex.refl _) s (.str _)⟩
theorem d_repr {d : PyData} (n : Nice d) (h : Ed te σ H (.d d)) : Ed (tCB (rRepr K) (tCons te tNil)) σ H (.d (.str d.shown)) := d_cb (a_1 h) (cs_repr n rfl)
theorem os_eqT {a b : Str} (s : S (.d (.bool (decide (a = b))))) : OpS rEq (.d (.str a)) (.d (.str b)) S := fun N H al v u iv iu Q q => by
  cases iv
  cases iu
  refine ⟨rfl, ?_⟩
  rw [show decide ((V.str a) = V.str b) = decide (a = b) from decide_eq_decide.mpr ⟨fun z => V.str.inj z, fun z => congrArg V.str z⟩]
  exact q _ H _ (Ex.refl _) s (.bl _)
theorem os_neT {a b : Str} (s : S (.d (.bool (!decide (a = b))))) : OpS rNe (.d (.str a)) (.d (.str b)) S := fun N H al v u iv iu Q q => by
  cases iv
  cases iu
  refine ⟨rfl, ?_⟩
  rw [show decide ((V.str a) = V.str b) = decide (a = b) from decide_eq_decide.mpr ⟨fun z => V.str.inj z, fun z => congrArg V.str z⟩]
  exact q _ H _ (Ex.refl _) s (.bl _)
end
/-- a def's promise where no repr is under way -/
structure FnG (P : Program) (w : World) (K : Frg) (mg : Str → Option Value) (base : Heap) (k : Nat) (f : Addr) (fd : FuncData) (ps : List Str) (sp : Sp) : Prop where
  len : ∀ vs H Q E, sp vs H Q E → vs.length = ps.length
  run : ∀ (A : Around) (outer : List PySem.Env) (s : Shared) (H : Hp) (args : Args) (us : List Value) (vs : List V) (Q : VK) (E : XK), Room k A → A.guards = some [] → Env0 P w K mg base A outer s H → BindsTo s fd args (ps.zip us) → Vals vs us → sp vs H Q E → codeAny (model P w) A (.call (.ref f) args) (CR C8.CX0 outer P w H s Q E) s
def ClG (P : Program) (w : World) (K : Frg) (mg : Str → Option Value) (base : Heap) (k : Nat) (x : Str) (sp : Sp) : Prop :=
  ∃ (f : Addr) (fd : FuncData) (ps : List Str), FnG P w K mg base k f fd ps sp ∧ mg x = some (.ref f) ∧ PySem.W.keepIn K (.ref f) = true ∧ L2.Binds K fd ps []
section
variable {P : Program} {w : World} {K : Frg} {mg : Str → Option Value} {base : Heap}
theorem fnG_of {f : Addr} {x : Str} {st : Stmt} {oc kV doc pm cdv ct : Value} {od an : Option Addr} {osl : Array (Option Value)} {N ps : List Str} {k : Nat} {sp : Sp} (lk : K.lookup f = some ⟨oc, od, .func (PySem.W.fnOf x x (defArgs st) (defBody st) (defScope st) .none kV doc pm an cdv ct), osl⟩) (hcd : PySem.W.codeIn K cdv x = true)
    (S : FnScope N ps (defScope st)) (len : ∀ vs H Q E, sp vs H Q E → vs.length = ps.length)
    (body : ∀ (A : Around) (outer : List PySem.Env) (s : Shared) (H : Hp) (vs : List V) (Q : VK) (E : XK), Room k (A.deeper (envOfC x (defScope st) s.heap.objs.size f cdv)) → A.guards = some [] → sp vs H Q E →
      ∃ t, PSs (cxOf C8.CX0 P w K mg base N x (defScope st) f cdv A outer s H E).nox (defBody st) t ∧ t { nx := fun _ H' => Q .non H', rt := Q } (L2.start N vs) H) :
    FnG P w K mg base (k + 1) f (PySem.W.fnOf x x (defArgs st) (defBody st) (defScope st) .none kV doc pm an cdv ct) ps sp :=
  ⟨len, fun A outer s H args us vs Q E hr hg e0 hb r h => LamX.run_ofS lk hcd S hr e0 hb r (len _ _ _ _ h) fun hr' => by
    obtain ⟨t, ht, hq⟩ := body A outer s H vs Q E hr' hg h
    exact ⟨t, ht.nox, hq⟩⟩
/-- .. a def of the text -/
theorem Def.okG {x : Str} {st : Stmt} {N ps : List Str} {k : Nat} {F : List W → (W → Prop) → Prop} (D : Def K mg x st) (S : FnScope N ps (defScope st))
    (hb : ∀ (kV doc pm : Value) (an : Option Addr) (cdv ct : Value) (us : List Value), us.length = ps.length → bindArgs (PySem.W.fnOf x x (defArgs st) (defBody st) (defScope st) .none kV doc pm an cdv ct) ⟨us, []⟩ = pure (ps.zip us)) (len : ∀ ws S, F ws S → ws.length = ps.length)
    (body : ∀ (f : Addr) (cdv : Value) (A : Around) (outer : List PySem.Env) (s : Shared) (H : Hp) (M : List Addr) (vs : List V) (ws : List W) (T : W → Prop) (Q : VK) (E : XK), Room k (A.deeper (envOfC x (defScope st) s.heap.objs.size f cdv)) → A.guards = some [] → F ws T →
      At M H (L2.start N vs) H (ws.map some ++ List.replicate (N.length - ws.length) none) → (∀ v H' w, Ex H H' → T w → Is (hid M H') v w → Q v H') →
      ∃ t, PSs (cxOf C8.CX0 P w K mg base N x (defScope st) f cdv A outer s H E).nox (defBody st) t ∧ t { nx := fun _ H' => Q .non H', rt := Q } (L2.start N vs) H) : ClG P w K mg base (k + 1) x (SpF F) := by
  obtain ⟨f, fd, Fn, hm⟩ := D.ex
  have hpl : ps.length ≤ N.length := by have := congrArg List.length S.pre; rw [List.length_take] at this; omega
  have hk := Fn.kp
  have hbb := Fn.binds hb
  obtain ⟨oc, od, kV, doc, pm, an, cdv, ct, osl, rfl, lk, hcd⟩ := Fn.ex
  refine ⟨f, _, ps, fnG_of lk hcd S (fun vs H Q E h => ?_) (fun A outer s H vs Q E hr hg h => ?_), hm, hk, hbb⟩
  · obtain ⟨M, ws, T, _, ia, hF, _⟩ := h
    rw [isa_len ia, len ws T hF]
  · obtain ⟨M, ws, T, al, ia, hF, q⟩ := h
    exact body f cdv A outer s H M vs ws T Q E hr hg hF ⟨al, Ex.refl _, env_start ia (by rw [len ws T hF]; exact hpl)⟩ q
end
section
variable {X : Cx}
theorem pe_clG {k : Nat} {x : Str} {sp : Sp} {E : XK} {p pos : Pos} {e : Expr} {es : List Expr} {t : TA} (c : ClG X.prog X.w X.K X.mg X.base k x sp) (hr : Room k X.A) (hgd : X.A.guards = some []) (hg : Gl X x) (ha : PA X (e :: es) t)
    (hdb : (x == ("__debug__" : Str)) = false := by decide) (he : starEach (e :: es) X.env = (false, eval e X.env) :: starEach es X.env := by rfl) (hpl : (backTo pos (starEach es X.env)).any (·.1) = false := by rfl) : PE X (.Call (.Name x p) (e :: es) [] pos) (tCall sp [] E t) := by
  obtain ⟨f, fd, ps, F, hm, hk, hb⟩ := c
  refine ⟨fun pins s σ H Q I h => wpAny_Call_Name_kw (ld_glob I hg hm ?_ hdb)⟩
  refine PySem.W.callWith_K (h₀ := X.base) I.ok.mod.kin hk (thn (ha.run pos pins s σ H _ I h) fun us s1 ⟨vs, H1, I1, r, q⟩ => ⟨I1.kIn, ?_⟩) he hpl
  have q : sp (vs ++ []) H1 Q E := q
  rw [List.append_nil] at q
  have hl : us.length = ps.length := by rw [← r.length]; exact F.len _ _ _ _ q
  have b := hb s1 us I1.kIn (by rw [List.append_nil]; exact hl)
  rw [List.append_nil] at b
  refine wpAny_call (codeAny_mono (F.run X.A X.stack s1 H1 ⟨us, []⟩ us vs Q E hr hgd I1.env0 b r q) fun r s' hq => ?_)
  cases r with
  | error e => exact (show False from hq).elim
  | ok fl =>
    cases fl with
    | ret u => exact I1.after hq
    | next => exact False.elim hq
    | brk => exact False.elim hq
    | cont => exact False.elim hq
end
/-- a def that is called by its parameters' names -/
def ClK (P : Program) (w : World) (K : Frg) (mg : Str → Option Value) (base : Heap) (CX : CXT) (k : Nat) (x : Str) (ks : List Str) (sp : Sp) : Prop :=
  ∃ (f : Addr) (fd : FuncData) (ps : List Str), FnOk P w K mg base CX k f fd ps sp ∧ mg x = some (.ref f) ∧ PySem.W.keepIn K (.ref f) = true ∧ KBinds K fd ps ks (fun us ws => us ++ ws.reverse) fun vs zs => vs ++ zs.reverse
theorem pe_clK {X : Cx} {CX : CXT} {k : Nat} {x : Str} {ks : List Str} {sp : Sp} {E : XK} {p pos : Pos} {kws : List Keyword} {tk : TA} (c : ClK X.prog X.w X.K X.mg X.base CX k x ks sp) (hr : Room k X.A) (hg : Gl X x) (hx : Passes CX X E) (hkw : PK X kws tk)
    (hall : (backToKw pos (keywordEach kws X.env)).all (·.1.isSome) = true := by rfl) (hks : (backToKw pos (keywordEach kws X.env)).filterMap (·.1) = ks := by rfl) (hdb : (x == ("__debug__" : Str)) = false := by decide)
    (hpl : ((backTo pos (starEach [] X.env)).any (·.1) || (backToKw pos (keywordEach kws X.env)).any (·.1.isNone)) = false := by rfl) : PE X (.Call (.Name x p) [] kws pos) (tCallK sp (fun vs zs => vs ++ zs.reverse) E tNil tk) := by
  obtain ⟨f, fd, ps, F, hm, hk, hb⟩ := c
  refine ⟨fun pins s σ H Q I h => wpAny_Call_Name_kw (ld_glob I hg hm ?_ hdb)⟩
  refine PySem.W.callWith_KW0 (h₀ := X.base) I.ok.mod.kin hk hall ?_ hpl
  refine thn (hkw.run pos pins s σ H _ I h) fun ws s2 ⟨zs, H2, I2, rz, q2⟩ => ⟨I2.kIn, ?_⟩
  rw [hks]
  exact run_fnk (us := []) (vs := []) F hr hb hx I2 .nil rz q2
end Kl
set_option Elab.async false
set_option linter.all false
set_option maxRecDepth 100000
set_option maxHeartbeats 8000000
/-! X7: without and renamed, called by their parameters' names (printed by x7gen.py). -/
namespace Kl
open PySem PySem.Spec PyProof.Rows L2
def BodyX (P : Program) (w : World) (K : Frg) (mg : Str → Option Value) (base : Heap) (C : Addr) (x : Str) (st : Stmt) (N : List Str) (k : Nat) (F : List W → (W → Prop) → (Str → Prop) → Prop) : Prop :=
  ∀ (f : Addr) (cdv : Value) (A : Around) (outer : List PySem.Env) (s : Shared) (H : Hp) (M : List Addr) (vs : List V) (ws : List W) (T : W → Prop) (R : Str → Prop) (Q : VK) (E : XK), Room k (A.deeper (envOfC x (defScope st) s.heap.objs.size f cdv)) → F ws T R →
    At M H (L2.start N vs) H (ws.map some ++ List.replicate (N.length - ws.length) none) → (∀ v H' w, Ex H H' → T w → Is (hid M H') v w → Q v H') → (∀ dx H' z, Ex H H' → R z → H' dx = some (.xd [("at", .int (-1)), ("word", .str z)]) → E (.ref C) (some dx) H') →
    ∃ t, PSs (cxOf (CXl P w) P w K mg base N x (defScope st) f cdv A outer s H E) (defBody st) t ∧ t { nx := fun _ H' => Q .non H', rt := Q } (L2.start N vs) H
section
variable {P : Program} {w : World} {K : Frg} {mg : Str → Option Value} {base : Heap} {C : Addr}
theorem Def.okXk {x : Str} {st : Stmt} {N ps ks : List Str} {k : Nat} {F : List W → (W → Prop) → (Str → Prop) → Prop} (D : Def K mg x st) (S : FnScope N ps (defScope st))
    (hb : ∀ (kV doc pm : Value) (an : Option Addr) (cdv ct : Value) (us ws : List Value), (us ++ ws.reverse).length = ps.length → bindArgs (PySem.W.fnOf x x (defArgs st) (defBody st) (defScope st) .none kV doc pm an cdv ct) ⟨us, ks.zip ws⟩ = pure (ps.zip (us ++ ws.reverse)))
    (len : ∀ ws S R, F ws S R → ws.length = ps.length) (body : BodyX P w K mg base C x st N k F) : ClK P w K mg base (CXl P w) (k + 1) x ks (SpX C F) := by
  obtain ⟨f, fd, Fn, hm⟩ := D.ex
  have hpl : ps.length ≤ N.length := by have := congrArg List.length S.pre; rw [List.length_take] at this; omega
  refine ⟨f, fd, ps, Fn.okX S (fun vs H Q E h => ?_) (fun cdv A outer s H vs Q E hr h => ?_), hm, Fn.kp, ?_⟩
  · obtain ⟨M, ws, T, R, _, ia, hF, _⟩ := h
    rw [isa_len ia, len ws T R hF]
  · obtain ⟨M, ws, T, R, al, ia, hF, q, qx⟩ := h
    exact body f cdv A outer s H M vs ws T R Q E hr hF ⟨al, Ex.refl _, env_start ia (by rw [len ws T R hF]; exact hpl)⟩ q qx
  · obtain ⟨oc, od, kV, doc, pm, an, cdv, ct, osl, rfl, lk, hcd⟩ := Fn.ex
    exact ⟨fun s us ws _ hl => .of_eq (hb kV doc pm an cdv ct us ws hl), fun r rz => r.append (vals_back rz)⟩
theorem bd_without (G : Gm mg) (C_want : Cl P w K mg base (CXl P w) 3 "want" [.int (-1)] (SpX C F_want)) (C_all_names : Cl P w K mg base CX0 2 "all_names" [] (SpF F_all_names)) (C_judged : Cl P w K mg base (CXl P w) 8 "judged" [] (SpX C F_judged)) : BodyX P w K mg base C "without" s_without n_without 8 F_without := by
  unfold BodyX
  rintro f cdv A outer s H M vs ws T R Q E hr ⟨t, d, rfl, ht, hd, hS⟩ h k kx
  have nd := sc_without.nd
  refine ⟨_, (pss_cons (ps_expr (pe_cl (E := E) C_want (hr.mono (by decide)) (by rfl) passE (pa_cons (pe_and (pe_callB (r := rIsi K) call_isi (by rfl) G.isinstance_ (by decide +kernel) (pa_cons (pv 1) (pa_cons (p_ty "str" (by rfl) G.str_ (by decide +kernel)) pa_nil))) (pe_one (pe_cmpR (r := rInD K) (op_inD (r65 hr)) (pv 1) (pe_cl C_all_names (hr.mono (by decide)) (by rfl) pass0 (pa_cons (pv 0) pa_nil)) (by rfl)))) (pa_cons pe_str pa_nil))))
      (pss_cons (ps_set (i := 2) nd rfl (.inl rfl) (pe_callTy (r := rTupB K) call_tupB (by rfl) G.tuple_ (by decide +kernel) (pa_cons (pe_lc (own := [("things", 4)]) rfl nd (pi_tup (pv 0)) (blkOk_by (own := [("things", 4)]) (by kernel_rfl)) (fun _ _ _ _ _ => (pg_name (i := 4) nd rfl (.inl rfl))) (fun _ _ _ _ _ => pts_nil) (fun _ _ _ _ _ => (pe_callTy (r := rTupB K) call_tupB (by rfl) G.tuple_ (by decide +kernel) (pa_cons (pe_lc (own := [("one", 3)]) rfl nd (pi_tupK (K' := K) rfl (pv 4)) (blkOk_by (own := [("one", 3)]) (by kernel_rfl)) (fun _ _ _ _ _ => (pg_name (i := 3) nd rfl (.inl rfl))) (fun _ _ _ _ _ => pts_one (pt_cmpR (r := rNeD K) (op_neD hr.units) (pe_ix (r := rIxT K) ix_tup (pv 3) pe_int (fun _ _ => rfl)) (pv 1) (nomark _))) (fun _ _ _ _ _ => (pv 3))) pa_nil)))) pa_nil)))
      (pss_one (ps_ret (pe_cl (E := E) C_judged (hr.mono (by decide)) (by rfl) passE (pa_cons (pv 2) (pa_cons pe_str pa_nil))))))), ?_⟩
  refine q_dropX (dws := [.d (.int (-1))]) (S := fun _ => inB t d = true) (R := fun z => z = ("name" : Str) ∧ inB t d = false) h (a_2 (x := .d (.bool (inB t d))) ?_ d_s) (fun H => .cons (.int _) .nil) ⟨inB t d, _, rfl, fun e => e, fun e => ⟨rfl, e⟩⟩ (fun dx H' z e hz hx => ?_) (fun w H1 e1 hin h1 => ?_)
  · refine d_is (d_and (d_cb (a_2 (d_var h.env (i := 1) rfl) d_v) (cs_isiStr rfl)) (b := inB t d) fun e => ?_) ?_
    · obtain ⟨z, rfl⟩ := str_of e
      refine d_op (d_var h.env (i := 1) rfl) (d_call (S := fun w => w = .d (.list (t.nm.map PyData.str))) (a_1 (d_var h.env (i := 0) rfl)) ⟨t, rfl, ht.lp, ht.lc, ht.lk, rfl⟩) (os_inD hd.shaped (nice_strs (fun y hy => ⟨name_nice (ht.ok y hy), Nat.le_trans (name_len (ht.ok y hy)) (by decide)⟩) (Nat.le_trans ht.ln (by decide))).shaped (by rw [any_str]; rfl))
    · cases d <;> rfl
  · exact kx dx H' z e (by rw [hz.1]; exact hS.1 hz.2) hx
  · obtain ⟨z, rfl, hz⟩ : ∃ z, d = .str z ∧ z ∈ t.nm := by
      cases d with
      | str z => exact ⟨z, rfl, of_decide_eq_true hin⟩
      | _ => cases hin
    have hzn := ht.ok z hz
    obtain ⟨s1, s2⟩ := hS.2 z rfl hz
    have hl3 : Ed (tLc (iTup K (tVar 0)) (gName 4) tYes (tCB (rTupB K) (tCons (tLc (iTup K (tVar 4)) (gName 3) (tTest (tOp (rNeD K) (tOp (rIxT K) (tVar 3) (tC (.int 0))) (tVar 1))) (tVar 3) [3]) tNil)) [4]) (L2.start n_without vs) (hid M H1) (.d (.list [.tuple ((t.out z).ps.map eP), .tuple ((t.out z).cs.map eC), .tuple ((t.out z).ks.map eK)])) := by
      refine d_is (d_map (l := [0, 1, 2]) (enc := fun i => W.d (([.tuple (t.ps.map eP), .tuple (t.cs.map eC), .tuple (t.ks.map eK)] : List PyData).getD i .none)) (f := fun i => ([.tuple ((t.out z).ps.map eP), .tuple ((t.out z).cs.map eC), .tuple ((t.out z).ks.map eK)] : List PyData).getD i .none) h1.env (i_tup (d_var h1.env (i := 0) rfl)) (js := [4]) (by decide) (by simp) fun i hi => ⟨_, tg_name, fun σ' H' e' h' => ?_⟩) rfl
      simp only [List.mem_cons, List.not_mem_nil, or_false] at hi
      rcases hi with e | e | e <;> subst e
      · exact d_cb (a_1 (in_filter (l := t.ps) (nm := fun p => p.1) (rest := fun p => [.int p.2]) (z := z) (k := 1) (own := []) h' rfl (Nat.le_trans ht.lp (by decide)) (fun x hx => (ht.np x hx).1) hzn (fun x => ⟨rfl, rfl⟩))) (cs_tupL rfl)
      · exact d_cb (a_1 (in_filter (l := t.cs) (nm := fun p => p.1) (rest := fun p => [.tuple (p.2.map PyData.str)]) (z := z) (k := 1) (own := []) h' rfl (Nat.le_trans ht.lc (by decide)) (fun x hx => (ht.nc x hx).1) hzn (fun x => ⟨rfl, rfl⟩))) (cs_tupL rfl)
      · exact d_cb (a_1 (in_filter (l := t.ks) (nm := fun p => p.1) (rest := fun p => [.int p.2.1, .bool p.2.2.1, eB p.2.2.2]) (z := z) (k := 1) (own := []) h' rfl (Nat.le_trans ht.lk (by decide)) (fun x hx => (ht.nk x hx).1) hzn (fun x => ⟨rfl, rfl⟩))) (cs_tupL rfl)
    refine q_asg h1 (d_cb (S := fun w => w = .d (enc (t.out z))) (a_1 hl3) (cs_tupL rfl)) (fun v w H2 e2 ew iw h2 => ?_)
    subst ew
    refine s_retX (dws := []) (S := T) (R := fun z => z = ("name" : Str) ∧ R z) h2 (a_2 (d_var h2.env (i := 2) rfl) d_s) (fun H => .nil) ⟨t.out z, _, rfl, pre_out ht z, s1, fun e => ⟨rfl, s2 e⟩⟩ (fun dx H' z e hz hx => kx dx H' z e hz.2 hx) (fun v H' w e s i => k v H' w e s i)
theorem ck_without (D : Def K mg "without" s_without) (G : Gm mg) (C_want : Cl P w K mg base (CXl P w) 3 "want" [.int (-1)] (SpX C F_want)) (C_all_names : Cl P w K mg base CX0 2 "all_names" [] (SpF F_all_names)) (C_judged : Cl P w K mg base (CXl P w) 8 "judged" [] (SpX C F_judged)) : ClK P w K mg base (CXl P w) 9 "without" ["name", "shop"] (SpX C F_without) :=
  D.okXk sc_without (fun _ _ _ _ _ _ us vs hl => by
    match us, vs, hl with
    | [], [_, _], _ => rfl
    | [_], [_], _ => rfl
    | [_, _], [], _ => rfl
    | [], [], hl => cases hl
    | [], [_], hl => cases hl
    | [_], [], hl => cases hl
    | [], _ :: _ :: _ :: _, hl => simp at hl
    | [_], _ :: _ :: _, hl => simp at hl
    | [_, _], _ :: _, hl => simp at hl
    | _ :: _ :: _ :: _, _, hl => simp at hl) (fun ws S R h => by obtain ⟨_, _, e, _⟩ := h; rw [e]; rfl) (bd_without G C_want C_all_names C_judged)
theorem bd_renamed (G : Gm mg) (C_want : Cl P w K mg base (CXl P w) 3 "want" [.int (-1)] (SpX C F_want)) (C_is_table : Cl P w K mg base CX0 3 "is_table" [] (SpF F_is_table)) (C_all_names : Cl P w K mg base CX0 2 "all_names" [] (SpF F_all_names)) (C_called_anew : Cl P w K mg base CX0 1 "called_anew" [] (SpF F_called_anew)) : BodyX P w K mg base C "renamed" s_renamed n_renamed 3 F_renamed := by
  unfold BodyX
  rintro f cdv A outer s H M vs ws T R Q E hr ⟨t, d, rfl, ht, hf, hnice, hdl, hS⟩ h k kx
  have nd := sc_renamed.nd
  refine ⟨_, (pss_cons (ps_expr (pe_cl (E := E) C_want (hr.mono (by decide)) (by rfl) passE (pa_cons (pe_cl C_is_table (hr.mono (by decide)) (by rfl) pass0 (pa_cons (pv 0) (pa_cons (pv 1) pa_nil))) (pa_cons pe_str pa_nil))))
      (pss_cons (ps_set (i := 2) nd rfl (.inr rfl) (pe_callTy (r := rDictT K) (call_dictT rfl) (by rfl) G.dict_ (by decide +kernel) (pa_cons (pv 1) pa_nil)))
      (pss_cons (ps_setLc (i := 3) (own := [("name", 6)]) rfl nd rfl rfl (sw_true rfl rfl rfl (by decide +kernel)) (pi_list (pe_cl C_all_names (hr.mono (by decide)) (by rfl) pass0 (pa_cons (pv 0) pa_nil))) (blkOk_by (own := [("name", 6)]) (by kernel_rfl)) (fun _ _ _ _ _ => (pg_name (i := 6) nd rfl (.inl rfl))) (fun _ _ _ _ _ => pts_nil) (fun _ _ _ _ _ => (pe_dget2 (hu_of hr) (pv 2) (pv 6) (pv 6) ⟨rfl, rfl, rfl, rfl⟩)))
      (pss_cons (ps_expr (pe_cl (E := E) C_want (hr.mono (by decide)) (by rfl) passE (pa_cons (pe_cmpR (r := rEqD K) (op_eqD hr.units) (pe_callB (r := rLenK P w) call_lenK (by rfl) G.len_ PySem.boot_len (pa_cons (pe_sk (own := [("name", 6)]) rfl nd (pi_list (pv 3)) (blkOk_by (own := [("name", 6)]) (by kernel_rfl)) (fun _ _ _ _ _ => (pg_name (i := 6) nd rfl (.inl rfl))) (fun _ _ _ _ _ => pts_nil) (fun _ _ _ _ _ => (pv 6))) pa_nil)) (pe_callB (r := rLen K) call_len (by rfl) G.len_ PySem.boot_len (pa_cons (pv 3) pa_nil)) (nomark _)) (pa_cons pe_str pa_nil))))
      (pss_cons (ps_setLc (i := 4) (own := [("name", 6), ("options", 8)]) (g := gTup K 2 (gCons (gName 6) (gCons (gName 8) gNil))) rfl nd rfl rfl (sw_true rfl rfl rfl (by decide +kernel)) (pi_tup (pe_ix (r := rIxT K) ix_tup (pv 0) pe_int (fun _ _ => rfl))) (blkOk_by (own := [("name", 6), ("options", 8)]) (by kernel_rfl)) (fun _ _ _ _ _ => (pg_tup rfl (pgs_cons (pg_name (i := 6) nd rfl (.inl rfl)) (pgs_cons (pg_name (i := 8) nd rfl (.inl rfl)) pgs_nil)))) (fun _ _ _ _ _ => pts_nil) (fun _ _ _ _ _ => (pe_tupB (pa_cons (pv 6) (pa_cons (pe_callTy (r := rTupB K) call_tupB (by rfl) G.tuple_ (by decide +kernel) (pa_cons (pe_callB (r := rSortedS K) cr_sortedS (by rfl) G.sorted_ (by decide +kernel) (pa_cons (pe_lc (own := [("one", 7)]) rfl nd (pi_tupK (K' := K) rfl (pv 8)) (blkOk_by (own := [("one", 7)]) (by kernel_rfl)) (fun _ _ _ _ _ => (pg_name (i := 7) nd rfl (.inl rfl))) (fun _ _ _ _ _ => pts_nil) (fun _ _ _ _ _ => (pe_dget2 (hu_of hr) (pv 2) (pv 7) (pv 7) ⟨rfl, rfl, rfl, rfl⟩))) pa_nil)) pa_nil)) pa_nil)))))
      (pss_cons (ps_setLc (i := 5) (own := [("pack", 9)]) rfl nd rfl rfl (sw_true rfl rfl rfl (by decide +kernel)) (pi_tup (pe_ix (r := rIxT K) ix_tup (pv 0) pe_int (fun _ _ => rfl))) (blkOk_by (own := [("pack", 9)]) (by kernel_rfl)) (fun _ _ _ _ _ => (pg_name (i := 9) nd rfl (.inl rfl))) (fun _ _ _ _ _ => pts_nil) (fun _ _ _ _ _ => (pe_tupB (pa_starK (K' := K) rfl (pe_slice (r := rSlB K) sl_tupB (pv 9) po_none (po_some pe_int)) (pa_cons (pe_cl C_called_anew (hr.mono (by decide)) (by rfl) pass0 (pa_cons (pe_ix (r := rIxT K) ix_tup (pv 9) pe_int (fun _ _ => rfl)) (pa_cons (pv 2) pa_nil))) pa_nil)))))
      (pss_one (ps_ret (pe_tupB (pa_cons (pe_cl C_called_anew (hr.mono (by decide)) (by rfl) pass0 (pa_cons (pe_ix (r := rIxT K) ix_tup (pv 0) pe_int (fun _ _ => rfl)) (pa_cons (pv 2) pa_nil))) (pa_cons (pe_cl C_called_anew (hr.mono (by decide)) (by rfl) pass0 (pa_cons (pv 4) (pa_cons (pv 2) pa_nil))) (pa_cons (pe_cl C_called_anew (hr.mono (by decide)) (by rfl) pass0 (pa_cons (pv 5) (pa_cons (pv 2) pa_nil))) pa_nil)))))))))))), ?_⟩
  refine q_dropX (dws := [.d (.int (-1))]) (S := fun _ => tblB t d = true) (R := fun z => z = ("table" : Str) ∧ tblB t d = false) h (a_2 (d_call (S := fun w => w = .d (.bool (tblB t d))) (a_2 (d_var h.env (i := 0) rfl) (d_var h.env (i := 1) rfl)) ⟨t, d, rfl, ht, hnice, hdl, rfl⟩) d_s) (fun H => .cons (.int _) .nil) ⟨tblB t d, _, rfl, fun e => e, fun e => ⟨rfl, e⟩⟩ (fun dx H' z e hz hx => kx dx H' z e (by rw [hz.1]; exact hS.1 hz.2) hx) (fun w H1 e1 htb h1 => ?_)
  obtain ⟨l, hl⟩ := tblB_of htb
  have hld := hl.e
  subst hld
  obtain ⟨s1, s2⟩ := hS.2 l hl
  have hln : (l.map fun p => p.1).Nodup := (pw_of_rising hl.rise).imp fun h => ltS_ne h
  have hll : l.length ≤ 100 := by have := hdl _ rfl; rwa [List.length_map] at this
  refine q_asg h1 (d_cb (S := fun w => w = .m (mT l)) (a_1 (d_var h1.env (i := 1) rfl)) (cs_dictT hln rfl)) (fun v2 w2 H2 e2 ew2 iw2 h2 => ?_)
  subst ew2
  generalize hF : renT l = F at s1 s2
  refine q_asg h2 (S := fun w => w = .d (.list ((t.nm.map F).map PyData.str))) (d_is (d_map (l := t.nm) (enc := fun z => .d (.str z)) (f := fun z => PyData.str (F z)) h2.env (i_listM (f := PyData.str) (d_call (a_1 (d_var h2.env (i := 0) rfl)) ⟨t, rfl, ht.lp, ht.lc, ht.lk, rfl⟩)) (js := [6]) (by decide) (Nat.le_trans ht.ln (by decide)) fun z hz => ⟨_, tg_name, fun σ' H' e' h' => d_is (d_dget2 (d_var h' (i := 2) rfl) (d_var h' (i := 6) rfl) (d_var h' (i := 6) rfl)) (by rw [ren_lk, hF])⟩) (by rw [List.map_map]; rfl)) (fun v3 w3 H3 e3 ew3 iw3 h3 => ?_)
  subst ew3
  refine q_dropX (dws := [.d (.int (-1))]) (S := fun _ => (t.nm.map F).Nodup) (R := fun z => z = ("table" : Str) ∧ ¬ (t.nm.map F).Nodup) h3 (a_2 (d_is (d_op (d_cb (a_1 (d_sk (l := t.nm.map F) (enc := fun z => .d (.str z)) (f := fun z => z) h3.env (i_listM (f := PyData.str) (d_var h3.env (i := 3) rfl)) (js := [6]) (by decide) (by rw [List.length_map]; exact Nat.le_trans ht.ln (by decide)) fun z hz => ⟨_, tg_name, fun σ' H' e' h' => d_var h' (i := 6) rfl⟩)) (cs_lenK rfl)) (d_cb (a_1 (d_var h3.env (i := 3) rfl)) (cs_lenL rfl)) (os_eqD rfl rfl rfl)) (y := .d (.bool (decide (t.nm.map F).Nodup))) ?_) d_s) (fun H => .cons (.int _) .nil) ⟨decide (t.nm.map F).Nodup, _, rfl, fun e => of_decide_eq_true e, fun e => ⟨rfl, of_decide_eq_false e⟩⟩ (fun dx H' z e hz hx => kx dx H' z e (by rw [hz.1]; exact s2 hz.2) hx) (fun w H4 e4 hnd h4 => ?_)
  · rw [eqv_int, List.map_id']
    refine congrArg (fun b => W.d (.bool b)) (decide_eq_decide.mpr ?_)
    rw [List.length_map]
    exact ⟨fun e => (once_eq _).mp (Int.ofNat.inj e), fun e => congrArg _ ((once_eq _).mpr e)⟩
  have hR : ∀ z, renT l z = F z := fun z => by rw [hF]
  have np : t.pn.Nodup := (List.nodup_append.mp (List.nodup_append.mp hf.nd).1).1
  have nc : t.cn.Nodup := (List.nodup_append.mp (List.nodup_append.mp hf.nd).1).2.1
  have nk : t.kn.Nodup := (List.nodup_append.mp hf.nd).2.1
  have mp : ∀ z ∈ t.pn, z ∈ t.nm := fun z hz => List.mem_append_left _ (List.mem_append_left _ hz)
  have mc : ∀ z ∈ t.cn, z ∈ t.nm := fun z hz => List.mem_append_left _ (List.mem_append_right _ hz)
  have mk : ∀ z ∈ t.kn, z ∈ t.nm := fun z hz => List.mem_append_right _ hz
  have sub : ∀ {α : Type} {m : List α} {nm : α → Str}, (m.map nm).Nodup → (∀ z ∈ m.map nm, z ∈ t.nm) → (m.map fun x => renT l (nm x)).Nodup := fun {α m nm} h1 h2 => by
    have e : (m.map fun x => renT l (nm x)) = (m.map nm).map F := by rw [List.map_map]; exact List.map_congr_left fun x _ => hR _
    rw [e]
    exact nodup_sub hnd h1 h2
  refine q_asg h4 (S := fun w => w = .d (.list (t.cs.map fun c => hd (c.1, [.tuple ((sortN znm (c.2.map F)).map PyData.str)])))) (d_map (l := t.cs) (enc := fun c => .d (eC c)) (f := fun c => hd (c.1, [.tuple ((sortN znm (c.2.map F)).map PyData.str)])) h4.env (i_tupM (f := eC) (d_op (d_var h4.env (i := 0) rfl) d_i (os_ixT (at_1 _ _ _) rfl))) (js := [6, 8]) (by decide) (Nat.le_trans hf.lc (by decide)) fun c hc => ⟨_, tg_two, fun σ' H' e' h' => ?_⟩) (fun v5 w5 H5 e5 ew5 iw5 h5 => ?_)
  · obtain ⟨c1, c2, c3, c4⟩ := hf.nc c hc
    refine d_tup (ds := [.str c.1, .tuple ((sortN znm (c.2.map F)).map PyData.str)]) (a_2 (d_var h' (i := 6) rfl) (d_cb (a_1 (d_cb (a_1 (d_is (d_map (l := c.2) (enc := fun z => .d (.str z)) (f := fun z => PyData.str (F z)) h' (i_tupM (f := PyData.str) (d_var h' (i := 8) rfl)) (js := [7]) (by decide) (Nat.le_trans c2 (by decide)) fun z hz => ⟨_, tg_name, fun σ' H' e' h'' => d_is (d_dget2 (d_var h'' (i := 2) rfl) (d_var h'' (i := 7) rfl) (d_var h'' (i := 7) rfl)) (by rw [ren_lk, hF])⟩) (y := .d (.list ((c.2.map F).map PyData.str))) (by rw [List.map_map]; rfl))) (cs_sortZ (by rw [List.length_map]; omega) (nodup_sub hnd c3 c4)))) (cs_tupL rfl))) (by simp)
  subst ew5
  refine q_asg h5 (S := fun w => w = .d (.list (t.ks.map fun k => hd (k.1, [.int k.2.1, .bool k.2.2.1, eB (sortN bnm (k.2.2.2.map fun e => (F e.1, e.2)))])))) (d_map (l := t.ks) (enc := fun k => .d (eK k)) (f := fun k => hd (k.1, [.int k.2.1, .bool k.2.2.1, eB (sortN bnm (k.2.2.2.map fun e => (F e.1, e.2)))])) h5.env (i_tupM (f := eK) (d_op (d_var h5.env (i := 0) rfl) d_i (os_ixT (at_2 _ _ _ _) rfl))) (js := [9]) (by decide) (Nat.le_trans hf.lk (by decide)) fun k hk => ⟨_, tg_name, fun σ' H' e' h' => ?_⟩) (fun v6 w6 H6 e6 ew6 iw6 h6 => ?_)
  · obtain ⟨k1, k2, k3, k4, k5, k6⟩ := hf.nk k hk
    refine d_tup (ds := [.str k.1, .int k.2.1, .bool k.2.2.1, eB (sortN bnm (k.2.2.2.map fun e => (F e.1, e.2)))]) (a_starT (ds := [.str k.1, .int k.2.1, .bool k.2.2.1]) (d_sl (lo := none) (hi := some 3) (d_var h' (i := 9) rfl) o_none (o_some d_i) (ss_T rfl)) (a_1 (d_call (a_2 (d_op (d_var h' (i := 9) rfl) d_i (os_ixT (at_3 _ _ _ _ _) rfl)) (d_var h' (i := 2) rfl)) (fr_t (l := k.2.2.2) (kv := l) (fun e => e.1) (fun e => [.int e.2]) (fun e => (F e.1, e.2)) bnm (fun e => [.int e.2]) (fun e => (hR _).symm) (fun _ => rfl) (sub k5 fun z hz => ?_) (Nat.le_trans k4 (by decide)) (fun _ => by simp) (.inl rfl))))) (by simp)
    obtain ⟨e, he, rfl⟩ := List.mem_map.mp hz
    exact (k6 e he).1
  subst ew6
  refine s_ret h6 (S := T) (d_to (d_tup (ds := [.tuple ((t.ren F).ps.map eP), .tuple ((t.ren F).cs.map eC), .tuple ((t.ren F).ks.map eK)]) (a_3
    (d_call (a_2 (d_op (d_var h6.env (i := 0) rfl) d_i (os_ixT (at_zero _ _) rfl)) (d_var h6.env (i := 2) rfl)) (fr_t (l := t.ps) (kv := l) (fun p => p.1) (fun p => [.int p.2]) (fun p => (F p.1, p.2)) pnm (fun p => [.int p.2]) (fun e => (hR _).symm) (fun _ => rfl) (sub np mp) (Nat.le_trans hf.lp (by decide)) (fun _ => by simp) (.inl rfl)))
    (d_call (a_2 (d_var h6.env (i := 4) rfl) (d_var h6.env (i := 2) rfl)) (fr_t (l := t.cs) (kv := l) (fun p => p.1) (fun c => [.tuple ((sortN znm (c.2.map F)).map PyData.str)]) (fun c => (F c.1, sortN znm (c.2.map F))) cnm (fun p => [.tuple (p.2.map PyData.str)]) (fun e => (hR _).symm) (fun _ => rfl) (sub nc mc) (Nat.le_trans hf.lc (by decide)) (fun _ => by simp) (.inr rfl)))
    (d_call (a_2 (d_var h6.env (i := 5) rfl) (d_var h6.env (i := 2) rfl)) (fr_t (l := t.ks) (kv := l) (fun p => p.1) (fun k => [.int k.2.1, .bool k.2.2.1, eB (sortN bnm (k.2.2.2.map fun e => (F e.1, e.2)))]) (fun k => (F k.1, k.2.1, k.2.2.1, sortN bnm (k.2.2.2.map fun e => (F e.1, e.2)))) knm (fun p => [.int p.2.1, .bool p.2.2.1, eB p.2.2.2]) (fun e => (hR _).symm) (fun _ => rfl) (sub nk mk) (Nat.le_trans hf.lk (by decide)) (fun _ => by simp) (.inr rfl)))) (by simp)) (s1 hnd)) (fun v w H' e s i => k v H' w e s i)
theorem ck_renamed (D : Def K mg "renamed" s_renamed) (G : Gm mg) (C_want : Cl P w K mg base (CXl P w) 3 "want" [.int (-1)] (SpX C F_want)) (C_is_table : Cl P w K mg base CX0 3 "is_table" [] (SpF F_is_table)) (C_all_names : Cl P w K mg base CX0 2 "all_names" [] (SpF F_all_names)) (C_called_anew : Cl P w K mg base CX0 1 "called_anew" [] (SpF F_called_anew)) : ClK P w K mg base (CXl P w) 4 "renamed" ["table", "shop"] (SpX C F_renamed) :=
  D.okXk sc_renamed (fun _ _ _ _ _ _ us vs hl => by
    match us, vs, hl with
    | [], [_, _], _ => rfl
    | [_], [_], _ => rfl
    | [_, _], [], _ => rfl
    | [], [], hl => cases hl
    | [], [_], hl => cases hl
    | [_], [], hl => cases hl
    | [], _ :: _ :: _ :: _, hl => simp at hl
    | [_], _ :: _ :: _, hl => simp at hl
    | [_, _], _ :: _, hl => simp at hl
    | _ :: _ :: _ :: _, _, hl => simp at hl) (fun ws S R h => by obtain ⟨_, _, e, _⟩ := h; rw [e]; rfl) (bd_renamed G C_want C_is_table C_all_names C_called_anew)

theorem at_callK {N : List Addr} {B : Hp} {σ : L2.St} {H : Hp} {ρ : List (Option W)} {ta tb : TE} {F : List W → (W → Prop) → (Str → Prop) → Prop} {x y : W} {S : W → Prop} {R : Str → Prop} {E : XK} {Q : VK} (h : At N B σ H ρ) (ha : Ed ta σ (hid N H) x) (hb : Ed tb σ (hid N H) y) (hF : F [y, x] S R)
    (kx : ∀ dx H' z, Ex H H' → R z → H' dx = some (.xd [("at", .int (-1)), ("word", .str z)]) → E (.ref C) (some dx) H') (k : ∀ v H' w, Ex H H' → S w → Is (hid N H') v w → Q v H') : tCallK (SpX C F) (fun vs zs => vs ++ zs.reverse) E tNil (tCons ta (tCons tb tNil)) σ H Q := by
  show tCons ta (tCons tb tNil) σ H fun zs H2 => SpX C F ([] ++ zs.reverse) H2 Q E
  refine (a_2 ha hb) N H h.vw _ fun zs H2 ws e s ia => ?_
  · skip
    subst s
    cases ia with
    | cons i1 ia =>
      cases ia with
      | cons i2 ia =>
        cases ia
        exact ⟨N, [y, x], S, R, (h.mono e).al, .cons i2 (.cons i1 .nil), hF, fun v H' w e' sw iw => k v H' w (e.trans e') sw iw, fun dx H' z e' rz hx => kx dx H' z (e.trans e') rz hx⟩
end
end Kl
set_option Elab.async false
set_option linter.all false
set_option maxRecDepth 100000
set_option maxHeartbeats 8000000
/-! M6: sizes; a renamed shop is a shop; the table turned about. -/
namespace Kl
open PySem PySem.Spec PyProof.Rows L2
/-! ### sizes -/
structure Szs (t : Shp) : Prop where
  p : ∀ p ∈ t.ps, isNameS p.1 = true ∧ 0 ≤ p.2 ∧ p.2 < 10 ^ 79
  c : ∀ c ∈ t.cs, isNameS c.1 = true ∧ c.2.length ≤ 20 ∧ ∀ z ∈ c.2, isNameS z = true
  k : ∀ k ∈ t.ks, isNameS k.1 = true ∧ 0 ≤ k.2.1 ∧ k.2.1 < 10 ^ 79 ∧ k.2.2.2.length ≤ 20 ∧ ∀ e ∈ k.2.2.2, isNameS e.1 = true ∧ 0 ≤ e.2 ∧ e.2 < 10 ^ 79
  lp : t.ps.length ≤ 20
  lc : t.cs.length ≤ 20
  lk : t.ks.length ≤ 20
theorem Pre.szs {t : Shp} (h : Pre t) : Szs t := ⟨h.np, fun c hc => by
    obtain ⟨a, b, _, d⟩ := h.nc c hc
    unfold isNamesB at b
    rw [Bool.and_eq_true] at b
    exact ⟨a, d, List.all_eq_true.mp b.1⟩, fun k hk => by
    obtain ⟨a, b, c, _, e, _, g⟩ := h.nk k hk
    exact ⟨a, b, c, e, fun x hx => ⟨(g x hx).1, Int.le_trans (by decide) (g x hx).2.1, (g x hx).2.2.1⟩⟩, h.lp, h.lc, h.lk⟩
theorem Fit.szs {t : Shp} (h : Fit t) : Szs t := ⟨h.np, fun c hc => by
    obtain ⟨a, b, _, d⟩ := h.nc c hc
    exact ⟨a, b, fun z hz => h.ok z (d z hz)⟩, fun k hk => by
    obtain ⟨a, b, c, d, _, g⟩ := h.nk k hk
    exact ⟨a, b, c, d, fun x hx => ⟨h.ok _ (g x hx).1, (g x hx).2⟩⟩, h.lp, h.lc, h.lk⟩
theorem nm_nice {z : Str} (h : isNameS z = true) : niceB (.str z) = true := (name_nice h).ok
theorem nm_wt {z : Str} (h : isNameS z = true) : wt (.str z) ≤ 86 := by
  have := name_len h
  show 10 * z.length + 6 ≤ 86
  omega
theorem int_nice {i : Int} (h0 : 0 ≤ i) (h : i < 10 ^ 79) : niceB (.int i) = true := by
  show decide (i.natAbs < 10 ^ 80) = true
  obtain ⟨n, rfl⟩ := Int.eq_ofNat_of_zero_le h0
  rw [Int.natAbs_natCast]
  have h2 : n < 10 ^ 79 := by exact_mod_cast h
  exact decide_eq_true (Nat.lt_trans h2 (by decide))
theorem eP_nice {p : Str × Int} (h : isNameS p.1 = true) (h0 : 0 ≤ p.2) (h1 : p.2 < 10 ^ 79) : niceB (eP p) = true ∧ wt (eP p) ≤ 186 := by
  have := nm_wt h
  refine ⟨?_, ?_⟩
  · show (niceB (.str p.1) && (niceB (.int p.2) && true)) = true
    rw [nm_nice h, int_nice h0 h1]; rfl
  · show 6 + (wt (.str p.1) + 2 + (90 + 2 + 0)) ≤ 186
    omega
theorem eC_nice {c : Str × List Str} (h : isNameS c.1 = true) (hl : c.2.length ≤ 20) (hz : ∀ z ∈ c.2, isNameS z = true) : niceB (eC c) = true ∧ wt (eC c) ≤ 1862 := by
  have h1 := nm_wt h
  have h2 : wtAll (c.2.map PyData.str) ≤ c.2.length * 88 := wtAll_map (c := 86) fun z hz' => nm_wt (hz z hz')
  refine ⟨?_, ?_⟩
  · show (niceB (.str c.1) && (niceAll (c.2.map PyData.str) && true)) = true
    rw [nm_nice h, niceAll_map fun z hz' => nm_nice (hz z hz')]; rfl
  · show 6 + (wt (.str c.1) + 2 + (6 + wtAll (c.2.map PyData.str) + 2 + 0)) ≤ 1862
    omega
theorem eK_nice {k : Str × Int × Bool × List (Str × Int)} (h : isNameS k.1 = true) (h0 : 0 ≤ k.2.1) (h1 : k.2.1 < 10 ^ 79) (hl : k.2.2.2.length ≤ 20) (he : ∀ e ∈ k.2.2.2, isNameS e.1 = true ∧ 0 ≤ e.2 ∧ e.2 < 10 ^ 79) : niceB (eK k) = true ∧ wt (eK k) ≤ 3963 := by
  have a1 := nm_wt h
  have a2 : wtAll (k.2.2.2.map eP) ≤ k.2.2.2.length * 188 := wtAll_map (c := 186) fun e hm => (eP_nice (he e hm).1 (he e hm).2.1 (he e hm).2.2).2
  refine ⟨?_, ?_⟩
  · show (niceB (.str k.1) && (niceB (.int k.2.1) && (true && (niceAll (k.2.2.2.map eP) && true)))) = true
    rw [nm_nice h, int_nice h0 h1, niceAll_map fun e hm => (eP_nice (he e hm).1 (he e hm).2.1 (he e hm).2.2).1]; rfl
  · show 6 + (wt (.str k.1) + 2 + (90 + 2 + (7 + 2 + (6 + wtAll (k.2.2.2.map eP) + 2 + 0)))) ≤ 3963
    omega
theorem depth_eC4 (c : Str × List Str) : (eC c).depth ≤ 2 := by
  have := depth_str c.2
  have h0 : PyData.depthAll (c.2.map PyData.str) ≤ 0 := depthAll_of fun d hd => by
    obtain ⟨z, _, rfl⟩ := List.mem_map.mp hd
    exact Nat.le_refl _
  show max 0 (max (PyData.depthAll (c.2.map PyData.str) + 1) 0) + 1 ≤ 2
  omega
theorem depth_eK4 (k : Str × Int × Bool × List (Str × Int)) : (eK k).depth ≤ 3 := by
  have h0 : PyData.depthAll (k.2.2.2.map eP) ≤ 1 := depthAll_of fun d hd => by
    obtain ⟨z, _, rfl⟩ := List.mem_map.mp hd
    show max 0 (max 0 0) + 1 ≤ 1
    decide
  show max 0 (max 0 (max 0 (max (PyData.depthAll (k.2.2.2.map eP) + 1) 0))) + 1 ≤ 3
  omega
theorem Szs.enc {t : Shp} (h : Szs t) : niceB (enc t) = true ∧ wt (enc t) ≤ 120370 ∧ (Kl.enc t).depth ≤ 5 := by
  have lp := h.lp; have lc := h.lc; have lk := h.lk
  have w1 : wtAll (t.ps.map eP) ≤ t.ps.length * 188 := wtAll_map (c := 186) fun p hp => (eP_nice (h.p p hp).1 (h.p p hp).2.1 (h.p p hp).2.2).2
  have w2 : wtAll (t.cs.map eC) ≤ t.cs.length * 1864 := wtAll_map (c := 1862) fun c hc => (eC_nice (h.c c hc).1 (h.c c hc).2.1 (h.c c hc).2.2).2
  have w3 : wtAll (t.ks.map eK) ≤ t.ks.length * 3965 := wtAll_map (c := 3963) fun k hk => (eK_nice (h.k k hk).1 (h.k k hk).2.1 (h.k k hk).2.2.1 (h.k k hk).2.2.2.1 (h.k k hk).2.2.2.2).2
  have d1 : PyData.depthAll (t.ps.map eP) ≤ 1 := depthAll_of fun d hd => by
    obtain ⟨z, _, rfl⟩ := List.mem_map.mp hd
    show max 0 (max 0 0) + 1 ≤ 1
    decide
  have d2 : PyData.depthAll (t.cs.map eC) ≤ 2 := depthAll_of fun d hd => by
    obtain ⟨z, _, rfl⟩ := List.mem_map.mp hd
    exact depth_eC4 z
  have d3 : PyData.depthAll (t.ks.map eK) ≤ 3 := depthAll_of fun d hd => by
    obtain ⟨z, _, rfl⟩ := List.mem_map.mp hd
    exact depth_eK4 z
  refine ⟨?_, ?_, ?_⟩
  · show (niceAll (t.ps.map eP) && (niceAll (t.cs.map eC) && (niceAll (t.ks.map eK) && true))) = true
    rw [niceAll_map fun p hp => (eP_nice (h.p p hp).1 (h.p p hp).2.1 (h.p p hp).2.2).1, niceAll_map fun c hc => (eC_nice (h.c c hc).1 (h.c c hc).2.1 (h.c c hc).2.2).1, niceAll_map fun k hk => (eK_nice (h.k k hk).1 (h.k k hk).2.1 (h.k k hk).2.2.1 (h.k k hk).2.2.2.1 (h.k k hk).2.2.2.2).1]; rfl
  · show 6 + (6 + wtAll (t.ps.map eP) + 2 + (6 + wtAll (t.cs.map eC) + 2 + (6 + wtAll (t.ks.map eK) + 2 + 0))) ≤ 120370
    omega
  · show max (PyData.depthAll (t.ps.map eP) + 1) (max (PyData.depthAll (t.cs.map eC) + 1) (max (PyData.depthAll (t.ks.map eK) + 1) 0)) + 1 ≤ 5
    omega
theorem Szs.nice {t : Shp} (h : Szs t) : Nice (Kl.enc t) := ⟨h.enc.1, Nat.le_trans h.enc.2.1 (by decide), Nat.le_trans h.enc.2.2 (by decide)⟩
/-- what is told of a query -/
def dueD : PyData → Str → PyData
  | .none, z => .tuple [.str "use", .str z, .int (-1)]
  | d, _ => .tuple [.str "told", d]
structure DueOk (d : PyData) : Prop where
  ni : niceB d = true
  wt : Kl.wt d ≤ 120370
  dp : d.depth ≤ 5
theorem due_two {d : PyData} {z : Str} (h : d = .none ∨ DueOk d) (hz : niceB (.str z) = true) (hz2 : wt (.str z) ≤ 86) : Nice (.list [dueD d z, dueD d z]) := by
  have key : ∀ x : PyData, niceB x = true → wt x ≤ 130000 → x.depth ≤ 9 → Nice (.list [x, x]) := fun x a b c => ⟨by
    show (niceB x && (niceB x && true)) = true
    rw [a]; rfl, by
    show 6 + (wt x + 2 + (wt x + 2 + 0)) ≤ 400000
    omega, by
    show max x.depth (max x.depth 0) + 1 ≤ 30
    omega⟩
  rcases h with e | h
  · subst e
    refine key _ ?_ ?_ (by show max 0 (max 0 (max 0 0)) + 1 ≤ 9; decide)
    · show (niceB (.str "use") && (niceB (.str z) && (true && true))) = true
      rw [hz]; decide +kernel
    · show 6 + (wt (.str "use") + 2 + (wt (.str z) + 2 + (90 + 2 + 0))) ≤ 130000
      have : wt (.str "use") = 36 := by decide +kernel
      omega
  · have e : dueD d z = .tuple [.str "told", d] ∨ d = .none := by cases d <;> first | exact .inr rfl | exact .inl rfl
    rcases e with e | e
    · rw [e]
      have w0 : wt (.str "told") = 46 := by decide +kernel
      have h1 := h.wt; have h2 := h.dp
      refine key _ ?_ ?_ ?_
      · show (niceB (.str "told") && (niceB d && true)) = true
        rw [h.ni]; decide +kernel
      · show 6 + (wt (.str "told") + 2 + (wt d + 2 + 0)) ≤ 130000
        omega
      · show max 0 (max d.depth 0) + 1 ≤ 9
        omega
    · subst e
      exact key _ (by show (niceB (.str "use") && (niceB (.str z) && (true && true))) = true; rw [hz]; decide +kernel) (by
        show 6 + (wt (.str "use") + 2 + (wt (.str z) + 2 + (90 + 2 + 0))) ≤ 130000
        have : wt (.str "use") = 36 := by decide +kernel
        omega) (by show max 0 (max 0 (max 0 0)) + 1 ≤ 9; decide)
/-! ### a renamed shop -/
theorem map_perm {α β : Type} {nm : α → Str} {nb : β → Str} {g : α → β} {F : Str → Str} {l : List α} (hg : ∀ x, nb (g x) = F (nm x)) : ((sortN nb (l.map g)).map nb).Perm ((l.map nm).map F) := by
  have e : (l.map g).map nb = (l.map nm).map F := by rw [List.map_map, List.map_map]; exact List.map_congr_left fun x _ => hg x
  rw [← e]
  exact (sortN_perm (nm := nb) (l.map g)).map nb
section
variable {t : Shp} {F : Str → Str}
theorem ren_pn : (t.ren F).pn.Perm (t.pn.map F) := map_perm (nm := pnm) (nb := pnm) (g := fun p => (F p.1, p.2)) (l := t.ps) fun _ => rfl
theorem ren_cn : (t.ren F).cn.Perm (t.cn.map F) := map_perm (nm := cnm) (nb := cnm) (g := fun c => (F c.1, sortN znm (c.2.map F))) (l := t.cs) fun _ => rfl
theorem ren_kn : (t.ren F).kn.Perm (t.kn.map F) := map_perm (nm := knm) (nb := knm) (g := fun k => (F k.1, k.2.1, k.2.2.1, sortN bnm (k.2.2.2.map fun e : Str × Int => (F e.1, e.2)))) (l := t.ks) fun _ => rfl
theorem ren_nm : (t.ren F).nm.Perm (t.nm.map F) := by
  show ((t.ren F).pn ++ (t.ren F).cn ++ (t.ren F).kn).Perm ((t.pn ++ t.cn ++ t.kn).map F)
  rw [List.map_append, List.map_append]
  exact (ren_pn.append ren_cn).append ren_kn
theorem mp {z : Str} (h : z ∈ t.pn) : z ∈ t.nm := List.mem_append_left _ (List.mem_append_left _ h)
theorem mc {z : Str} (h : z ∈ t.cn) : z ∈ t.nm := List.mem_append_left _ (List.mem_append_right _ h)
theorem mk {z : Str} (h : z ∈ t.kn) : z ∈ t.nm := List.mem_append_right _ h
theorem fit_ren (hf : Fit t) (hn : (t.nm.map F).Nodup) (hF : ∀ z ∈ t.nm, isNameS (F z) = true) : Fit (t.ren F) where
  np := fun p hp => by
    obtain ⟨q, hq, rfl⟩ := List.mem_map.mp (sortN_mem.mp hp)
    exact ⟨hF _ (mp (List.mem_map_of_mem hq)), (hf.np q hq).2⟩
  nc := fun c hc => by
    obtain ⟨q, hq, rfl⟩ := List.mem_map.mp (sortN_mem.mp hc)
    obtain ⟨_, h2, h3, h4⟩ := hf.nc q hq
    refine ⟨hF _ (mc (List.mem_map_of_mem hq)), by show (sortN znm (q.2.map F)).length ≤ 20; rw [sortN_len, List.length_map]; exact h2, (sortN_perm _).nodup_iff.mpr (nodup_sub hn h3 h4), fun z hz => ?_⟩
    obtain ⟨y, hy, rfl⟩ := List.mem_map.mp (sortN_mem.mp hz)
    exact ren_nm.mem_iff.mpr (List.mem_map_of_mem (h4 y hy))
  nk := fun k hk => by
    obtain ⟨q, hq, rfl⟩ := List.mem_map.mp (sortN_mem.mp hk)
    obtain ⟨_, h2, h3, h4, h5, h6⟩ := hf.nk q hq
    have hsub : ∀ z ∈ q.2.2.2.map fun e => e.1, z ∈ t.nm := fun z hz => by
      obtain ⟨e, he, rfl⟩ := List.mem_map.mp hz
      exact (h6 e he).1
    refine ⟨hF _ (mk (List.mem_map_of_mem (f := fun k => k.1) hq)), h2, h3, by show (sortN bnm (q.2.2.2.map fun e => (F e.1, e.2))).length ≤ 20; rw [sortN_len, List.length_map]; exact h4, ?_, fun e he => ?_⟩
    · exact (map_perm (nm := fun e : Str × Int => e.1) (nb := bnm) (F := F) fun _ => rfl).nodup_iff.mpr (nodup_sub hn h5 hsub)
    · obtain ⟨y, hy, rfl⟩ := List.mem_map.mp (sortN_mem.mp he)
      exact ⟨ren_nm.mem_iff.mpr (List.mem_map_of_mem (h6 y hy).1), (h6 y hy).2⟩
  nd := ren_nm.nodup_iff.mpr hn
  lp := by show (sortN pnm _).length ≤ 20; rw [sortN_len, List.length_map]; exact hf.lp
  lc := by show (sortN cnm _).length ≤ 20; rw [sortN_len, List.length_map]; exact hf.lc
  lk := by show (sortN knm _).length ≤ 20; rw [sortN_len, List.length_map]; exact hf.lk
theorem pre_ren (hp : Pre t) (hf : Fit t) (hn : (t.nm.map F).Nodup) (hF : ∀ z ∈ t.nm, isNameS (F z) = true) : Pre (t.ren F) := by
  have inj := inj_of_nodup hn
  have fr := fit_ren hf hn hF
  have np : t.pn.Nodup := rise_nodup (nm := pnm) hp.rp
  have nc : t.cn.Nodup := rise_nodup (nm := cnm) hp.rc
  have nk : t.kn.Nodup := rise_nodup (nm := knm) hp.rk
  refine ⟨fr.np, fun c hc => ?_, fun k hk => ?_, ?_, ?_, ?_, fun z h1 h2 => ?_, fun z h1 => ⟨fun h2 => ?_, fun h2 => ?_⟩, fr.lp, fr.lc, fr.lk, ?_⟩
  · obtain ⟨h1, h2, h3, h4⟩ := fr.nc c hc
    obtain ⟨q, hq, rfl⟩ := List.mem_map.mp (sortN_mem.mp hc)
    have h5 := (hp.nc q hq).2.2.1
    have h6 := hf.nc q hq
    refine ⟨h1, ?_, by show 2 ≤ (sortN znm (q.2.map F)).length; rw [sortN_len, List.length_map]; exact h5, h2⟩
    unfold isNamesB
    rw [Bool.and_eq_true, List.all_eq_true]
    exact ⟨fun z hz => fr.ok z (h4 z hz), sortZ_rise (nodup_sub hn h6.2.2.1 h6.2.2.2)⟩
  · obtain ⟨h1, h2, h3, h4, h5, h6⟩ := fr.nk k hk
    obtain ⟨q, hq, rfl⟩ := List.mem_map.mp (sortN_mem.mp hk)
    obtain ⟨a1, a2, a3, a4, a5, a6, a7⟩ := hp.nk q hq
    obtain ⟨b1, b2, b3, b4, b5, b6⟩ := hf.nk q hq
    have hsub : ∀ z ∈ q.2.2.2.map fun e => e.1, z ∈ t.nm := fun z hz => by
      obtain ⟨e, he, rfl⟩ := List.mem_map.mp hz
      exact (b6 e he).1
    refine ⟨h1, h2, h3, by show 0 < (sortN bnm (q.2.2.2.map fun e => (F e.1, e.2))).length; rw [sortN_len, List.length_map]; exact a4, h4, ?_, fun e he => ?_⟩
    · refine sortN_rise (nm := bnm) ?_
      have e : (q.2.2.2.map fun e => (F e.1, e.2)).map bnm = (q.2.2.2.map fun e => e.1).map F := by rw [List.map_map, List.map_map]; rfl
      rw [e]
      exact nodup_sub hn b5 hsub
    · obtain ⟨y, hy, rfl⟩ := List.mem_map.mp (sortN_mem.mp he)
      obtain ⟨c1, c2, c3, c4, c5⟩ := a7 y hy
      refine ⟨hF _ (b6 y hy).1, c2, c3, fun z => c4 (inj _ (b6 y hy).1 _ (mk (List.mem_map_of_mem (f := fun k => k.1) hq)) z), fun hb hm => ?_⟩
      obtain ⟨x, hx, ex⟩ := List.mem_map.mp (ren_cn.mem_iff.mp hm)
      have := inj _ (mc hx) _ (b6 y hy).1 ex
      exact c5 hb (this ▸ hx)
  · show risingB ((sortN pnm (t.ps.map fun p => (F p.1, p.2))).map pnm) = true
    exact (sortN_rise (nm := pnm) (l := t.ps.map fun p => (F p.1, p.2)) (by
      have e : (t.ps.map fun p => (F p.1, p.2)).map pnm = t.pn.map F := by rw [List.map_map, List.map_map]; rfl
      rw [e]; exact nodup_sub hn np fun z hz => mp hz))
  · show risingB ((sortN cnm (t.cs.map fun c => (F c.1, sortN znm (c.2.map F)))).map cnm) = true
    exact (sortN_rise (nm := cnm) (l := t.cs.map fun c => (F c.1, sortN znm (c.2.map F))) (by
      have e : (t.cs.map fun c => (F c.1, sortN znm (c.2.map F))).map cnm = t.cn.map F := by rw [List.map_map, List.map_map]; rfl
      rw [e]; exact nodup_sub hn nc fun z hz => mc hz))
  · show risingB ((sortN knm (t.ks.map fun k => (F k.1, k.2.1, k.2.2.1, sortN bnm (k.2.2.2.map fun e => (F e.1, e.2))))).map knm) = true
    exact (sortN_rise (nm := knm) (l := t.ks.map fun k => (F k.1, k.2.1, k.2.2.1, sortN bnm (k.2.2.2.map fun e => (F e.1, e.2)))) (by
      have e : (t.ks.map fun k => (F k.1, k.2.1, k.2.2.1, sortN bnm (k.2.2.2.map fun e => (F e.1, e.2)))).map knm = t.kn.map F := by rw [List.map_map, List.map_map]; rfl
      rw [e]; exact nodup_sub hn nk fun z hz => mk hz))
  · obtain ⟨x, hx, ex⟩ := List.mem_map.mp (ren_cn.mem_iff.mp h1)
    obtain ⟨y, hy, ey⟩ := List.mem_map.mp (ren_pn.mem_iff.mp h2)
    have := inj _ (mc hx) _ (mp hy) (ex.trans ey.symm)
    exact hp.dc x hx (this ▸ hy)
  · obtain ⟨x, hx, ex⟩ := List.mem_map.mp (ren_kn.mem_iff.mp h1)
    obtain ⟨y, hy, ey⟩ := List.mem_map.mp (ren_pn.mem_iff.mp h2)
    have := inj _ (mk hx) _ (mp hy) (ex.trans ey.symm)
    exact (hp.dk x hx).1 (this ▸ hy)
  · obtain ⟨x, hx, ex⟩ := List.mem_map.mp (ren_kn.mem_iff.mp h1)
    obtain ⟨y, hy, ey⟩ := List.mem_map.mp (ren_cn.mem_iff.mp h2)
    have := inj _ (mk hx) _ (mc hy) (ex.trans ey.symm)
    exact (hp.dk x hx).2 (this ▸ hy)
  · obtain ⟨r, hr⟩ := hp.rank
    have key : ∀ y ∈ t.nm, ((t.nm.find? fun x => decide (F x = F y)).map r).getD 0 = r y := fun y hy => by
      cases q : t.nm.find? fun x => decide (F x = F y) with
      | none => exact absurd (decide_eq_true rfl) (List.find?_eq_none.mp q y hy)
      | some x =>
        have h1 := List.find?_some q
        have h2 := List.mem_of_find?_eq_some q
        rw [inj x h2 y hy (of_decide_eq_true h1)]; rfl
    refine ⟨fun z => ((t.nm.find? fun x => decide (F x = z)).map r).getD 0, fun k hk e he => ?_⟩
    obtain ⟨q, hq, rfl⟩ := List.mem_map.mp (sortN_mem.mp hk)
    obtain ⟨y, hy, rfl⟩ := List.mem_map.mp (sortN_mem.mp he)
    show ((t.nm.find? fun x => decide (F x = F y.1)).map r).getD 0 < ((t.nm.find? fun x => decide (F x = F q.1)).map r).getD 0
    rw [key _ ((hf.nk q hq).2.2.2.2.2 y hy).1, key _ (mk (List.mem_map_of_mem (f := fun k => k.1) hq))]
    exact hr q hq y hy
end
/-! ### the table turned about -/
theorem renT_mem {l : List (Str × Str)} (hn : (l.map fun p => p.1).Nodup) {p : Str × Str} (h : p ∈ l) : renT l p.1 = p.2 := by
  unfold renT
  cases q : l.find? fun x => decide (x.1 = p.1) with
  | none => exact absurd (decide_eq_true rfl) (List.find?_eq_none.mp q p h)
  | some x =>
    have h1 : x.1 = p.1 := of_decide_eq_true (List.find?_some (p := fun x : Str × Str => decide (x.1 = p.1)) q)
    have h2 := List.mem_of_find?_eq_some q
    have e : x = p := by
      clear q
      induction l with
      | nil => cases h
      | cons a l ih =>
        rw [List.map_cons, List.nodup_cons] at hn
        rcases List.mem_cons.mp h with e1 | e1
        · rcases List.mem_cons.mp h2 with e2 | e2
          · rw [e1, e2]
          · exact absurd (List.mem_map.mpr ⟨x, e2, by rw [h1, e1]⟩) hn.1
        · rcases List.mem_cons.mp h2 with e2 | e2
          · exact absurd (List.mem_map.mpr ⟨p, e1, by rw [← h1, e2]⟩) hn.1
          · exact ih hn.2 e1 e2
    rw [e]; rfl
theorem renT_out {l : List (Str × Str)} {z : Str} (h : z ∉ l.map fun p => p.1) : renT l z = z := by
  unfold renT
  have e : (l.find? fun x => decide (x.1 = z)) = none := List.find?_eq_none.mpr fun x hx q => h (List.mem_map.mpr ⟨x, hx, of_decide_eq_true q⟩)
  rw [e]; rfl
abbrev swp (p : Str × Str) : Str × Str := (p.2, p.1)
abbrev fst2 (p : Str × Str) : Str := p.1
abbrev backT (l : List (Str × Str)) : List (Str × Str) := sortN fst2 (l.map swp)
section
variable {t : Shp} {l : List (Str × Str)} {d : PyData}
theorem IsTbl.keys (h : IsTbl t d l) : (l.map fun p => p.1).Nodup := (pw_of_rising h.rise).imp fun h => ltS_ne h
theorem IsTbl.name (h : IsTbl t d l) (hf : Fit t) : ∀ z ∈ t.nm, isNameS (renT l z) = true := fun z hz => by
  by_cases m : z ∈ l.map fun p => p.1
  · obtain ⟨p, hp, rfl⟩ := List.mem_map.mp m
    rw [renT_mem h.keys hp]
    exact (h.nm p hp).2
  · rw [renT_out m]
    exact hf.ok z hz
theorem IsTbl.news (h : IsTbl t d l) (hn : (t.nm.map (renT l)).Nodup) : ((l.map swp).map fst2).Nodup := by
  have e : (l.map swp).map fst2 = (l.map fun p => p.1).map (renT l) := by
    rw [List.map_map, List.map_map]
    exact List.map_congr_left fun p hp => (renT_mem h.keys hp).symm
  rw [e]
  refine nodup_sub hn h.keys fun z hz => ?_
  obtain ⟨p, hp, rfl⟩ := List.mem_map.mp hz
  exact h.own p hp
theorem IsTbl.back (h : IsTbl t d l) (hn : (t.nm.map (renT l)).Nodup) : IsTbl (t.ren (renT l)) (.tuple ((backT l).map eS)) (backT l) where
  e := rfl
  nm := fun p hp => by
    obtain ⟨q, hq, rfl⟩ := List.mem_map.mp (sortN_mem.mp hp)
    exact ⟨(h.nm q hq).2, (h.nm q hq).1⟩
  rise := sortN_rise (h.news hn)
  own := fun p hp => by
    obtain ⟨q, hq, rfl⟩ := List.mem_map.mp (sortN_mem.mp hp)
    refine ren_nm.mem_iff.mpr (List.mem_map.mpr ⟨q.1, h.own q hq, renT_mem h.keys hq⟩)
theorem back_ren (h : IsTbl t d l) (hn : (t.nm.map (renT l)).Nodup) : ∀ z ∈ t.nm, renT (backT l) (renT l z) = z := fun z hz => by
  have hk := (h.back hn).keys
  by_cases m : z ∈ l.map fun p => p.1
  · obtain ⟨p, hp, rfl⟩ := List.mem_map.mp m
    rw [renT_mem h.keys hp]
    exact renT_mem (p := (p.2, p.1)) hk (sortN_mem.mpr (List.mem_map.mpr ⟨p, hp, rfl⟩))
  · rw [renT_out m]
    refine renT_out fun m2 => ?_
    obtain ⟨q, hq, eq⟩ := List.mem_map.mp m2
    obtain ⟨p, hp, rfl⟩ := List.mem_map.mp (sortN_mem.mp hq)
    have e1 : renT l p.1 = renT l z := by rw [renT_mem h.keys hp, renT_out m]; exact eq
    exact m (inj_of_nodup hn _ (h.own p hp) _ hz e1 ▸ List.mem_map_of_mem hp)
theorem back_nodup (hf : Fit t) (h : IsTbl t d l) (hn : (t.nm.map (renT l)).Nodup) : ((t.ren (renT l)).nm.map (renT (backT l))).Nodup := by
  have p := (ren_nm (t := t) (F := renT l)).map (renT (backT l))
  refine p.nodup_iff.mpr ?_
  rw [List.map_map]
  have e : t.nm.map (renT (backT l) ∘ renT l) = t.nm.map id := List.map_congr_left fun z hz => back_ren h hn z hz
  rw [e, List.map_id]
  exact hf.nd
end
theorem tbl_one {t : Shp} {l m : List (Str × Str)} (h : IsTbl t (.tuple (m.map eS)) l) : l = m := by
  have e := h.e
  injection e with e
  exact (map_inj (fun _ _ h => eS_inj h) e).symm
end Kl
set_option Elab.async false
set_option linter.all false
set_option maxRecDepth 100000
set_option maxHeartbeats 8000000
/-! X8: promises where the tables of codes are known; a query handed to _law_said. -/
namespace Kl
open PySem PySem.Spec PyProof.Rows L2 LamX
/-- all that _law_said rests on -/
structure SaidK (K : Frg) (mg : Str → Option Value) (C : Addr) : Prop where
  G : Gm mg
  R : RefC K C
  F : Fams K mg C
  KE : Kite K mg C
  DR : Def K mg "_law_refusal" s_law_refusal
  DS : Def K mg "_law_said" s_law_said
theorem passLam {X : Cx} {A : Around} {outer : List PySem.Env} {s : Shared} {H : Hp} {E : XK} {scope : Scope} {f c' : Addr} : Passes (CXl X.prog X.w) (lamCx X A outer s H E scope f c') E := passes_call (takes_of rfl rfl rfl rfl) fun _ _ _ _ h => h
theorem pe_said {X : Cx} {C c P : Addr} {k : Nat} (S : SaidK X.K X.mg C) (TB : TabB X.base X.mg c P) (hcode : X.env.code = .ref c) (hr : Room (k + 2) X.A) (hg : Gl X "_law_said") {params : Arguments} {body : Expr} {scope : Scope} {t : XK → TE} {p lpos pos : Pos} (L : LamS X.env.scope scope) (hdef : defaultsOf params X.env = ([], []))
    (hbind : ∀ (q : Str) (cl : List (Str × Addr)) (pm cv ctv : Value), bindArgs (PySem.W.kla_fn "<lambda>" q params body scope cl pm cv ctv) ⟨[], []⟩ = pure [])
    (hbody : ∀ (A : Around) (outer : List PySem.Env) (s : Shared) (H : Hp) (E : XK) (f c' : Addr), Room k (A.deeper (lamEnv X scope s.heap.objs.size f c')) → PE (lamCx X A outer s H E scope f c') body (t E)) :
    PE X (.Call (.Name "_law_said" p) [.Lambda params body scope lpos] [] pos) (tLamW P (X.env.qual ++ "<lambda>") (TTsaid C) t) := by
  obtain ⟨g, fd, Fn, hm⟩ := S.DS.ex
  have hk := Fn.kp
  have hb : L2.Binds X.K fd ["_law_query"] [] := Fn.binds (ps := ["_law_query"]) (fun _ _ _ _ _ _ us hl => match us, hl with | [_], _ => rfl)
  obtain ⟨oc, od, kV, doc, pm, an, cdv, ct, osl, rfl, lk, hcd⟩ := Fn.ex
  have h1 := hr.dp
  have h2 := hr.un
  exact pe_lamW (a := "_law_query") hg hm hk lk hcd hb sc_law_said rfl (.inl rfl) (said_gives S.G S.R S.F S.KE S.DR (by omega) (by omega)) TB hcode hr L hdef hbind hbody
/-- the name of a lambda in the def x -/
abbrev qn (x : Str) : Str := (x ++ ".<locals>.") ++ "<lambda>"
/-- two tables -/
def tb2 (P1 P2 : Addr) (q1 q2 : Str) : List (Addr × Str) := [(P1, q1), (P2, q2)]
def SpT (T : List (Addr × Str)) (F : List W → (W → Prop) → Prop) : Sp := fun vs H Q _ => Tabs T H ∧ ∃ (N : List Addr) (ws : List W) (S : W → Prop), NoX N H ∧ IsAll (hid N H) vs ws ∧ F ws S ∧ ∀ v H' w, Exw H H' → Tabs T H' → S w → Is (hid N H') v w → Q v H'
/-- a def in which lambdas are made: P, its code's table -/
structure DefL (K : Frg) (mg : Str → Option Value) (base : Heap) (x : Str) (st : Stmt) (P : Addr) : Prop where
  ex : ∃ (f : Addr) (fd : FuncData) (c : Addr), Fun K x x st f fd ∧ mg x = some (.ref f) ∧ fd.code = .ref c ∧ TabB base mg c P
section
variable {P : Program} {w : World} {K : Frg} {mg : Str → Option Value} {base : Heap}
theorem DefL.okT {x : Str} {st : Stmt} {N ps : List Str} {k : Nat} {PT : Addr} {T : List (Addr × Str)} {F : List W → (W → Prop) → Prop} (D : DefL K mg base x st PT) (S : FnScope N ps (defScope st))
    (hb : ∀ (kV doc pm : Value) (an : Option Addr) (cdv ct : Value) (us : List Value), us.length = ps.length → bindArgs (PySem.W.fnOf x x (defArgs st) (defBody st) (defScope st) .none kV doc pm an cdv ct) ⟨us, []⟩ = pure (ps.zip us)) (len : ∀ ws S, F ws S → ws.length = ps.length)
    (body : ∀ (f c : Addr) (A : Around) (outer : List PySem.Env) (s : Shared) (H : Hp) (M : List Addr) (vs : List V) (ws : List W) (S : W → Prop) (Q : VK) (E : XK), TabB base mg c PT → Room k (A.deeper (envOfC x (defScope st) s.heap.objs.size f (.ref c))) → A.guards = some [] → F ws S →
      Tabs T H → NoX M H → At M H (L2.start N vs) H (ws.map some ++ List.replicate (N.length - ws.length) none) → (∀ v H' w, Exw H H' → Tabs T H' → S w → Is (hid M H') v w → Q v H') →
      ∃ t, PSs (cxOf C8.CX0 P w K mg base N x (defScope st) f (.ref c) A outer s H E).nox (defBody st) t ∧ t { nx := fun _ H' => Q .non H', rt := Q } (L2.start N vs) H) : ClG P w K mg base (k + 1) x (SpT T F) := by
  obtain ⟨f, fd, c, Fn, hm, hc, TB⟩ := D.ex
  have hpl : ps.length ≤ N.length := by have := congrArg List.length S.pre; rw [List.length_take] at this; omega
  have hk := Fn.kp
  have hbb := Fn.binds hb
  obtain ⟨oc, od, kV, doc, pm, an, cdv, ct, osl, rfl, lk, hcd⟩ := Fn.ex
  have hc : cdv = .ref c := hc
  subst hc
  refine ⟨f, _, ps, fnG_of lk hcd S (fun vs H Q E h => ?_) (fun A outer s H vs Q E hr hg h => ?_), hm, hk, hbb⟩
  · obtain ⟨_, M, ws, T, _, ia, hF, _⟩ := h
    rw [isa_len ia, len ws T hF]
  · obtain ⟨hT, M, ws, S', nx, ia, hF, q⟩ := h
    exact body f c A outer s H M vs ws S' Q E TB hr hg hF hT nx ⟨nx.al, Ex.refl _, env_start ia (by rw [len ws S' hF]; exact hpl)⟩ q
end
/-- a query's telling -/
theorem said_ok {T : List (Addr × Str)} {PT : Addr} {q : Str} {C : Addr} {t : XK → TE} {σ : L2.St} {H : Hp} {N : List Addr} {d : PyData} {z : Str} {Q : VK} (hm : (PT, q) ∈ T) (hu : ∀ r ∈ T, r.1 = PT → r.2 = q) (hT : Tabs T H) (nx : NoX N H)
    (ev : ∀ H1, Exw H H1 → ∀ (E : XK) (Q' : VK), (∀ v H' r, Ex H1 H' → dueD d z = .tuple [.str "told", r] → Is (hid N H') v (.d r) → Q' v H') → (∀ dx H' z', Ex H1 H' → dueD d z = .tuple [.str "use", .str z', .int (-1)] → H' dx = some (.xd (xfs z')) → E (.ref C) (some dx) H') → t E σ H1 Q')
    (k : ∀ v H', Exw H H' → Tabs T H' → Is (hid N H') v (.d (dueD d z)) → Q v H') : tLamW PT q (TTsaid C) t σ H Q := by
  refine ⟨hT _ hm, fun H1 e1 tb => ev H1 e1 _ _ (fun v H' r e er iv => ⟨by decide, fun p o hp to => ?_⟩) (fun dx H' z' e er hx => ⟨rfl, dx, z', N, rfl, hx, (nx.mono e1).mono e.w, fun v H2 e2 i2 => ?_⟩)⟩
  · refine k _ _ ((e1.trans e.w).trans (Exw.new hp)) ((Ex.new hp).tb T (e.tb T (tb T hu hT))) ?_
    rw [er]
    exact new_tup ((nx.mono e1).mono e.w).al hp to (.cons (.str _) (.cons iv .nil))
  · refine k _ _ ((e1.trans e.w).trans e2.w) (e2.tb T (e.tb T (tb T hu hT))) ?_
    rw [er]
    exact i2
end Kl
set_option Elab.async false
set_option linter.all false
set_option maxRecDepth 100000
set_option maxHeartbeats 8000000
/-! L21: _law_is_out_right. -/
namespace Kl
open PySem PySem.Spec PyProof.Rows L2 LamX
theorem At.anew {N : List Addr} {B : Hp} {σ : L2.St} {H H1 : Hp} {ρ : List (Option W)} (h : At N B σ H ρ) (e : Exw H H1) : At N H1 σ H1 ρ := ⟨fun l m => e.some (h.al l m), Ex.refl _, h.env.mono (hid_mono e)⟩
/-- heard = [told(first)]; heard.append(told(second)) -/
theorem q_heard {K : Frg} {T : List (Addr × Str)} {PT : Addr} {q : Str} {C : Addr} {t1 t2 : XK → TE} {σ : L2.St} {B H : Hp} {M : List Addr} {ρ : List (Option W)} {i : Nat} {d : PyData} {z : Str} {tz : TS} {D : Ends} (h : At M B σ H ρ) (hm : (PT, q) ∈ T) (hu : ∀ r ∈ T, r.1 = PT → r.2 = q) (hT : Tabs T H) (nx : NoX M H) (hi : i < σ.length)
    (ev1 : ∀ H1, At M H1 σ H1 ρ → ∀ (E : XK) (Q' : VK), (∀ v H' r, Ex H1 H' → dueD d z = .tuple [.str "told", r] → Is (hid M H') v (.d r) → Q' v H') → (∀ dx H' z', Ex H1 H' → dueD d z = .tuple [.str "use", .str z', .int (-1)] → H' dx = some (.xd (xfs z')) → E (.ref C) (some dx) H') → t1 E σ H1 Q')
    (ev2 : ∀ l H1, At (l :: M) H1 (σ.set i (some (.ref l))) H1 (ρ.set i (some (.v (.ref l)))) → ∀ (E : XK) (Q' : VK), (∀ v H' r, Ex H1 H' → dueD d z = .tuple [.str "told", r] → Is (hid (l :: M) H') v (.d r) → Q' v H') → (∀ dx H' z', Ex H1 H' → dueD d z = .tuple [.str "use", .str z', .int (-1)] → H' dx = some (.xd (xfs z')) → E (.ref C) (some dx) H') → t2 E (σ.set i (some (.ref l))) H1 Q')
    (k : ∀ l H', Exw H H' → Tabs T H' → NoX M H' → At M H' (σ.set i (some (.ref l))) H' (ρ.set i (some (.d (.list [dueD d z, dueD d z])))) → tz D (σ.set i (some (.ref l))) H') :
    tSeq (tAsg (tLst (tCons (tLamW PT q (TTsaid C) t1) tNil)) (gName i)) (tSeq (tDrop (tBM K "list" rAppend (tVar i) (tCons (tLamW PT q (TTsaid C) t2) tNil))) tz) D σ H := by
  refine said_ok (d := d) (z := z) hm hu hT nx (fun H1 e1 E Q' => ev1 H1 (h.anew e1) E Q') (fun v H1 e1 T1 iv => ?_)
  refine ⟨by show 1 ≤ sizeLine; decide, fun l hl => ?_⟩
  have h1 := h.anew e1
  have nl : l ∉ M := fun m => h1.al l m hl
  have h2 := h1.hide hl i (.lst [v])
  have h3 : At (l :: M) (L2.upd H1 l (.lst [v])) (σ.set i (some (.ref l))) (L2.upd H1 l (.lst [v])) (ρ.set i (some (.v (.ref l)))) := ⟨h2.al, Ex.refl _, h2.env⟩
  have n2 : NoX (l :: M) (L2.upd H1 l (.lst [v])) := fun a m => by
    rcases List.mem_cons.mp m with e | m
    · rw [e]; exact ⟨_, upd_same, fun fs z => by cases z⟩
    · exact (nx.mono (e1.trans (Exw.new hl))) a m
  have T2 := (Ex.new (o := .lst [v]) hl).tb T T1
  have at3 : ∀ x : Option V, (σ.set i x)[i]? = some x := fun x => List.getElem?_set_self hi
  refine ⟨.ref l, at3 _, .inl ⟨rfl, [v], .inl (.inl upd_same)⟩, ?_⟩
  refine said_ok (d := d) (z := z) hm hu T2 n2 (fun H3 e3 E Q' => ev2 l H3 (h3.anew e3) E Q') (fun u H3 e3 T3 iu => ?_)
  have hl3 : H3 l = some (.lst [v]) := e3.lst upd_same
  have d1 : Dq (hid (l :: M) H3) v (dueD d z) := by
    have e4 : Exw (hid M H1) (hid (l :: M) H3) := by
      rw [← hid_new (o := .lst [v]) hl]
      exact hid_mono e3
    exact dp_mono e4 _ _ iv
  refine ⟨l, [v], u, rfl, rfl, hl3, by show 1 < sizeLine; decide, ?_⟩
  have h4 : At (l :: M) H3 (σ.set i (some (.ref l))) H3 (ρ.set i (some (.v (.ref l)))) := h3.anew e3
  have e5 : Exw (hid (l :: M) H3) (hid M (L2.upd H3 l (.lst [v, u]))) := by
    rw [← hid_upd (N := l :: M) (o := .lst [v, u]) List.mem_cons_self]
    exact hid_cons l M _
  have en : Env (σ.set i (some (.ref l))) (hid M (L2.upd H3 l (.lst [v, u]))) (ρ.set i (some (.d (.list [dueD d z, dueD d z])))) := by
    have e6 := (h4.env.mono e5).set i (v := .ref l) (w := .d (.list [dueD d z, dueD d z])) (.lst (hid_of upd_same nl) (dps_mono e5 _ _ (.cons d1 (.cons iu .nil))))
    rw [List.set_set, List.set_set] at e6
    exact e6
  have hH : Exw H H1 := e1
  have l0 : H l = none := e1.back hl
  refine k l _ (Exw.mut ((e1.trans (Exw.new hl)).trans e3) l0) (tabs_upd T3 (plain_lst hl3)) (fun a m => ?_) ⟨fun a m => ?_, Ex.refl _, en⟩
  · have na : a ≠ l := fun z => nl (z ▸ m)
    rw [upd_ne na]
    exact (nx.mono ((e1.trans (Exw.new (o := .lst [v]) hl)).trans e3)) a m
  · have na : a ≠ l := fun z => nl (z ▸ m)
    rw [upd_ne na]
    exact ((e1.trans (Exw.new (o := .lst [v]) hl)).trans e3).some (h.al a m)
theorem s_retT {M : List Addr} {σ : L2.St} {H : Hp} {ρ : List (Option W)} {te : TE} {D : Ends} {S : W → Prop} (h : At M H σ H ρ) (he : Ev te σ (hid M H) S) (k : ∀ v w H', Ex H H' → S w → Is (hid M H') v w → D.rt v H') : tRet te D σ H := s_ret h he k
/-- the law's own telling is without's -/
theorem out_due {t : Shp} (hp : Pre t) (hs : shopB t = true) (d : PyData) : outP t d (fun w => ∃ r, w = .d r ∧ dueD (lwD t d) "name" = .tuple [.str "told", r]) (fun z => dueD (lwD t d) "name" = .tuple [.str "use", .str z, .int (-1)]) := by
  refine ⟨fun h => ?_, fun z e hz => ⟨fun h => ?_, fun h => ?_⟩⟩
  · cases d with
    | str z =>
      have hz : z ∉ t.nm := of_decide_eq_false h
      have e : lwD t (.str z) = .none := if_neg fun q => hz q.1
      rw [e]; rfl
    | _ => rfl
  · subst e
    obtain ⟨h1, h2⟩ := (out_shop hp hs hz).mp h
    have e : lwD t (.str z) = enc (t.out z) := if_pos ⟨hz, h1, h2⟩
    rw [e]
    exact ⟨_, rfl, rfl⟩
  · subst e
    have e : lwD t (.str z) = .none := if_neg fun q => by
      rw [(out_shop hp hs hz).mpr q.2] at h
      cases h
    rw [e]; rfl
theorem out_ok {t : Shp} (hp : Pre t) (d : PyData) : lwD t d = .none ∨ DueOk (lwD t d) := by
  cases d with
  | str z =>
    by_cases q : z ∈ t.nm ∧ z ∉ t.used ∧ t.pn ≠ [z]
    · have e : lwD t (.str z) = enc (t.out z) := if_pos q
      have h := (pre_out hp z).szs.enc
      rw [e]
      exact .inr ⟨h.1, h.2.1, h.2.2⟩
    · exact .inl (if_neg q)
  | _ => exact .inl rfl
section
variable {P : Program} {w : World} {K : Frg} {mg : Str → Option Value} {base : Heap} {C : Addr}
abbrev s_law_is_out_right : Stmt := topS 64
abbrev n_law_is_out_right : List Str := ["_law_store_here", "_law_tag", "_law_due", "_law_heard"]
theorem sc_law_is_out_right : FnScope n_law_is_out_right ["_law_store_here", "_law_tag"] (defScope s_law_is_out_right) := ⟨rfl, rfl, rfl, by decide +kernel, rfl, by decide +kernel, by decide +kernel⟩
def F_law_is_out_right : List W → (W → Prop) → Prop := fun ws S => ∃ t d, ws = [.d (enc t), .d d] ∧ Pre t ∧ Fit t ∧ shopB t = true ∧ Nice d ∧ S (.d (.bool true))
theorem cl_law_is_out_right {T : List (Addr × Str)} {PT : Addr} (D : DefL K mg base "_law_is_out_right" s_law_is_out_right PT) (SK : SaidK K mg C) (hm : (PT, qn "_law_is_out_right") ∈ T) (hu : ∀ r ∈ T, r.1 = PT → r.2 = qn "_law_is_out_right")
    (C_law_without : Cl P w K mg base CX0 2 "_law_without" [] (SpF F_law_without)) (C_without : Cl P w K mg base (CXl P w) 9 "without" [] (SpX C F_without)) (CK_without : ClK P w K mg base (CXl P w) 9 "without" ["name", "shop"] (SpX C F_without)) : ClG P w K mg base 12 "_law_is_out_right" (SpT T F_law_is_out_right) := by
  refine D.okT sc_law_is_out_right (fun _ _ _ _ _ _ us hl => match us, hl with | [_, _], _ => rfl) (fun ws S ⟨_, _, e, _⟩ => by rw [e]; rfl) ?_
  rintro f c A outer s H M vs ws S Q E TB hr hg ⟨t, d, rfl, hp, hf, hs, hd, hS⟩ hT nx h k
  have nd := sc_law_is_out_right.nd
  have G := SK.G
  refine ⟨_, (pss_cons (ps_set (i := 2) nd rfl (.inl rfl) (pe_cl C_law_without (hr.mono (by decide)) (by rfl) pass0 (pa_cons (pv 0) (pa_cons (pv 1) pa_nil))))
      (pss_cons (ps_set (i := 2) nd rfl (.inl rfl) (pe_ifExp (pt_cmpR op_notN (pv 2) pe_non (nomark _)) (pe_tupB (pa_cons pe_str (pa_cons (pv 2) pa_nil))) (pe_tupB (pa_cons pe_str (pa_cons pe_str (pa_cons (pe_un un_neg pe_int) pa_nil))))))
      (pss_cons (ps_set (i := 3) nd rfl (.inl rfl) (pe_lst (pa_cons (pe_said (k := 9) (t := fun E => tCall (SpX C F_without) [] E (tCons (tVar 0) (tCons (tVar 1) tNil))) SK TB rfl hr (by rfl) (lamS_by (by kernel_rfl)) rfl (fun _ _ _ _ _ => rfl) (fun A outer s H E f c' hr2 => pe_cl C_without hr2 (by rfl) passLam (pa_cons (pv 0) (pa_cons (pv 1) pa_nil)))) pa_nil)))
      (pss_cons (ps_expr (pe_bm PySem.F.plainAttrs_list PySem.F.slot_list_append PySem.F.type_list_append mt_append (pv 3) (pa_cons (pe_said (k := 9) (t := fun E => tCallK (SpX C F_without) (fun vs zs => vs ++ zs.reverse) E tNil (tCons (tVar 1) (tCons (tVar 0) tNil))) SK TB rfl hr (by rfl) (lamS_by (by kernel_rfl)) rfl (fun _ _ _ _ _ => rfl) (fun A outer s H E f c' hr2 => pe_clK CK_without hr2 (by rfl) passLam (pk_cons (pv 1) (pk_cons (pv 0) pk_nil)))) pa_nil)))
      (pss_one (ps_ret (pe_cmpR (r := rEq) op_eq (pe_callB (r := rRepr K) (call_reprD hg hr.units) (by rfl) G.repr_ (by decide +kernel) (pa_cons (pv 3) pa_nil)) (pe_callB (r := rRepr K) (call_reprD hg hr.units) (by rfl) G.repr_ (by decide +kernel) (pa_cons (pe_lst (pa_cons (pv 2) (pa_cons (pv 2) pa_nil))) pa_nil)) (nomark _)))))))), ?_⟩
  refine q_asg h (S := fun w => w = .d (lwD t d)) (d_call (a_2 (d_var h.env (i := 0) rfl) (d_var h.env (i := 1) rfl)) ⟨t, d, rfl, hp, hf, hd, rfl⟩) (fun v w H1 e1 ew iw h1 => ?_)
  subst ew
  have hok := out_ok hp d
  have hdu := out_due hp hs d
  generalize lwD t d = r at hok hdu h1
  refine q_asg h1 (S := fun w => w = .d (dueD r "name")) (d_if (b_test (d_op (d_var h1.env (i := 2) rfl) d_n (os_notN rfl))) (fun b => ?_) (fun b => ?_)) (fun v2 w2 H2 e2 ew2 iw2 h2 => ?_)
  · have e : dueD r "name" = .tuple [.str "told", r] := by cases r <;> first | rfl | cases b
    rw [e]
    exact d_tup (ds := [.str "told", r]) (a_2 d_s (d_var h1.env (i := 2) rfl)) (by simp)
  · have e : r = .none := by cases r <;> first | rfl | cases b
    subst e
    exact d_tup (ds := [.str "use", .str "name", .int (-1)]) (a_3 d_s d_s (d_un d_i (us_neg rfl))) (by simp)
  subst ew2
  have e02 : Ex H H2 := e1.trans e2
  refine q_heard (K := K) (T := T) (PT := PT) (q := qn "_law_is_out_right") (C := C) (d := r) (z := "name") (i := 3) (t1 := fun E => tCall (SpX C F_without) [] E (tCons (tVar 0) (tCons (tVar 1) tNil))) (t2 := fun E => tCallK (SpX C F_without) (fun vs zs => vs ++ zs.reverse) E tNil (tCons (tVar 1) (tCons (tVar 0) tNil))) h2 hm hu (e02.tb T hT) (nx.mono e02.w) (by rw [h2.env.len]; show 3 < 4; decide) (fun H3 h3 E Q' q1 q2 => ?_) (fun l H3 h3 E Q' q1 q2 => ?_) (fun l H3 e3 T3 n3 h3 => ?_)
  · exact at_callX h3 (a_2 (d_var h3.env (i := 0) rfl) (d_var h3.env (i := 1) rfl)) (dws := []) (fun _ => .nil) ⟨t, d, rfl, hp, hd, hdu⟩ (fun dx H' z e hz hx => q2 dx H' z e hz hx) (fun v H' w e sw iw _ => by
      obtain ⟨r', rfl, er⟩ := sw
      exact q1 v H' r' e er iw)
  · exact at_callK h3 (d_var h3.env (i := 1) rfl) (d_var h3.env (i := 0) rfl) ⟨t, d, rfl, hp, hd, hdu⟩ (fun dx H' z e hz hx => q2 dx H' z e hz hx) (fun v H' w e sw iw => by
      obtain ⟨r', rfl, er⟩ := sw
      exact q1 v H' r' e er iw)
  · have hn2 := due_two (d := r) (z := "name") hok (by decide +kernel) (by decide +kernel)
    refine s_retT h3 (S := fun w => w = .d (.bool true)) (d_op (d_repr hn2 (d_var h3.env (i := 3) rfl)) (d_repr hn2 (d_lst (ds := [dueD r "name", dueD r "name"]) (a_2 (d_var h3.env (i := 2) rfl) (d_var h3.env (i := 2) rfl)) (by simp))) (os_eqT (by rw [decide_eq_true rfl]))) (fun v w H' e sw iw => ?_)
    subst sw
    exact k v H' _ ((e02.w.trans e3).trans e.w) (e.tb T T3) hS iw
end
end Kl
set_option Elab.async false
set_option linter.all false
set_option maxRecDepth 100000
set_option maxHeartbeats 8000000
/-! L22: _law_is_table_right. -/
namespace Kl
open PySem PySem.Spec PyProof.Rows L2 LamX
/-- what the law's own renaming gave -/
def LR (t : Shp) (d r : PyData) : Prop := (tblB t d = false ∧ r = .none) ∨ ∃ l, IsTbl t d l ∧ (((t.nm.map (renT l)).Nodup ∧ r = enc (t.ren (renT l))) ∨ (¬ (t.nm.map (renT l)).Nodup ∧ r = .none))
theorem tbl_uniq {t : Shp} {d : PyData} {l m : List (Str × Str)} (h : IsTbl t d l) (h2 : IsTbl t d m) : l = m := by
  have e := h2.e
  subst e
  exact tbl_one h
theorem lr_of {t : Shp} {d : PyData} : renQ t d fun w => ∃ r, w = .d r ∧ LR t d r :=
  ⟨fun h => ⟨_, rfl, .inl ⟨h, rfl⟩⟩, fun l hl => ⟨fun hn => ⟨_, rfl, .inr ⟨l, hl, .inl ⟨hn, rfl⟩⟩⟩, fun hn => ⟨_, rfl, .inr ⟨l, hl, .inr ⟨hn, rfl⟩⟩⟩⟩⟩
theorem lr_due {t : Shp} {d r : PyData} (h : LR t d r) : renP t d (fun w => ∃ r', w = .d r' ∧ dueD r "table" = .tuple [.str "told", r']) (fun z => dueD r "table" = .tuple [.str "use", .str z, .int (-1)]) := by
  rcases h with ⟨h, rfl⟩ | ⟨l, hl, h⟩
  · exact ⟨fun _ => rfl, fun l hl => by rw [tblB_iff hl] at h; cases h⟩
  · refine ⟨fun q => (by rw [tblB_iff hl] at q; cases q), fun m hm => ?_⟩
    have e := tbl_uniq hl hm
    subst e
    rcases h with ⟨hn, rfl⟩ | ⟨hn, rfl⟩
    · exact ⟨fun _ => ⟨_, rfl, rfl⟩, fun q => absurd hn q⟩
    · exact ⟨fun q => absurd q hn, fun _ => rfl⟩
theorem lr_ok {t : Shp} {d r : PyData} (hf : Fit t) (h : LR t d r) : r = .none ∨ DueOk r := by
  rcases h with ⟨_, e⟩ | ⟨l, hl, ⟨hn, e⟩ | ⟨_, e⟩⟩
  · exact .inl e
  · have q := (fit_ren hf hn (hl.name hf)).szs.enc
    rw [e]
    exact .inr ⟨q.1, q.2.1, q.2.2⟩
  · exact .inl e
section
variable {P : Program} {w : World} {K : Frg} {mg : Str → Option Value} {base : Heap} {C : Addr}
abbrev s_law_is_table_right : Stmt := topS 65
abbrev n_law_is_table_right : List Str := ["_law_store_here", "_law_what", "_law_late", "_law_seen", "_law_due", "_law_heard", "_law_back", "_law_old", "_law_new"]
theorem sc_law_is_table_right : FnScope n_law_is_table_right ["_law_store_here", "_law_what"] (defScope s_law_is_table_right) := ⟨rfl, rfl, rfl, by decide +kernel, rfl, by decide +kernel, by decide +kernel⟩
def F_law_is_table_right : List W → (W → Prop) → Prop := fun ws S => ∃ t d, ws = [.d (enc t), .d d] ∧ Pre t ∧ Fit t ∧ Nice d ∧ (∀ ds, d = .tuple ds → ds.length ≤ 100) ∧ S (.d (.bool true))
theorem cl_law_is_table_right {T : List (Addr × Str)} {PT : Addr} (D : DefL K mg base "_law_is_table_right" s_law_is_table_right PT) (SK : SaidK K mg C) (hm : (PT, qn "_law_is_table_right") ∈ T) (hu : ∀ r ∈ T, r.1 = PT → r.2 = qn "_law_is_table_right")
    (C_law_renamed : Cl P w K mg base CX0 3 "_law_renamed" [] (SpF F_law_renamed)) (C_renamed : Cl P w K mg base (CXl P w) 4 "renamed" [] (SpX C F_renamed)) (CK_renamed : ClK P w K mg base (CXl P w) 4 "renamed" ["table", "shop"] (SpX C F_renamed)) : ClG P w K mg base 12 "_law_is_table_right" (SpT T F_law_is_table_right) := by
  refine D.okT sc_law_is_table_right (fun _ _ _ _ _ _ us hl => match us, hl with | [_, _], _ => rfl) (fun ws S ⟨_, _, e, _⟩ => by rw [e]; rfl) ?_
  rintro f c A outer s H M vs ws S Q E TB hr hg ⟨t, d, rfl, hp, hf, hd, hdl, hS⟩ hT nx h k
  have nd := sc_law_is_table_right.nd
  have G := SK.G
  refine ⟨_, (pss_cons (ps_par (i := 2) (j := 3) (by rfl) nd rfl rfl (by decide) rfl rfl (pa_cons (pe_cl C_law_renamed (hr.mono (by decide)) (by rfl) pass0 (pa_cons (pv 0) (pa_cons (pv 1) pa_nil))) (pa_cons (pe_callB (r := rRepr K) (call_reprD hg hr.units) (by rfl) G.repr_ (by decide +kernel) (pa_cons (pv 1) pa_nil)) pa_nil)) (by rfl))
      (pss_cons (ps_set (i := 4) nd rfl (.inl rfl) (pe_ifExp (pt_cmpR op_notN (pv 2) pe_non (nomark _)) (pe_tupB (pa_cons pe_str (pa_cons (pv 2) pa_nil))) (pe_tupB (pa_cons pe_str (pa_cons pe_str (pa_cons (pe_un un_neg pe_int) pa_nil))))))
      (pss_cons (ps_set (i := 5) nd rfl (.inl rfl) (pe_lst (pa_cons (pe_said (k := 4) (t := fun E => tCall (SpX C F_renamed) [] E (tCons (tVar 0) (tCons (tVar 1) tNil))) SK TB rfl (hr.mono (by decide)) (by rfl) (lamS_by (by kernel_rfl)) rfl (fun _ _ _ _ _ => rfl) (fun A outer s H E f c' hr2 => pe_cl C_renamed hr2 (by rfl) passLam (pa_cons (pv 0) (pa_cons (pv 1) pa_nil)))) pa_nil)))
      (pss_cons (ps_expr (pe_bm PySem.F.plainAttrs_list PySem.F.slot_list_append PySem.F.type_list_append mt_append (pv 5) (pa_cons (pe_said (k := 4) (t := fun E => tCallK (SpX C F_renamed) (fun vs zs => vs ++ zs.reverse) E tNil (tCons (tVar 1) (tCons (tVar 0) tNil))) SK TB rfl (hr.mono (by decide)) (by rfl) (lamS_by (by kernel_rfl)) rfl (fun _ _ _ _ _ => rfl) (fun A outer s H E f c' hr2 => pe_clK CK_renamed hr2 (by rfl) passLam (pk_cons (pv 1) (pk_cons (pv 0) pk_nil)))) pa_nil)))
      (pss_cons (ps_if (PW.pt (pw_or (pt_cmpR (r := rNe) op_ne (pe_callB (r := rRepr K) (call_reprD hg hr.units) (by rfl) G.repr_ (by decide +kernel) (pa_cons (pv 5) pa_nil)) (pe_callB (r := rRepr K) (call_reprD hg hr.units) (by rfl) G.repr_ (by decide +kernel) (pa_cons (pe_lst (pa_cons (pv 4) (pa_cons (pv 4) pa_nil))) pa_nil)) (nomark _)) (pw_or1 (pt_cmpR (r := rNe) op_ne (pe_callB (r := rRepr K) (call_reprD hg hr.units) (by rfl) G.repr_ (by decide +kernel) (pa_cons (pv 1) pa_nil)) (pv 3) (nomark _))))) (pss_one (ps_ret pe_bl)) pss_nil)
      (pss_cons (ps_if (pt_cmpR op_isN (pv 2) pe_non (nomark _)) (pss_one (ps_ret pe_bl)) pss_nil)
      (pss_cons (ps_set (i := 6) nd rfl (.inl rfl) (pe_callTy (r := rTupB K) call_tupB (by rfl) G.tuple_ (by decide +kernel) (pa_cons (pe_callB (r := rSortD K) (cr_sortedD (r65 hr)) (by rfl) G.sorted_ (by decide +kernel) (pa_cons (pe_lc (own := [("_law_old", 7), ("_law_new", 8)]) (g := gTup K 2 (gCons (gName 7) (gCons (gName 8) gNil))) rfl nd (pi_tup (pv 1)) (blkOk_by (own := [("_law_old", 7), ("_law_new", 8)]) (by kernel_rfl)) (fun _ _ _ _ _ => (pg_tup rfl (pgs_cons (pg_name (i := 7) nd rfl (.inl rfl)) (pgs_cons (pg_name (i := 8) nd rfl (.inl rfl)) pgs_nil)))) (fun _ _ _ _ _ => pts_nil) (fun _ _ _ _ _ => (pe_tupB (pa_cons (pv 8) (pa_cons (pv 7) pa_nil))))) pa_nil)) pa_nil)))
      (pss_one (ps_ret (pe_cmpR (r := rEq) op_eq (pe_callB (r := rRepr K) (call_reprD hg hr.units) (by rfl) G.repr_ (by decide +kernel) (pa_cons (pe_cl (E := L2.E0) C_renamed (hr.mono (by decide)) (by rfl) L2.passL (pa_cons (pv 2) (pa_cons (pv 6) pa_nil))) pa_nil)) (pe_callB (r := rRepr K) (call_reprD hg hr.units) (by rfl) G.repr_ (by decide +kernel) (pa_cons (pv 0) pa_nil)) (nomark _))))))))))), ?_⟩
  refine q_par h (Sa := fun w => ∃ r, w = .d r ∧ LR t d r) (Sb := fun w => w = .d (.str d.shown)) (d_call (a_2 (d_var h.env (i := 0) rfl) (d_var h.env (i := 1) rfl)) ⟨t, d, rfl, hf, hd, hdl, lr_of⟩) (d_repr hd (d_var h.env (i := 1) rfl)) (fun v u x y H1 e1 sx sy h1 => ?_)
  obtain ⟨r, rfl, hlr⟩ := sx
  subst sy
  have hok := lr_ok hf hlr
  have hdu := lr_due hlr
  refine q_asg h1 (S := fun w => w = .d (dueD r "table")) (d_if (b_test (d_op (d_var h1.env (i := 2) rfl) d_n (os_notN rfl))) (fun b => ?_) (fun b => ?_)) (fun v2 w2 H2 e2 ew2 iw2 h2 => ?_)
  · have e : dueD r "table" = .tuple [.str "told", r] := by cases r <;> first | rfl | cases b
    rw [e]
    exact d_tup (ds := [.str "told", r]) (a_2 d_s (d_var h1.env (i := 2) rfl)) (by simp)
  · have e : r = .none := by cases r <;> first | rfl | cases b
    subst e
    exact d_tup (ds := [.str "use", .str "table", .int (-1)]) (a_3 d_s d_s (d_un d_i (us_neg rfl))) (by simp)
  subst ew2
  have e02 : Ex H H2 := e1.trans e2
  refine q_heard (K := K) (T := T) (PT := PT) (q := qn "_law_is_table_right") (C := C) (d := r) (z := "table") (i := 5) (t1 := fun E => tCall (SpX C F_renamed) [] E (tCons (tVar 0) (tCons (tVar 1) tNil))) (t2 := fun E => tCallK (SpX C F_renamed) (fun vs zs => vs ++ zs.reverse) E tNil (tCons (tVar 1) (tCons (tVar 0) tNil))) h2 hm hu (e02.tb T hT) (nx.mono e02.w) (by rw [h2.env.len]; show 5 < 9; decide) (fun H3 h3 E Q' q1 q2 => ?_) (fun l H3 h3 E Q' q1 q2 => ?_) (fun l H3 e3 T3 n3 h3 => ?_)
  · exact at_callX h3 (a_2 (d_var h3.env (i := 0) rfl) (d_var h3.env (i := 1) rfl)) (dws := []) (fun _ => .nil) ⟨t, d, rfl, hp, hf, hd, hdl, hdu⟩ (fun dx H' z e hz hx => q2 dx H' z e hz hx) (fun v H' w e sw iw _ => by
      obtain ⟨r', rfl, er⟩ := sw
      exact q1 v H' r' e er iw)
  · exact at_callK h3 (d_var h3.env (i := 1) rfl) (d_var h3.env (i := 0) rfl) ⟨t, d, rfl, hp, hf, hd, hdl, hdu⟩ (fun dx H' z e hz hx => q2 dx H' z e hz hx) (fun v H' w e sw iw => by
      obtain ⟨r', rfl, er⟩ := sw
      exact q1 v H' r' e er iw)
  have hn2 := due_two (d := r) (z := "table") hok (by decide +kernel) (by decide +kernel)
  refine q_when h3 (C := fun x => x = false) (b_is (b_or (b_test (d_op (d_repr hn2 (d_var h3.env (i := 5) rfl)) (d_repr hn2 (d_lst (ds := [dueD r "table", dueD r "table"]) (a_2 (d_var h3.env (i := 4) rfl) (d_var h3.env (i := 4) rfl)) (by simp))) (os_neT rfl))) fun _ => b_test (d_op (d_repr hd (d_var h3.env (i := 1) rfl)) (d_var h3.env (i := 3) rfl) (os_neT rfl))) (by rw [decide_eq_true rfl, decide_eq_true rfl]; rfl)) (fun e => by cases e) (fun _ H4 e4 h4 => ?_)
  refine q_when h4 (C := fun x => x = isNone r) (b_test (d_op (d_var h4.env (i := 2) rfl) d_n (os_isN rfl))) (fun e H5 e5 h5 => ?_) (fun e H5 e5 h5 => ?_)
  · refine s_ret h5 (S := fun w => w = .d (.bool true)) d_b (fun v w H' e sw iw => ?_)
    subst sw
    exact k v H' _ ((e02.w.trans e3).trans e.w) (e.tb T T3) hS iw
  obtain ⟨l, hl, hn, er⟩ : ∃ l, IsTbl t d l ∧ (t.nm.map (renT l)).Nodup ∧ r = enc (t.ren (renT l)) := by
    rcases hlr with ⟨_, q⟩ | ⟨l, hl, ⟨hn, q⟩ | ⟨_, q⟩⟩
    · rw [q] at e; cases e
    · exact ⟨l, hl, hn, q⟩
    · rw [q] at e; cases e
  have hld := hl.e
  subst hld er
  have hll : l.length ≤ 100 := by have := hdl _ rfl; rwa [List.length_map] at this
  refine q_asg h5 (S := fun w => w = .d (.tuple ((backT l).map eS))) (d_cb (a_1 (d_cb (S := fun w => w = .d (.list ((backT l).map eS))) (a_1 (d_is (d_map (l := l) (enc := fun p => .d (eS p)) (f := fun p => eS (swp p)) h5.env (i_tupM (f := eS) (d_var h5.env (i := 1) rfl)) (js := [7, 8]) (by decide) (by omega) fun p hp => ⟨_, tg_two, fun σ' H' e' h' => d_tup (ds := [.str p.2, .str p.1]) (a_2 (d_var h' (i := 8) rfl) (d_var h' (i := 7) rfl)) (by simp)⟩) (y := .d (.list ((l.map swp).map eS))) (by rw [List.map_map]; rfl))) (cs_sortT (l := l.map swp) (nm := fst2) (rest := fun p => [.str p.2]) (enc := eS) (fun _ _ => rfl) (hl.news hn) (fun x _ y _ => rfl) (by rw [List.length_map]; omega) (fun x _ => by show max 0 (max 0 0) + 1 ≤ 30; decide) fun b hb hr => by rw [sortN_eq hb hr]))) (cs_tupL rfl)) (fun v6 w6 H6 e6 ew6 iw6 h6 => ?_)
  subst ew6
  have hb := hl.back hn
  have hlen : (backT l).length ≤ 100 := by show (sortN fst2 (l.map swp)).length ≤ 100; rw [sortN_len, List.length_map]; exact hll
  have tok : TabOk (.tuple ((backT l).map eS)) := tok_pairs (fun p hp => ⟨OkS.of (hb.nm p hp).1, OkS.of (hb.nm p hp).2⟩) hlen
  have hnames := hl.name hf
  have hren : renP (t.ren (renT l)) (.tuple ((backT l).map eS)) (fun w => w = .d (enc t)) fun _ => False := by
    refine ⟨fun q => (by rw [tblB_iff hb] at q; cases q), fun m hm => ?_⟩
    have em := tbl_one hm
    subst em
    have hbn := back_nodup hf hl hn
    exact ⟨fun _ => by rw [ren_ren hp hf (back_ren hl hn)], fun q => absurd hbn q⟩
  refine s_ret h6 (S := fun w => w = .d (.bool true)) (d_op (d_repr hp.szs.nice (ev_callX (a_2 (d_var h6.env (i := 2) rfl) (d_var h6.env (i := 6) rfl)) ⟨t.ren (renT l), _, rfl, pre_ren hp hf hn hnames, fit_ren hf hn hnames, tok.ni, tok.ln, hren⟩)) (d_repr hp.szs.nice (d_var h6.env (i := 0) rfl)) (os_eqT (by rw [decide_eq_true rfl]))) (fun v w H' e sw iw => ?_)
  subst sw
  exact k v H' _ ((e02.w.trans e3).trans e.w) (e.tb T T3) hS iw
end
end Kl
set_option Elab.async false
set_option linter.all false
set_option maxRecDepth 100000
set_option maxHeartbeats 8000000
/-! M7: what is added, taken out again. -/
namespace Kl
open PySem PySem.Spec PyProof.Rows L2
structure AddOk (t : Shp) (z : Str) : Prop where
  p : Pre t
  f : Fit t
  s : shopB t = true
  ok : isNameS z = true
  n : z ∉ t.nm
  lp : t.ps.length ≤ 19
  lc : t.cs.length ≤ 19
  lk : t.ks.length ≤ 19
  ln : t.nm.length ≤ 20
theorem in_add {α : Type} {nm : α → Str} {l : List α} {y x : α} (h : x ∈ sortN nm (l ++ [y])) : x ∈ l ∨ x = y := by
  rcases List.mem_append.mp (sortN_mem.mp h) with h | h
  · exact .inl h
  · exact .inr (List.mem_singleton.mp h)
theorem nm_add {α : Type} {nm : α → Str} {l : List α} {y : α} {z : Str} : z ∈ (sortN nm (l ++ [y])).map nm ↔ z ∈ l.map nm ∨ z = nm y := by
  rw [map_sortN, List.map_append, List.mem_append, List.map_cons, List.map_nil, List.mem_singleton]
theorem len_add {α : Type} {nm : α → Str} {l : List α} {y : α} (h : l.length ≤ 19) : (sortN nm (l ++ [y])).length ≤ 20 := by
  rw [sortN_len, List.length_append]
  exact Nat.succ_le_succ h
section
variable {t : Shp} {z : Str} (a : AddOk t z)
include a
theorem AddOk.np : z ∉ t.pn := fun m => a.n (mp m)
theorem AddOk.nc : z ∉ t.cn := fun m => a.n (mc m)
theorem AddOk.nk : z ∉ t.kn := fun m => a.n (Kl.mk m)
theorem AddOk.ne {y : Str} (h : y ∈ t.nm) : y ≠ z := fun e => a.n (e ▸ h)
theorem pre_addP {n : Int} (h0 : 0 ≤ n) (h1 : n < 10 ^ 79) : Pre (t.addP (z, n)) where
  np := fun p hp => by
    rcases in_add hp with h | h
    · exact a.p.np p h
    · subst h; exact ⟨a.ok, h0, h1⟩
  nc := a.p.nc
  nk := a.p.nk
  rp := sortN_rise (fit_p a.f a.n)
  rc := a.p.rc
  rk := a.p.rk
  dc := fun y hy m => by
    rcases nm_add.mp m with h | h
    · exact a.p.dc y hy h
    · exact a.ne (mc hy) h
  dk := fun y hy => ⟨fun m => by
    rcases nm_add.mp m with h | h
    · exact (a.p.dk y hy).1 h
    · exact a.ne (Kl.mk hy) h, (a.p.dk y hy).2⟩
  lp := len_add a.lp
  lc := a.p.lc
  lk := a.p.lk
  rank := a.p.rank
theorem pre_addC {o : List Str} (hr : risingB o = true) (h2 : 2 ≤ o.length) (hl : o.length ≤ 20) (ho : ∀ y ∈ o, isNameS y = true) : Pre (t.addC (z, o)) where
  np := a.p.np
  nc := fun c hc => by
    rcases in_add hc with h | h
    · exact a.p.nc c h
    · subst h
      refine ⟨a.ok, ?_, h2, hl⟩
      unfold isNamesB
      rw [hr, Bool.and_true, List.all_eq_true]
      exact ho
  nk := fun k hk => by
    obtain ⟨q1, q2, q3, q4, q5, q6, q7⟩ := a.p.nk k hk
    refine ⟨q1, q2, q3, q4, q5, q6, fun e he => ?_⟩
    obtain ⟨e1, e2, e3, e4, e5⟩ := q7 e he
    refine ⟨e1, e2, e3, e4, fun hb m => ?_⟩
    rcases nm_add.mp m with h | h
    · exact e5 hb h
    · exact a.ne ((a.f.nk k hk).2.2.2.2.2 e he).1 h
  rp := a.p.rp
  rc := sortN_rise (fit_c a.f a.n)
  rk := a.p.rk
  dc := fun y hy m => by
    rcases nm_add.mp hy with h | h
    · exact a.p.dc y h m
    · exact a.ne (mp m) h
  dk := fun y hy => ⟨(a.p.dk y hy).1, fun m => by
    rcases nm_add.mp m with h | h
    · exact (a.p.dk y hy).2 h
    · exact a.ne (Kl.mk hy) h⟩
  lp := a.p.lp
  lc := len_add a.lc
  lk := a.p.lk
  rank := a.p.rank
theorem sum_le {r : Str → Nat} : ∀ {b : List (Str × Int)} {e : Str × Int}, e ∈ b → r e.1 ≤ (b.map fun e => r e.1).sum
  | x :: b, e, h => by
    rw [List.map_cons, List.sum_cons]
    rcases List.mem_cons.mp h with h | h
    · subst h; omega
    · have := sum_le (r := r) h; omega
theorem pre_addK {n : Int} {sh : List (Str × Int)} (h0 : 0 ≤ n) (h1 : n < 10 ^ 79) (hr : risingB (sh.map fun e => e.1) = true) (h2 : 1 ≤ sh.length) (hl : sh.length ≤ 4) (he : ∀ e ∈ sh, e.1 ∈ t.nm ∧ 1 ≤ e.2 ∧ e.2 ≤ 4) : Pre (t.addK (z, n, false, sh)) where
  np := a.p.np
  nc := a.p.nc
  nk := fun k hk => by
    rcases in_add hk with h | h
    · exact a.p.nk k h
    · subst h
      exact ⟨a.ok, h0, h1, h2, by show sh.length ≤ 20; omega, hr, fun e m => ⟨a.f.ok _ (he e m).1, (he e m).2.1, Int.lt_of_le_of_lt (he e m).2.2 (by decide), a.ne (he e m).1, fun z => by cases z⟩⟩
  rp := a.p.rp
  rc := a.p.rc
  rk := sortN_rise (fit_k a.f a.n)
  dc := a.p.dc
  dk := fun y hy => by
    rcases nm_add.mp hy with h | h
    · exact a.p.dk y h
    · have h : y = z := h
      subst h
      exact ⟨a.np, a.nc⟩
  lp := a.p.lp
  lc := a.p.lc
  lk := len_add a.lk
  rank := by
    obtain ⟨r, h⟩ := a.p.rank
    refine ⟨fun y => if y = z then (sh.map fun e => r e.1).sum + 1 else r y, fun k hk e m => ?_⟩
    show (if e.1 = z then _ else r e.1) < (if k.1 = z then _ else r k.1)
    rcases in_add hk with q | q
    · rw [if_neg (a.ne ((a.f.nk k q).2.2.2.2.2 e m).1), if_neg (a.ne (Kl.mk (List.mem_map_of_mem q)))]
      exact h k q e m
    · subst q
      rw [if_neg (a.ne (he e m).1), if_pos rfl]
      exact Nat.lt_succ_of_le (sum_le a m)
theorem shop_addK {n : Int} {sh : List (Str × Int)} (he : ∀ e ∈ sh, e.1 ∈ t.nm ∧ 1 ≤ e.2 ∧ e.2 ≤ 4) : shopB (t.addK (z, n, false, sh)) = true := by
  obtain ⟨h1, h2, h3⟩ := shop_parts a.s
  have up : ∀ y ∈ t.nm, y ∈ (t.addK (z, n, false, sh)).nm := fun y hy => by
    rcases List.mem_append.mp hy with hy | hy
    · exact List.mem_append_left _ hy
    · exact List.mem_append_right _ (nm_add.mpr (.inl hy))
  refine shop_of (t := t.addK (z, n, false, sh)) h1 h2 fun k hk e m => up _ ?_
  rcases in_add hk with q | q
  · exact h3 k q e m
  · subst q; exact (he e m).1
theorem opts_ok {o : List Str} (hr : risingB o = true) (h2 : 2 ≤ o.length) (ho : ∀ y ∈ o, y ∈ t.pn) : areOptsB o t.pn = true := by
  unfold areOptsB isNamesB
  rw [hr, Bool.and_true, Bool.and_eq_true, Bool.and_eq_true]
  exact ⟨List.all_eq_true.mpr fun y hy => a.f.ok y (mp (ho y hy)), decide_eq_true h2, List.all_eq_true.mpr fun y hy => decide_eq_true (ho y hy)⟩
end
theorem out_back {t u : Shp} {z : Str} (hz : z ∈ u.nm) (e : u.out z = t) (hs : shopB t = true) : outP u (.str z) (fun w => w = .d (enc t)) fun _ => False := by
  refine ⟨fun h => ?_, fun y ey hy => ?_⟩
  · have h : decide (z ∈ u.nm) = false := h
    rw [decide_eq_true hz] at h
    cases h
  · cases ey
    rw [e]
    exact ⟨fun _ => rfl, fun h => by rw [hs] at h; cases h⟩
/-- a shop from which z is taken, so that t is left -/
structure Back (t u : Shp) (z : Str) : Prop where
  p : Pre u
  o : outP u (.str z) (fun w => w = .d (enc t)) fun _ => False
section
variable {t : Shp} {z : Str} (a : AddOk t z)
include a
theorem back_P {n : Int} (h0 : 0 ≤ n) (h1 : n < 10 ^ 79) : Back t (t.addP (z, n)) z := ⟨pre_addP a h0 h1, out_back (List.mem_append_left _ (List.mem_append_left _ (nm_add.mpr (.inr rfl)))) (outAddP a.p a.n) a.s⟩
theorem back_C {o : List Str} (hr : risingB o = true) (h2 : 2 ≤ o.length) (hl : o.length ≤ 20) (ho : ∀ y ∈ o, isNameS y = true) : Back t (t.addC (z, o)) z := ⟨pre_addC a hr h2 hl ho, out_back (List.mem_append_left _ (List.mem_append_right _ (nm_add.mpr (.inr rfl)))) (outAddC a.p a.n) a.s⟩
theorem back_K {n : Int} {sh : List (Str × Int)} (h0 : 0 ≤ n) (h1 : n < 10 ^ 79) (hr : risingB (sh.map fun e => e.1) = true) (h2 : 1 ≤ sh.length) (hl : sh.length ≤ 4) (he : ∀ e ∈ sh, e.1 ∈ t.nm ∧ 1 ≤ e.2 ∧ e.2 ≤ 4) : Back t (t.addK (z, n, false, sh)) z := ⟨pre_addK a h0 h1 hr h2 hl he, out_back (List.mem_append_right _ (nm_add.mpr (.inr rfl))) (outAddK a.p a.n) a.s⟩
end
end Kl
set_option Elab.async false
set_option linter.all false
set_option maxRecDepth 100000
set_option maxHeartbeats 8000000
/-! L23: _law_are_back_right. -/
namespace Kl
open PySem PySem.Spec PyProof.Rows L2 LamX
section
variable {K : Frg} {σ : L2.St} {H : Hp} {ρ : List (Option W)} {N : List Addr} {B : Hp} {te : TE} {tz : TS} {D : Ends} {C : Addr}
/-- y = [e], e any, y hidden -/
theorem q_newE {i : Nat} {Sd : PyData → Prop} (h : At N B σ H ρ) (he : Ev te σ (hid N H) fun w => ∃ d, w = .d d ∧ Sd d)
    (k : ∀ l H' d xs, l ∉ N → Ex H H' → Sd d → At (l :: N) B (σ.set i (some (.ref l))) (upd H' l (.lst xs)) (ρ.set i (some (.v (.ref l)))) → ML (l :: N) B (upd H' l (.lst xs)) l [d] → tz D (σ.set i (some (.ref l))) (upd H' l (.lst xs))) : tSeq (tAsg (tLst (tCons te tNil)) (gName i)) tz D σ H := by
  refine he N H h.vw _ fun v H1 w e ⟨d, ew, sd⟩ iv => ?_
  subst ew
  have h1 := h.mono e
  refine ⟨by show 1 ≤ sizeLine; decide, fun l hn => k l H1 d [v] (fun m => h1.al l m hn) e sd (h1.hide hn i _) ⟨List.mem_cons_self, h1.ex.back hn, [v], upd_same, ?_⟩⟩
  rw [hid_new hn]
  exact .cons iv .nil
theorem ev_callXA {F : List W → (W → Prop) → (Str → Prop) → Prop} {t : TA} {T : List W → Prop} {S : W → Prop} {E : XK} (ha : EvA t σ H T) (hF : ∀ ws, T ws → F ws S fun _ => False) : Ev (tCall (SpX C F) [] E t) σ H S := fun N H1 vw Q q =>
  ha N H1 vw _ fun vs H2 ws e2 s iw => ⟨N, ws ++ [], S, fun _ => False, (vw.step e2).al, isa_app iw .nil, by rw [List.append_nil]; exact hF ws s, fun v H3 w e3 s3 i3 => q v H3 w (e2.trans e3) s3 i3, fun _ _ _ _ z => z.elim⟩
theorem nice_encs {t : Shp} (h : Szs t) {n : Nat} (hn : n ≤ 3) : Nice (.list (List.replicate n (enc t))) := by
  obtain ⟨h1, h2, h3⟩ := h.enc
  generalize enc t = d at h1 h2 h3
  have a1 : ∀ n, niceAll (List.replicate n d) = true := fun n => by
    induction n with
    | zero => rfl
    | succ n ih => show (niceB d && niceAll (List.replicate n d)) = true; rw [h1, ih]; rfl
  have a2 : ∀ n, wtAll (List.replicate n d) ≤ n * 120372 := fun n => by
    induction n with
    | zero => exact Nat.zero_le _
    | succ n ih => show Kl.wt d + 2 + wtAll (List.replicate n d) ≤ _; omega
  have a3 : ∀ n, PyData.depthAll (List.replicate n d) ≤ 5 := fun n => by
    induction n with
    | zero => exact Nat.zero_le _
    | succ n ih => show max d.depth (PyData.depthAll (List.replicate n d)) ≤ 5; omega
  refine ⟨a1 n, ?_, ?_⟩
  · show 6 + wtAll (List.replicate n d) ≤ 400000
    have := a2 n; omega
  · show PyData.depthAll (List.replicate n d) + 1 ≤ 30
    have := a3 n; omega
end
section
variable {P : Program} {w : World} {K : Frg} {mg : Str → Option Value} {base : Heap} {C : Addr}
abbrev s_law_are_back_right : Stmt := topS 67
abbrev n_law_are_back_right : List Str := ["_law_feed_here", "_law_store_here", "_law_spare", "_law_own", "_law_late", "_law_back", "_law_row", "_law_one"]
theorem sc_law_are_back_right : FnScope n_law_are_back_right ["_law_feed_here", "_law_store_here", "_law_spare"] (defScope s_law_are_back_right) := ⟨rfl, rfl, rfl, by decide +kernel, rfl, by decide +kernel, by decide +kernel⟩
def F_law_are_back_right : List W → (W → Prop) → Prop := fun ws S => ∃ t z1 z2, ws = [.feed, .d (enc t), .d (.list [.str z1, .str z2])] ∧ AddOk t z1 ∧ AddOk t z2 ∧ S (.d (.bool true))
theorem cl_law_are_back_right (D : Def K mg "_law_are_back_right" s_law_are_back_right) (G : Gm mg)
    (C_law_number : Cl P w K mg base CX0 3 "_law_number" [] (SpF F_law_number)) (C_law_bill : Cl P w K mg base CX0 2 "_law_bill" [] (SpF F_law_bill)) (C_law_all_tags : Cl P w K mg base CX0 1 "_law_all_tags" [] (SpF F_law_all_tags)) (C_law_some : Cl P w K mg base CX0 2 "_law_some" [] (SpF F_law_some))
    (C_with_part : Cl P w K mg base (CXl P w) 5 "with_part" [] (SpX C F_with_part)) (C_with_choice : Cl P w K mg base (CXl P w) 5 "with_choice" [] (SpX C F_with_choice)) (C_with_pack : Cl P w K mg base (CXl P w) 9 "with_pack" [] (SpX C F_with_pack)) (C_without : Cl P w K mg base (CXl P w) 9 "without" [] (SpX C F_without)) : ClG P w K mg base 10 "_law_are_back_right" (SpF F_law_are_back_right) := by
  refine D.okG sc_law_are_back_right (fun _ _ _ _ _ _ us hl => match us, hl with | [_, _, _], _ => rfl) (fun ws S ⟨_, _, _, e, _⟩ => by rw [e]; rfl) ?_
  rintro f cdv A outer s H M vs ws S Q E hr hg ⟨t, z1, z2, rfl, a1, a2, hS⟩ h k
  have nd := sc_law_are_back_right.nd
  refine ⟨_, (pss_cons (ps_setLc (i := 3) (own := [("_law_row", 6)]) rfl nd rfl rfl (sw_true rfl rfl rfl (by decide +kernel)) (pi_tup (pe_ix (r := rIxT K) ix_tup (pv 1) pe_int (fun _ _ => rfl))) (blkOk_by (own := [("_law_row", 6)]) (by kernel_rfl)) (fun _ _ _ _ _ => (pg_name (i := 6) nd rfl (.inl rfl))) (fun _ _ _ _ _ => pts_nil) (fun _ _ _ _ _ => (pe_ix (r := rIxT K) ix_tup (pv 6) pe_int (fun _ _ => rfl))))
      (pss_cons (ps_set (i := 4) nd rfl (.inl rfl) (pe_lst (pa_cons (pe_cl (E := L2.E0) C_with_part (hr.mono (by decide)) (by rfl) L2.passL (pa_cons (pv 1) (pa_cons (pe_ix (r := rIxL K) ix_list (pv 2) pe_int (fun _ _ => rfl)) (pa_cons (pe_cl C_law_number (hr.mono (by decide)) (by rfl) pass0 (pa_cons (pv 0) pa_nil)) pa_nil)))) pa_nil)))
      (pss_cons (ps_expr (pe_bm PySem.F.plainAttrs_list PySem.F.slot_list_append PySem.F.type_list_append mt_append (pv 4) (pa_cons (pe_cl (E := L2.E0) C_with_pack hr (by rfl) L2.passL (pa_cons (pv 1) (pa_cons (pe_ix (r := rIxL K) ix_list (pv 2) pe_int (fun _ _ => rfl)) (pa_cons (pe_cl C_law_number (hr.mono (by decide)) (by rfl) pass0 (pa_cons (pv 0) pa_nil)) (pa_cons pe_bl (pa_cons (pe_cl C_law_bill (hr.mono (by decide)) (by rfl) pass0 (pa_cons (pv 0) (pa_cons (pe_cl C_law_all_tags (hr.mono (by decide)) (by rfl) pass0 (pa_cons (pv 1) pa_nil)) pa_nil))) pa_nil)))))) pa_nil)))
      (pss_cons (ps_if (pt_cmpR op_gt (pe_callB (r := rLen K) call_len (by rfl) G.len_ PySem.boot_len (pa_cons (pv 3) pa_nil)) pe_int (nomark _)) (pss_one (ps_expr (pe_bm PySem.F.plainAttrs_list PySem.F.slot_list_append PySem.F.type_list_append mt_append (pv 4) (pa_cons (pe_cl (E := L2.E0) C_with_choice (hr.mono (by decide)) (by rfl) L2.passL (pa_cons (pv 1) (pa_cons (pe_ix (r := rIxL K) ix_list (pv 2) pe_int (fun _ _ => rfl)) (pa_cons (pe_cl C_law_some (hr.mono (by decide)) (by rfl) pass0 (pa_cons (pv 0) (pa_cons (pv 3) (pa_cons pe_int pa_nil)))) pa_nil)))) pa_nil)))) pss_nil)
      (pss_cons (ps_set (i := 5) nd rfl (.inl rfl) (pe_op op_cat (pe_lst (pa_cons (pe_cl (E := L2.E0) C_without hr (by rfl) L2.passL (pa_cons (pe_ix (r := rIxL K) ix_list (pv 4) pe_int (fun _ _ => rfl)) (pa_cons (pe_ix (r := rIxL K) ix_list (pv 2) pe_int (fun _ _ => rfl)) pa_nil))) (pa_cons (pe_cl (E := L2.E0) C_without hr (by rfl) L2.passL (pa_cons (pe_ix (r := rIxL K) ix_list (pv 4) pe_int (fun _ _ => rfl)) (pa_cons (pe_ix (r := rIxL K) ix_list (pv 2) pe_int (fun _ _ => rfl)) pa_nil))) pa_nil))) (pe_lc (own := [("_law_one", 7)]) rfl nd (pi_list (pe_slice (r := rSlL K) sl_list (pv 4) (po_some pe_int) po_none)) (blkOk_by (own := [("_law_one", 7)]) (by kernel_rfl)) (fun _ _ _ _ _ => (pg_name (i := 7) nd rfl (.inl rfl))) (fun _ _ _ _ _ => pts_nil) (fun _ _ _ _ _ => (pe_cl (E := L2.E0) C_without hr (by rfl) L2.passL (pa_cons (pv 7) (pa_cons (pe_ix (r := rIxL K) ix_list (pv 2) pe_int (fun _ _ => rfl)) pa_nil)))))))
      (pss_one (ps_ret (pe_cmpR (r := rEq) op_eq (pe_callB (r := rRepr K) (call_reprD hg hr.units) (by rfl) G.repr_ (by decide +kernel) (pa_cons (pv 5) pa_nil)) (pe_callB (r := rRepr K) (call_reprD hg hr.units) (by rfl) G.repr_ (by decide +kernel) (pa_cons (pe_op op_rep (pe_lst (pa_cons (pv 1) pa_nil)) (pe_callB (r := rLen K) call_len (by rfl) G.len_ PySem.boot_len (pa_cons (pv 5) pa_nil))) pa_nil)) (nomark _))))))))), ?_⟩
  have hne : 1 ≤ t.ps.length := by
    have := (shop_parts a1.s).1
    cases q : t.ps with
    | nil => exact absurd q this
    | cons a l => exact Nat.succ_le_succ (Nat.zero_le _)
  have lps := a1.f.lp
  refine q_asg h (S := fun w => w = .d (.list (t.pn.map PyData.str))) (d_is (d_map (l := t.ps) (enc := fun p => .d (eP p)) (f := fun p => PyData.str p.1) h.env (i_tupM (f := eP) (d_op (d_var h.env (i := 1) rfl) d_i (os_ixT (at_zero _ _) rfl))) (js := [6]) (by decide) (by omega) fun p hp => ⟨_, tg_name, fun σ' H' e' h' => d_op (d_var h' (i := 6) rfl) d_i (os_ixT (at_zero _ _) rfl)⟩) (by rw [List.map_map]; rfl)) (fun v w H1 e1 ew iw h1 => ?_)
  subst ew
  have hnum : ∀ {σ : L2.St} {V0 : Hp} {ρ : List (Option W)} {E : XK}, Env σ V0 ρ → ρ[0]? = some (some .feed) → Ev (tCall (SpF F_law_number) [] E (tCons (tVar 0) tNil)) σ V0 (IntS fun n => 0 ≤ n ∧ n < 10 ^ 79) := fun {σ V0 ρ E} he e0 => d_call (a_1 (d_var he e0)) ⟨rfl, fun n h0 h1 => ⟨n, rfl, h0, h1⟩⟩
  have hz1 : ∀ {σ : L2.St} {V0 : Hp} {ρ : List (Option W)}, Env σ V0 ρ → ρ[2]? = some (some (.d (.list [.str z1, .str z2]))) → Ed (tOp (rIxL K) (tVar 2) (tC (.int 0))) σ V0 (.d (.str z1)) := fun {σ V0 ρ} he e0 => d_op (d_var he e0) d_i (os_ixL (at_zero _ _) rfl)
  have hz2 : ∀ {σ : L2.St} {V0 : Hp} {ρ : List (Option W)}, Env σ V0 ρ → ρ[2]? = some (some (.d (.list [.str z1, .str z2]))) → Ed (tOp (rIxL K) (tVar 2) (tC (.int 1))) σ V0 (.d (.str z2)) := fun {σ V0 ρ} he e0 => d_op (d_var he e0) d_i (os_ixL (at_1 _ _ _) rfl)
  refine q_newE (Sd := fun d => ∃ u, d = enc u ∧ Back t u z1) h1 (ev_callXA (T := fun xs => ∃ n : Int, xs = [.d (enc t), .d (.str z1), .d (.int n)] ∧ 0 ≤ n ∧ n < 10 ^ 79) (ea_cons (Sa := fun w => w = .d (enc t)) (d_var h1.env (i := 1) rfl) fun x ex => ea_cons (Sa := fun w => w = .d (.str z1)) (hz1 h1.env rfl) fun y ey => ea1 ((hnum h1.env rfl).imp fun w ⟨n, ew, hn⟩ => ⟨n, by rw [ex, ey, ew], hn⟩)) fun xs ⟨n, ex, h0, h79⟩ => ⟨t, z1, n, ex, a1.f, a1.ok, a1.n, h0, _, rfl, _, rfl, back_P a1 h0 h79⟩) (fun l H2 d xs nl e2 hd h2 m2 => ?_)
  obtain ⟨u0, rfl, b0⟩ := hd
  have tagn : t.tags.Nodup := (sortN_perm _).nodup_iff.mpr a1.f.nd
  have tagm : ∀ y, y ∈ t.tags ↔ y ∈ t.nm := fun y => sortN_mem
  have tagl : 1 ≤ t.tags.length ∧ t.tags.length ≤ 60 := by
    have e : t.tags.length = t.nm.length := sortN_len
    have := a1.f.ln
    rw [e]
    refine ⟨?_, this⟩
    simp only [Shp.nm, Shp.pn, List.length_append, List.length_map]; omega
  have tagl20 : t.tags.length ≤ 20 := by rw [show t.tags.length = t.nm.length from sortN_len]; exact a1.ln
  refine q_app (S := fun w => ∃ u, w = .d (enc u) ∧ Back t u z1) h2 m2 rfl ((ev_callXA (T := fun xs => ∃ (n : Int) (sh : List (Str × Int)), xs = [.d (enc t), .d (.str z1), .d (.int n), .d (.bool false), .d (eB sh)] ∧ 0 ≤ n ∧ n < 10 ^ 79 ∧ risingB (sh.map fun e => e.1) = true ∧ 1 ≤ sh.length ∧ sh.length ≤ 4 ∧ ∀ e ∈ sh, e.1 ∈ t.nm ∧ 1 ≤ e.2 ∧ e.2 ≤ 4) (S := fun w => ∃ u, w = .d (enc u) ∧ Back t u z1) (ea_cons (Sa := fun w => w = .d (enc t)) (d_var h2.env (i := 1) rfl) fun x1 ex1 => ea_cons (Sa := fun w => w = .d (.str z1)) (hz1 h2.env rfl) fun x2 ex2 => ea_cons (hnum h2.env rfl) fun x3 ⟨n, ex3, hn⟩ => ea_cons (Sa := fun w => w = .d (.bool false)) d_b fun x4 ex4 => ea1 ((d_call (S := fun w => ∃ sh : List (Str × Int), w = .d (eB sh) ∧ risingB (sh.map fun e => e.1) = true ∧ 1 ≤ sh.length ∧ sh.length ≤ 4 ∧ ∀ e ∈ sh, e.1 ∈ t.nm ∧ 1 ≤ e.2 ∧ e.2 ≤ 4) (a_2 (d_var h2.env (i := 0) (x := .feed) rfl) (d_call (S := fun w => w = .d (.list (t.tags.map PyData.str))) (a_1 (d_var h2.env (i := 1) (x := .d (enc t)) rfl)) ⟨t, rfl, a1.f, rfl⟩)) ⟨t.tags, rfl, tagn, fun y hy => a1.f.ok y ((tagm y).mp hy), tagl.1, tagl20, fun b q1 q2 q3 q4 => ⟨b, rfl, q1, q2, q3, fun e he => ⟨(tagm _).mp (q4 e he).1, (q4 e he).2⟩⟩⟩).imp fun w ⟨sh, ew, hsh⟩ => ⟨n, sh, by rw [ex1, ex2, ex3, ex4, ew], hn.1, hn.2, hsh⟩)) fun xs ⟨n, sh, ex, h0, h79, q1, q2, q3, q4⟩ => ⟨t, z1, n, false, sh, ex, a1.f, a1.ok, a1.n, h0, pre_addK a1 h0 h79 q1 q2 q3 q4, shop_addK a1 q4, _, rfl, back_K a1 h0 h79 q1 q2 q3 q4⟩).imp fun w ⟨u, ew, b⟩ => ⟨_, ew, u, ew, b⟩) (by show 1 < 60000; decide) (fun d1 H3 xs3 e3 hd3 h3 m3 => ?_)
  obtain ⟨u1, eu, b1⟩ := hd3
  cases eu
  refine q_join (Cb := fun b => b = decide ((1 : Int) < (t.ps.length : Nat))) (J := fun σ' H' => ∃ us : List Shp, us.length ≤ 1 ∧ (∀ u ∈ us, Back t u z2) ∧ At (l :: M) H σ' H' [some .feed, some (.d (enc t)), some (.d (.list [.str z1, .str z2])), some (.d (.list (t.pn.map PyData.str))), some (.v (.ref l)), none, none, none] ∧ ML (l :: M) H H' l (enc u0 :: enc u1 :: us.map enc)) h3 (b_test (d_op (d_cb (a_1 (d_var h3.env (i := 3) rfl)) (cs_lenL (S := fun w => w = .d (.int (t.ps.length : Nat))) (by simp))) d_i (os_I0 (fun H => .bl _) rfl))) (fun hb H4 e4 h4 nx q => ?_) (fun hb H4 e4 h4 => ⟨[], Nat.zero_le _, fun u hu => by (cases hu), h4, m3.mono e4⟩) (fun σ5 H5 ⟨us, hul, hub, h5, m5⟩ => ?_)
  · have h2l : 2 ≤ t.ps.length := by have := of_decide_eq_true hb.symm; omega
    refine s_app (S := fun w => ∃ u, w = .d (enc u) ∧ Back t u z2) h4 (m3.mono e4) rfl ((ev_callXA (T := fun xs => ∃ o : List Str, xs = [.d (enc t), .d (.str z2), .d (.tuple (o.map PyData.str))] ∧ risingB o = true ∧ 2 ≤ o.length ∧ o.length ≤ t.pn.length ∧ ∀ y ∈ o, y ∈ t.pn) (S := fun w => ∃ u, w = .d (enc u) ∧ Back t u z2) (ea_cons (Sa := fun w => w = .d (enc t)) (d_var h4.env (i := 1) rfl) fun x1 ex1 => ea_cons (Sa := fun w => w = .d (.str z2)) (hz2 h4.env rfl) fun x2 ex2 => ea1 ((d_call (S := fun w => ∃ o : List Str, w = .d (.tuple (o.map PyData.str)) ∧ risingB o = true ∧ 2 ≤ o.length ∧ o.length ≤ t.pn.length ∧ ∀ y ∈ o, y ∈ t.pn) (a_3 (d_var h4.env (i := 0) (x := .feed) rfl) (d_var h4.env (i := 3) (x := .d (.list (t.pn.map PyData.str))) rfl) d_i) ⟨t.pn, rfl, rise_nodup (nm := pnm) a1.p.rp, by rw [List.length_map]; exact h2l, by rw [List.length_map]; exact lps, fun o q1 q2 q3 q4 => ⟨o, rfl, q1, q2, q3, q4⟩⟩).imp fun w ⟨o, ew, ho⟩ => ⟨o, by rw [ex1, ex2, ew], ho⟩)) fun xs ⟨o, ex, q1, q2, q3, q4⟩ => by
      have hol : o.length ≤ 20 := by rw [List.length_map] at q3; omega
      have hon : ∀ y ∈ o, isNameS y = true := fun y hy => a1.f.ok y (mp (q4 y hy))
      exact ⟨t, z2, o, ex, a2.f, a2.ok, a2.n, opts_ok a2 q1 q2 q4, hol, hon, _, rfl, back_C a2 q1 q2 hol hon⟩).imp fun w ⟨u, ew, b⟩ => ⟨_, ew, u, ew, b⟩) (by show 2 < 60000; decide) (fun d2 H5 xs5 e5 hd5 h5 m5 => ?_)
    obtain ⟨u2, eu, b2⟩ := hd5
    cases eu
    exact q _ _ ⟨[u2], Nat.le_refl _, fun u hu => by rw [List.mem_singleton.mp hu]; exact b2, h5, m5⟩
  have h6 := h5.show_ (i := 4) m5 nl rfl
  have hcut : cutG (enc u0 :: enc u1 :: us.map enc) (some 2) none = us.map enc := by
    rw [show (2 : Int) = ((2 : Nat) : Int) from rfl, cutG_from]; rfl
  have hrep : [enc t, enc t] ++ us.map (fun _ => enc t) = List.replicate (us.length + 2) (enc t) := by
    rw [List.map_const']; rfl
  refine q_asg h6 (S := fun w => w = .d (.list (List.replicate (us.length + 2) (enc t)))) (d_op (d_lst (ds := [enc t, enc t]) (a_2 (ev_callX (a_2 (d_op (d_var h6.env (i := 4) rfl) d_i (os_ixL (at_zero _ _) rfl)) (hz1 h6.env rfl)) ⟨u0, _, rfl, b0.p, name_nice a1.ok, b0.o⟩) (ev_callX (a_2 (d_op (d_var h6.env (i := 4) rfl) d_i (os_ixL (at_1 _ _ _) rfl)) (hz1 h6.env rfl)) ⟨u1, _, rfl, b1.p, name_nice a1.ok, b1.o⟩)) (by simp)) (d_map (l := us) (enc := fun u => .d (enc u)) (f := fun _ => enc t) h6.env (i_listM (f := enc) (d_sl (S := fun w => w = .d (.list (us.map enc))) (lo := some 2) (hi := none) (d_var h6.env (i := 4) rfl) (o_some d_i) o_none (ss_L (by rw [hcut])))) (js := [7]) (by decide) (by omega) fun u hu => ⟨_, tg_name, fun σ' H' e' h' => ev_callX (a_2 (d_var h' (i := 7) rfl) (hz2 h' rfl)) ⟨u, _, rfl, (hub u hu).p, name_nice a2.ok, (hub u hu).o⟩⟩) (os_addL (by rw [List.length_map]; show 2 + us.length ≤ 100000; omega) (by rw [hrep]))) (fun v7 w7 H7 e7 ew7 iw7 h7 => ?_)
  subst ew7
  have hnice := nice_encs a1.p.szs (n := us.length + 2) (by omega)
  refine s_ret h7 (S := fun w => w = .d (.bool true)) (d_op (d_repr hnice (d_var h7.env (i := 5) rfl)) (d_repr hnice (d_op (S := fun w => w = .d (.list (List.replicate (us.length + 2) (enc t)))) (d_lst (ds := [enc t]) (a_1 (d_var h7.env (i := 1) rfl)) (by simp)) (d_cb (S := fun w => w = .d (.int ((us.length + 2 : Nat) : Int))) (a_1 (d_var h7.env (i := 5) rfl)) (cs_lenL (by rw [List.length_replicate]))) (os_rep (by omega) (by omega) (by simp) (by
    rw [Int.toNat_natCast]
    congr 2
    induction us.length + 2 with
    | zero => rfl
    | succ n ih => rw [List.replicate_succ, List.flatten_cons, ih, List.replicate_succ]; rfl)))) (os_eqT (by rw [decide_eq_true rfl]))) (fun v w H' e sw iw => ?_)
  subst sw
  exact k v H' _ e hS iw
end
end Kl
set_option Elab.async false
set_option linter.all false
set_option maxRecDepth 100000
set_option maxHeartbeats 8000000
/-! L24: law. -/
namespace Kl
open PySem PySem.Spec PyProof.Rows L2 LamX
/-- the script: a list of numbers that may be any object's -/
def WSc (K : Frg) (ns : List Int) : W := .x (fun H v => ∃ a, v = .ref a ∧ SqL K H a (ns.map V.int)) fun H H' v e ⟨a, h1, h2⟩ => ⟨a, h1, e.l h2⟩
theorem cutV_int {ns : List Int} {lo hi : Option Int} : cutV (ns.map V.int) lo hi = (cutG ns lo hi).map V.int := by
  unfold cutV cutG
  rw [List.length_map, ← List.map_drop, ← List.map_take]
theorem dqs_int {H : Hp} : ∀ ns : List Int, DqAll H (ns.map V.int) (ns.map PyData.int)
  | [] => .nil
  | i :: ns => .cons (.int i) (dqs_int ns)
theorem ss_sc {K : Frg} {ns : List Int} {lo hi : Option Int} {S : W → Prop} (s : S (.d (.list ((cutG ns lo hi).map PyData.int)))) : SlS (rSlL K) (WSc K ns) lo hi S := fun N H al v iv Q q => by
  obtain ⟨a, rfl, h⟩ := iv
  refine ⟨a, ns.map V.int, rfl, (hid_ex N H).l h, fun p hp => q _ _ _ (Ex.new hp) s (new_lst al hp ?_)⟩
  rw [cutV_int]
  exact dqs_int _
section
variable {K : Frg} {σ : L2.St} {H : Hp} {ρ : List (Option W)} {N : List Addr} {B : Hp} {t : TA} {te : TE} {tt : TT} {tu tz : TS} {D : Ends} {wi : TI} {g : TG}
theorem at_callT {T : List (Addr × Str)} {F : List W → (W → Prop) → Prop} {ws : List W} {S : W → Prop} {E : XK} {Q : VK} (h : At N B σ H ρ) (hT : Tabs T H) (nx : NoX N H) (ha : Ea t σ (hid N H) ws) (hF : F ws S) (k : ∀ v H' w, Exw H H' → Tabs T H' → S w → Is (hid N H') v w → Q v H') : tCall (SpT T F) [] E t σ H Q := by
  refine ha N H h.vw _ fun vs H1 ws' e s iv => ?_
  subst s
  exact ⟨e.tb T hT, N, ws' ++ [], S, nx.mono e.w, isa_app iv .nil, by rw [List.append_nil]; exact hF, fun v H2 w e2 t2 sw iw => k v H2 w (e.w.trans e2) t2 sw iw⟩
/-- [e for .. if ..] with no turn at which the test holds; tables may grow meanwhile -/
theorem lc_none {T : List (Addr × Str)} {vs js : List Nat} {Tw : List W → Prop} (h : At [] H σ H ρ) (hT : Tabs T H) (hi : EvI wi σ (hid [] H) Tw) (hj : ∀ j ∈ js, j ∈ vs)
    (ht : ∀ ws, Tw ws → ∀ w ∈ ws, ∃ us, Tg g js w us ∧ ∀ (D : Addr) σ' H', At [D] H' σ' H' (setr (wip ρ vs) js us) → NoX [D] H' → Tabs T H' → ∀ Q' : Bool → Hp → Prop, (∀ H2, Exw H' H2 → Tabs T H2 → Q' false H2) → tt σ' H' Q') {Q : VK}
    (q : ∀ D H', Exw H H' → Tabs T H' → Is (hid [] H') (.ref D) (.d (.list [])) → Q (.ref D) H') : tLc wi g tt te vs σ H Q := by
  refine hi [] H h.vw _ fun J H1 ws' e1 ew wk => ?_
  intro D hD
  refine ⟨fun i m H' => m = ws'.length - i ∧ i ≤ ws'.length ∧ Vw [D] (hid [] H1) H' ∧ H' D = some (.lst []) ∧ Tabs T H' ∧ Exw H H', ⟨_, rfl, Nat.zero_le _, ⟨fun a m => ?_, ?_⟩, upd_same, (Ex.new hD).tb T (e1.tb T hT), e1.w.trans (Exw.new hD)⟩, ?_⟩
  · rw [List.mem_singleton.mp m, upd_same]; nofun
  · rw [hid_new hD]; exact Exw.refl _
  · rintro i m H3 ⟨rfl, hi', vD, hl, t3, x3⟩
    by_cases hlt : i < ws'.length
    · refine .inr ⟨wk.goes i H3 [D] hlt vD, fun H' => i + 1 ≤ ws'.length ∧ Vw [D] (hid [] H1) H' ∧ H' D = some (.lst []) ∧ Tabs T H' ∧ Exw H H', fun H' a => ⟨ws'.length - (i + 1), by omega, rfl, a⟩, fun x H4 y => ?_⟩
      obtain ⟨e34, w, hw, iw⟩ := wk.yields i H3 [D] x H4 hlt vD y
      obtain ⟨us, hg, body⟩ := ht ws' ew w (List.mem_of_getElem? hw)
      refine hg [D] H4 x _ iw _ fun xs' ixs => ⟨by rw [sets_wipe hj, wipe_wipe], ?_⟩
      have v4 := vD.step e34
      have l4 := e34.lst hl
      have hE4 : Env (sets (L2.wipe σ vs) js xs') (hid [D] H4) (setr (wip ρ vs) js us) := (((h.env.mono (hid_mono e1.w)).mono v4.ex).wipe vs).sets ixs
      refine body D _ H4 ⟨v4.al, Ex.refl _, hE4⟩ (fun a m => ?_) (e34.tb T t3) _ fun H5 e5 t5 => ?_
      · rw [List.mem_singleton.mp m]
        exact ⟨_, l4, fun fs z => by cases z⟩
      · show i + 1 ≤ ws'.length ∧ _
        exact ⟨hlt, ⟨fun a m => e5.some (v4.al a m), v4.ex.trans (hid_mono e5)⟩, e5.lst l4, t5, x3.trans (e34.w.trans e5)⟩
    · have e : i = ws'.length := by omega
      subst e
      exact .inl ⟨wk.stops H3 [D] vD, q D H3 x3 t3 (.lst (hid_of hl (by simp)) .nil)⟩
/-- if [e for .. if ..] != []: .., never so -/
theorem q_none {T : List (Addr × Str)} {vs js : List Nat} {Tw : List W → Prop} (h : At [] H σ H ρ) (hT : Tabs T H) (hi : EvI wi σ (hid [] H) Tw) (hj : ∀ j ∈ js, j ∈ vs)
    (ht : ∀ ws, Tw ws → ∀ w ∈ ws, ∃ us, Tg g js w us ∧ ∀ (D : Addr) σ' H', At [D] H' σ' H' (setr (wip ρ vs) js us) → NoX [D] H' → Tabs T H' → ∀ Q' : Bool → Hp → Prop, (∀ H2, Exw H' H2 → Tabs T H2 → Q' false H2) → tt σ' H' Q')
    (k : ∀ H', Exw H H' → Tabs T H' → At [] H' σ H' ρ → tz D σ H') : tSeq (tIfS (tTest (tOp (rNeD K) (tLc wi g tt te vs) (tLst tNil))) tu tNext) tz D σ H := by
  unfold tSeq tIfS tTest tOp
  refine lc_none h hT hi hj ht fun L H1 e1 t1 i1 => ?_
  have h1 := h.anew e1
  refine at_ev h1 (S := fun w => w = .d (.list [])) (d_lst (ds := []) a_nil (by decide)) fun v H2 w e2 ew iw h2 => ?_
  subst ew
  refine os_neD (K := K) (S := fun w => w = .d (.bool false)) (d := .list []) (e := .list []) (by decide +kernel) (by decide +kernel) (by rw [show PyData.eqv (.list []) (.list []) = true by decide +kernel]; rfl) [] H2 (by simp) _ _ (is_mono (hid_mono e2.w) i1) iw _ fun z H3 w e3 ew iz => ?_
  subst ew
  cases iz
  exact ⟨false, rfl, k H3 (e1.trans (e2.trans e3).w) ((e2.trans e3).tb T t1) (h.anew (e1.trans (e2.trans e3).w))⟩
end
section
variable {P : Program} {w : World} {K : Frg} {mg : Str → Option Value} {base : Heap} {C : Addr}
def F_law_feedK (K : Frg) : List W → (W → Prop) → Prop := fun ws S => ∃ ns : List Int, ws = [WSc K ns] ∧ S .feed
theorem cl_law_feedK (D : Def K mg "_law_feed" s_law_feed) (G : Gm mg) : Cl P w K mg base CX0 1 "_law_feed" [] (SpF (F_law_feedK K)) := by
  refine D.ok sc_law_feed (fun _ _ _ _ _ _ us hl => match us, hl with | [_], _ => rfl) (fun ws S ⟨_, e, _⟩ => by rw [e]; rfl) ?_
  rintro f cdv A outer s H M vs ws T Q E hr ⟨ns, rfl, hS⟩ h k
  have nd := sc_law_feed.nd
  refine ⟨_, (pss_one (ps_ret (pe_disp (pps_cons pe_str (pe_lc (own := [("_law_one", 1)]) rfl nd (pi_list (pe_slice (r := rSlL K) sl_list (pv 0) po_none (po_some pe_int))) (blkOk_by (own := [("_law_one", 1)]) (by kernel_rfl)) (fun _ _ _ _ _ => (pg_name (i := 1) nd rfl (.inl rfl))) (fun _ _ _ _ _ => pts_nil) (fun _ _ _ _ _ => (pe_callTy call_int1 (by rfl) G.int_ (by decide +kernel) (pa_cons (pv 1) pa_nil)))) (pps_cons pe_str pe_int (pps_cons pe_str pe_int (pps_cons pe_str pe_int pps_nil)))) rfl rfl (by nofun) (by decide)))), ?_⟩
  have hc : cutG ns none (some 63) = ns.take 63 := by
    rw [show (63 : Int) = ((63 : Nat) : Int) from rfl, cutG_to]
  refine s_ret h (S := T) (d_to (d_feed (ns := ns.take 63) (d_map (l := ns.take 63) (enc := fun i => .d (.int i)) (f := fun i => PyData.int i) h.env (i_listM (f := PyData.int) (d_sl (lo := none) (hi := some 63) (d_var h.env (i := 0) rfl) o_none (o_some d_i) (ss_sc (by rw [hc])))) (js := [1]) (by decide) (by rw [List.length_take]; omega) fun i hi => ⟨_, tg_name, fun σ' H' e' h' => d_cb (a_1 (d_var h' (i := 1) rfl)) (cs_int rfl)⟩)) hS) (fun v w H' e s i => k v H' w e s i)
theorem add_raw {own picks seg : List Str} {ps : List (Str × Int)} {cs : List (Str × List Str)} {ks : List (Str × Int × Bool × List (Str × Int))} {z : Str} (R : Raw own picks seg ps cs ks) (hz : isNameS z = true) (hn : z ∉ own ++ picks ++ seg) : AddOk (rawShp ps cs ks) z := by
  have l1 : (rawShp ps cs ks).ps.length = own.length := by show (sortN pnm ps).length = _; rw [sortN_len, ← R.ep, List.length_map]
  have l2 : (rawShp ps cs ks).cs.length = picks.length := by show (sortN cnm cs).length = _; rw [sortN_len, ← R.ec, List.length_map]
  have l3 : (rawShp ps cs ks).ks.length = seg.length := by show (sortN knm ks).length = _; rw [sortN_len, ← R.ek, List.length_map]
  have := R.lo5; have := R.lp; have := R.ls
  refine ⟨R.pre, R.fit, R.shop, hz, fun m => hn (R.mem.mp m), by omega, by omega, by omega, ?_⟩
  rw [R.perm.length_eq, List.length_append, List.length_append]
  omega
theorem nice_no {t : Shp} {z1 z2 : Str} {p : Str × Int} {ps : List (Str × Int)} (a1 : AddOk t z1) (a2 : AddOk t z2) (hp : t.ps = p :: ps) : ∀ d ∈ noNames p.1 z1 z2, Nice d := fun d hd => by
  have h0 := name_nice ((a1.f.np p (by rw [hp]; exact List.mem_cons_self)).1)
  have h1 := name_nice a1.ok
  have h2 : Nice (.str (z2 ++ ("A" : Str))) := by
    have := name_len a2.ok
    refine nice_str ?_ ?_
    · have h3 := name_ok a2.ok
      have h3 : z2.cps.all (· < 0x110000) = true := h3
      show (z2.cps ++ ("A" : Str).cps).all (· < 0x110000) = true
      rw [Array.all_append, h3]
      decide +kernel
    · show (z2.cps ++ ("A" : Str).cps).size ≤ 100
      rw [Array.size_append]
      have : z2.cps.size ≤ 8 := this
      have : ("A" : Str).cps.size = 1 := by decide +kernel
      omega
  have nw0 : niceB (.str p.1) = true ∧ wt (.str p.1) ≤ 86 := ⟨h0.ok, nm_wt (a1.f.np p (by rw [hp]; exact List.mem_cons_self)).1⟩
  simp only [noNames, List.mem_cons, List.not_mem_nil, or_false] at hd
  rcases hd with rfl | rfl | rfl | rfl | rfl | rfl | rfl | rfl | rfl | rfl | rfl
  · exact ⟨by decide +kernel, by decide +kernel, by decide +kernel⟩
  · exact ⟨by decide +kernel, by decide +kernel, by decide +kernel⟩
  · exact ⟨by decide +kernel, by decide +kernel, by decide +kernel⟩
  · exact ⟨by decide +kernel, by decide +kernel, by decide +kernel⟩
  · exact ⟨by decide +kernel, by decide +kernel, by decide +kernel⟩
  · exact h1
  · exact h2
  · exact ⟨by decide +kernel, by decide +kernel, by decide +kernel⟩
  · exact ⟨by show (niceB (.str p.1) && true) = true; rw [nw0.1]; rfl, by show 6 + (wt (.str p.1) + 2 + 0) ≤ 400000; omega, by show max 0 0 + 1 ≤ 30; decide⟩
  · exact ⟨by show (niceB (.str p.1) && true) = true; rw [nw0.1]; rfl, by show 6 + (wt (.str p.1) + 2 + 0) ≤ 400000; omega, by show max 0 0 + 1 ≤ 30; decide⟩
  · exact ⟨by decide +kernel, by decide +kernel, by decide +kernel⟩
abbrev s_law : Stmt := topS 68
abbrev n_law : List Str := ["_law_script", "_law_feed_here", "_law_lap", "_law_store_here", "_law_spare", "_law_shown", "_law_tag", "_law_what"]
theorem sc_law : FnScope n_law ["_law_script"] (defScope s_law) := ⟨rfl, rfl, rfl, by decide +kernel, rfl, by decide +kernel, by decide +kernel⟩
def spLaw (K : Frg) (T : List (Addr × Str)) : Sp := fun vs H Q _ => ∃ (a : Addr) (ns : List Int), vs = [.ref a] ∧ SqL K H a (ns.map V.int) ∧ Tabs T H ∧ ∀ H', Q (.bl true) H'
theorem cl_law {T : List (Addr × Str)} (D : Def K mg "law" s_law) (G : Gm mg)
    (C_law_feed : Cl P w K mg base CX0 1 "_law_feed" [] (SpF (F_law_feedK K))) (C_law_store : Cl P w K mg base CX0 4 "_law_store" [] (SpF F_law_store)) (C_law_all_tags : Cl P w K mg base CX0 1 "_law_all_tags" [] (SpF F_law_all_tags)) (C_law_no_names : Cl P w K mg base CX0 1 "_law_no_names" [] (SpF F_law_no_names))
    (C_law_tables : Cl P w K mg base CX0 8 "_law_tables" [] (SpF F_law_tables)) (C_out : ClG P w K mg base 12 "_law_is_out_right" (SpT T F_law_is_out_right)) (C_table : ClG P w K mg base 12 "_law_is_table_right" (SpT T F_law_is_table_right)) (C_back : ClG P w K mg base 10 "_law_are_back_right" (SpF F_law_are_back_right)) : ClG P w K mg base 13 "law" (spLaw K T) := by
  obtain ⟨f, fd, Fn, hm⟩ := D.ex
  have hk := Fn.kp
  have hbb := Fn.binds (ps := ["_law_script"]) (fun _ _ _ _ _ _ us hl => match us, hl with | [_], _ => rfl)
  obtain ⟨oc, od, kV, doc, pm, an, cdv, ct, osl, rfl, lk, hcd⟩ := Fn.ex
  refine ⟨f, _, ["_law_script"], fnG_of lk hcd sc_law (fun vs H Q E h => ?_) (fun A outer s H vs Q E hr hg h => ?_), hm, hk, hbb⟩
  · obtain ⟨a, ns, e, _⟩ := h
    rw [e]; rfl
  obtain ⟨a, ns, rfl, hs, hT, k⟩ := h
  have nd := sc_law.nd
  refine ⟨_, (pss_cons (ps_set (i := 1) nd rfl (.inl rfl) (pe_cl C_law_feed (hr.mono (by decide)) (by rfl) pass0 (pa_cons (pv 0) pa_nil)))
      (pss_cons (ps_for PassesOwn.never rfl (pi_range1 (by rfl) G.range_ (pa_cons pe_int pa_nil)) (pg_name (i := 2) nd rfl (.inl rfl)) (pss_cons (ps_asg (g := gTup K 2 (gCons (gName 3) (gCons (gName 4) gNil))) (pe_cl C_law_store (hr.mono (by decide)) (by rfl) pass0 (pa_cons (pv 1) (pa_cons pe_int pa_nil))) (pg_tup rfl (pgs_cons (pg_name (i := 3) nd rfl (.inr rfl)) (pgs_cons (pg_name (i := 4) nd rfl (.inl rfl)) pgs_nil))))
      (pss_cons (ps_set (i := 5) nd rfl (.inl rfl) (pe_callB (r := rRepr K) (call_reprD hg hr.units) (by rfl) G.repr_ (by decide +kernel) (pa_cons (pv 3) pa_nil)))
      (pss_cons (ps_if (pt_cmpR (r := rNeD K) (op_neD hr.units) (pe_lc (own := [("_law_tag", 6)]) rfl nd (pi_list (pe_op op_cat (pe_cl C_law_all_tags (hr.mono (by decide)) (by rfl) pass0 (pa_cons (pv 3) pa_nil)) (pe_cl C_law_no_names (hr.mono (by decide)) (by rfl) pass0 (pa_cons (pv 3) (pa_cons (pv 4) pa_nil))))) (blkOk_by (own := [("_law_tag", 6)]) (by kernel_rfl)) (fun _ _ _ _ _ => (pg_name (i := 6) nd rfl (.inl rfl))) (fun _ _ _ _ _ => pts_one (pt_not (pt_val (pe_clG (E := L2.E0) C_out hr hg (by rfl) (pa_cons (pv 3) (pa_cons (pv 6) pa_nil)))))) (fun _ _ _ _ _ => (pv 6))) (pe_lst pa_nil) (nomark _)) (pss_one (ps_ret pe_bl)) pss_nil)
      (pss_cons (ps_if (pt_cmpR (r := rNeD K) (op_neD hr.units) (pe_lc (own := [("_law_what", 7)]) rfl nd (pi_list (pe_cl C_law_tables (hr.mono (by decide)) (by rfl) pass0 (pa_cons (pv 1) (pa_cons (pv 3) (pa_cons (pv 4) pa_nil))))) (blkOk_by (own := [("_law_what", 7)]) (by kernel_rfl)) (fun _ _ _ _ _ => (pg_name (i := 7) nd rfl (.inl rfl))) (fun _ _ _ _ _ => pts_one (pt_not (pt_val (pe_clG (E := L2.E0) C_table hr hg (by rfl) (pa_cons (pv 3) (pa_cons (pv 7) pa_nil)))))) (fun _ _ _ _ _ => (pv 7))) (pe_lst pa_nil) (nomark _)) (pss_one (ps_ret pe_bl)) pss_nil)
      (pss_one (ps_if (PW.pt (pw_or (pt_not (pt_val (pe_clG (E := L2.E0) C_back (hr.mono (by decide)) hg (by rfl) (pa_cons (pv 1) (pa_cons (pv 3) (pa_cons (pv 4) pa_nil)))))) (pw_or1 (pt_cmpR (r := rNe) op_ne (pe_callB (r := rRepr K) (call_reprD hg hr.units) (by rfl) G.repr_ (by decide +kernel) (pa_cons (pv 3) pa_nil)) (pv 5) (nomark _))))) (pss_one (ps_ret pe_bl)) pss_nil)))))))
      (pss_one (ps_ret pe_bl)))), ?_⟩
  have h : At [] H (L2.start n_law [.ref a]) H ([WSc K ns].map some ++ List.replicate (n_law.length - [WSc K ns].length) none) := ⟨by simp, Ex.refl _, env_start (.cons ⟨a, rfl, by rw [hid_nil]; exact hs⟩ .nil) (by show 1 ≤ 8; decide)⟩
  have nx0 : ∀ H : Hp, NoX [] H := fun H l m => by cases m
  refine q_asg h (S := fun w => w = .feed) (d_call (a_1 (d_var h.env (i := 0) rfl)) ⟨ns, rfl, rfl⟩) (fun v w H1 e1 ew iw h1 => ?_)
  subst ew
  refine q_for (js := [2]) h1 (i_range (j := 2) d_i (by decide) (by decide)) (fun ws H2 ew e2 h2 => ?_)
  subst ew
  refine ⟨fun i σ' H' => At [] H' σ' H' [some (WSc K ns), some .feed, none, none, none, none, none, none] ∧ Tabs T H', ⟨h2.anew (Exw.refl _), (e1.trans e2).tb T hT⟩, fun i σ' H' H3 ⟨a, b⟩ e => ⟨a.anew e.w, e.tb T b⟩, fun σ' H' v ⟨a, b⟩ => ?_, fun i x σ' H' hx vw ⟨h3, t3⟩ => ⟨_, tg_name, fun xs hxs => ?_⟩⟩
  · refine s_ret a (S := fun w => w = .d (.bool true)) d_b (fun v w H3 e3 ew iw => ?_)
    subst ew
    cases iw
    exact k _
  have h4 := h3.sets [2] hxs
  refine q_asgT (js := [3, 4]) (Su := fun us => ∃ t z1 z2, us = [.d (enc t), .d (.list [.str z1, .str z2])] ∧ AddOk t z1 ∧ AddOk t z2) h4 (d_call (a_2 (d_var h4.env (i := 1) (x := .feed) rfl) d_i) ⟨rfl, fun own picks seg ps cs ks z1 z2 R hpo n1 n2 ne m1 m2 => ⟨[.d (enc (rawShp ps cs ks)), .d (.list [.str z1, .str z2])], tg_two, _, z1, z2, rfl, add_raw R n1 m1, add_raw R n2 m2⟩⟩) (fun xs us H5 e5 su h5 => ?_)
  obtain ⟨t, z1, z2, rfl, a1, a2⟩ := su
  have hnt : Nice (enc t) := a1.p.szs.nice
  refine q_asg h5 (S := fun w => w = .d (.str (enc t).shown)) (d_repr hnt (d_var h5.env (i := 3) rfl)) (fun v5 w5 H6 e6 ew h6' iw => ?_)
  subst ew
  obtain ⟨p, ps, hps⟩ : ∃ p ps, t.ps = p :: ps := by
    cases q : t.ps with
    | nil => exact absurd q (shop_parts a1.s).1
    | cons p ps => exact ⟨p, ps, rfl⟩
  have t6 : Tabs T H6 := e6.tb T (e5.tb T t3)
  have h6 := iw.anew (Exw.refl _)
  have hz2 : z2.length ≤ 100 := Nat.le_trans (name_len a2.ok) (by decide)
  have htl : t.tags.length ≤ 20 := by rw [show t.tags.length = t.nm.length from sortN_len]; exact a1.ln
  refine q_none (T := T) (js := [6]) h6 t6 (i_list (ds := t.tags.map PyData.str ++ noNames p.1 z1 z2) (d_op (d_call (S := fun w => w = .d (.list (t.tags.map PyData.str))) (a_1 (d_var h6.env (i := 3) (x := .d (enc t)) rfl)) ⟨t, rfl, a1.f, rfl⟩) (d_call (S := fun w => w = .d (.list (noNames p.1 z1 z2))) (a_2 (d_var h6.env (i := 3) (x := .d (enc t)) rfl) (d_var h6.env (i := 4) (x := .d (.list [.str z1, .str z2])) rfl)) ⟨t, p, ps, z1, z2, hps, rfl, hz2, rfl⟩) (os_addL (by rw [List.length_map]; show t.tags.length + 11 ≤ 100000; omega) rfl))) (by decide) (fun ws ew w hw => ?_) (fun H7 e7 t7 h7 => ?_)
  · subst ew
    obtain ⟨d, hd, rfl⟩ := List.mem_map.mp hw
    have nd : Nice d := by
      rcases List.mem_append.mp hd with hd | hd
      · obtain ⟨z, hz, rfl⟩ := List.mem_map.mp hd
        exact name_nice (a1.f.ok z (sortN_mem.mp hz))
      · exact nice_no a1 a2 hps d hd
    refine ⟨_, tg_name, fun L σ' H' hL nL tL Q' q => ?_⟩
    refine at_callT hL tL nL (a_2 (d_var hL.env (i := 3) (x := .d (enc t)) rfl) (d_var hL.env (i := 6) (x := .d d) rfl)) ⟨t, d, rfl, a1.p, a1.f, a1.s, nd, rfl⟩ (fun v H2 w e2 t2 ew iw => ?_)
    subst ew
    cases iw
    exact ⟨true, rfl, q H2 e2 t2⟩
  refine q_none (T := T) (js := [7]) (Tw := fun ws => ∃ ds : List PyData, ws = ds.map W.d ∧ ∀ d ∈ ds, TabOk d) h7 t7 (ei_list (d_call (a_3 (d_var h7.env (i := 1) (x := .feed) rfl) (d_var h7.env (i := 3) (x := .d (enc t)) rfl) (d_var h7.env (i := 4) (x := .d (.list [.str z1, .str z2])) rfl)) ⟨t, z1, z2, rfl, a1.f, by rw [hps]; nofun, a1.ok, a2.ok, fun ds hds hl => ⟨ds, rfl, ds, rfl, hds⟩⟩)) (by decide) (fun ws ew w hw => ?_) (fun H8 e8 t8 h8 => ?_)
  · obtain ⟨ds, rfl, hds⟩ := ew
    obtain ⟨d, hd, rfl⟩ := List.mem_map.mp hw
    have td := hds d hd
    refine ⟨_, tg_name, fun L σ' H' hL nL tL Q' q => ?_⟩
    refine at_callT hL tL nL (a_2 (d_var hL.env (i := 3) (x := .d (enc t)) rfl) (d_var hL.env (i := 7) (x := .d d) rfl)) ⟨t, d, rfl, a1.p, a1.f, td.ni, td.ln, rfl⟩ (fun v H2 w e2 t2 ew iw => ?_)
    subst ew
    cases iw
    exact ⟨true, rfl, q H2 e2 t2⟩
  refine s_when h8 (C := fun x => x = false) (b_is (b_or (b_not (b_B (d_call (S := fun w => w = .d (.bool true)) (a_3 (d_var h8.env (i := 1) (x := .feed) rfl) (d_var h8.env (i := 3) (x := .d (enc t)) rfl) (d_var h8.env (i := 4) (x := .d (.list [.str z1, .str z2])) rfl)) ⟨t, z1, z2, rfl, a1, a2, rfl⟩))) fun _ => b_test (d_op (d_repr hnt (d_var h8.env (i := 3) rfl)) (d_var h8.env (i := 5) rfl) (os_neT rfl))) (by rw [decide_eq_true rfl]; rfl)) (fun e => by cases e) (fun _ H9 e9 h9 => ?_)
  have ee : Exw H' H9 := e5.w.trans (e6.w.trans (e7.trans (e8.trans e9.w)))
  exact ⟨⟨fun a m => (by cases m), vw.ex.trans (hid_mono ee)⟩, (h9.lose [2, 3, 4, 5]).anew (Exw.refl _), e9.tb T t8⟩
end
end Kl
set_option Elab.async false
set_option linter.all false
set_option maxRecDepth 100000
set_option maxHeartbeats 8000000
/-! E1: the law's call from outside, for a promise that wants no repr under way. -/
namespace Kl
open PySem PySem.Spec PyProof.Rows L2 LamX
abbrev tab0 : Obj := { cls := .none, data := .fields #[] }
abbrev scr (vs : List Value) : Obj := { cls := .type "list", data := .seq vs.toArray }
/-- what is tracked at the start: the tables, and the script if nothing else tells of it -/
def trk0 (K : Frg) (a : Addr) (vs : List Value) (ns : List Int) (ts : List Addr) : Hp := fun b => if b ∈ ts then some (.tbl #[]) else if b = a ∧ K.lookup a = none then some (.frz (scr vs) (.lst (ns.map V.int))) else none
section
variable {K : Frg} {a b : Addr} {vs : List Value} {ns : List Int} {ts : List Addr}
theorem trk0_t (h : b ∈ ts) : trk0 K a vs ns ts b = some (.tbl #[]) := if_pos h
theorem trk0_a (h : a ∉ ts) (k : K.lookup a = none) : trk0 K a vs ns ts a = some (.frz (scr vs) (.lst (ns.map V.int))) := by
  unfold trk0
  rw [if_neg h, if_pos ⟨rfl, k⟩]
theorem trk0_inv {u : HO} (h : trk0 K a vs ns ts b = some u) : (b ∈ ts ∧ u = .tbl #[]) ∨ (b = a ∧ K.lookup a = none ∧ u = .frz (scr vs) (.lst (ns.map V.int))) := by
  unfold trk0 at h
  by_cases m : b ∈ ts
  · rw [if_pos m] at h
    exact .inl ⟨m, (Option.some.inj h).symm⟩
  · rw [if_neg m] at h
    by_cases q : b = a ∧ K.lookup a = none
    · rw [if_pos q] at h
      exact .inr ⟨q.1, q.2, (Option.some.inj h).symm⟩
    · rw [if_neg q] at h
      cases h
end
section
variable {P : Program} {w : World} {K : Frg} {mg mb : Str → Option Value} {s : Shared} {a fa : Addr} {vs : List Value} {ns : List Int} {cs : List (Addr × Addr)} {k : Nat}
/-- the written part of the heap, as the end leans on it -/
structure Bottom (K : Frg) (mg mb : Str → Option Value) (s : Shared) (cs : List (Addr × Addr)) : Prop where
  kin : K.In s.heap
  g : s.heap.Ns mainGlobals mg
  b : s.heap.Ns builtinsNs mb
  bb : ∀ x : Str, x ≠ "__name__" → mb x = bootBuiltins x
  lim : s.heap.NoLimit
  gens : s.gens = #[]
  tab : ∀ p ∈ cs, s.heap.get? p.2 = some tab0
  out : ∀ p ∈ cs, K.lookup p.2 = none
  code : ∀ p ∈ cs, PySem.W.CodeHd s.heap p.1 p.2
  bm : ∃ (m : Addr) (o : Obj), mg "__builtins__" = some (.ref m) ∧ m ≠ builtinsNs ∧ s.heap.get? m = some o ∧ o.cls = .type "module" ∧ o.dict = some builtinsNs ∧ o.data = .plain
theorem end_call (B : Bottom K mg mb s cs) (ha : s.heap.get? a = some (scr vs)) (hi : IntsAre vs ns) (hl : ns.length ≤ sizeLine) (hr : Room k callerA) {sp : Sp}
    (F : ∀ base : Heap, K.In base → base.Ns mainGlobals mg → (∀ p ∈ cs, TabB base mg p.1 p.2) → ∃ fd ps, FnG P w K mg base k fa fd ps sp ∧ L2.Binds K fd ps [])
    (hsp : ∀ H : Hp, (∀ p ∈ cs, H p.2 = some (.tbl #[])) → SqL K H a (ns.map V.int) → sp [.ref a] H (fun v _ => v = .bl true) fun _ _ _ => False) :
    codeAny (model P w) callerA (.call (.ref fa) ⟨[.ref a], []⟩) (fun r s' => r = .ok (.ret (.bool true)) ∧ OldK s.heap s'.heap ∧ s'.os = s.os ∧ AllBare s'.gens) s := by
  have rv := vals_ints hi
  have lenV := hi.length
  let ts := cs.map fun p => p.2
  have hin : ∀ p ∈ cs, p.2 ∈ ts := fun p hp => List.mem_map_of_mem hp
  have atT : ∀ b ∈ ts, s.heap.get? b = some tab0 := fun b hb => by
    obtain ⟨p, hp, rfl⟩ := List.mem_map.mp hb
    exact B.tab p hp
  have aN : a ∉ ts := fun m => by
    have := atT a m
    rw [ha] at this
    cases this
  let H := trk0 K a vs ns ts
  have isObj : ∀ b u, H b = some u → (s.heap.get? b = some tab0 ∧ u = .tbl #[] ∧ b ∈ ts) ∨ (b = a ∧ K.lookup a = none ∧ u = .frz (scr vs) (.lst (ns.map V.int))) := fun b u e => by
    rcases trk0_inv e with ⟨m, eu⟩ | q
    · exact .inl ⟨atT b m, eu, m⟩
    · exact .inr q
  have free : ∀ {b : Addr} {o : Obj}, s.heap.get? b = some o → o ≠ tab0 → o ≠ scr vs → H b = none := fun {b o} e n1 n2 => by
    cases q : H b with
    | none => rfl
    | some u =>
      rcases isObj b u q with ⟨e2, _⟩ | ⟨eb, _⟩
      · rw [e] at e2; exact absurd (Option.some.inj e2) n1
      · rw [eb, ha] at e; exact absurd (Option.some.inj e).symm n2
  have hok : HOk P w H s.heap := fun b u e => by
    rcases isObj b u e with ⟨e2, eu, _⟩ | ⟨eb, _, eu⟩
    · subst eu; exact e2
    · subst eb eu
      exact ⟨ha, by rw [List.length_map]; exact hl, vs, _, rv, ha⟩
  have keepK : K.In (hidT s.heap H) := fun b o e => by
    refine hidT_get (B.kin b o e) ?_
    cases q : H b with
    | none => rfl
    | some u =>
      rcases isObj b u q with ⟨_, _, m⟩ | ⟨eb, en, _⟩
      · obtain ⟨p, hp, ep⟩ := List.mem_map.mp m
        have := B.out p hp
        rw [ep, e] at this
        cases this
      · rw [eb, en] at e; cases e
  have keepN : ∀ {b : Addr} {m : Str → Option Value}, s.heap.Ns b m → (hidT s.heap H).Ns b m := fun {b m} ⟨o, es, ep, e, d, r⟩ =>
    ⟨o, es, ep, hidT_get e (free e (fun z => by rw [z] at d; cases d) fun z => by rw [z] at d; cases d), d, r⟩
  have M : L2.Mod K mg (hidT s.heap H) := ⟨keepK, keepN B.g, ⟨mb, keepN B.b, B.bb⟩, by
    obtain ⟨mc, h1, h2⟩ := B.lim
    exact ⟨mc, keepN h1, h2⟩⟩
  have glob0 : ∀ b, s.heap.get? b = some tab0 → mainGlobals ≠ b := fun b e z => by
    obtain ⟨o, es, ep, e2, d, _⟩ := B.g
    rw [z, e] at e2
    cases e2
    cases d
  have TB : ∀ p ∈ cs, TabB (hidT s.heap H) mg p.1 p.2 := fun p hp => by
    refine ⟨?_, ?_, glob0 _ (B.tab p hp)⟩
    · obtain ⟨o, us, file, tf, flags, tg, inF, text, tt, e1, r1, r2, rest⟩ := B.code p hp
      refine ⟨o, us, file, tf, flags, tg, inF, text, tt, hidT_get e1 (free e1 (fun z => ?_) fun z => ?_), r1, r2, rest⟩
      · rw [z] at r1; cases r1
      · rw [z] at r2; cases r2
    · obtain ⟨m, o, b1, b2, b3, b4, b5, b6⟩ := B.bm
      refine ⟨m, o, b1, b2, fun q => ?_, fun q => ?_, hidT_get b3 (free b3 (fun z => ?_) fun z => ?_), b4, b5, b6⟩
      · obtain ⟨o2, es, ep, e, d, _⟩ := B.g
        rw [q, e] at b3
        cases b3
        rw [d] at b6
        cases b6
      · rw [q, B.tab p hp] at b3
        cases b3
        cases b6
      · rw [z] at b6; cases b6
      · rw [z] at b6; cases b6
  have hS : SqL K H a (ns.map V.int) := by
    cases q : K.lookup a with
    | none => exact .inl (.inr ⟨_, trk0_a aN q⟩)
    | some o =>
      have e := B.kin a o q
      rw [ha] at e
      cases e
      exact .inr ⟨_, vs.toArray, _, q, rfl, rfl, rfl, by rw [List.size_toArray, lenV]; exact hl, by simpa using rv⟩
  have e0 : Env0 P w K mg (hidT s.heap H) callerA [] s H := { frames := rfl, mod := M, bs := fun b o e => of_hidT e, bsz := Nat.le_of_eq (hidT_size _ _), funs := trivial, frf := fun b hb => (by cases hb), hok := hok, bare := .of_eq B.gens }
  obtain ⟨fd, ps, Fn, hb⟩ := F _ keepK (keepN B.g) TB
  have hq := hsp H (fun p hp => trk0_t (hin p hp)) hS
  have hlen : ps.length = 1 := (Fn.len _ _ _ _ hq).symm
  have bt := hb s [.ref a] B.kin (by rw [List.append_nil]; exact hlen.symm)
  rw [List.append_nil] at bt
  refine codeAny_mono (Fn.run callerA [] s H ⟨[.ref a], []⟩ [.ref a] [.ref a] _ _ hr rfl e0 bt (.cons rfl .nil) hq) fun r s' h => ?_
  cases r with
  | error e => exact False.elim (show False from h)
  | ok fl =>
    cases fl with
    | next => exact False.elim (show False from h)
    | brk => exact False.elim (show False from h)
    | cont => exact False.elim (show False from h)
    | ret u =>
      obtain ⟨v, H', os, bare, un, hok', rr, q⟩ := h
      have q : v = .bl true := q
      subst q
      have eu : u = Value.bool true := rr
      subst eu
      have same : ∀ b o, b ∉ ts → s.heap.get? b = some o → s'.heap.get? b = some o := fun b o nb e => by
        cases q : H b with
        | none => exact un.keep b o e q (by intro z; cases z) (by intro z; cases z)
        | some u =>
          rcases isObj b u q with ⟨_, _, m⟩ | ⟨_, _, eu⟩
          · exact absurd m nb
          · subst eu
            have e1 := (hok b _ q).1
            have e2 := (hok' b _ (un.frzs b _ _ q)).1
            rw [e] at e1
            cases e1
            exact e2
      have more : ∀ p ∈ cs, ∃ us : Array Value, s'.heap.get? p.2 = some { cls := .none, data := .fields us } := fun p hp => by
        obtain ⟨us, z⟩ := un.tbls p.2 #[] (trk0_t (hin p hp))
        exact ⟨_, hok' p.2 _ z⟩
      refine ⟨rfl, ⟨fun b o e => ?_, fun b o e => ?_⟩, os, bare⟩
      · by_cases m : b ∈ ts
        · obtain ⟨p, hp, ep⟩ := List.mem_map.mp m
          obtain ⟨us, hu⟩ := more p hp
          subst ep
          have e1 := B.tab p hp
          rw [e1] at e
          cases e
          exact .inr (.inl ⟨((B.code p hp).tab e1).isCodeTable, rfl, #[], us, rfl, by rw [Array.empty_append]; exact hu⟩)
        · exact .inl (same b o m e)
      · by_cases m : b ∈ ts
        · obtain ⟨p, hp, ep⟩ := List.mem_map.mp m
          obtain ⟨us, hu⟩ := more p hp
          subst ep
          exact ⟨_, hu⟩
        · exact ⟨o, same b o m e⟩
end
end Kl
set_option Elab.async false
set_option linter.all false
set_option maxRecDepth 100000
set_option maxHeartbeats 8000000
/-! E2: what the top leaves behind, read off by a Hook. -/
namespace Kl
open PySem PySem.Spec PyProof.Rows L2 NdefX
abbrev s_init : Stmt := inClass (topS 29) 0
def aNU (K : Frg) : Addr := He.ga K "NotUsable"
def aIn (K : Frg) : Addr := He.ma K (aNU K) "__init__"
abbrev nfI (cc d : Addr) : NF := ⟨"__init__", "NotUsable.__init__", defArgs s_init, defBody s_init, defScope s_init, [("__class__", cc)], d⟩
/-! ### the class -/
def oexB (K : Frg) (C : Addr) : Bool := match K.lookup C with
  | some ⟨.type t, _, .cls cd, sl⟩ => (match cd.mro, sl.toList with
    | .ref D :: bm, [_, _, _, _, some (.builtin n), _] => decide (t = "type") && (decide (D = C) && (decide (n = "ValueError.__new__") && (!cd.hasDel && (cd.hasDict && PySem.HandSPX.refsVE bm))))
    | _, _ => false)
  | _ => false
theorem oexB_ok {K : Frg} {C : Addr} (h : oexB K C = true) : ∃ nm q N bs bm sn sub ab col dd k0 k1 k2 k3 k5, K.lookup C = some (excClassObj nm q C N bs bm true sn sub ab col dd k0 k1 k2 k3 k5 "ValueError.__new__") ∧ PySem.HandSPX.refsVE bm = true := by
  unfold oexB at h
  split at h
  · rename_i t dd cd sl ho
    split at h
    · rename_i D bm k0 k1 k2 k3 n k5 hm hs
      obtain ⟨h1, h⟩ := He.ba h
      obtain ⟨h2, h⟩ := He.ba h
      obtain ⟨h3, h⟩ := He.ba h
      obtain ⟨h4, h⟩ := He.ba h
      obtain ⟨h5, h6⟩ := He.ba h
      have e1 := of_decide_eq_true h1
      have e2 := of_decide_eq_true h2
      have e3 := of_decide_eq_true h3
      subst e1 e2 e3
      obtain ⟨nm, bs, mro, ns, qn, hd, sn, sub, ab, col, del⟩ := cd
      have e4 : del = false := by
        have : (!del) = true := h4
        cases del with
        | false => rfl
        | true => cases this
      have e5 : hd = true := h5
      have e6 : mro = .ref D :: bm := hm
      subst e4 e5 e6
      have hsl : sl = #[k0, k1, k2, k3, some (.builtin "ValueError.__new__"), k5] := by
        obtain ⟨l⟩ := sl
        have hs : l = _ := hs
        rw [hs]
      subst hsl
      exact ⟨nm, qn, ns, bs, bm, sn, sub, ab, col, dd, k0, k1, k2, k3, k5, ho, h6⟩
    · cases h
  · cases h
/-! ### its __init__ -/
abbrev IV : Type := Option (Str × Str × Arguments × FuncBody × Scope × Addr × Addr)
def initO (K : Frg) : IV := match K.lookup (aIn K) with
  | some ⟨_, _, .func fd, _⟩ => some (fd.name, fd.qualname, fd.params, fd.body, fd.scope, fd.globals, fd.builtins)
  | _ => none
def initVal : IV := some ("__init__", "NotUsable.__init__", defArgs s_init, .stmts (defBody s_init), defScope s_init, mainGlobals, builtinsNs)
def cellB (K : Frg) (c : Addr) : Bool := match K.lookup c with
  | some ⟨_, _, .cell (some (.ref D)), _⟩ => decide (D = aNU K)
  | _ => false
theorem cellB_ok {K : Frg} {c : Addr} (h : cellB K c = true) : ∃ oc : Obj, K.lookup c = some oc ∧ oc.data = .cell (some (.ref (aNU K))) := by
  unfold cellB at h
  split at h
  · rename_i oc od D sl ho
    have e := of_decide_eq_true h
    subst e
    exact ⟨_, ho, rfl⟩
  · cases h
def fileB (P : Program) (K : Frg) (d : Addr) : Bool := match K.lookup d with
  | some ⟨_, _, .fields vs, _⟩ => (match (vs[2]? : Option Value) with
    | some (.str file _) => P.main.file == file
    | _ => false)
  | _ => false
theorem fileB_ok {P : Program} {K : Frg} {d : Addr} (h : fileB P K d = true) : ∃ (oc : Obj) (vs : Array Value) (file : Str) (tf : Tok), K.lookup d = some oc ∧ oc.data = .fields vs ∧ vs[2]? = some (.str file tf) ∧ (P.main.file == file) = true := by
  unfold fileB at h
  split at h
  · rename_i c od vs sl ho
    split at h
    · rename_i file tf hv
      exact ⟨_, vs, file, tf, ho, rfl, hv, h⟩
    · cases h
  · cases h
def isNV : Value → Bool
  | .none => true
  | _ => false
theorem isNV_ok {v : Value} (h : isNV v = true) : v = .none := by cases v <;> first | rfl | cases h
def clsB (K : Frg) : List (Str × Addr) → Bool
  | [(x, c)] => decide (x = "__class__") && cellB K c
  | _ => false
def codB (P : Program) (K : Frg) : Value → Bool
  | .ref d => PySem.W.codeIn K (.ref d) "NotUsable.__init__" && fileB P K d
  | _ => false
def initB (P : Program) (K : Frg) : Bool := match K.lookup (aIn K) with
  | some ⟨_, _, .func fd, _⟩ => clsB K fd.closure && (codB P K fd.code && (isNV fd.defaults && (isNV fd.kwdefaults && fd.annotations.isNone)))
  | _ => false
theorem init_of {P : Program} {K : Frg} (e : initO K = initVal) (b : initB P K = true) : ∃ (cc d : Addr) (doc pm ctv oc : Value) (od : Option Addr) (osl : Array (Option Value)), K.lookup (aIn K) = some ⟨oc, od, .func ((nfI cc d).fd doc pm ctv), osl⟩ ∧ PySem.W.codeIn K (.ref d) "NotUsable.__init__" = true ∧ fileB P K d = true ∧ cellB K cc = true := by
  unfold initO at e
  unfold initB at b
  cases q : K.lookup (aIn K) with
  | none =>
    rw [q] at b
    cases b
  | some o =>
    obtain ⟨oc, od, dt, osl⟩ := o
    rw [q] at b e
    cases dt with
    | func fd =>
      obtain ⟨n1, n2, n3, n4, n5, n6, n7, n8, n9, n10, n11, n12, n13, n14, n15⟩ := fd
      have e2 : (some (n1, n2, n3, n4, n5, n6, n15) : IV) = initVal := e
      unfold initVal at e2
      simp only [Option.some.injEq, Prod.mk.injEq] at e2
      obtain ⟨h1, h2, h3, h4, h5, h6, h7⟩ := e2
      obtain ⟨b1, b⟩ := He.ba b
      obtain ⟨b2, b⟩ := He.ba b
      obtain ⟨b3, b⟩ := He.ba b
      obtain ⟨b4, b5⟩ := He.ba b
      have c3 : n8 = .none := isNV_ok b3
      have c4 : n9 = .none := isNV_ok b4
      have c5 : n12 = none := Option.isNone_iff_eq_none.mp b5
      have b1 : clsB K n7 = true := b1
      have b2 : codB P K n13 = true := b2
      subst h1 h2 h3 h4 h5 h6 h7 c3 c4 c5
      cases n7 with
      | nil => cases b1
      | cons z r =>
        cases r with
        | cons _ _ => cases b1
        | nil =>
          obtain ⟨x, cc⟩ := z
          obtain ⟨x1, x2⟩ := He.ba (show (decide (x = "__class__") && cellB K cc) = true from b1)
          have ex := of_decide_eq_true x1
          subst ex
          cases n13 with
          | ref d =>
            obtain ⟨y1, y2⟩ := He.ba (show (PySem.W.codeIn K (.ref d) "NotUsable.__init__" && fileB P K d) = true from b2)
            exact ⟨cc, d, n10, n11, n14, oc, od, osl, rfl, y1, y2, x2⟩
          | _ => cases b2
    | _ => cases b
end Kl
set_option Elab.async false
set_option linter.all false
set_option maxRecDepth 100000
set_option maxHeartbeats 0
/-! E3: the top's run, and what it leaves. -/
namespace Kl
open PySem PySem.Spec PyProof.Rows L2 NdefX
def fnl0 : List (Str × Nat) := [("is_integer", 4), ("is_number", 5), ("is_count", 6), ("is_name", 7), ("is_tuple_of", 8), ("is_names", 9), ("is_counted", 10), ("is_stock", 11), ("are_options", 12), ("is_packing", 13), ("first_names", 14), ("is_behind", 15), ("forms_fault", 16), ("names_fault", 17)]
def fnl1 : List (Str × Nat) := [("fits_sheet", 18), ("sheets_fault", 19), ("names_inside", 20), ("shop_fault", 21), ("is_shop", 22), ("all_names", 32), ("placed", 34), ("want_new", 35), ("judged", 36), ("with_part", 37), ("with_choice", 38), ("with_pack", 39), ("without", 40), ("is_table", 41)]
def fnl2 : List (Str × Nat) := [("called_anew", 42), ("renamed", 43), ("_law_feed", 45), ("_law_draw", 46), ("_law_any", 47), ("_law_names", 48), ("_law_number", 49), ("_law_some", 50), ("_law_bill", 51), ("_law_store", 52), ("_law_is_name", 53), ("_law_all_tags", 54), ("_law_no_names", 55), ("_law_refusal", 56)]
def fnl3 : List (Str × Nat) := [("_law_said", 57), ("_law_strange", 58), ("_law_spoilt", 59), ("_law_without", 60), ("_law_is_table", 61), ("_law_renamed", 62), ("_law_table_of", 63), ("_law_is_out_right", 64), ("_law_is_table_right", 65), ("_law_tables", 66), ("_law_are_back_right", 67), ("law", 68)]
def fnl : List (Str × Nat) := fnl0 ++ (fnl1 ++ (fnl2 ++ (fnl3)))
def nm0 : List Str := ["LETTERS", "LONGEST_NAME", "LEAST_OPTIONS", "is_integer", "is_number", "is_count", "is_name", "is_tuple_of", "is_names", "is_counted", "is_stock", "are_options", "is_packing", "first_names", "is_behind", "forms_fault"]
def nm1 : List Str := ["names_fault", "fits_sheet", "sheets_fault", "names_inside", "shop_fault", "is_shop", "all_names", "placed", "want_new", "judged", "with_part", "with_choice", "with_pack", "without", "is_table", "called_anew"]
def nm2 : List Str := ["renamed", "_law_feed", "_law_draw", "_law_any", "_law_names", "_law_number", "_law_some", "_law_bill", "_law_store", "_law_is_name", "_law_all_tags", "_law_no_names", "_law_refusal", "_law_said", "_law_strange", "_law_spoilt"]
def nm3 : List Str := ["_law_without", "_law_is_table", "_law_renamed", "_law_table_of", "_law_is_out_right", "_law_is_table_right", "_law_tables", "_law_are_back_right", "want", "KitError", "PaperError", "ShopError", "LiveError", "TextError", "NotUsable"]
def nms : List Str := nm0 ++ (nm1 ++ (nm2 ++ (nm3)))
def clsl : List Str := ["KitError", "PaperError", "ShopError", "LiveError", "TextError", "NotUsable"]
def frl : List Str := ["isinstance", "len", "all", "tuple", "sorted", "zip", "enumerate", "int", "list", "dict", "set", "range", "min", "repr", "str", "bool", "ValueError", "super"]
def dD (p : Str × Nat) : He.DefD := ⟨(p.1, none), p.1, p.1, defArgs (topS p.2), defBody (topS p.2), defScope (topS p.2), [], []⟩
def dW : He.DefD := ⟨("want", none), "want", "want", defArgs s_want, defBody s_want, defScope s_want, [.int (-1)], []⟩
def fns : List He.DefD := dW :: fnl.map dD
def fas : List He.Fa := .glo "want" :: .str "LETTERS" "abcdefghijklmnopqrstuvwxyz" :: .int "LONGEST_NAME" 8 :: .int "LEAST_OPTIONS" 2 :: (fnl.map (fun p => .glo p.1) ++ (clsl.map .glo ++ frl.map .free))
def tfs : List He.Defn := [("_law_is_out_right", none), ("_law_is_table_right", none)]
abbrev Lr : PySem.W.OpenLaw := PySem.Challenge.rw_kitsleft_k08_whole_without_and_renamed
abbrev Rr : PySem.W.OpenRow := PySem.W.OpenLaw.row Lr
def alongB (K : Frg) : Bool := match PySem.W.clsIn K (aNU K) with
  | some cd => He.eqO (PySem.W.alongIn K "__init__" ((cd.mro.dropWhile (· != .ref (aNU K))).drop 1)) (some (some (.builtin "ValueError.__init__")))
  | none => false
def obB (a b : Option Bool) : Bool := decide (a = b)
def kitB (K : Frg) (y : Str) : Option Bool := PySem.W.kitOne K (.ref (aNU K)) (.ref (He.ga K y))
/-- what else is asked of K -/
def exL (P : Program) (K : Frg) : List Bool :=
  [oexB K (aNU K), He.eqO (PySem.W.findIn K (.ref (aNU K)) "__setattr__") (some (some (.builtin "object.__setattr__"))), obB (PySem.W.subIn K (.ref (aNU K)) (.type "BaseException")) (some true),
   decide (PySem.W.typeIn K (.ref (aNU K)) = some (.type "type")), PySem.W.keepIn K (.ref (aNU K)), He.eqO (PySem.W.findIn K (.ref (aNU K)) "__init__") (some (some (.ref (aIn K)))),
   decide (PySem.W.typeIn K (.ref (aIn K)) = some (.type "function")), alongB K, obB (PySem.W.mroIn K (aNU K) (.ref (aNU K))) (some true), obB (PySem.W.subIn K (.ref (aNU K)) (.type "ValueError")) (some true),
   He.eqO (PySem.W.nsIn K cStatics "thirdparty.any") (some none), He.eqO (PySem.W.findIn K (.ref (aNU K)) "__getattribute__") (some (some (.builtin "BaseException.__getattribute__"))), He.eqO (PySem.W.findIn K (.ref (aNU K)) "__getattr__") (some none),
   He.eqO (PySem.W.findIn K (.ref (aNU K)) "__class__") (some (some (.builtin "object.__class__"))), He.eqO (PySem.W.specialIn K (.builtin "object.__class__") "__get__") (some (some (.builtin "getset_descriptor.__get__"))), obB (PySem.W.takesIn K (.builtin "object.__class__")) (some true),
   obB (PySem.W.mroIn K (aNU K) (.type "object")) (some true), PySem.W.hasDictIn K (aNU K), He.eqO (PySem.W.findIn K (.ref (aNU K)) "word") (some none), He.eqO (PySem.W.findIn K (.ref (aNU K)) "at") (some none),
   obB (kitB K "PaperError") (some false), obB (kitB K "ShopError") (some true), obB (kitB K "LiveError") (some false), obB (kitB K "TextError") (some false), obB (kitB K "NotUsable") (some true), obB (PySem.W.kitOne K (.ref (aNU K)) (.type "ValueError")) (some true),
   obB (PySem.W.exmOne K (.ref (aNU K)) (.ref (He.ga K "KitError"))) (some true), initB P K, !((He.cT K ("_law_is_out_right", none)).2 == (He.cT K ("_law_is_table_right", none)).2)]
theorem exl_ok {P : Program} {K : Frg} (h : (exL P K).all id = true) (i : Nat) {b : Bool} (e : (exL P K)[i]? = some b := by rfl) : b = true := List.all_eq_true.mp h b (List.mem_of_getElem? e)
def frK (g : Addr → Option Obj) : Frg := He.frT g (He.asD g 4 ++ [cStatics])
structure SaysK (h : Heap) (K : Frg) : Prop where
  d : He.SaysD fas fns K
  i : initO K = initVal
  x : (exL Lr.prog K).all id = true
  hd : ∀ p ∈ tfs, PySem.W.codeHdIn K (He.cT K p).1 (He.cT K p).2 = true
  out : ∀ p ∈ tfs, K.lookup (He.cT K p).2 = none
  tab : ∀ p ∈ tfs, h.get? (He.cT K p).2 = some tab0
abbrev AlK : Type := He.AlD × (IV × Bool)
def obsK (g : Addr → Option Obj) (K : Frg) : AlK := (He.obsD fas fns K, initO K, (exL Lr.prog K).all id && He.tabsB g tfs K)
def valK : AlK := (He.valD fns, initVal, true)
theorem saysK_of {h : Heap} (e : obsK h.get? (frK h.get?) = valK) : SaysK h (frK h.get?) := by
  have e1 := congrArg (fun z : AlK => z.1) e
  have e2 := congrArg (fun z : AlK => z.2.1) e
  obtain ⟨x1, x2⟩ := He.ba (show ((exL Lr.prog (frK h.get?)).all id && He.tabsB h.get? tfs (frK h.get?)) = true from congrArg (fun z : AlK => z.2.2) e)
  have key : ∀ p ∈ tfs, PySem.W.codeHdIn (frK h.get?) (He.cT (frK h.get?) p).1 (He.cT (frK h.get?) p).2 = true ∧ ∃ o, h.get? (He.cT (frK h.get?) p).2 = some o ∧ He.emptyTab o = true := fun p hp => by
    obtain ⟨y1, y2⟩ := He.ba (List.all_eq_true.mp x2 p hp)
    cases q : h.get? (He.cT (frK h.get?) p).2 with
    | none => rw [q] at y2; cases y2
    | some o => rw [q] at y2; exact ⟨y1, o, rfl, y2⟩
  refine ⟨e1, e2, x1, fun p hp => (key p hp).1, fun p hp => ?_, fun p hp => ?_⟩
  · obtain ⟨_, o, q, z⟩ := key p hp
    exact He.frT_none q z
  · obtain ⟨_, o, q, z⟩ := key p hp
    rw [q, He.emptyTab_eq z]
def hookK : PySem.W.Hook where
  α := AlK
  obs := fun s => obsK s.heap.get? (frK s.heap.get?)
  val := fun _ => valK
  says := fun _ h => ∃ K : Frg, K.In h ∧ SaysK h K
  of := fun _ _ e => ⟨_, He.frT_in, saysK_of e⟩
  keeps := fun _ _ _ ⟨K, hK, c⟩ k => ⟨K, PySem.W.Frag.In.keeps hK k, { c with tab := fun p hp => k _ _ (c.tab p hp) }⟩
def obT (s : PySem.W.SharedT) : AlK := obsK (HandSHeadRun.getT s) (frK (HandSHeadRun.getT s))
theorem obT_eq (s : PySem.W.SharedT) : obT s = hookK.obs s.abs := by
  have e : HandSHeadRun.getT s = s.abs.heap.get? := funext (HandSHeadRun.getT_eq s)
  show obsK (HandSHeadRun.getT s) (frK (HandSHeadRun.getT s)) = obsK s.abs.heap.get? (frK s.abs.heap.get?)
  rw [e]
abbrev qV : Program := PySem.W.view Rr.prog [68]
theorem runK (w : World) : HandSHeadRun.RunEq Rr qV hookK obT 3000 nms w := by
  intro os
  kernel_rfl
end Kl
set_option Elab.async false
set_option linter.all false
set_option maxRecDepth 100000
set_option maxHeartbeats 8000000
/-! E4: the facts put to use: every def, the exception, the law. -/
namespace Kl
open PySem PySem.Spec PyProof.Rows L2 NdefX LamX
section
variable {K : Frg} {h : Heap} {mg : Str → Option Value}
theorem fa_def {p : Str × Nat} (hp : p ∈ fnl) : He.Fa.glo p.1 ∈ fas := List.mem_cons_of_mem _ (List.mem_cons_of_mem _ (List.mem_cons_of_mem _ (List.mem_cons_of_mem _ (List.mem_append_left _ (List.mem_map.mpr ⟨p, hp, rfl⟩)))))
theorem fa_cls {x : Str} (hx : x ∈ clsl) : He.Fa.glo x ∈ fas := List.mem_cons_of_mem _ (List.mem_cons_of_mem _ (List.mem_cons_of_mem _ (List.mem_cons_of_mem _ (List.mem_append_right _ (List.mem_append_left _ (List.mem_map_of_mem hx))))))
theorem fa_fr {x : Str} (hx : x ∈ frl) : He.Fa.free x ∈ fas := List.mem_cons_of_mem _ (List.mem_cons_of_mem _ (List.mem_cons_of_mem _ (List.mem_cons_of_mem _ (List.mem_append_right _ (List.mem_append_right _ (List.mem_map_of_mem hx))))))
theorem def_of (c : He.SaysD fas fns K) (X : K.In h) (G : h.Ns mainGlobals mg) {x : Str} {i : Nat} (n : Nat) (hn : fnl[n]? = some (x, i)) : Def K mg x (topS i) := by
  obtain ⟨fd, F⟩ := c.def_ (n + 1) (d := dD (x, i)) (by
    show (dW :: fnl.map dD)[n + 1]? = _
    rw [List.getElem?_cons_succ, List.getElem?_map, hn]
    rfl)
  have g : mg x = some (.ref (He.ga K x)) := He.glo_ok X G (c.facts (fa_def (List.mem_of_getElem? hn)))
  have kp := F.kp
  obtain ⟨oc, od, dV, kV, doc, pm, an, cdv, ct, osl, e, lk, hcd, hD, _⟩ := F.ex
  rcases hD with ⟨_, eV⟩ | ⟨ne, _⟩
  · subst eV
    exact ⟨_, fd, ⟨⟨oc, od, kV, doc, pm, an, cdv, ct, osl, e, lk, hcd⟩, kp⟩, g⟩
  · exact absurd rfl ne
theorem defW_of (c : He.SaysD fas fns K) (X : K.In h) (G : h.Ns mainGlobals mg) : DefW K mg := by
  obtain ⟨fd, F⟩ := c.def_ 0 (d := dW) rfl
  exact ⟨_, fd, F, He.glo_ok X G (c.facts (f := .glo "want") List.mem_cons_self)⟩
theorem cls_of (c : He.SaysD fas fns K) (X : K.In h) (G : h.Ns mainGlobals mg) {x : Str} (hx : x ∈ clsl) : mg x = some (.ref (He.ga K x)) := He.glo_ok X G (c.facts (fa_cls hx))
theorem gm_of (c : He.SaysD fas fns K) (X : K.In h) (G : h.Ns mainGlobals mg) : Gm mg := by
  have fr : ∀ x ∈ frl, mg x = none := fun x hx => He.free_ok X G (c.facts (fa_fr hx))
  obtain ⟨t1, e1⟩ := He.str_ok X G (c.facts (f := .str "LETTERS" "abcdefghijklmnopqrstuvwxyz") (by simp [fas]))
  obtain ⟨t2, e2⟩ := He.int_ok X G (c.facts (f := .int "LONGEST_NAME" 8) (by simp [fas]))
  obtain ⟨t3, e3⟩ := He.int_ok X G (c.facts (f := .int "LEAST_OPTIONS" 2) (by simp [fas]))
  exact ⟨fr _ (by decide +kernel), fr _ (by decide +kernel), fr _ (by decide +kernel), fr _ (by decide +kernel), fr _ (by decide +kernel), fr _ (by decide +kernel), fr _ (by decide +kernel), fr _ (by decide +kernel), fr _ (by decide +kernel), fr _ (by decide +kernel), fr _ (by decide +kernel), fr _ (by decide +kernel), fr _ (by decide +kernel), fr _ (by decide +kernel), fr _ (by decide +kernel), fr _ (by decide +kernel), fr _ (by decide +kernel),
    ⟨_, e1, t1, rfl⟩, ⟨_, e2, t2, rfl⟩, ⟨_, e3, t3, rfl⟩⟩
theorem obB_ok {a b : Option Bool} (h : obB a b = true) : a = b := of_decide_eq_true h
theorem refC_of (S : SaysK h K) : RefC K (aNU K) where
  cl := by
    have := exl_ok S.x 7
    unfold alongB at this
    cases q : PySem.W.clsIn K (aNU K) with
    | none => rw [q] at this; cases this
    | some cd => rfl
  ga := He.eqO_ok (exl_ok S.x 11)
  gg := He.eqO_ok (exl_ok S.x 12)
  sub := obB_ok (exl_ok S.x 2)
  ha := He.eqO_ok (exl_ok S.x 13)
  hn := He.eqO_ok (exl_ok S.x 14)
  ht := obB_ok (exl_ok S.x 15)
  hm := obB_ok (exl_ok S.x 16)
  hd := exl_ok S.x 17
  wd := He.eqO_ok (exl_ok S.x 18)
  at_ := He.eqO_ok (exl_ok S.x 19)
theorem oexC_of (S : SaysK h K) : OexC K (aNU K) := ⟨oexB_ok (exl_ok S.x 0), He.eqO_ok (exl_ok S.x 1), obB_ok (exl_ok S.x 2), of_decide_eq_true (exl_ok S.x 3), exl_ok S.x 4⟩
theorem fams_of (S : SaysK h K) (X : K.In h) (G : h.Ns mainGlobals mg) : Fams K mg (aNU K) :=
  ⟨⟨_, cls_of S.d X G (by decide +kernel), obB_ok (exl_ok S.x 20)⟩, ⟨_, cls_of S.d X G (by decide +kernel), obB_ok (exl_ok S.x 21)⟩, ⟨_, cls_of S.d X G (by decide +kernel), obB_ok (exl_ok S.x 22)⟩, ⟨_, cls_of S.d X G (by decide +kernel), obB_ok (exl_ok S.x 23)⟩, ⟨cls_of S.d X G (by decide +kernel), obB_ok (exl_ok S.x 24)⟩, obB_ok (exl_ok S.x 25)⟩
theorem kite_of (S : SaysK h K) (X : K.In h) (G : h.Ns mainGlobals mg) : Kite K mg (aNU K) := ⟨_, cls_of S.d X G (by decide +kernel), obB_ok (exl_ok S.x 26)⟩
end
section
variable {w : World} {K : Frg} {h base : Heap} {mg : Str → Option Value}
theorem exn_of (S : SaysK h K) (X : K.In h) (G : h.Ns mainGlobals mg) : Exn Lr.prog w K mg base (aNU K) := by
  obtain ⟨cc, d, doc, pm, ctv, oc, od, osl, lk, hc, hf, hcell⟩ := init_of S.i (exl_ok S.x 27)
  have O := oexC_of S
  have hal := exl_ok S.x 7
  have SK : SupK Lr.prog K mg (aNU K) (aIn K) cc d (nfI cc d) doc pm ctv := {
    fo := ⟨oc, od, osl, lk⟩
    qual := hc
    cl := rfl
    c := rfl
    code := fileB_ok hf
    cell := cellB_ok hcell
    cls := by
      unfold alongB at hal
      cases q : PySem.W.clsIn K (aNU K) with
      | none => rw [q] at hal; cases hal
      | some cd =>
        rw [q] at hal
        exact ⟨cd, rfl, He.eqO_ok hal⟩
    oex := O
    sub := obB_ok (exl_ok S.x 8)
    subV := obB_ok (exl_ok S.x 9)
    opq := He.eqO_ok (exl_ok S.x 10)
    sup := He.free_ok X G (S.d.facts (fa_fr (x := "super") (by decide +kernel)))
    top := by kernel_rfl
    ar := ⟨_, rfl, rfl⟩
    sc := nscope_by (by kernel_rfl)
    ks := by kernel_rfl }
  refine ⟨O, ⟨aIn K, (nfI cc d).fd doc pm ctv, He.eqO_ok (exl_ok S.x 5), of_decide_eq_true (exl_ok S.x 6), init_ok (CX := CX0) (k := 0) SK rfl (fun _ => rfl) (fun _ => rfl) (fun _ => rfl) (fun A outer s H vs ws Q E hr hsp => ?_), .all fun us hl => match us, hl with | [_, _, _], _ => rfl⟩, cls_of S.d X G (by decide +kernel)⟩
  obtain ⟨a, x, y, rfl, ha, k⟩ := hsp
  refine ⟨_, pss_cons (ps_ost (pv 0) (pv 1)) (pss_one (ps_ost (pv 0) (pv 2))), ?_⟩
  refine ⟨x, rfl, .ref a, rfl, a, aNU K, rfl, O, He.eqO_ok (exl_ok S.x 18), .inl ⟨ha, fun dx hdx ne => ?_⟩⟩
  refine ⟨y, rfl, .ref a, rfl, a, aNU K, rfl, O, He.eqO_ok (exl_ok S.x 19), .inr ⟨dx, [("word", x)], upd_same, ?_, by show 1 ≤ 900; decide, k dx hdx ne⟩⟩
  rw [upd_ne ne, upd_same]
/-! ### the two defs that make lambdas -/
abbrev tT (K : Frg) : List (Addr × Str) := tb2 (He.cT K ("_law_is_out_right", none)).2 (He.cT K ("_law_is_table_right", none)).2 (qn "_law_is_out_right") (qn "_law_is_table_right")
theorem tfs_mem (K : Frg) (i : Nat) {p : He.Defn} (hp : tfs[i]? = some p) : He.cT K p ∈ tfs.map (He.cT K) := List.mem_map_of_mem (List.mem_of_getElem? hp)
theorem tT_mem (K : Frg) (i : Nat) {r : Addr × Str} (hr : (tT K)[i]? = some r) : r ∈ tT K := List.mem_of_getElem? hr
theorem tT_ne (S : SaysK h K) : (He.cT K ("_law_is_out_right", none)).2 ≠ (He.cT K ("_law_is_table_right", none)).2 := fun e => by
  have := exl_ok S.x 28
  rw [e, beq_self_eq_true] at this
  cases this
theorem tT_one (S : SaysK h K) (i : Nat) {r : Addr × Str} (hr : (tT K)[i]? = some r) : ∀ q ∈ tT K, q.1 = r.1 → q.2 = r.2 := fun q hq e => by
  have ne := tT_ne S
  have hr := List.mem_of_getElem? hr
  simp only [tT, tb2, List.mem_cons, List.not_mem_nil, or_false] at hr hq
  rcases hr with rfl | rfl <;> rcases hq with rfl | rfl
  · rfl
  · exact absurd e.symm ne
  · exact absurd e ne
  · rfl
theorem defL_of (c : He.SaysD fas fns K) (X : K.In h) (G : h.Ns mainGlobals mg) {x : Str} {i : Nat} (n : Nat) (hn : fnl[n]? = some (x, i)) (TB : TabB base mg (He.cT K (x, none)).1 (He.cT K (x, none)).2) : DefL K mg base x (topS i) (He.cT K (x, none)).2 := by
  obtain ⟨f, fd, Fn, hm⟩ := def_of c X G n hn
  have hf : f = He.ga K x := by
    have e := He.glo_ok X G (c.facts (fa_def (List.mem_of_getElem? hn)))
    rw [hm] at e
    cases e
    rfl
  have kp := Fn.kp
  obtain ⟨oc, od, kV, doc, pm, an, cdv, ct, osl, e, lk, hcd⟩ := Fn.ex
  obtain ⟨cd, ec⟩ := He.codeIn_ref hcd
  have hc : fd.code = .ref cd := by rw [e]; exact ec
  have lk2 : K.lookup (He.fAd K (x, none)) = some ⟨oc, od, .func fd, osl⟩ := by
    show K.lookup (He.ga K x) = _
    rw [← hf]; exact lk
  have e1 : (He.cT K (x, none)).1 = cd := He.codeOf_eq lk2 hc
  rw [e1] at TB
  exact ⟨f, fd, cd, ⟨⟨oc, od, kV, doc, pm, an, cdv, ct, osl, e, lk, hcd⟩, kp⟩, hm, hc, TB⟩
/-! ### all of it -/
theorem law_of (S : SaysK h K) (X : K.In h) (G : h.Ns mainGlobals mg) (TB : ∀ p ∈ tfs.map (He.cT K), TabB base mg p.1 p.2) : ClG Lr.prog w K mg base 13 "law" (spLaw K (tT K)) := by
  have Gg := gm_of S.d X G
  have Xn : Exn Lr.prog w K mg base (aNU K) := exn_of S X G
  have SK : SaidK K mg (aNU K) := ⟨Gg, refC_of S, fams_of S X G, kite_of S X G, def_of S.d X G 41 rfl, def_of S.d X G 42 rfl⟩
  have C_is_integer := cl_is_integer (P := Lr.prog) (w := w) (base := base) (def_of S.d X G 0 rfl) Gg
  have C_is_number := cl_is_number (P := Lr.prog) (w := w) (base := base) (def_of S.d X G 1 rfl) Gg C_is_integer
  have C_is_count := cl_is_count (P := Lr.prog) (w := w) (base := base) (def_of S.d X G 2 rfl) Gg C_is_integer
  have C_is_name := cl_is_name (P := Lr.prog) (w := w) (base := base) (def_of S.d X G 3 rfl) Gg
  have C_is_tuple_of := cl_is_tuple_of (P := Lr.prog) (w := w) (base := base) (def_of S.d X G 4 rfl) Gg
  have C_is_names := cl_is_names (P := Lr.prog) (w := w) (base := base) (def_of S.d X G 5 rfl) Gg C_is_name
  have C_is_counted := cl_is_counted (P := Lr.prog) (w := w) (base := base) (def_of S.d X G 6 rfl) Gg C_is_tuple_of C_is_name C_is_count
  have C_is_stock := cl_is_stock (P := Lr.prog) (w := w) (base := base) (def_of S.d X G 7 rfl) Gg C_is_tuple_of C_is_name C_is_number
  have C_are_options := cl_are_options (P := Lr.prog) (w := w) (base := base) (def_of S.d X G 8 rfl) Gg C_is_names
  have C_is_packing := cl_is_packing (P := Lr.prog) (w := w) (base := base) (def_of S.d X G 9 rfl) Gg C_is_tuple_of C_is_name C_is_number
  have C_first_names := cl_first_names (P := Lr.prog) (w := w) (base := base) (def_of S.d X G 10 rfl) Gg
  have C_is_behind := cl_is_behind (P := Lr.prog) (w := w) (base := base) (def_of S.d X G 11 rfl) Gg
  have C_forms_fault := cl_forms_fault (P := Lr.prog) (w := w) (base := base) (def_of S.d X G 12 rfl) Gg C_is_stock C_is_behind C_first_names C_is_tuple_of C_is_name C_are_options C_is_packing
  have C_names_fault := cl_names_fault (P := Lr.prog) (w := w) (base := base) (def_of S.d X G 13 rfl) Gg C_first_names
  have C_fits_sheet := cl_fits_sheet (P := Lr.prog) (w := w) (base := base) (def_of S.d X G 14 rfl) Gg C_is_counted C_first_names
  have C_sheets_fault := cl_sheets_fault (P := Lr.prog) (w := w) (base := base) (def_of S.d X G 15 rfl) Gg C_fits_sheet C_is_behind
  have C_names_inside := cl_names_inside (P := Lr.prog) (w := w) (base := base) (def_of S.d X G 16 rfl) Gg
  have C_shop_fault := cl_shop_fault (P := Lr.prog) (w := w) (base := base) (def_of S.d X G 17 rfl) Gg C_is_tuple_of C_forms_fault C_names_fault C_sheets_fault C_names_inside
  have C_is_shop := cl_is_shop (P := Lr.prog) (w := w) (base := base) (def_of S.d X G 18 rfl) Gg C_shop_fault
  have C_want := cl_want (P := Lr.prog) (w := w) (base := base) (defW_of S.d X G) Xn
  have C_all_names := cl_all_names (P := Lr.prog) (w := w) (base := base) (def_of S.d X G 19 rfl) Gg C_first_names
  have C_placed := cl_placed (P := Lr.prog) (w := w) (base := base) (def_of S.d X G 20 rfl) Gg
  have C_want_new := cl_want_new (P := Lr.prog) (w := w) (base := base) (def_of S.d X G 21 rfl) Gg C_want C_is_name C_all_names
  have C_judged := cl_judged (P := Lr.prog) (w := w) (base := base) (def_of S.d X G 22 rfl) Gg C_want C_is_shop
  have C_with_part := cl_with_part (P := Lr.prog) (w := w) (base := base) (def_of S.d X G 23 rfl) Gg C_want_new C_want C_is_number C_placed
  have C_with_choice := cl_with_choice (P := Lr.prog) (w := w) (base := base) (def_of S.d X G 24 rfl) Gg C_want_new C_want C_are_options C_first_names C_placed
  have C_with_pack := cl_with_pack (P := Lr.prog) (w := w) (base := base) (def_of S.d X G 25 rfl) Gg C_want_new C_want C_is_number C_placed C_judged
  have C_without := cl_without (P := Lr.prog) (w := w) (base := base) (def_of S.d X G 26 rfl) Gg C_want C_all_names C_judged
  have C_is_table := cl_is_table (P := Lr.prog) (w := w) (base := base) (def_of S.d X G 27 rfl) Gg C_is_tuple_of C_is_name C_is_names C_first_names C_all_names
  have C_called_anew := cl_called_anew (P := Lr.prog) (w := w) (base := base) (def_of S.d X G 28 rfl) Gg
  have C_renamed := cl_renamed (P := Lr.prog) (w := w) (base := base) (def_of S.d X G 29 rfl) Gg C_want C_is_table C_all_names C_called_anew
  have C_law_draw := cl_law_draw (P := Lr.prog) (w := w) (base := base) (def_of S.d X G 31 rfl) Gg
  have C_law_any := cl_law_any (P := Lr.prog) (w := w) (base := base) (def_of S.d X G 32 rfl) Gg C_law_draw
  have C_law_number := cl_law_number (P := Lr.prog) (w := w) (base := base) (def_of S.d X G 34 rfl) Gg C_law_any
  have C_law_some := cl_law_some (P := Lr.prog) (w := w) (base := base) (def_of S.d X G 35 rfl) Gg C_law_draw
  have C_law_bill := cl_law_bill (P := Lr.prog) (w := w) (base := base) (def_of S.d X G 36 rfl) Gg C_law_draw
  have C_law_names := cl_law_names (P := Lr.prog) (w := w) (base := base) (def_of S.d X G 33 rfl) Gg C_law_draw
  have C_law_all_tags := cl_law_all_tags (P := Lr.prog) (w := w) (base := base) (def_of S.d X G 39 rfl) Gg
  have C_law_is_name := cl_law_is_name (P := Lr.prog) (w := w) (base := base) (def_of S.d X G 38 rfl) Gg
  have C_law_without := cl_law_without (P := Lr.prog) (w := w) (base := base) (def_of S.d X G 45 rfl) Gg C_law_all_tags
  have C_law_is_table := cl_law_is_table (P := Lr.prog) (w := w) (base := base) (def_of S.d X G 46 rfl) Gg C_law_is_name C_law_all_tags
  have C_law_no_names := cl_law_no_names (P := Lr.prog) (w := w) (base := base) (def_of S.d X G 40 rfl) Gg
  have C_law_table_of := cl_law_table_of (P := Lr.prog) (w := w) (base := base) (def_of S.d X G 48 rfl) Gg C_law_draw C_law_all_tags
  have C_law_strange := cl_law_strange (P := Lr.prog) (w := w) (base := base) (def_of S.d X G 43 rfl) Gg C_law_any
  have C_law_store := cl_law_store (P := Lr.prog) (w := w) (base := base) (def_of S.d X G 37 rfl) Gg C_law_draw C_law_names C_law_bill C_law_number C_law_some
  have C_law_renamed := cl_law_renamed (P := Lr.prog) (w := w) (base := base) (def_of S.d X G 47 rfl) Gg C_law_is_table C_law_all_tags
  have C_law_spoilt := cl_law_spoilt (P := Lr.prog) (w := w) (base := base) (def_of S.d X G 44 rfl) Gg C_law_draw C_law_strange 4
  have C_law_tables := cl_law_tables (P := Lr.prog) (w := w) (base := base) (def_of S.d X G 51 rfl) Gg C_law_table_of C_law_all_tags C_law_spoilt
  have CK_without := ck_without (P := Lr.prog) (w := w) (base := base) (def_of S.d X G 26 rfl) Gg C_want C_all_names C_judged
  have CK_renamed := ck_renamed (P := Lr.prog) (w := w) (base := base) (def_of S.d X G 29 rfl) Gg C_want C_is_table C_all_names C_called_anew
  have C_law_is_out_right := cl_law_is_out_right (P := Lr.prog) (w := w) (base := base) (defL_of S.d X G 49 rfl (TB _ (tfs_mem K 0 rfl))) SK (tT_mem K 0 rfl) (tT_one S 0 rfl) C_law_without C_without CK_without
  have C_law_is_table_right := cl_law_is_table_right (P := Lr.prog) (w := w) (base := base) (defL_of S.d X G 50 rfl (TB _ (tfs_mem K 1 rfl))) SK (tT_mem K 1 rfl) (tT_one S 1 rfl) C_law_renamed C_renamed CK_renamed
  have C_law_are_back_right := cl_law_are_back_right (P := Lr.prog) (w := w) (base := base) (def_of S.d X G 52 rfl) Gg C_law_number C_law_bill C_law_all_tags C_law_some C_with_part C_with_choice C_with_pack C_without
  have C_law_feed := cl_law_feedK (P := Lr.prog) (w := w) (base := base) (def_of S.d X G 30 rfl) Gg
  exact cl_law (def_of S.d X G 53 rfl) Gg C_law_feed C_law_store C_law_all_tags C_law_no_names C_law_tables C_law_is_out_right C_law_is_table_right C_law_are_back_right
end
end Kl
set_option Elab.async false
set_option linter.all false
set_option maxRecDepth 100000
set_option maxHeartbeats 8000000
/-! E5: the statement. -/
namespace Kl
open PySem PySem.Spec PyProof.Rows L2 NdefX LamX
theorem walkK : PySem.W.WalkO qV nms (PySem.W.XL qV []) hookK.says Lr.row.toRowW (HandSHeadRun.topDef Lr.prog 68) [] (fun f vs => PySem.call f vs) := by
  refine Att.attach_callB (l := Lr) (n := 63) rfl (by kernel_rfl) fun w s₀ s₁ mg mb fa o pm cd doc a vs ns G Y ho hd hcd hmg hobj hints hlen hbits hg => ?_
  obtain ⟨K, KX, S⟩ := Y
  have hm : mg ("law" : Str) = some (.ref fa) := by
    have e : (HandSHeadRun.topDef Lr.prog 68).name = ("law" : Str) := by kernel_rfl
    rw [← e]
    exact hmg
  have B : Bottom K mg mb s₁ (tfs.map (He.cT K)) := {
    kin := KX
    g := G.T.g
    b := G.T.b
    bb := G.T.builtins
    lim := G.T.nolimit
    gens := hg
    tab := fun p hp => by
      obtain ⟨q, hq, rfl⟩ := List.mem_map.mp hp
      exact S.tab q hq
    out := fun p hp => by
      obtain ⟨q, hq, rfl⟩ := List.mem_map.mp hp
      exact S.out q hq
    code := fun p hp => by
      obtain ⟨q, hq, rfl⟩ := List.mem_map.mp hp
      exact PySem.W.codeHd_of_K KX (S.hd q hq)
    bm := G.T.bmain }
  refine end_call (k := 13) (sp := spLaw K (tT K)) B hobj hints (Nat.le_trans hlen (by decide)) ⟨rfl, by decide, by decide⟩ (fun base _ _ TB => ?_) (fun H hT hS => ⟨a, ns, rfl, hS, fun r hr => ?_, fun _ => rfl⟩)
  · obtain ⟨f, fd, ps, F, hf, _, hb⟩ := law_of (w := w) S KX G.T.g TB
    rw [hm] at hf
    cases hf
    exact ⟨fd, ps, F, hb⟩
  · simp only [tT, tb2, List.mem_cons, List.not_mem_nil, or_false] at hr
    rcases hr with rfl | rfl
    · exact TabS.nil (hT _ (tfs_mem K 0 rfl))
    · exact TabS.nil (hT _ (tfs_mem K 1 rfl))
end Kl
open PySem PySem.W PySem.Calls PyProof.Rows in
set_option maxHeartbeats 0 in
theorem PySem.Challenge.cw_kitsleft_k08_whole_without_and_renamed_holds : PySem.Challenge.rw_kitsleft_k08_whole_without_and_renamed.Holds := by
  w_on; o_law
  refine HandSHeadRun.head_any (r := Kl.Rr) (q := Kl.qV) (H := Kl.hookK) (ob := Kl.obT) (M := 3000) (loose := Kl.nms) (d := HandSHeadRun.topDef Kl.Lr.prog 68) (kwd := []) Kl.obT_eq
    (by kernel_rfl) (fun s => by kernel_rfl) Kl.runK (by kernel_rfl) (by kernel_rfl) (by kernel_rfl) (by rfl) (by first | assumption | decide +kernel) (by decide +kernel) ⟨rfl, rfl, rfl, rfl, rfl, by decide +kernel⟩ ?hw Kl.walkK
  case hw => w_witness2
