import PyProof.Rows.All
import Wide.All
import OpenK.AllK
import Wide.FinOn
import KE.KStateDown
import HandS.ForMost
import HandS.Exc
import HandS.IsInst
import HandS.Codes
import HandS.Defaults
import HandS.Wide
import HandS.Head0
import HandS.Head1
import HandS.Head2
import HandS.HeadEnd
import HandS.HeadHook1
import HandS.HeadHook2
import HandS.HeadHook3
import HandS.Words
import HandS.Style
import HandS.More
import HandS.Deep
import HandS.Text
import HandS.RaiseMore
import HandS.Zip
import HandS.Walk
import HandS.Set
import HandS.SetFor
import HandS.SetTxt0
import HandS.List
import HandS.Strs
import HandS.SetKeys
import KE.GoesMore
import KE.GoesEnum
import HandS.Iter
import KE.KCallOwn
import KE.KFmtOwn
import HandS.OwnEq
import HandS.FStr
import HandS.Star
import HandS.ClsMeth
import HandS.Replace
import HandS.ReplaceLit
import HandS.ReplaceList
import PyProof.Rows.SortRunsAny
import PyProof.Rows.SortStr
import KE.KSortKey
import HandS.SortKw
import HandS.Keys
import PyProof.Rows.StrMeet
import HandS.MakeKwOnly
import KE.KExcSuper
import HandS.ExcInit
import HandS.ExcIs
import HandS.ExcField
import KE.KExcIs
import HandS.Lambda
import HandS.EndTab
import KE.KNestM
import HandS.HeadWalk
import PySem.Challenge.RW_pooledeyes_k34_put_out_in_any_order
set_option Elab.async false
set_option linter.all false
set_option maxRecDepth 100000
set_option maxHeartbeats 4000000
/-! Own lemmas for the laws' common text: heaps behind draws, data that draws leave, calls by keywords alone. -/
namespace LL
open PySem PySem.Spec PyProof.Rows L2
open C8 (Cal Mak Met CalAt pe_c pe_mk pe_mt pe_mt0 pe_gc)

/-! ### heaps -/
theorem same_upd {H : Hp} {p : Addr} {o : HO} (h : H p = none) : Same H (upd H p o) := fun b x e => by
  rw [upd_ne (ne_of_none e h)]
  exact e
theorem same_upd2 {H H' : Hp} {p : Addr} {o : HO} (s : Same H H') (h : H' p = none) : Same H (upd H' p o) := s.trans (same_upd h)
/-! ### the bag of draws -/
def bagX (l : Addr) (i : Nat) (r m c : Int) : HO := .lst [.ref l, .int (i : Int), .int r, .int m, .int c]
def BagV (H : Hp) (b l : Addr) (ns : List Int) (i : Nat) (r m c : Int) : Prop :=
  H b = some (bagX l i r m c) ∧ H l = some (.lst (ns.map V.int)) ∧ 0 ≤ r ∧ 0 ≤ m ∧ m < 2147483648
/-- a bag stands at b, its cells at l -/
def BagL (H : Hp) (b l : Addr) : Prop := ∃ ns i r m c, BagV H b l ns i r m c
def Bag (H : Hp) (b : Addr) : Prop := ∃ l, BagL H b l
theorem BagV.ne {H : Hp} {b l : Addr} {ns : List Int} {i : Nat} {r m c : Int} (B : BagV H b l ns i r m c) : l ≠ b := by
  intro e
  have h1 := B.1
  have h2 := B.2.1
  rw [e, h1] at h2
  unfold bagX at h2
  injection h2 with h2
  injection h2 with h2
  cases ns with
  | nil => cases h2
  | cons n ns =>
    injection h2 with h3 h4
    cases h3
theorem BagV.same {H : Hp} {b l l' : Addr} {ns ns' : List Int} {i i' : Nat} {r m c r' m' c' : Int} (B : BagV H b l ns i r m c) (B' : BagV H b l' ns' i' r' m' c') : l = l' := by
  have h := B.1.symm.trans B'.1
  unfold bagX at h
  injection h with h
  injection h with h
  injection h with h _
  injection h
theorem Bag.some {H : Hp} {b : Addr} (B : Bag H b) : ∃ o, H b = some o := by
  obtain ⟨l, ns, i, r, m, c, h1, _⟩ := B
  exact ⟨_, h1⟩
/-- the bag as it stands behind a store -/
theorem BagV.put {H : Hp} {b l : Addr} {ns : List Int} {i : Nat} {r m c : Int} (B : BagV H b l ns i r m c) {i' : Nat} {r' m' c' : Int} (h1 : 0 ≤ r') (h2 : 0 ≤ m') (h3 : m' < 2147483648) :
    BagV (upd H b (bagX l i' r' m' c')) b l ns i' r' m' c' := ⟨upd_same, by rw [upd_ne B.ne]; exact B.2.1, h1, h2, h3⟩
theorem Bag.ne {H : Hp} {b p : Addr} (B : Bag H b) (h : H p = none) : p ≠ b := by
  intro e
  obtain ⟨o, ho⟩ := B.some
  rw [e, ho] at h
  cases h
theorem BagL.to {H H' : Hp} {b l : Addr} (B : BagL H b l) (hb : ∀ o, H b = some o → H' b = some o) (hl : ∀ o, H l = some o → H' l = some o) : BagL H' b l := by
  obtain ⟨ns, i, r, m, c, h1, h2, h3⟩ := B
  exact ⟨ns, i, r, m, c, hb _ h1, hl _ h2, h3⟩
theorem BagL.cells {H : Hp} {b l : Addr} (B : BagL H b l) : ∃ o, H l = some o := by
  obtain ⟨ns, i, r, m, c, h1, h2, h3⟩ := B
  exact ⟨_, h2⟩

/-- all but b is kept, and the bag at b stays one -/
def Kp (b : Addr) (H H' : Hp) : Prop := (∀ a o, a ≠ b → H a = some o → H' a = some o) ∧ ∀ l, BagL H b l → BagL H' b l
theorem Kp.refl (b : Addr) (H : Hp) : Kp b H H := ⟨fun _ _ _ h => h, fun _ h => h⟩
theorem Kp.trans {b : Addr} {H H1 H2 : Hp} (h : Kp b H H1) (h' : Kp b H1 H2) : Kp b H H2 := ⟨fun a o n e => h'.1 a o n (h.1 a o n e), fun l B => h'.2 l (h.2 l B)⟩
theorem Kp.of {b : Addr} {H H' : Hp} (h : Same H H') : Kp b H H' := ⟨fun a o _ e => h a o e, fun _ B => B.to (fun o e => h _ o e) fun o e => h _ o e⟩
theorem Kp.new {b : Addr} {H H' : Hp} {p : Addr} {o : HO} (h : Kp b H H') (n : H' p = none) : Kp b H (upd H' p o) := h.trans (Kp.of (same_upd n))
theorem Kp.bag {b : Addr} {H H' : Hp} (h : Kp b H H') (B : Bag H b) : Bag H' b := by
  obtain ⟨l, B⟩ := B
  exact ⟨l, h.2 l B⟩
theorem Kp.set {b l : Addr} {H : Hp} {ns : List Int} {i i' : Nat} {r m c r' m' c' : Int} (B : BagV H b l ns i r m c) (B' : BagV (upd H b (bagX l i' r' m' c')) b l ns i' r' m' c') : Kp b H (upd H b (bagX l i' r' m' c')) := by
  refine ⟨fun a o n e => by rw [upd_ne n]; exact e, fun l' h => ?_⟩
  obtain ⟨ns2, i2, r2, m2, c2, B2⟩ := h
  have e := B.same B2
  rw [← e]
  exact ⟨ns, i', r', m', c', B'⟩
theorem Kp.none {b : Addr} {H H' : Hp} (h : Kp b H H') (B : Bag H b) {p : Addr} (e : H' p = none) : H p = none := by
  have hb := (h.bag B).ne e
  cases q : H p with
  | none => rfl
  | some o =>
    rw [h.1 p o hb q] at e
    cases e
/-- a place that was free changes -/
theorem Kp.mut {b : Addr} {H H' : Hp} {D : Addr} {o : HO} (h : Kp b H H') (B : Bag H b) (n : H D = Option.none) : Kp b H (upd H' D o) := by
  have nb := B.ne n
  refine ⟨fun a u na e => by rw [upd_ne (ne_of_none e n)]; exact h.1 a u na e, fun l BL => ?_⟩
  obtain ⟨u, hu⟩ := BL.cells
  exact (h.2 l BL).to (fun o e => by rw [upd_ne (Ne.symm nb)]; exact e) fun o e => by rw [upd_ne (ne_of_none hu n)]; exact e
theorem sqL_of {K : PySem.W.Frag} {H : Hp} {a : Addr} {xs : List V} (h : H a = some (.lst xs)) : SqL K H a xs := .inl (.inl h)
theorem sqT_of {K : PySem.W.Frag} {H : Hp} {a : Addr} {xs : List V} (h : H a = some (.tup xs)) : SqT K H a xs := .inl (.inl h)
theorem sqL_kp {K : PySem.W.Frag} {b : Addr} {H H' : Hp} {a : Addr} {xs : List V} (h : Kp b H H') (n : a ≠ b) (s : SqL K H a xs) : SqL K H' a xs := by
  rcases s with (s | ⟨o, s⟩) | s
  · exact .inl (.inl (h.1 _ _ n s))
  · exact .inl (.inr ⟨o, h.1 _ _ n s⟩)
  · exact .inr s
theorem sqT_kp {K : PySem.W.Frag} {b : Addr} {H H' : Hp} {a : Addr} {xs : List V} (h : Kp b H H') (n : a ≠ b) (s : SqT K H a xs) : SqT K H' a xs := by
  rcases s with (s | ⟨o, s⟩) | s
  · exact .inl (.inl (h.1 _ _ n s))
  · exact .inl (.inr ⟨o, h.1 _ _ n s⟩)
  · exact .inr s
theorem sqT_same {K : PySem.W.Frag} {H H' : Hp} {a : Addr} {xs : List V} (e : Same H H') (h : SqT K H a xs) : SqT K H' a xs := by
  rcases h with (h | ⟨o, h⟩) | h
  · exact .inl (.inl (e _ _ h))
  · exact .inl (.inr ⟨o, e _ _ h⟩)
  · exact .inr h

/-! ### data that draws leave as it is -/
section
variable {K : PySem.W.Frag} {H H' : Hp}
mutual
theorem dp_mono (hl : ∀ a xs, SqL K H a xs → SqL K H' a xs) (ht : ∀ a xs, SqT K H a xs → SqT K H' a xs) : ∀ (d : PyData) (v : V), Dp K H v d → Dp K H' v d
  | .none, _, h => by cases h; exact .non
  | .bool b, _, h => by cases h; exact .bl b
  | .int i, _, h => by cases h; exact .int i
  | .str x, _, h => by cases h; exact .str x
  | .list ds, _, h => by
    cases h with
    | lst hs ha => exact .lst (hl _ _ hs) (dpAll_mono hl ht ds _ ha)
  | .tuple ds, _, h => by
    cases h with
    | tup hs ha => exact .tup (ht _ _ hs) (dpAll_mono hl ht ds _ ha)
  | .dict _, _, h => by cases h
theorem dpAll_mono (hl : ∀ a xs, SqL K H a xs → SqL K H' a xs) (ht : ∀ a xs, SqT K H a xs → SqT K H' a xs) : ∀ (ds : List PyData) (vs : List V), DpAll K H vs ds → DpAll K H' vs ds
  | [], _, h => by cases h; exact .nil
  | d :: ds, _, h => by
    cases h with
    | cons h1 h2 => exact .cons (dp_mono hl ht d _ h1) (dpAll_mono hl ht ds _ h2)
end
theorem dp_same {v : V} {d : PyData} (s : Same H H') (h : Dp K H v d) : Dp K H' v d := dp_mono (fun _ _ => s.seq) (fun _ _ => sqT_same s) d v h
theorem dpAll_same {vs : List V} {ds : List PyData} (s : Same H H') (h : DpAll K H vs ds) : DpAll K H' vs ds := dpAll_mono (fun _ _ => s.seq) (fun _ _ => sqT_same s) ds vs h
theorem dpAll_len : ∀ {vs : List V} {ds : List PyData}, DpAll K H vs ds → vs.length = ds.length
  | _, _, .nil => rfl
  | _, _, .cons _ t => congrArg Nat.succ (dpAll_len t)
theorem dpAll_get : ∀ {vs : List V} {ds : List PyData} {i : Nat} {v : V}, DpAll K H vs ds → vs[i]? = some v → ∃ d, ds[i]? = some d ∧ Dp K H v d
  | _, _, _, _, .nil, e => by simp at e
  | _, _, 0, _, .cons r _, e => by
    simp at e
    subst e
    exact ⟨_, rfl, r⟩
  | _, _, i + 1, _, .cons _ t, e => by
    obtain ⟨d, h1, h2⟩ := dpAll_get (i := i) t (by simpa using e)
    exact ⟨d, by simpa using h1, h2⟩
theorem dpAll_bools : ∀ bs : List Bool, DpAll K H (bs.map V.bl) (bs.map PyData.bool)
  | [] => .nil
  | b :: bs => .cons (.bl b) (dpAll_bools bs)
theorem dpAll_ints : ∀ ns : List Int, DpAll K H (ns.map V.int) (ns.map PyData.int)
  | [] => .nil
  | n :: ns => .cons (.int n) (dpAll_ints ns)
end
end LL

namespace LL
open PySem PySem.Spec PyProof.Rows L2
open C8 (Cal Mak Met CalAt pe_c pe_mk pe_mt pe_mt0 pe_gc)
/-! ### a def without defaults, as a constant of the module -/
section
variable {P : Program} {w : World} {K : PySem.W.Frag} {mg : Str → Option Value} {base : Heap} {x qual : Str} {params : Arguments} {body : List Stmt} {scope : Scope} {f : Addr} {fd : FuncData} {N ps : List Str} {k : Nat} {sp : Sp} {kws : List (Str × V)}
theorem calD (F : FunD K x qual params body scope [] kws f fd) (hm : mg x = some (.ref f)) (b : Binds K fd ps []) (S : FnScope N ps scope) (len : ∀ vs H Q E, sp vs H Q E → vs.length = ps.length)
    (hbody : ∀ (cdv : Value) (A : Around) (outer : List Env) (s : Shared) (H : Hp) (vs : List V) (Q : VK) (E : XK), Room k (A.deeper (envOfC qual scope s.heap.objs.size f cdv)) → sp vs H Q E →
      ∃ t, PSs (cxOf CX0 P w K mg base N qual scope f cdv A outer s H E).nox body t ∧ t { nx := fun _ H' => Q .non H', rt := Q } (start N vs) H) : Cal P w K mg base (k + 1) x sp [] :=
  ⟨f, fd, ps, [], F.ok S len fun cdv A outer s H vs Q E hr h => by
    obtain ⟨t, h1, h2⟩ := hbody cdv A outer s H vs Q E hr h
    exact ⟨t, h1.nox, h2⟩, hm, F.kp, b, .nil⟩
/-- a def that is called by keywords too -/
structure CalK (P : Program) (w : World) (K : PySem.W.Frag) (mg : Str → Option Value) (base : Heap) (k : Nat) (x : Str) (sp : Sp) (ks : List Str) (g : List Value → List Value → List Value) (gV : List V → List V → List V) : Prop where
  ex : ∃ (f : Addr) (fd : FuncData) (ps : List Str), FnOk P w K mg base CX0 k f fd ps sp ∧ mg x = some (.ref f) ∧ PySem.W.keepIn K (.ref f) = true ∧ KBinds K fd ps ks g gV
end
section
variable {X : Cx} {CX : CXT} {k j : Nat} {f : Addr} {fd : FuncData} {ps ks : List Str} {sp : Sp} {E : XK} {x : Str} {p pos : Pos} {e : Expr} {es : List Expr} {kws : List Keyword} {t tk : TA} {g : List Value → List Value → List Value} {gV : List V → List V → List V}
/-- f(k = v, ..), nothing by place -/
theorem pe_callK0 (F : FnOk X.prog X.w X.K X.mg X.base CX k f fd ps sp) (hr : Room k X.A) (hg : Gl X x) (hm : X.mg x = some (.ref f)) (hk : PySem.W.keepIn X.K (.ref f) = true) (hb : KBinds X.K fd ps ks g gV) (hx : Passes CX X E)
    (hkw : PK X kws tk) (hall : (backToKw pos (keywordEach kws X.env)).all (·.1.isSome) = true := by rfl) (hks : (backToKw pos (keywordEach kws X.env)).filterMap (·.1) = ks := by rfl)
    (hdb : (x == ("__debug__" : Str)) = false := by decide) (hpl : ((backTo pos (starEach [] X.env)).any (·.1) || (backToKw pos (keywordEach kws X.env)).any (·.1.isNone)) = false := by rfl) :
    PE X (.Call (.Name x p) [] kws pos) (tCallK sp gV E tNil tk) := by
  refine ⟨fun pins s σ H Q I h => ?_⟩
  refine wpAny_Call_Name_kw (ld_glob I hg hm ?_ hdb)
  refine PySem.W.callWith_KW0 (h₀ := X.base) I.ok.mod.kin hk hall (thn (hkw.run pos pins s σ H _ I h) fun ws s2 ⟨zs, H2, I2, rz, q2⟩ => ⟨I2.kIn, ?_⟩) hpl
  rw [hks]
  exact run_fnk (us := []) (vs := []) F hr hb hx I2 .nil rz q2
theorem pe_cK0 (c : CalK X.prog X.w X.K X.mg X.base k x sp ks g gV) (hr : Room j X.A) (hk : k ≤ j) (hg : Gl X x) (hkw : PK X kws tk)
    (hall : (backToKw pos (keywordEach kws X.env)).all (·.1.isSome) = true := by rfl) (hks : (backToKw pos (keywordEach kws X.env)).filterMap (·.1) = ks := by rfl)
    (hdb : (x == ("__debug__" : Str)) = false := by decide) (hpl : ((backTo pos (starEach [] X.env)).any (·.1) || (backToKw pos (keywordEach kws X.env)).any (·.1.isNone)) = false := by rfl) :
    PE X (.Call (.Name x p) [] kws pos) (tCallK sp gV E0 tNil tk) := by
  obtain ⟨f, fd, ps, F, hm, kp, b⟩ := c.ex
  exact pe_callK0 F (hr.mono hk) hg hm kp b pass0 hkw hall hks hdb hpl
theorem pe_cK (c : CalK X.prog X.w X.K X.mg X.base k x sp ks g gV) (hr : Room j X.A) (hk : k ≤ j) (hg : Gl X x) (ha : PA X (e :: es) t) (hkw : PK X kws tk)
    (hall : (backToKw pos (keywordEach kws X.env)).all (·.1.isSome) = true := by rfl) (hks : (backToKw pos (keywordEach kws X.env)).filterMap (·.1) = ks := by rfl)
    (hdb : (x == ("__debug__" : Str)) = false := by decide) (he : starEach (e :: es) X.env = (false, eval e X.env) :: starEach es X.env := by rfl)
    (hpl : ((backTo pos (starEach (e :: es) X.env)).any (·.1) || (backToKw pos (keywordEach kws X.env)).any (·.1.isNone)) = false := by rfl) :
    PE X (.Call (.Name x p) (e :: es) kws pos) (tCallK sp gV E0 t tk) := by
  obtain ⟨f, fd, ps, F, hm, kp, b⟩ := c.ex
  exact pe_callK F (hr.mono hk) hg hm kp b pass0 ha hkw hall hks hdb he hpl
end
end LL

namespace LL
open PySem PySem.Spec PyProof.Rows L2
theorem cut_head (xs : List V) (n : Nat) (h : xs.length ≤ n) : cutV xs none (some (n : Int)) = xs := by
  unfold cutV
  rw [HT.sIx_none, HT.sIx_nat]
  rw [Nat.min_eq_right h, Nat.sub_zero, List.drop_zero]
  exact List.take_length
theorem fmod_lo (i : Int) {j : Int} (h : 0 < j) : 0 ≤ i.fmod j := by
  rw [Int.fmod_eq_emod_of_nonneg i (by omega)]
  exact Int.emod_nonneg i (by omega)
theorem fmod_hi (i : Int) {j : Int} (h : 0 < j) : i.fmod j < j := by
  rw [Int.fmod_eq_emod_of_nonneg i (by omega)]
  exact Int.emod_lt_of_pos i h
theorem fdiv_lo {i j : Int} (hi : 0 ≤ i) (h : 0 < j) : 0 ≤ i.fdiv j := by
  rw [Int.fdiv_eq_ediv_of_nonneg i (by omega)]
  exact Int.ediv_nonneg hi (by omega)
end LL

namespace LL
open PySem PySem.Spec PyProof.Rows L2
/-! ### the bag's items read and stored -/
section
variable {K : PySem.W.Frag} {σ : L2.St} {H : Hp} {Q : VK} {b l : Addr} {i : Nat} {r m c z : Int} {j : Nat} {Qn : L2.St → Hp → Prop}
theorem ixB0 (hs : σ[j]? = some (some (.ref b))) (h : Q (.ref l) (upd H b (bagX l i r m c))) : tOp (rIxL K) (tVar j) (tC (.int 0)) σ (upd H b (bagX l i r m c)) Q := ⟨_, hs, b, _, 0, _, rfl, rfl, sqL_of upd_same, rfl, h⟩
theorem ixB1 (hs : σ[j]? = some (some (.ref b))) (h : Q (.int (i : Int)) (upd H b (bagX l i r m c))) : tOp (rIxL K) (tVar j) (tC (.int 1)) σ (upd H b (bagX l i r m c)) Q := ⟨_, hs, b, _, 1, _, rfl, rfl, sqL_of upd_same, rfl, h⟩
theorem ixB2 (hs : σ[j]? = some (some (.ref b))) (h : Q (.int r) (upd H b (bagX l i r m c))) : tOp (rIxL K) (tVar j) (tC (.int 2)) σ (upd H b (bagX l i r m c)) Q := ⟨_, hs, b, _, 2, _, rfl, rfl, sqL_of upd_same, rfl, h⟩
theorem ixB3 (hs : σ[j]? = some (some (.ref b))) (h : Q (.int m) (upd H b (bagX l i r m c))) : tOp (rIxL K) (tVar j) (tC (.int 3)) σ (upd H b (bagX l i r m c)) Q := ⟨_, hs, b, _, 3, _, rfl, rfl, sqL_of upd_same, rfl, h⟩
theorem ixB4 (hs : σ[j]? = some (some (.ref b))) (h : Q (.int c) (upd H b (bagX l i r m c))) : tOp (rIxL K) (tVar j) (tC (.int 4)) σ (upd H b (bagX l i r m c)) Q := ⟨_, hs, b, _, 4, _, rfl, rfl, sqL_of upd_same, rfl, h⟩
theorem stB1 (hs : σ[j]? = some (some (.ref b))) (h : Qn σ (upd H b (bagX l (i + 1) r m c))) : gSub (tVar j) (tC (.int 1)) rSetL (.int ((i : Int) + 1)) σ (upd H b (bagX l i r m c)) Qn :=
  ⟨_, hs, b, _, 1, 1, rfl, rfl, upd_same, rfl, by rw [upd_upd]; exact h⟩
theorem stB2 (hs : σ[j]? = some (some (.ref b))) (h : Qn σ (upd H b (bagX l i z m c))) : gSub (tVar j) (tC (.int 2)) rSetL (.int z) σ (upd H b (bagX l i r m c)) Qn :=
  ⟨_, hs, b, _, 2, 2, rfl, rfl, upd_same, rfl, by rw [upd_upd]; exact h⟩
theorem stB3 (hs : σ[j]? = some (some (.ref b))) (h : Qn σ (upd H b (bagX l i r z c))) : gSub (tVar j) (tC (.int 3)) rSetL (.int z) σ (upd H b (bagX l i r m c)) Qn :=
  ⟨_, hs, b, _, 3, 3, rfl, rfl, upd_same, rfl, by rw [upd_upd]; exact h⟩
theorem stB4 (hs : σ[j]? = some (some (.ref b))) (h : Qn σ (upd H b (bagX l i r m z))) : gSub (tVar j) (tC (.int 4)) rSetL (.int z) σ (upd H b (bagX l i r m c)) Qn :=
  ⟨_, hs, b, _, 4, 4, rfl, rfl, upd_same, rfl, by rw [upd_upd]; exact h⟩
theorem upd_self {a : Addr} {o : HO} (h : H a = some o) : upd H a o = H := by
  funext x
  unfold upd
  split
  · rename_i e
    rw [e, h]
  · rfl
end
theorem abs_lo (i : Int) : 0 ≤ (if i < 0 then -i else i) := by
  split <;> omega
end LL

namespace LL
open PySem PySem.Spec PyProof.Rows L2
open C8 (Cal Mak Met CalAt pe_c pe_mk pe_mt pe_mt0 pe_gc)
/-! ### kinds of values -/
section
variable {K : PySem.W.Frag} {H H' : Hp} {x : V}
theorem tyx_list {a : Addr} {xs : List V} (h : SqL K H a xs) : TyX K H (.ref a) (.type "list") := by
  rcases h with (h | ⟨o, h⟩) | ⟨o, its, n, e, c, _⟩
  · exact .base (.lst h)
  · exact .base (.frz h)
  · exact .kList e c
theorem tyx_tup {a : Addr} {xs : List V} (h : SqT K H a xs) : TyX K H (.ref a) (.type "tuple") := by
  rcases h with (h | ⟨o, h⟩) | ⟨o, its, n, e, c, _⟩
  · exact .base (.tup h)
  · exact .fTuple h
  · exact .kTuple e c
def dty : PyData → String
  | .none => "NoneType"
  | .bool _ => "bool"
  | .int _ => "int"
  | .str _ => "str"
  | .list _ => "list"
  | .tuple _ => "tuple"
  | .dict _ => "dict"
theorem dp_ty {d : PyData} (h : Dp K H x d) : TyX K H x (.type (dty d)) := by
  cases h with
  | non => exact .base .non
  | bl b => exact .base (.bl b)
  | int i => exact .base (.int i)
  | str z => exact .base (.str z)
  | lst h _ => exact tyx_list h
  | tup h _ => exact tyx_tup h
/-- isinstance of a value of a built-in kind -/
theorem isi_ty {a n : String} {b : Bool} {Q : VK} (ty : TyX K H x (.type a)) (h : kitB a n = some b) (q : Q (.bl b) H) : rIsi K [x, .ty n] H Q := ⟨x, .ty n, _, _, b, rfl, .ty n, ty, kit_ty h, q⟩
theorem isiT_ty {a n m : String} {b : Bool} {p : Addr} {Q : VK} (ty : TyX K H x (.type a)) (hp : H p = some (.tup [.ty n, .ty m])) (h : PySem.W.kitAny K (.type a) [.type n, .type m] = some b) (q : Q (.bl b) H) : rIsiT K [x, .ref p] H Q :=
  ⟨x, p, _, _, _, b, rfl, hp, .cons (.ty n) (.cons (.ty m) .nil), ty, h, q⟩
theorem tyx_same {t : Value} (s : Same H H') (h : TyX K H x t) : TyX K H' x t := by
  cases h with
  | base h =>
    cases h with
    | non => exact .base .non
    | bl b => exact .base (.bl b)
    | int i => exact .base (.int i)
    | str z => exact .base (.str z)
    | flt z => exact .base (.flt z)
    | lst e => exact .base (.lst (s _ _ e))
    | frz e => exact .base (.frz (s _ _ e))
    | tup e => exact .base (.tup (s _ _ e))
    | dK e => exact .base (.dK (s _ _ e))
    | dT e => exact .base (.dT (s _ _ e))
    | ins e c a b d f => exact .base (.ins (s _ _ e) c a b d f)
  | byt b => exact .byt b
  | set e => exact .set (s _ _ e)
  | kList e c => exact .kList e c
  | kTuple e c => exact .kTuple e c
  | kDict e c => exact .kDict e c
  | fTuple e => exact .fTuple (s _ _ e)
  | fDict e => exact .fDict (s _ _ e)
end
/-- a list or a tuple -/
def isSeq : PyData → Bool
  | .list _ => true
  | .tuple _ => true
  | _ => false
/-- nested at most n deep, no list or tuple too long -/
def Fit : Nat → PyData → Bool
  | 0, .list _ => false
  | 0, .tuple _ => false
  | n + 1, .list ds => decide (ds.length ≤ 1000000) && ds.all (Fit n)
  | n + 1, .tuple ds => decide (ds.length ≤ 1000000) && ds.all (Fit n)
  | _, .dict _ => false
  | _, _ => true
def kinds : List String := ["NoneType", "bool", "int", "str", "list", "tuple", "dict"]
theorem dty_mem (d : PyData) : dty d ∈ kinds := by
  unfold kinds
  cases d <;> simp [dty]
/-- what isinstance tells of each kind -/
def kitD (d : PyData) (n : String) : Bool := (kitB (dty d) n).getD false
theorem kit_some : ∀ a ∈ kinds, ∀ n ∈ kinds, kitB a n = some ((kitB a n).getD false) := by
  intro a ha n hn
  have h : (kinds.all fun a => kinds.all fun n => (kitB a n).isSome) = true := by decide +kernel
  have h1 := List.all_eq_true.mp (List.all_eq_true.mp h a ha) n hn
  cases q : kitB a n with
  | none =>
    rw [q] at h1
    cases h1
  | some b => rfl
theorem kitD_ok (d : PyData) {n : String} (h : n ∈ kinds) : kitB (dty d) n = some (kitD d n) := kit_some _ (dty_mem d) n h
theorem kitD_seq (d : PyData) : isSeq d = (kitD d "list" || kitD d "tuple") := by
  have h : (kinds.all fun a => ((kitB a "list").getD false || (kitB a "tuple").getD false) == (a == "list" || a == "tuple")) = true := by decide +kernel
  have h1 := eq_of_beq (List.all_eq_true.mp h (dty d) (dty_mem d))
  unfold kitD
  rw [h1]
  cases d <;> simp [isSeq, dty]
theorem kitAny_seq {K : PySem.W.Frag} (d : PyData) : PySem.W.kitAny K (.type (dty d)) [.type "list", .type "tuple"] = some (isSeq d) := by
  rw [kitD_seq]
  refine kitAny_cons (kit_ty (kitD_ok d (by decide))) (fun e => ?_) (fun e => by rw [e, Bool.true_or])
  rw [e, Bool.false_or]
  refine kitAny_cons (kit_ty (kitD_ok d (by decide))) (fun e => ?_) (fun e => e)
  rw [e]
  exact kitAny_nil
/-- a promise that is never asked -/
def spNo : Sp := fun _ _ _ _ => False
theorem cal_no {P : Program} {w : World} {K : PySem.W.Frag} {mg : Str → Option Value} {base : Heap} {x qual : Str} {params : Arguments} {body : List Stmt} {scope : Scope} {f : Addr} {fd : FuncData} {ps : List Str} {kws : List (Str × V)}
    (F : FunD K x qual params body scope [] kws f fd) (hm : mg x = some (.ref f)) (b : Binds K fd ps []) : Cal P w K mg base 0 x spNo [] :=
  ⟨f, fd, ps, [], ⟨fun _ _ _ _ h => h.elim, fun _ _ _ _ _ _ _ _ _ _ _ _ _ h => h.elim⟩, hm, F.kp, b, .nil⟩
end LL

namespace LL
open PySem PySem.Spec PyProof.Rows L2 RZ
/-! ### comprehensions over a walk -/
section
variable {K : PySem.W.Frag} {J : It} {n : Nat} {G : Hp → Prop} {Y : Nat → Hp → V → Hp → Prop} {g : TG} {te : TE} {vs : List Nat} {σ : L2.St} {H1 : Hp} {D : Addr} {Qd : Hp → Prop}
theorem walk_zipT {a b : Addr} {xs ys : List V} {n : Nat} (hn : n = min xs.length ys.length) : Walk (ItzT K a b) n (fun H => SqT K H a xs ∧ SqT K H b ys) (YPair (fun i => xs[i]?) (fun i => ys[i]?)) := by
  subst hn
  constructor
  · intro i H hi q
    have h1 : i < xs.length := by omega
    have h2 : i < ys.length := by omega
    exact ⟨xs, ys, xs[i], ys[i], q.1, q.2, List.getElem?_eq_getElem h1, List.getElem?_eq_getElem h2⟩
  · intro H q
    exact ⟨xs, ys, q.1, q.2, by omega⟩
  · intro i H v H' _ q y
    obtain ⟨T, x, z, h1, h2, h3, h4, h5⟩ := y
    exact ⟨T, x, z, h1, h2, h3, h4 xs q.1, h5 ys q.2⟩
theorem tYes_eq (R : Nat → Hp → Prop) (i : Nat) (vs : List Nat) (σ : L2.St) :
    (fun (σ2 : L2.St) (H2 : Hp) => wipe σ2 vs = wipe σ vs ∧ tYes σ2 H2 fun b H3 => if b = true then te σ2 H3 fun y H4 => ∃ acc, H4 D = some (.lst acc) ∧ acc.length < sizeLine ∧ R (i + 1) (upd H4 D (.lst (acc ++ [y]))) else R (i + 1) H3) =
    (fun (σ2 : L2.St) (H2 : Hp) => wipe σ2 vs = wipe σ vs ∧ te σ2 H2 fun y H4 => ∃ acc, H4 D = some (.lst acc) ∧ acc.length < sizeLine ∧ R (i + 1) (upd H4 D (.lst (acc ++ [y])))) := by
  funext σ2 H2
  unfold tYes
  simp only [if_true]
/-- [e for x in ..]: e tells f i at turn i, and only new things are made -/
theorem lc_map (w : Walk J n G Y) (f : Nat → V) (hn : n ≤ 1000000) (hD : H1 D = none) (hG : ∀ H, Same H1 H → G H)
    (hs : ∀ (i : Nat) (x : V) (H H' : Hp) (Nx : VK), i < n → Same H1 H → Y i H x H' → (∀ H4, Same H H4 → Nx (f i) H4) → g x (wipe σ vs) H' fun σ2 H2 => wipe σ2 vs = wipe σ vs ∧ te σ2 H2 Nx)
    (hd : ∀ H, Same H1 H → H D = some (.lst ((List.range n).map f)) → Qd H) :
    ∃ W : Nat → Nat → Hp → Prop, (∃ m, W 0 m (upd H1 D (.lst []))) ∧ ∀ i m H, W i m H →
      (J.stop i H ∧ Qd H) ∨ (J.go i H ∧ ∃ Nx : Hp → Prop, (∀ H', Nx H' → ∃ m', m' < m ∧ W (i + 1) m' H') ∧ ∀ x H', J.yld i H x H' → g x (wipe σ vs) H' fun σ2 H2 => wipe σ2 vs = wipe σ vs ∧ tYes σ2 H2 fun b H3 =>
        if b = true then te σ2 H3 fun y H4 => ∃ acc, H4 D = some (.lst acc) ∧ acc.length < sizeLine ∧ Nx (upd H4 D (.lst (acc ++ [y]))) else Nx H3) := by
  refine lc_it w (fun i H => Same H1 H ∧ H D = some (.lst ((List.range i).map f))) ⟨same_upd hD, upd_same⟩ (fun i H _ p => hG H p.1) ?_ (fun H p => hd H p.1 p.2)
  rintro i x H H' hi ⟨s1, hL⟩ hy
  rw [tYes_eq (fun i H => Same H1 H ∧ H D = some (.lst ((List.range i).map f)))]
  refine hs i x H H' _ hi s1 hy fun H4 s4 => ⟨(List.range i).map f, s4 _ _ hL, ?_, ?_, ?_⟩
  · rw [List.length_map, List.length_range]
    exact Nat.lt_of_lt_of_le (Nat.lt_of_lt_of_le hi hn) (by decide)
  · intro a o e
    rw [upd_ne (ne_of_none e hD)]
    exact s4 _ _ (s1 _ _ e)
  · rw [upd_same, List.range_succ, List.map_append]
    rfl
/-- .. where the bag at b changes too; every item is such that P -/
theorem lc_bag {b : Addr} (w : Walk J n G Y) (P : V → Prop) (hn : n ≤ 1000000) (hD : H1 D = none) (hB : Bag H1 b) (hG : ∀ H, Kp b H1 H → G H)
    (hs : ∀ (i : Nat) (x : V) (H H' : Hp) (Nx : VK), i < n → Kp b H1 H → Y i H x H' → (∀ y H4, Kp b H H4 → P y → Nx y H4) → g x (wipe σ vs) H' fun σ2 H2 => wipe σ2 vs = wipe σ vs ∧ te σ2 H2 Nx)
    (hd : ∀ H ys, Kp b H1 H → H D = some (.lst ys) → ys.length = n → (∀ y ∈ ys, P y) → Qd H) :
    ∃ W : Nat → Nat → Hp → Prop, (∃ m, W 0 m (upd H1 D (.lst []))) ∧ ∀ i m H, W i m H →
      (J.stop i H ∧ Qd H) ∨ (J.go i H ∧ ∃ Nx : Hp → Prop, (∀ H', Nx H' → ∃ m', m' < m ∧ W (i + 1) m' H') ∧ ∀ x H', J.yld i H x H' → g x (wipe σ vs) H' fun σ2 H2 => wipe σ2 vs = wipe σ vs ∧ tYes σ2 H2 fun b H3 =>
        if b = true then te σ2 H3 fun y H4 => ∃ acc, H4 D = some (.lst acc) ∧ acc.length < sizeLine ∧ Nx (upd H4 D (.lst (acc ++ [y]))) else Nx H3) := by
  have nD : D ≠ b := hB.ne hD
  refine lc_it w (fun i H => Kp b H1 H ∧ ∃ ys, H D = some (.lst ys) ∧ ys.length = i ∧ ∀ y ∈ ys, P y) ⟨(Kp.refl b H1).mut hB hD, [], upd_same, rfl, fun _ q => nomatch q⟩ (fun i H _ p => hG H p.1) ?_ (fun H p => ?_)
  · rintro i x H H' hi ⟨k1, ys, hL, hl, hP⟩ hy
    rw [tYes_eq (fun i H => Kp b H1 H ∧ ∃ ys, H D = some (.lst ys) ∧ ys.length = i ∧ ∀ y ∈ ys, P y)]
    refine hs i x H H' _ hi k1 hy fun y H4 k4 py => ⟨ys, k4.1 _ _ nD hL, ?_, (k1.trans k4).mut hB hD, ys ++ [y], upd_same, ?_, ?_⟩
    · rw [hl]
      exact Nat.lt_of_lt_of_le (Nat.lt_of_lt_of_le hi hn) (by decide)
    · rw [List.length_append, hl]
      rfl
    · intro z hz
      rcases List.mem_append.mp hz with hz | hz
      · exact hP z hz
      · rw [List.mem_singleton.mp hz]
        exact py
  · obtain ⟨k1, ys, hL, hl, hP⟩ := p
    exact hd H ys k1 hL hl hP
end
end LL

namespace LL
open PySem PySem.Spec PyProof.Rows L2 RZ
theorem all_true (n : Nat) : (((List.range n).map fun _ => true).all id) = true := by
  rw [List.all_eq_true]
  intro b hb
  obtain ⟨_, _, e⟩ := List.mem_map.mp hb
  rw [← e]
  rfl
theorem map_bl (n : Nat) (f : Nat → Bool) : ((List.range n).map fun i => V.bl (f i)) = ((List.range n).map f).map V.bl := by
  rw [List.map_map]
  rfl
theorem dp_scal {K : PySem.W.Frag} {H : Hp} {d : PyData} {x y : V} (hx : Dp K H x d) (hy : Dp K H y d) (hs : isSeq d = false) : x = y ∧ scal x y = true := by
  cases d with
  | none => cases hx; cases hy; exact ⟨rfl, rfl⟩
  | bool b => cases hx; cases hy; exact ⟨rfl, rfl⟩
  | int i => cases hx; cases hy; exact ⟨rfl, rfl⟩
  | str z => cases hx; cases hy; exact ⟨rfl, rfl⟩
  | list ds => cases hs
  | tuple ds => cases hs
  | dict kvs => cases hx
end LL

namespace LL
open PySem PySem.Spec PyProof.Rows L2
theorem fit_zero : ∀ {d : PyData}, isSeq d = true → Fit 0 d = true → False
  | .list _, _, h => by cases h
  | .tuple _, _, h => by cases h
  | .none, h, _ => by cases h
  | .bool _, h, _ => by cases h
  | .int _, h, _ => by cases h
  | .str _, h, _ => by cases h
  | .dict _, h, _ => by cases h
theorem fit_nodict {n : Nat} {d : PyData} (h : Fit n d = true) : kitD d "dict" = false := by
  have h1 : (["NoneType", "bool", "int", "str", "list", "tuple"].all fun a => !((kitB a "dict").getD false)) = true := by decide +kernel
  have h2 : dty d ∈ ["NoneType", "bool", "int", "str", "list", "tuple"] := by
    cases d with
    | dict kvs => cases n <;> cases h
    | _ => simp [dty]
  have h3 := List.all_eq_true.mp h1 _ h2
  unfold kitD
  cases q : (kitB (dty d) "dict").getD false with
  | false => rfl
  | true =>
    rw [q] at h3
    cases h3
end LL

namespace LL
open PySem PySem.Spec PyProof.Rows L2
/-! ### names, numbers -/
def LET : Str := "abcdefghijklmnopqrstuvwxyz"
def isName (z : Str) : Bool := (decide (1 ≤ z.length) && decide (z.length ≤ 6)) && z.cps.toList.all fun c => decide (c ∈ LET.cps.toList)
def NotStr (K : PySem.W.Frag) (H : Hp) (x : V) : Prop := ∃ t, TyX K H x t ∧ PySem.W.kitOne K t (.type "str") = some false
def NotInt (K : PySem.W.Frag) (H : Hp) (x : V) : Prop := ∃ t, TyX K H x t ∧ PySem.W.kitOne K t (.type "bool") = some false ∧ PySem.W.kitOne K t (.type "int") = some false
/-- judged as a name: nm -/
def NameJ (K : PySem.W.Frag) (H : Hp) (x : V) (nm : Bool) : Prop := (∃ z : Str, x = .str z ∧ z.length ≤ 100000 ∧ PyData.strOk z = true ∧ nm = isName z) ∨ (NotStr K H x ∧ nm = false)
/-- judged as a number from lo to hi: nu -/
def NumJ (K : PySem.W.Frag) (H : Hp) (x : V) (lo hi : Int) (nu : Bool) : Prop :=
  (∃ i : Int, x = .int i ∧ nu = (decide (lo ≤ i) && decide (i ≤ hi))) ∨ ((∃ c : Bool, x = .bl c) ∧ nu = false) ∨ (NotInt K H x ∧ nu = false)
theorem idx_map {α : Type} (p : Nat → Bool) : ∀ l : List Nat, ((List.range l.length).map fun i => (l[i]?.map p).getD false) = l.map p := by
  intro l
  refine List.ext_getElem? fun i => ?_
  rw [List.getElem?_map, List.getElem?_map]
  by_cases h : i < l.length
  · rw [List.getElem?_range h, List.getElem?_eq_getElem h]
    simp [List.getElem?_eq_getElem h]
  · rw [List.getElem?_eq_none (by rw [List.length_range]; omega), List.getElem?_eq_none (by omega)]
    rfl
theorem all_cps (z : Str) (p : Nat → Bool) : (((List.range z.cps.size).map fun i => (z.cps[i]?.map p).getD false).all id) = z.cps.toList.all p := by
  have h := idx_map (α := Nat) p z.cps.toList
  have e : z.cps.toList.length = z.cps.size := by simp
  rw [e] at h
  have h2 : ((List.range z.cps.size).map fun i => (z.cps[i]?.map p).getD false) = z.cps.toList.map p := by
    rw [← h]
    refine List.map_congr_left fun i _ => ?_
    simp
  rw [h2, List.all_map]
  rfl
end LL

namespace LL
open PySem PySem.Spec PyProof.Rows L2
open C8 (Cal Mak Met CalAt pe_c pe_mk pe_mt pe_mt0 pe_gc)
section
variable {P : Program} {w : World} {K : PySem.W.Frag} {mg : Str → Option Value} {base : Heap} {x qual : Str} {params : Arguments} {body : List Stmt} {scope : Scope} {f : Addr} {fd : FuncData} {N ps : List Str} {k : Nat} {sp : Sp} {dvs : List V} {kws : List (Str × V)}
theorem fnD (F : FunD K x qual params body scope dvs kws f fd) (S : FnScope N ps scope) (len : ∀ vs H Q E, sp vs H Q E → vs.length = ps.length)
    (hbody : ∀ (cdv : Value) (A : Around) (outer : List Env) (s : Shared) (H : Hp) (vs : List V) (Q : VK) (E : XK), Room k (A.deeper (envOfC qual scope s.heap.objs.size f cdv)) → sp vs H Q E →
      ∃ t, PSs (cxOf CX0 P w K mg base N qual scope f cdv A outer s H E).nox body t ∧ t { nx := fun _ H' => Q .non H', rt := Q } (start N vs) H) : FnOk P w K mg base CX0 (k + 1) f fd ps sp :=
  F.ok S len fun cdv A outer s H vs Q E hr h => by
    obtain ⟨t, h1, h2⟩ := hbody cdv A outer s H vs Q E hr h
    exact ⟨t, h1.nox, h2⟩
/-- how keywords bind where all parameters are written: g by the very lengths -/
theorem kbD {n m : Nat} {ks : List Str} {g : {α : Type} → List α → List α → List α} (F : FunD K x qual params body scope [] kws f fd)
    (hg : ∀ {α : Type} (us ws : List α), (g us ws).length = ps.length → us.length = n ∧ ws.length = m)
    (hrel : ∀ {vs : List V} {us : List Value} {zs : List V} {ws : List Value}, Vals vs us → Vals zs ws → Vals (g vs zs) (g us ws))
    (h : ∀ (kV doc pm : Value) (an : Option Addr) (cdv ct : Value) (us ws : List Value), us.length = n → ws.length = m → bindArgs (PySem.W.fnOf x qual params body scope .none kV doc pm an cdv ct) ⟨us, ks.zip ws⟩ = pure (ps.zip (g us ws))) :
    KBinds K fd ps ks (fun us ws => g us ws) (fun us ws => g us ws) := by
  obtain ⟨oc, od, dV, kV, doc, pm, an, cdv, ct, osl, rfl, lk, hcd, hD, hK⟩ := F.ex
  rcases hD with ⟨_, rfl⟩ | ⟨e, _⟩
  · refine ⟨fun s us ws _ hl => ?_, hrel⟩
    obtain ⟨h1, h2⟩ := hg us ws hl
    exact .of_eq (h kV doc pm an cdv ct us ws h1 h2)
  · exact absurd rfl e
end
end LL

namespace LL
open PySem PySem.Spec PyProof.Rows L2
/-! ### instances of own classes as isinstance sees them -/
def insB (K : PySem.W.Frag) (C : Addr) : Bool := decide (PySem.W.findIn K (.ref C) "__class__" = some (some (.builtin "object.__class__"))) &&
  (decide (PySem.W.specialIn K (.builtin "object.__class__") "__get__" = some (some (.builtin "getset_descriptor.__get__"))) &&
  (decide (PySem.W.takesIn K (.builtin "object.__class__") = some true) && decide (PySem.W.mroIn K C (.type "object") = some true)))
def kitIs (K : PySem.W.Frag) (C : Addr) (n : String) (b : Bool) : Bool := decide (PySem.W.kitOne K (.ref C) (.type n) = some b)
theorem kitIs_ok {K : PySem.W.Frag} {C : Addr} {n : String} {b : Bool} (h : kitIs K C n b = true) : PySem.W.kitOne K (.ref C) (.type n) = some b := of_decide_eq_true h
theorem tyx_ins {K : PySem.W.Frag} {H : Hp} {a C dx : Addr} {fs : List (Str × V)} (c : Cls K C) (h : insB K C = true) (e : H a = some (.ins C dx fs)) : TyX K H (.ref a) (.ref C) := by
  obtain ⟨h1, h⟩ := Bool.and_eq_true_iff.mp h
  obtain ⟨h2, h⟩ := Bool.and_eq_true_iff.mp h
  obtain ⟨h3, h4⟩ := Bool.and_eq_true_iff.mp h
  exact .base (.ins e c (of_decide_eq_true h1) (of_decide_eq_true h2) (of_decide_eq_true h3) (of_decide_eq_true h4))
/-- x changes, all else stays -/
def But (x : Addr) (H H' : Hp) : Prop := ∀ a o, a ≠ x → H a = some o → H' a = some o
theorem But.refl (x : Addr) (H : Hp) : But x H H := fun _ _ _ h => h
theorem But.same {x : Addr} {H H1 H2 : Hp} (h : But x H H1) (s : Same H1 H2) : But x H H2 := fun a o n e => s a o (h a o n e)
theorem But.upd {x : Addr} {H H' : Hp} {o : HO} (h : But x H H') : But x H (upd H' x o) := fun a u n e => by
  rw [upd_ne n]
  exact h a u n e
theorem But.new {x p : Addr} {H H' : Hp} {o : HO} (h : But x H H') (n : H' p = none) : But x H (L2.upd H' p o) := fun a u na e => by
  rw [upd_ne (ne_of_none (h a u na e) n)]
  exact h a u na e
end LL

namespace LL
open PySem PySem.Spec PyProof.Rows L2
/-! ### how many attributes -/
theorem fl0 : ([] : List (Str × V)).length ≤ 0 := Nat.le_refl _
theorem flS {f : Str} {v : V} : ∀ {fs : List (Str × V)} {n : Nat}, fs.length ≤ n → (putF f v fs).length ≤ n + 1
  | [], n, _ => Nat.succ_le_succ (Nat.zero_le _)
  | (g, u) :: fs, 0, h => absurd h (by simp)
  | (g, u) :: fs, n + 1, h => by
    unfold putF
    split
    · exact Nat.le_succ_of_le h
    · exact Nat.succ_le_succ (flS (Nat.le_of_succ_le_succ h))
theorem fl_lt {fs : List (Str × V)} {n : Nat} (h : fs.length ≤ n) (hn : n < 1000 := by decide) : fs.length < 1000 := Nat.lt_of_le_of_lt h hn
end LL

namespace LL
open PySem PySem.Spec PyProof.Rows L2
/-! ### comprehensions with a test -/
section
variable {J : It} {n : Nat} {G : Hp → Prop} {Y : Nat → Hp → V → Hp → Prop} {g : TG} {tt : TT} {te : TE} {vs : List Nat} {σ : L2.St} {H1 : Hp} {D : Addr} {Qd : Hp → Prop}
theorem lc_filt (w : Walk J n G Y) (p : Nat → Bool) (f : Nat → V) (hn : n ≤ 1000000) (hD : H1 D = none) (hG : ∀ H, Same H1 H → G H)
    (hs : ∀ (i : Nat) (x : V) (H H' : Hp) (A : VK) (B : Hp → Prop), i < n → Same H1 H → Y i H x H' → (∀ H4, Same H H4 → p i = true → A (f i) H4) → (∀ H4, Same H H4 → p i = false → B H4) →
      g x (wipe σ vs) H' fun σ2 H2 => wipe σ2 vs = wipe σ vs ∧ tt σ2 H2 fun b H3 => if b = true then te σ2 H3 A else B H3)
    (hd : ∀ H, Same H1 H → H D = some (.lst (((List.range n).filter p).map f)) → Qd H) :
    ∃ W : Nat → Nat → Hp → Prop, (∃ m, W 0 m (upd H1 D (.lst []))) ∧ ∀ i m H, W i m H →
      (J.stop i H ∧ Qd H) ∨ (J.go i H ∧ ∃ Nx : Hp → Prop, (∀ H', Nx H' → ∃ m', m' < m ∧ W (i + 1) m' H') ∧ ∀ x H', J.yld i H x H' → g x (wipe σ vs) H' fun σ2 H2 => wipe σ2 vs = wipe σ vs ∧ tt σ2 H2 fun b H3 =>
        if b = true then te σ2 H3 fun y H4 => ∃ acc, H4 D = some (.lst acc) ∧ acc.length < sizeLine ∧ Nx (upd H4 D (.lst (acc ++ [y]))) else Nx H3) := by
  refine lc_it w (fun i H => Same H1 H ∧ H D = some (.lst (((List.range i).filter p).map f))) ⟨same_upd hD, upd_same⟩ (fun i H _ q => hG H q.1) ?_ (fun H q => hd H q.1 q.2)
  rintro i x H H' hi ⟨s1, hL⟩ hy
  refine hs i x H H' _ _ hi s1 hy (fun H4 s4 hp => ⟨_, s4 _ _ hL, ?_, ?_, ?_⟩) fun H4 s4 hp => ⟨s1.trans s4, ?_⟩
  · rw [List.length_map]
    have q := List.length_filter_le p (List.range i)
    rw [List.length_range] at q
    exact Nat.lt_of_le_of_lt q (Nat.lt_of_lt_of_le (Nat.lt_of_lt_of_le hi hn) (by decide))
  · intro a o e
    rw [upd_ne (ne_of_none e hD)]
    exact s4 _ _ (s1 _ _ e)
  · rw [upd_same, List.range_succ, List.filter_append, List.map_append, List.filter_cons, if_pos hp]
    rfl
  · rw [List.range_succ, List.filter_append, List.map_append, List.filter_cons, if_neg (by rw [hp]; decide)]
    rw [s4 _ _ hL]
    simp
end
theorem range_get {α : Type} (d : α) : ∀ l : List α, (List.range l.length).map (fun i => l[i]?.getD d) = l := by
  intro l
  refine List.ext_getElem? fun i => ?_
  rw [List.getElem?_map]
  by_cases h : i < l.length
  · rw [List.getElem?_range h, List.getElem?_eq_getElem h]
    simp [List.getElem?_eq_getElem h]
  · rw [List.getElem?_eq_none (by rw [List.length_range]; omega), List.getElem?_eq_none (by omega)]
    rfl
theorem filt_get {α β : Type} (d : α) (q : α → Bool) (g : α → β) (l : List α) : (((List.range l.length).filter fun i => q (l[i]?.getD d)).map fun i => g (l[i]?.getD d)) = (l.filter q).map g := by
  have h := range_get d l
  have e : (l.filter q) = (((List.range l.length).map fun i => l[i]?.getD d).filter q) := by rw [h]
  rw [e, List.filter_map, List.map_map]
  rfl
theorem map_get {α β : Type} (d : α) (g : α → β) (l : List α) : ((List.range l.length).map fun i => g (l[i]?.getD d)) = l.map g := by
  have h := range_get d l
  have e : l.map g = ((List.range l.length).map fun i => l[i]?.getD d).map g := by rw [h]
  rw [e, List.map_map]
  rfl
/-! ### texts -/
theorem joinL_mem {S : List Nat} : ∀ {ps : List (List Nat)} {c : Nat}, c ∈ TL.joinL S ps → c ∈ S ∨ ∃ p ∈ ps, c ∈ p
  | [], c, h => by cases h
  | [p], c, h => .inr ⟨p, List.mem_singleton.mpr rfl, h⟩
  | p :: q :: r, c, h => by
    rcases List.mem_append.mp (show c ∈ p ++ (S ++ TL.joinL S (q :: r)) from h) with h | h
    · exact .inr ⟨p, List.mem_cons_self, h⟩
    · rcases List.mem_append.mp h with h | h
      · exact .inl h
      · rcases joinL_mem h with h | ⟨p', h1, h2⟩
        · exact .inl h
        · exact .inr ⟨p', List.mem_cons_of_mem _ h1, h2⟩
theorem joinL_len {S : List Nat} (k : Nat) : ∀ {ps : List (List Nat)}, (∀ p ∈ ps, p.length ≤ k) → (TL.joinL S ps).length ≤ ps.length * (k + S.length)
  | [], _ => Nat.zero_le _
  | [p], h => by
    have := h p (List.mem_singleton.mpr rfl)
    show p.length ≤ 1 * (k + S.length)
    omega
  | p :: q :: r, h => by
    have h1 := h p List.mem_cons_self
    have h2 := joinL_len (S := S) k (ps := q :: r) fun x hx => h x (List.mem_cons_of_mem _ hx)
    show (p ++ (S ++ TL.joinL S (q :: r))).length ≤ (q :: r).length.succ * (k + S.length)
    rw [List.length_append, List.length_append, Nat.succ_mul]
    omega
/-- all signs of a text -/
def Sg (P : Nat → Prop) (z : Str) : Prop := ∀ c ∈ z.cps.toList, P c
theorem str_len (z : Str) : z.length = z.cps.toList.length := by simp [Str.length]
theorem sg_append {P : Nat → Prop} {a b : Str} (ha : Sg P a) (hb : Sg P b) : Sg P (a ++ b) := by
  intro c hc
  have e : (a ++ b).cps.toList = a.cps.toList ++ b.cps.toList := TL.tl_append a b
  rw [e] at hc
  rcases List.mem_append.mp hc with h | h
  · exact ha c h
  · exact hb c h
theorem len_append (a b : Str) : (a ++ b).length = a.length + b.length := by
  have e : (a ++ b).cps.toList = a.cps.toList ++ b.cps.toList := TL.tl_append a b
  rw [str_len, str_len, str_len, e, List.length_append]
theorem sg_cut {P : Nat → Prop} {a : Str} (ha : Sg P a) (lo hi : Option Int) : Sg P (cutS a lo hi) := by
  intro c hc
  have e : (cutS a lo hi).cps.toList = (a.cps.toList.drop (HT.sIx a.length 0 lo)).take (HT.sIx a.length a.length hi - HT.sIx a.length 0 lo) := by
    unfold cutS
    simp
  rw [e] at hc
  exact ha c (List.mem_of_mem_drop (List.mem_of_mem_take hc))
theorem len_cut (a : Str) (lo hi : Option Int) : (cutS a lo hi).length ≤ a.length := by
  have e : (cutS a lo hi).cps.toList = (a.cps.toList.drop (HT.sIx a.length 0 lo)).take (HT.sIx a.length a.length hi - HT.sIx a.length 0 lo) := by
    unfold cutS
    simp
  rw [str_len, e, List.length_take, List.length_drop, ← str_len]
  omega
theorem sg_ok {z : Str} (h : Sg (fun c => c < 128) z) : PyData.strOk z = true := by
  unfold PyData.strOk
  rw [← Array.all_toList]
  rw [List.all_eq_true]
  intro c hc
  exact decide_eq_true (Nat.lt_of_lt_of_le (h c hc) (by decide))
/-- a list of one-sign texts, joined with nothing between -/
theorem join_signs {ys : List V} {P : Nat → Prop} (h : ∀ y ∈ ys, ∃ c, y = V.str ⟨#[c]⟩ ∧ P c) : ∃ zs : List Str, ys = zs.map V.str ∧ (zs.map (·.length)).sum = zs.length ∧ (Txt.join "" zs).length ≤ zs.length ∧ Sg P (Txt.join "" zs) := by
  have h1 : ∃ cs : List Nat, ys = (cs.map fun c => (⟨#[c]⟩ : Str)).map V.str ∧ ∀ c ∈ cs, P c := by
    induction ys with
    | nil => exact ⟨[], rfl, fun _ q => nomatch q⟩
    | cons y ys ih =>
      obtain ⟨cs, e, hp⟩ := ih fun z hz => h z (List.mem_cons_of_mem _ hz)
      obtain ⟨c, rfl, pc⟩ := h y List.mem_cons_self
      refine ⟨c :: cs, by rw [e]; rfl, fun d hd => ?_⟩
      rcases List.mem_cons.mp hd with hd | hd
      · rw [hd]
        exact pc
      · exact hp d hd
  obtain ⟨cs, e, hp⟩ := h1
  have et : TL.tl (Txt.join "" (cs.map fun c => (⟨#[c]⟩ : Str))) = TL.joinL [] (cs.map fun c => [c]) := by
    rw [TL.join_eq, TL.tl_join, List.map_map]
    rfl
  refine ⟨_, e, ?_, ?_, ?_⟩
  · rw [List.map_map, List.length_map]
    clear e hp et
    induction cs with
    | nil => rfl
    | cons c cs ih =>
      rw [List.map_cons, List.sum_cons, ih]
      show 1 + cs.length = cs.length + 1
      omega
  · rw [str_len]
    show (TL.tl (Txt.join "" (cs.map fun c => (⟨#[c]⟩ : Str)))).length ≤ _
    rw [et]
    have q := joinL_len (S := []) 1 (ps := cs.map fun c => [c]) (by
      intro p hp
      obtain ⟨c, _, e⟩ := List.mem_map.mp hp
      rw [← e]
      exact Nat.le_refl _)
    rw [List.length_map] at q ⊢
    simpa using q
  · intro c hc
    have hc2 : c ∈ TL.joinL [] (cs.map fun c => [c]) := by
      rw [← et]
      exact hc
    rcases joinL_mem hc2 with h | ⟨p, h1, h2⟩
    · cases h
    · obtain ⟨d, hd, e⟩ := List.mem_map.mp h1
      rw [← e] at h2
      rw [List.mem_singleton.mp h2]
      exact hp d hd
end LL

namespace LL
open PySem PySem.Spec PyProof.Rows L2
theorem eqv_nil (ds : List PyData) : PyData.eqv (.list ds) (.list []) = ds.isEmpty := by
  cases ds <;> simp [PyData.eqv, PyData.eqvAll]
theorem shaped_strs {ss : List Str} (h : ∀ z ∈ ss, PyData.strOk z = true) : SeqAt.shaped (.list (ss.map .str)) = true := by
  have h1 : ss.all PyData.strOk = true := List.all_eq_true.mpr h
  simp [SeqAt.shaped, PyData.canLay0, PyProof.Rows.canLayAll_strs', PyData.depth, PyProof.Rows.depthAll_strs', h1]
theorem dpAll_strs {K : PySem.W.Frag} {H : Hp} : ∀ ss : List Str, DpAll K H (ss.map V.str) (ss.map PyData.str)
  | [] => .nil
  | z :: ss => .cons (.str z) (dpAll_strs ss)
theorem get_int {ns : List Int} {j : Nat} {v : V} (h : (ns.map V.int)[j]? = some v) : ∃ i, v = .int i := by
  rw [List.getElem?_map] at h
  cases q : ns[j]? with
  | none =>
    rw [q] at h
    cases h
  | some i =>
    rw [q] at h
    exact ⟨i, (Option.some.inj h).symm⟩
theorem get_str {ss : List Str} {j : Nat} {v : V} (h : (ss.map V.str)[j]? = some v) : ∃ z ∈ ss, v = .str z := by
  rw [List.getElem?_map] at h
  cases q : ss[j]? with
  | none =>
    rw [q] at h
    cases h
  | some z =>
    rw [q] at h
    exact ⟨z, List.mem_of_getElem? q, (Option.some.inj h).symm⟩
theorem tyx_kp {K : PySem.W.Frag} {H H' : Hp} {b : Addr} {x : V} {t : Value} (k : Kp b H H') (B : Bag H b) (h : TyX K H x t) : TyX K H' x t := by
  obtain ⟨l, ns, i, r, m, c, hb, hl⟩ := B
  obtain ⟨ns', i', r', m', c', hb', hl'⟩ := k.2 l ⟨ns, i, r, m, c, hb, hl⟩
  have at_ : ∀ {a : Addr} {o : HO}, H a = some o → (∀ xs, o ≠ .lst xs) → H' a = some o := fun {a o} e no => k.1 a o (fun z => by
    subst z
    rw [hb] at e
    exact no _ (Option.some.inj e).symm) e
  cases h with
  | base h =>
    cases h with
    | non => exact .base .non
    | bl b => exact .base (.bl b)
    | int i => exact .base (.int i)
    | str z => exact .base (.str z)
    | flt z => exact .base (.flt z)
    | @lst a xs e =>
      by_cases hab : a = b
      · rw [hab]
        exact .base (.lst hb')
      · exact .base (.lst (k.1 _ _ hab e))
    | frz e => exact .base (.frz (at_ e (fun _ q => nomatch q)))
    | tup e => exact .base (.tup (at_ e (fun _ q => nomatch q)))
    | dK e => exact .base (.dK (at_ e (fun _ q => nomatch q)))
    | dT e => exact .base (.dT (at_ e (fun _ q => nomatch q)))
    | ins e c a b d f => exact .base (.ins (at_ e (fun _ q => nomatch q)) c a b d f)
  | byt b => exact .byt b
  | set e => exact .set (at_ e (fun _ q => nomatch q))
  | kList e c => exact .kList e c
  | kTuple e c => exact .kTuple e c
  | kDict e c => exact .kDict e c
  | fTuple e => exact .fTuple (at_ e (fun _ q => nomatch q))
  | fDict e => exact .fDict (at_ e (fun _ q => nomatch q))
/-! ### displays whose items are such that P -/
section
variable {P : V → Hp → Prop} {σ : L2.St} {H0 : Hp} {te : TE} {ta : TA} {n : Nat}
def VO (P : V → Hp → Prop) (te : TE) (σ : L2.St) (H0 : Hp) : Prop := ∀ H, Same H0 H → ∀ Q : VK, (∀ v H', Same H H' → P v H' → Q v H') → te σ H Q
def AO (n : Nat) (P : V → Hp → Prop) (ta : TA) (σ : L2.St) (H0 : Hp) : Prop := ∀ H, Same H0 H → ∀ Q : List V → Hp → Prop, (∀ vs H', Same H H' → vs.length = n → (∀ v ∈ vs, P v H') → Q vs H') → ta σ H Q
theorem vo_c {v : V} (h : ∀ H, P v H) : VO P (tC v) σ H0 := fun H _ Q k => k v H (Same.refl H) (h H)
theorem vo_var {i : Nat} {v : V} (hs : σ[i]? = some (some v)) (h : ∀ H, Same H0 H → P v H) : VO P (tVar i) σ H0 := fun H s Q k => ⟨v, hs, k v H (Same.refl H) (h H s)⟩
theorem ao_nil : AO 0 P tNil σ H0 := fun H _ Q k => k [] H (Same.refl H) rfl fun _ q => nomatch q
theorem ao_cons (hP : ∀ v H H', Same H H' → P v H → P v H') (h : VO P te σ H0) (hr : AO n P ta σ H0) : AO (n + 1) P (tCons te ta) σ H0 := fun H s Q k =>
  h H s _ fun v H1 s1 p1 => hr H1 (s.trans s1) _ fun vs H2 s2 l2 p2 => k (v :: vs) H2 (s1.trans s2) (congrArg Nat.succ l2) fun u hu => by
    rcases List.mem_cons.mp hu with hu | hu
    · rw [hu]
      exact hP v H1 H2 s2 p1
    · exact p2 u hu
theorem vo_lst {P' : V → Hp → Prop} (h : AO n P' ta σ H0) (hP : ∀ p H xs, H p = some (.lst xs) → P (.ref p) H) (hn : n ≤ 1000 := by decide) : VO P (tLst ta) σ H0 := fun H s Q k =>
  h H s _ fun vs H1 s1 l1 _ => ⟨by rw [l1]; exact Nat.le_trans hn (by decide), fun p np => k (.ref p) _ (same_upd2 s1 np) (hP p _ vs upd_same)⟩
theorem vo_tup {P' : V → Hp → Prop} (h : AO n P' ta σ H0) (hP : ∀ p H xs, H p = some (.tup xs) → P (.ref p) H) (hn : n ≤ 1000 := by decide) : VO P (tTup ta) σ H0 := fun H s Q k =>
  h H s _ fun vs H1 s1 l1 _ => ⟨by rw [l1]; exact Nat.le_trans hn (by decide), fun p np => k (.ref p) _ (same_upd2 s1 np) (hP p _ vs upd_same)⟩
end
/-- any value -/
def AnyV : V → Hp → Prop := fun _ _ => True
theorem anyS : ∀ v H H', Same H H' → AnyV v H → AnyV v H' := fun _ _ _ _ _ => True.intro
end LL

namespace LL
open PySem PySem.Spec PyProof.Rows L2
/-- a list display as the last argument -/
theorem arg_lst {P : V → Hp → Prop} {σ : L2.St} {H0 H : Hp} {ta : TA} {n : Nat} {Q : List V → Hp → Prop} (h : AO n P ta σ H0) (s : Same H0 H) (hn : n ≤ 1000000)
    (k : ∀ (vs : List V) (p : Addr) (H' : Hp), Same H H' → H' p = none → vs.length = n → (∀ v ∈ vs, P v H') → Q [.ref p] (upd H' p (.lst vs))) : tCons (tLst ta) tNil σ H Q :=
  h H s _ fun vs H1 s1 l1 p1 => ⟨by rw [l1]; exact Nat.le_trans hn (by decide), fun p np => k vs p H1 s1 np l1 p1⟩
end LL

namespace LL
open PySem PySem.Spec PyProof.Rows L2
theorem fd_one {K : PySem.W.Frag} {x qual : Str} {params : Arguments} {body : List Stmt} {scope : Scope} {dvs : List V} {kws : List (Str × V)} {f : Addr} {fd fd' : FuncData} (F : FunD K x qual params body scope dvs kws f fd) (F' : FunD K x qual params body scope dvs kws f fd') : fd = fd' := by
  obtain ⟨_, _, _, _, _, _, _, _, _, _, _, e, _⟩ := F.ex
  obtain ⟨_, _, _, _, _, _, _, _, _, _, _, e', _⟩ := F'.ex
  rw [e] at e'
  injection e' with e'
  injection e' with _ _ e' _
  injection e'
end LL

/-! Own lemmas: a set of texts made of a list, and sorted. -/
namespace LT
open PySem PySem.Spec PyProof.Rows L2 PySem.Froz
/-- the set as it is made -/
abbrev newS (w : World) : Obj := { cls := .type "set", dict := none, data := .set #[] 0 (.fresh 0 0 (!w.params.followText "set-order")) }
/-- a set object whose members are the texts l, each once -/
def SetX (P : Program) (w : World) (h : Heap) (a : Addr) (l : List Str) : Prop :=
  ∃ D : SD, h.get? a = some (sObj "set" D) ∧ TxOk P w D l ∧ Ris D.2.2.place.toList ∧ (w.params.followText "set-order" = true ∨ D.2.2.led = true) ∧ l.Nodup
section
variable {P : Program} {w : World} {A : Around} {E : Value → Shared → Prop} {s : Shared} {h h' : Heap} {a : Addr} {l : List Str} {k : Str} {u : Tok}
theorem SetX.move (R : SetX P w h a l) (q : ∀ o, h.get? a = some o → h'.get? a = some o) : SetX P w h' a l := by
  obtain ⟨D, e, r⟩ := R
  exact ⟨D, q _ e, r⟩
theorem tail_ris {ep : Nat} {es : Array (Int × Value)} {t : SetTable} {b : Bool} (hr : Ris t.place.toList) : Ris (tailTx ep es t b).2.2.place.toList := by
  unfold tailTx
  split
  · exact relayAll_ris t es _
  · exact hr
theorem tail_led {ep : Nat} {es : Array (Int × Value)} {t : SetTable} {b : Bool} : (tailTx ep es t b).2.2.led = t.led := by
  unfold tailTx
  split
  · exact relayAll_led t es _
  · rfl
theorem addTx_ris {D : SD} {z : Int} {v : Value} (hr : Ris D.2.2.place.toList) : Ris (addTx z v D).2.2.place.toList := by
  unfold addTx
  refine tail_ris ?_
  have q := layNew_ris D.2.2 D.1 z v hr
  split <;> exact q
theorem addTx_led {D : SD} {z : Int} {v : Value} : (addTx z v D).2.2.led = D.2.2.led := by
  unfold addTx
  rw [tail_led]
  have q := layNew_led D.2.2 D.1 z v
  split <;> exact q
theorem setX_new (e : h.get? a = some (newS w)) : SetX P w h a [] := by
  refine ⟨(#[], 0, _), e, TxOk.nil (by rfl), List.Pairwise.nil, ?_, List.nodup_nil⟩
  show _ ∨ (!w.params.followText "set-order") = true
  cases w.params.followText "set-order" <;> simp
/-- a text that is in the set already -/
theorem add_in {D : SD} {Q : Bool → Shared → Prop} (ho : s.heap.get? a = some (sObj "set" D)) (F : TxOk P w D l) (hk : k ∈ l) (hb : l.length < scanBound) (hq : Q false s) :
    wpAny (model P w) A (setAddHashed a (.str k u) (hashStr w k)) Q E s := by
  obtain ⟨es, ep, t⟩ := D
  have d1 : (sObj "set" (es, ep, t)).data = .set es ep t := rfl
  have d2 : t.fits es.size = true := F.fit
  have d3 : ElemsOf (strKind P w) es.toList := F.el
  have d4 : es.size < scanBound := by
    have z : es.size = l.length := F.sz
    omega
  have d5 : (strKind P w).is k (.str k u) = true := is_str k u
  have d6 : ∃ j, List.findIdx? (fun e => (strKind P w).is k e.2) es.toList = some j := by
    cases hr : List.findIdx? (fun e => (strKind P w).is k e.2) es.toList with
    | some j => exact ⟨j, rfl⟩
    | none =>
      obtain ⟨e, he, q⟩ := (F.mem k).mp hk
      have c := List.findIdx?_eq_none_iff.mp hr e he
      rw [q] at c
      cases c
  obtain ⟨j, hj⟩ := d6
  unfold setAddHashed setAddHashedIn
  refine wpAny_holding (wpAny_bind (wpAny_setState_of ho d1 d2 ?_))
  dsimp only
  rw [byScan_of (x := Value.str k u) rfl d4 d3]
  simp only [↓reduceIte]
  unfold setAddByScan
  refine wpAny_bind (wpAny_bind (wpAny_rule (wpAny_bind (wpAny_setScan_of (knd := strKind P w) (k := k) d5 ho d1 d2 d3 ?_))))
  rw [hj]
  dsimp only
  exact wpAny_pure (wpAny_pure hq)
/-- the list behind the add of one more text -/
def ins (k : Str) (l : List Str) : List Str := if k ∈ l then l else k :: l
theorem mem_ins {j : Str} : j ∈ ins k l ↔ j ∈ l ∨ j = k := by
  unfold ins
  split
  · rename_i q
    exact ⟨.inl, fun z => z.elim id fun e => e ▸ q⟩
  · rw [List.mem_cons]
    exact Or.comm
theorem len_ins : (ins k l).length ≤ l.length + 1 := by
  unfold ins
  split <;> simp
theorem setX_add {Q : Bool → Shared → Prop} (R : SetX P w s.heap a l) (hb : l.length + 1 < scanBound)
    (hq : ∀ b h', Heap.SameBut a s.heap h' → SetX P w h' a (ins k l) → Q b { s with heap := h' }) : wpAny (model P w) A (setAddHashed a (.str k u) (hashStr w k)) Q E s := by
  obtain ⟨D, e, F, r, z, nd⟩ := R
  by_cases hk : k ∈ l
  · refine add_in e F hk (by omega) ?_
    have q : ins k l = l := if_pos hk
    exact hq false s.heap (Heap.SameBut.refl a s.heap) (by rw [q]; exact ⟨D, e, F, r, z, nd⟩)
  · refine add_x e F hk hb ?_
    have q : ins k l = k :: l := if_neg hk
    refine hq true _ ⟨?_, fun b hb => ?_⟩ (by
      rw [q]
      exact ⟨_, get_upd _ e rfl, add_ok u F, addTx_ris r, z.imp id (fun z => by rw [addTx_led]; exact z), List.nodup_cons.mpr ⟨hk, nd⟩⟩)
    · show (s.heap.update a _).objs.size = _
      rw [Heap.size_after_update]
    · exact Heap.get?_update_ne _ _ _ _ hb
/-- the texts of a row, put in one after the other -/
def insAll : List Str → List Str → List Str
  | [], l => l
  | k :: ks, l => insAll ks (ins k l)
theorem mem_insAll : ∀ (ks l : List Str) (j : Str), j ∈ insAll ks l ↔ j ∈ l ∨ j ∈ ks
  | [], l, j => by simp [insAll]
  | k :: ks, l, j => by
    rw [insAll, mem_insAll ks, mem_ins, List.mem_cons, or_assoc]
theorem len_insAll : ∀ (ks l : List Str), (insAll ks l).length ≤ l.length + ks.length
  | [], l => by simp [insAll]
  | k :: ks, l => by
    rw [insAll, List.length_cons]
    have h1 := len_insAll ks (ins k l)
    have h2 := len_ins (k := k) (l := l)
    omega
theorem str_at : ∀ {us : List Value} {xs : List Str}, StrsAre us xs → ∀ (i : Nat) (v : Value), us[i]? = some v → ∃ k t, xs[i]? = some k ∧ v = .str k t
  | _, _, .nil, i, v, e => by simp at e
  | _, _, .cons x t r, 0, v, e => by
    simp at e
    exact ⟨x, t, rfl, e.symm⟩
  | _, _, .cons x t r, i + 1, v, e => by
    obtain ⟨k, t, h1, h2⟩ := str_at r i v (by simpa using e)
    exact ⟨k, t, by simpa using h1, h2⟩

theorem loopX {I : Addr} {fp wr : List Addr} {G : Array GenState → Array GenState → Prop} {n : Nat} {Pv : Nat → Value → Prop} {St : Nat → Shared → Prop} {R : Result → Shared → Prop}
    (W : WalksS P w A.in1 I fp wr G n Pv St) (S : Addr) (hSf : S ∉ fp) (xs : List Str) (hn : n = xs.length) (hv : ∀ i v, Pv i v → ∃ k t, xs[i]? = some k ∧ v = .str k t) :
    ∀ (m i : Nat) (s : Shared) (l : List Str), n - i = m → i ≤ n → St i s → SetX P w s.heap S l → l.length + m + 1 < scanBound →
      (∀ s', Moved (S :: wr) G s s' → SetX P w s'.heap S (insAll (xs.drop i) l) → R (.ok (.ret .none)) s') → codeAny (model P w) A (.builtin "set.update.loop" ⟨[.ref S, .ref I], []⟩) R s := by
  have hw : S ∉ wr := fun z => hSf (W.sub _ z)
  have sub : ∀ b ∈ wr, b ∈ S :: wr := fun b z => List.mem_cons_of_mem _ z
  intro m
  induction m with
  | zero =>
    intro i s l hm hi st hx hb hR
    obtain rfl : i = n := by omega
    refine codeAny_builtin F.entry_set_update_loop ?_
    rw [Around.under_plainId F.plain_set_update_loop _]
    show wpAny _ A.in1 (pyNext (.ref I) >>= _) _ _ s
    refine wpAny_bind (W.done s _ _ st fun s' mv => ?_)
    have e : xs.drop i = [] := List.drop_of_length_le (by omega)
    rw [e] at hR
    exact wpAny_pure (hR s' (mv.mono sub) (hx.move fun o e => mv.heap S o hw e))
  | succ m ih =>
    intro i s l hm hi st hx hb hR
    have hlt : i < n := by omega
    refine codeAny_builtin F.entry_set_update_loop ?_
    rw [Around.under_plainId F.plain_set_update_loop _]
    show wpAny _ A.in1 (pyNext (.ref I) >>= _) _ _ s
    refine wpAny_bind (W.item i s _ _ hlt st fun v s1 hP st1 mv => ?_)
    obtain ⟨z, t, hz, rfl⟩ := hv i v hP
    have x1 : SetX P w s1.heap S l := hx.move fun o e => mv.heap S o hw e
    show wpAny _ A.in1 (holding [Value.str z t] (setAdd S (.str z t)) >>= _) _ _ s1
    refine wpAny_bind (wpAny_holding ?_)
    unfold setAdd
    refine wpAny_holding (wpAny_bind ((strKind P w).pyHash (k := z) (is_str z t) ?_))
    refine setX_add (s := { s1 with toks := s1.toks + 1 }) x1 (by omega) fun b h' sb x2 => ?_
    have hl := len_ins (k := z) (l := l)
    have ed : xs.drop i = z :: xs.drop (i + 1) := by
      have hi2 : i < xs.length := by omega
      rw [List.drop_eq_getElem_cons hi2]
      rw [List.getElem?_eq_getElem hi2] at hz
      rw [Option.some.inj hz]
    refine wpAny_pure ⟨plainId_quiet F.plain_set_update_loop _, ih (i + 1) _ _ (by omega) hlt (W.frame _ s1 _ _ st1 (Nat.le_succ _) fun b hb o e => ?_) x2 (by omega) fun s2 mv2 x3 => ?_⟩
    · rw [sb.2 b (fun z : b = S => hSf (z ▸ hb))]
      exact e
    · refine hR s2 (Moved.trans W.gtrans ((mv.mono sub).then_heap (Nat.le_succ _) fun b o hb e => ?_) mv2) (by rw [ed]; exact x3)
      rw [sb.2 b (fun z : b = S => hb (by rw [z]; exact List.mem_cons_self))]
      exact e
end

/-! ### set(xs), a list of texts -/
section
variable {P : Program} {w : World} {A : Around} {E : Value → Shared → Prop} {s : Shared}
/-- the shared state with the new set -/
abbrev withS (w : World) (s : Shared) : Shared := { s with heap := s.heap.push (newS w) }
theorem call_setX {src : Addr} {items : Array Value} (xs : List Str) {Q : Value → Shared → Prop} (hh : A.handled = none) (hl : s.heap.IsList src items) (hit : StrsAre items.toList xs) (hb : xs.length + 1 < scanBound)
    (hq : ∀ (h' : Heap) (tk : Nat), SetX P w h' s.heap.objs.size (insAll xs []) → (∀ b o, s.heap.get? b = some o → h'.get? b = some o) → Q (.ref s.heap.objs.size) { s with heap := h', toks := tk }) :
    wpAny (model P w) A (call (.type "set") [.ref src]) Q E s := by
  have size : items.size = xs.length := by
    rw [← StrsAre.len_eq hit, Array.length_toList]
  obtain ⟨c, tl, hmro⟩ := F.called_set.mro
  have hmade := F.called_set.made
  have hsub := F.called_set.sub
  refine wpAny_call (codeAny_of_tree ?_)
  show wpAny _ _ (callAny (.type "set") _) _ _ _
  refine wpAny_pure ⟨Code.quiet_builtin _ (by decide +kernel), codeAny_builtin F.entry_type_call ?_⟩
  rw [Around.under_plain (weight_type_call_type "set" [.ref src] []) rfl]
  have h1 := F.called_set.notType
  have h2 := F.called_set.canCreate
  have hct := F.typeCall_set_1 (.ref src)
  repeat (any_goals (first | assumption | wp_step))
  refine codeAny_mono (code_set_led1 (.ref src) (E := E) (Q₁ := fun z s₁ => z = .ref s.heap.objs.size ∧ s₁ = withS w s) ⟨rfl, rfl⟩) fun r s₁ hr => ?_
  rcases r with e | f
  · exact hr
  cases f with
  | ret z =>
    obtain ⟨rfl, rfl⟩ := hr
    have at1 : (s.heap.push (newS w)).get? s.heap.objs.size = some (newS w) := Heap.get?_push_size _ rfl
    have ty1 : Shared.TypeIs (withS w s) (.ref s.heap.objs.size) "set" := ⟨_, at1, rfl⟩
    have hli := F.called_set.init.lookup
    have hbi := F.called_set.init.bind (.ref s.heap.objs.size)
    repeat (any_goals (first | assumption | wp_step))
    refine codeAny_mono (codeAny_call_builtin (R := wants (fun r s₂ => r = .none ∧ ∃ h' tk, s₂ = { s with heap := h', toks := tk } ∧ SetX P w h' s.heap.objs.size (insAll xs []) ∧ (∀ b o, s.heap.get? b = some o → h'.get? b = some o)) E)
      F.called_set.init.plain F.entry_set_init (check_set_init_1 ty1 ?_)) fun r₂ s₂ hr₂ => ?_
    · obtain ⟨ol, hol, hcl, nl, hdl⟩ := hl
      obtain ⟨k1, k2, k3, k4⟩ := ol
      simp only at hcl hdl
      subst hcl hdl
      have hol' : (s.heap.push (newS w)).get? src = some { cls := .type "list", dict := k2, data := .seq items nl, slots := k4 } := Heap.get?_push_of_some _ hol
      have hsls := F.sub_list_set
      have hslf := F.sub_list_frozenset
      have hne : (Value.type "list" == Value.type "dict") = false := by decide
      have il : (s.heap.push (newS w)).IsList src items := ⟨_, hol', rfl, nl, rfl⟩
      unfold Builtin.«set.__init__» noKeywords Builtin.Frozenset.updateFrom
      generalize hPI : pyIter = PI
      wp_walk
      subst hPI
      refine wpAny_pyIter_list il ?_
      refine wpAny_bind (wpAny_runValue ?_)
      have lt1 : src < s.heap.objs.size := Heap.lt_size hol
      have hd3 : A.in1.in1.in1.handled = none := by simp [hh]
      have ne1 : src ≠ (s.heap.push (newS w)).objs.size := by
        rw [Heap.size_push]
        exact Nat.ne_of_lt (Nat.lt_succ_of_lt lt1)
      have nf : s.heap.objs.size ∉ [(s.heap.push (newS w)).objs.size, src] := by
        rw [Heap.size_push]
        simp only [List.mem_cons, List.mem_singleton, List.not_mem_nil, or_false, not_or]
        exact ⟨Nat.ne_of_lt (Nat.lt_succ_self _), Nat.ne_of_gt lt1⟩
      refine loopX ((Walks.list hd3 _ src ne1 items).toS) s.heap.objs.size nf xs size (fun i v hv => str_at hit i v (by rw [Array.getElem?_toList]; exact hv)) (items.size - 0) 0 _ [] (by omega) (Nat.zero_le _)
        ⟨⟨_, Heap.get?_push_size _ rfl, rfl, rfl⟩, (il.push _)⟩ ?_ ?_ ?_
      · exact setX_new (Heap.get?_push_of_some _ at1)
      · rw [List.length_nil]
        omega
      · intro s' mv hx
        obtain ⟨h', g', d', tk', os'⟩ := s'
        have eg : g' = s.gens := mv.gens
        have ed : d' = s.drawn := mv.drawn
        have eo : os' = s.os := mv.os
        subst eg ed eo
        show wpAny _ _ _ _ _ _
        refine wpAny_pure ?_
        show wpAny _ _ (ret Value.none) _ _ _
        refine wpAny_pure ⟨rfl, h', tk', rfl, hx, fun b o e => ?_⟩
        have b0 : b < s.heap.objs.size := Heap.lt_size e
        have b2 : b ≠ (s.heap.push (newS w)).objs.size := by
          rw [Heap.size_push]
          exact Nat.ne_of_lt (Nat.lt_succ_of_lt b0)
        exact mv.heap b o (by simp only [List.mem_cons, List.mem_singleton, List.not_mem_nil, or_false, not_or]; exact ⟨Nat.ne_of_lt b0, b2⟩) (Heap.get?_push_of_some _ (Heap.get?_push_of_some _ e))
    · rcases r₂ with e2 | f2
      · exact hr₂
      cases f2 with
      | ret r =>
        obtain ⟨rfl, h', tk, rfl, hx, hk⟩ := hr₂
        repeat (any_goals (first | assumption | wp_step))
        exact hq _ _ hx hk
      | next => exact hr₂.elim
      | brk => exact hr₂.elim
      | cont => exact hr₂.elim
  | next => exact hr.elim
  | brk => exact hr.elim
  | cont => exact hr.elim
end

/-! ### the calls by values -/
def SXO (P : Program) (w : World) (a : Addr) (l : List Str) : HO := .ext fun h => SetX P w h a l
theorem sxo_ok {P : Program} {w : World} {H : Hp} {h : Heap} {a : Addr} {l : List Str} (R : SetX P w h a l) : ObjOk P w H h a (SXO P w a l) := by
  obtain ⟨D, e, r⟩ := id R
  exact ⟨R, ⟨_, e⟩, fun h1 h2 x k => x.move k⟩
section
variable {X : Cx}
/-- set(xs), xs a list of texts -/
def rSetX (K : PySem.W.Frag) (P : Program) (w : World) : List V → Hp → VK → Prop := fun vs H Q => ∃ (a : Addr) (xs : List Str), vs = [.ref a] ∧ SqL K H a (xs.map V.str) ∧ xs.length + 1 < scanBound ∧ ∀ p, H p = none → Q (.ref p) (upd H p (SXO P w p (insAll xs [])))
theorem cr_setX (hc : X.calm = true) : CallR X (.type "set") (rSetX X.K X.prog X.w) := by
  intro pins s σ H vs us Q I r h
  obtain ⟨a, xs, rfl, hs, hb, q⟩ := h
  obtain ⟨its, rv, hl, _⟩ := I.list hs
  rw [Vals.ref1 r]
  refine call_setX xs (I.ok.hd hc) hl.isList rv.strs hb fun h' tk hx hk => ?_
  exact ⟨.ref _, upd H s.heap.objs.size (SXO X.prog X.w s.heap.objs.size (insAll xs [])), I.laid (t' := tk) hk (Nat.le_refl _) (sxo_ok hx), rfl, q _ (I.hok.fresh (Nat.le_refl _))⟩

/-- sorted(a set of texts), fewer than 64 -/
def rSortX (P : Program) (w : World) : List V → Hp → VK → Prop := fun vs H Q => ∃ (a : Addr) (l : List Str), vs = [.ref a] ∧ H a = some (SXO P w a l) ∧ l.length < 64 ∧
  ∀ (ys : List Str) (p : Addr), ys.Perm l → sortedS ys = true → l.Nodup → H p = none → Q (.ref p) (upd H p (.lst (ys.map V.str)))
theorem perm_of_sub {α : Type} [DecidableEq α] : ∀ {l m : List α}, l.Nodup → l ⊆ m → m.length = l.length → m.Perm l
  | [], m, _, _, e => by
    rw [List.eq_nil_of_length_eq_zero e]
  | k :: l, m, nd, sub, e => by
    obtain ⟨n1, n2⟩ := List.nodup_cons.mp nd
    have hk : k ∈ m := sub List.mem_cons_self
    have p := List.perm_cons_erase hk
    have e2 : (m.erase k).length = l.length := by
      have q := p.length_eq
      rw [List.length_cons] at q e
      omega
    refine p.trans ((perm_of_sub n2 (fun j hj => ?_) e2).cons k)
    have ne : j ≠ k := fun z => n1 (z ▸ hj)
    exact (List.mem_erase_of_ne ne).mpr (sub (List.mem_cons_of_mem _ hj))
theorem strs_perm {P : Program} {w : World} {D : SD} {l : List Str} (F : TxOk P w D l) (nd : l.Nodup) {vs : List Value} (pm : vs.Perm (D.1.toList.map (·.2))) : ∃ xs, StrsAre vs xs ∧ xs.Perm l := by
  have h1 : ∀ v ∈ vs, ∃ x t, v = Value.str x t := fun v hv => by
    obtain ⟨e, he, q⟩ := List.mem_map.mp (pm.mem_iff.mp hv)
    obtain ⟨⟨k, hk, _⟩, _⟩ := F.el e he
    obtain ⟨t, z⟩ := Value.isStrOf_shape (x := k) (v := e.2) hk
    exact ⟨k, t, by rw [← q]; exact z⟩
  refine ⟨vs.map strOf, strsAre_map vs h1, ?_⟩
  have h2 : l ⊆ vs.map strOf := fun k hk => by
    obtain ⟨e, he, z⟩ := (F.mem k).mp hk
    obtain ⟨t, z⟩ := Value.isStrOf_shape (x := k) (v := e.2) z
    exact List.mem_map.mpr ⟨e.2, pm.mem_iff.mpr (List.mem_map.mpr ⟨e, he, rfl⟩), by rw [z] <;> rfl⟩
  have h3 : (vs.map strOf).length = l.length := by
    rw [List.length_map, pm.length_eq, List.length_map, Array.length_toList]
    exact F.sz
  exact perm_of_sub nd h2 h3
theorem cr_sortX (hc : X.calm = true) : CallR X (.builtin "sorted") (rSortX X.prog X.w) := by
  intro pins s σ H vs us Q I r h
  obtain ⟨a, l, rfl, ha, h64, q⟩ := h
  obtain ⟨⟨D, e, F, rs, ld, nd⟩, _, _⟩ := I.hok a _ ha
  rw [Vals.ref1 r]
  have len0 : D.1.size = l.length := F.sz
  refine Calls.call_function_entry PyProof.Rows.kind_sorted PyProof.Rows.plain_sorted PyProof.Rows.entry_sorted (PyProof.Rows.args_sorted1 _) ?_
  unfold Builtin.«sorted»
  refine wpAny_bind (m := checkCount "sorted" 1 1 _) (wpAny_pure ?_)
  refine wpAny_bind (collect_set (A := X.A.in1) (I.ok.hd hc) ⟨_, e, rfl, rfl⟩ F.fit (by rw [len0]; unfold scanBound; omega) rs ld fun s1 out k1 hz g1 o1 pm => ?_)
  obtain ⟨xs, hS, px⟩ := strs_perm F nd pm
  have lx : out.length = l.length := by
    rw [StrsAre.len_eq hS, px.length_eq]
  refine wpAny_bind (wpAny_newList ?_ (by rw [lx, sizeLine_eq]; omega))
  have hoL : (s1.heap.push (seqObj "list" out.toArray 0)).get? s1.heap.objs.size = some (seqObj "list" out.toArray 0) := Heap.get?_push_size _ rfl
  refine wpAny_bind (wpAny_holding (wpAny_call_entry PyProof.Rows.slot_list_sort ⟨_, hoL, rfl⟩ PyProof.Rows.entry_list_sort
    (list_sort_treeK strKind_oneLt (s := { s1 with heap := s1.heap.push (seqObj "list" out.toArray 0) }) hoL hS.keysOf (fun v₁ v₂ rest z => keyKind_strs (by rw [← z]; exact hS)) (by rw [lx]; exact h64) fun st' hp hs => ⟨_, rfl, ?_⟩) (PyProof.Rows.args_list_sort _)))
  obtain ⟨ys, p1, p2, p3⟩ := sorted_out_str hS hp hs
  obtain ⟨c, hc2⟩ := PyProof.Rows.sortedHeap_at (vs := out) (out := (arrOf st').map (·.2)) hoL
  have hlen : (ys.map V.str).length ≤ sizeLine := by
    rw [List.length_map, p2.length_eq, px.length_eq]
    exact small64 h64
  have hn : H s1.heap.objs.size = none := I.hok.fresh hz
  have kk : ∀ b o, s.heap.get? b = some o → (sortedHeap (s1.heap.push (seqObj "list" out.toArray 0)) s1.heap.objs.size out ((arrOf st').map (·.2))).get? b = some o := fun b o z => by
    have lt1 : b < s1.heap.objs.size := Heap.lt_size (k1 b o z)
    rw [PyProof.Rows.sortedHeap_old (Nat.ne_of_lt lt1) (by rw [size_push']; exact Nat.lt_succ_of_lt lt1)]
    exact Heap.get?_push_of_some _ (k1 b o z)
  obtain ⟨h1', g1', d1', t1', os1'⟩ := s1
  obtain ⟨h0, g0, d0, t0, os0⟩ := s
  dsimp only at g1 o1 hz kk hc2 hn ⊢
  subst g1 o1
  refine wpAny_pure ⟨_, rfl, .ref _, upd H h1'.objs.size (.lst (ys.map V.str)), ?_, rfl, q ys _ (p2.trans px) p3 nd hn⟩
  exact I.call (ch := []) (Un.laid kk hz hn) (I.hok.laid kk hz ⟨hlen, ((arrOf st').map (·.2)).toList, c, vals_of_strs p1, by rw [Array.toArray_toList]; exact hc2⟩) I.bare (fun _ z => nomatch z)
end
end LT

/-! Own lemmas: enumerate of a tuple, enumerate of a text. -/
namespace LE
open PySem PySem.Spec PyProof.Rows L2
theorem meets_enum1 {v : Value} {o : Obj} {G : Heap → Prop} (B : Begins v o G) :
    Meets (Builtin.«enumerate.__new__» ⟨[.type "enumerate", v], []⟩) (fun _ R s => G s.heap ∧
      R (.ok (.ret (.ref (s.heap.push o).objs.size))) { s with heap := (s.heap.push o).push { cls := .type "enumerate", data := .fields #[.none, .bool false, .ref s.heap.objs.size, rawInt 0, .none, .none] } }) :=
  .of_wp fun prog w A R s h => by
    obtain ⟨hp, g, d, tk, os⟩ := s
    obtain ⟨h1, h2⟩ := h
    have hsub := PySem.sub_enumerate
    have go : ∀ {A' : Around} {E : Value → Shared → Prop} {Q : Value → Shared → Prop}, Q (.ref hp.objs.size) ⟨hp.push o, g, d, tk, os⟩ → wpAny (model prog w) A' (pyIter v) Q E ⟨hp, g, d, tk, os⟩ :=
      fun z => B.iter prog w _ _ ⟨hp, g, d, tk, os⟩ _ h1 z
    wp_walk using go
    refine wpAny_stack_any fun st => wpAny_pure ?_
    split
    · rename_i c _ _ _ _ _
      cases (c == Value.type "enumerate") <;> (wp_walk using go; exact ⟨_, rfl, h2⟩)
    · wp_walk using go
      exact ⟨_, rfl, h2⟩
section
variable {prog : Program} {w : World} {A : Around} {E : Value → Shared → Prop} {s : Shared}
theorem call_enum1 {v : Value} {o : Obj} {G : Heap → Prop} {Q : Value → Shared → Prop} (B : Begins v o G) (h1 : G s.heap)
    (h : ∀ h', IsEnum h' (s.heap.objs.size + 1) s.heap.objs.size 0 .none → h'.get? s.heap.objs.size = some o → (∀ b u, s.heap.get? b = some u → h'.get? b = some u) → Q (.ref (s.heap.objs.size + 1)) { s with heap := h' }) :
    wpAny (model prog w) A (call (.type "enumerate") [v]) Q E s := by
  refine callType_new F.called_enumerate (by decide) (F.typeCall_enumerate_1 _) (F.newCall_enumerate_1 _) (fun obj => F.args_object_init_2 obj _) F.entry_enumerate_new (meets_enum1 B) ⟨h1, ?_⟩
  have sz : (s.heap.push o).objs.size = s.heap.objs.size + 1 := Heap.size_push ..
  show _ ∧ _
  rw [sz]
  have en : IsEnum ((s.heap.push o).push { cls := .type "enumerate", data := .fields #[.none, .bool false, .ref s.heap.objs.size, rawInt 0, .none, .none] }) (s.heap.objs.size + 1) s.heap.objs.size 0 .none := by
    have z := Heap.get?_push_size (s.heap.push o) (o := { cls := .type "enumerate", data := .fields #[.none, .bool false, .ref s.heap.objs.size, rawInt 0, .none, .none] }) rfl
    rw [sz] at z
    exact z
  exact ⟨⟨_, en, rfl⟩, h _ en (Heap.get?_push_of_some _ (Heap.get?_push_size _ B.free)) fun b u z => Heap.get?_push_of_some _ (Heap.get?_push_of_some _ z)⟩
end
/-- a turn of an enumerate over what D draws -/
theorem enum_item {X : Cx} {pins : List (Addr × Obj)} {σ : L2.St} {H : Hp} {s : Shared} {E : Value → Shared → Prop} {elts : List Expr} {kk : Nat} {tpos : Pos} {e it : Addr} {fp : List Addr} {n i : Nat} {Pv : Nat → Value → Prop} {St : Nat → Heap → Prop} {old : Value} {R : V → Hp → Shared → Prop}
    (D : Draws X.prog X.w X.A.in1 it fp n Pv St) (I : Inv X pins σ H s) (hf : ∀ b ∈ [e, it], FpOk X pins H b) (he : IsEnum s.heap e it ((i : Nat) : Int) old) (st : St i s.heap) (hi : i < n) (ne : e ≠ it) (nf : e ∉ fp)
    (h : ∀ u T s2, Pv i u → H T = none → (∀ x, RelV x u → ∃ H', H' = upd H T (.tup [.int (i : Nat), x]) ∧ Inv X pins σ H' s2) → (∃ o, IsEnum s2.heap e it ((i + 1 : Nat) : Int) o) → St (i + 1) s2.heap → T ≠ e → T ≠ it → ∃ x H', RelV x u ∧ H' = upd H T (.tup [.int (i : Nat), x]) ∧ R (.ref T) H' s2) :
    wpAny (model X.prog X.w) X.A (pyNext (.ref e)) (fun r s1 => ∃ u, r = some u ∧ wpAny (model X.prog X.w) X.A (letOwnedTupleGo (.Tuple elts kk tpos) (.ref e) u) (fun _ s2 => ∃ v H', RelV v u ∧ R v H' s2) E s1) E s := by
  have le : e < s.heap.objs.size := Heap.lt_size he
  have li : it < s.heap.objs.size := by
    obtain ⟨_, z⟩ := D.live _ _ st
    exact Heap.lt_size z
  refine wpAny_pyNext_enum_itemD D he st hi ne nf fun u h' tk hP ho st' hT hsz hk => ?_
  refine ⟨_, rfl, wpAny_letOwnedTupleGo_enum (s := { s with heap := h', toks := tk + 1 }) ho fun h'' he' sb => ?_⟩
  have hT2 : h''.get? s.heap.objs.size = some { cls := .type "tuple", data := .seq #[.int i tk, u] } := (sb.2 _ (Nat.ne_of_gt le)).trans hT
  have nT := I.hok.fresh (Nat.le_refl s.heap.objs.size)
  have st2 : St (i + 1) h'' := D.frame _ _ _ st' fun b hb o z => (sb.2 b fun q => nf (q ▸ hb)).trans z
  obtain ⟨x, H', rx, eH, r⟩ := h u s.heap.objs.size { s with heap := h'', toks := tk + 1 } hP nT (fun x rx => ⟨_, rfl, by
    have new : ObjOk X.prog X.w (upd H s.heap.objs.size (.tup [.int (i : Nat), x])) h'' s.heap.objs.size (.tup [.int (i : Nat), x]) :=
      ⟨by show 2 ≤ sizeLine; decide, [.int i tk, u], .cons ⟨_, rfl⟩ (.cons rx .nil), ⟨_, hT2, rfl, _, rfl⟩⟩
    exact I.turnedNew (ch := [e, it]) (fun b ob hb q => (sb.2 b (fun z => hb (by simp [z]))).trans (hk b ob (fun z => hb (by simp [z])) (fun z => hb (by simp [z])) q)) hf (Nat.le_refl _) new⟩)
    ⟨u, by
      have e1 : ((i + 1 : Nat) : Int) = (i : Int) + 1 := by omega
      rw [e1]
      exact he'⟩ st2 (Nat.ne_of_gt le) (Nat.ne_of_gt li)
  exact ⟨.ref s.heap.objs.size, H', rfl, r⟩
/-- the tuple at a, each item in a new pair -/
def IteT (K : PySem.W.Frag) (a : Addr) : It :=
  ⟨fun i H => ∃ (xs : List V) (x : V), SqT K H a xs ∧ xs[i]? = some x, fun i H v H' => ∃ T x, v = .ref T ∧ H T = none ∧ H' = upd H T (.tup [.int (i : Nat), x]) ∧ ∀ xs, SqT K H a xs → xs[i]? = some x, fun i H => ∃ xs : List V, SqT K H a xs ∧ xs.length ≤ i⟩
theorem turn_enumT {P : Program} {w : World} {K : PySem.W.Frag} {elts : List Expr} {kk : Nat} {tpos : Pos} (a e it : Addr) :
    Turn P w K (.Tuple elts kk tpos) (IteT K a) [e, it] e (fun i h => (∃ old, IsEnum h e it ((i : Nat) : Int) old) ∧ h.IsTupleIter it a i ∧ e ≠ it ∧ a ≠ it ∧ a ≠ e) where
  mem := by simp
  obj := fun i h st b hb => by
    obtain ⟨⟨old, he⟩, ⟨o, ho, hc, hd⟩, _⟩ := st
    have e' : b = e ∨ b = it := by simpa using hb
    rcases e' with z | z
    · rw [z]
      exact ⟨_, he, fun v q => nomatch q⟩
    · rw [z]
      exact ⟨o, ho, fun v q => by rw [hd] at q; cases q⟩
  keep := fun i h h' st k => let ⟨⟨old, he⟩, hi, hne⟩ := st; ⟨⟨old, k e (by simp) _ he⟩, hi.at fun o q => k it (by simp) o q, hne⟩
  item := by
    intro X hP hw hK hc i pins s σ H E I hf st hg
    subst hP hw hK
    obtain ⟨⟨old, he⟩, hit, hne, ha, ha2⟩ := st
    obtain ⟨xs, x, hq, hx⟩ := hg
    obtain ⟨its, rv, p, hz⟩ := I.tuple hq
    obtain ⟨u, hu, ru⟩ := rv.get hx
    have hi : i < its.toArray.size := by
      have z := (List.getElem?_eq_some_iff.mp hu).1
      simpa using z
    have D := Draws.tuple (prog := X.prog) (w := X.w) (A := X.A.in1) (I.ok.hd hc) it a ha its.toArray
    refine wpAny_mono (enum_item (elts := elts) (kk := kk) (tpos := tpos) (R := fun v H' s2 => Inv X pins σ H' s2 ∧ (IteT X.K a).yld i H v H' ∧ ((∃ old, IsEnum s2.heap e it ((i + 1 : Nat) : Int) old) ∧ s2.heap.IsTupleIter it a (i + 1) ∧ e ≠ it ∧ a ≠ it ∧ a ≠ e) ∧ ∀ b ∈ [e, it], H' b = none)
      D I hf he ⟨hit, p⟩ hi hne (fun z => (List.mem_cons.mp z).elim hne fun z => ha2 (List.mem_singleton.mp z).symm) fun u' T s2 hu' nT mk he2 st2 n1 n2 => ?_) (fun r s1 z => ?_) fun _ _ z => z
    · have eu : u' = u := by
        have z : its[i]? = some u' := by simpa using hu'
        rw [hu] at z
        exact (Option.some.inj z).symm
      subst eu
      obtain ⟨H', eH, J⟩ := mk x ru
      refine ⟨x, H', ru, eH, J, ⟨T, x, rfl, nT, eH, fun ys hy => by rw [I.tuple_inj hy hq]; exact hx⟩, ⟨he2, st2.1, hne, ha, ha2⟩, fun b hb => ?_⟩
      rw [eH, upd_ne (by
        have e' : b = e ∨ b = it := by simpa using hb
        rcases e' with z | z
        · rw [z]; exact Ne.symm n1
        · rw [z]; exact Ne.symm n2)]
      exact (hf b hb).1
    · obtain ⟨u', e1, z⟩ := z
      refine ⟨u', e1, wpAny_mono z (fun _ s2 z => ?_) fun _ _ z => z⟩
      obtain ⟨v, H', rv', J, y, t', k⟩ := z
      exact ⟨v, H', J, rv', y, t', k⟩
  done := by
    intro X hP hw hK hc i pins s σ H E I hf st hg
    subst hP hw hK
    obtain ⟨⟨old, he⟩, hit, hne, ha, ha2⟩ := st
    obtain ⟨xs, hq, hx⟩ := hg
    obtain ⟨its, rv, p, hz⟩ := I.tuple hq
    obtain ⟨f0, f1, f2, f3, f4, f5⟩ := hf it (by simp)
    have hl := rv.length
    have D := Draws.tuple (prog := X.prog) (w := X.w) (A := X.A.in1) (I.ok.hd hc) it a ha its.toArray
    have T : s.TypeIs (.ref e) "enumerate" := ⟨_, he, rfl⟩
    unfold pyNext
    refine wpAny_bind (wpAny_attempt (wpAny_callSpecial?_slot (name := Str.ofString "__next__") T F.slot_enumerate_next (wpAny_call_entry F.slot_enumerate_next T F.entry_enumerate_next ?_ (F.args_enumerate_next_1 _))))
    show wpAny _ _ (field (.ref e) 2 >>= _) _ _ _
    refine wpAny_bind (wpAny_field he rfl (x := .ref it) rfl ?_)
    refine wpAny_bind (wpAny_nextOf_tuple_end (A := X.A.in1) (I.ok.hd hc) hit p (by simp; omega) fun h' x eb hx' => ?_)
    obtain ⟨o, ho, hc'⟩ := hx'
    refine wpAny_bind (wpAny_isInstance (T := "StopIteration") (b := true) ⟨o, ho, hc'⟩ isSubtype_stop ?_)
    exact wpAny_pure ⟨rfl, I.turned (t' := s.toks) (fun b o hb z => eb b o hb z) f0 f1 f3 f4 f5⟩
  self := fun A i s Q E st h => let ⟨⟨_, he⟩, _⟩ := st; wpAny_pyIter_enum he h
def iEnumT (K : PySem.W.Frag) (ta : TA) : TI := fun σ H R => ta σ H fun vs H1 => ∃ a xs, vs = [.ref a] ∧ SqT K H1 a xs ∧ R (IteT K a) H1
theorem pi_enumT {X : Cx} {e : Expr} {ta : TA} {p pos tpos : Pos} {elts : List Expr} {kk : Nat} (hg : Gl X "enumerate") (hm : X.mg "enumerate" = none) (ha : PA X [e] ta) (hs : starEach [e] X.env = [(false, eval e X.env)] := by rfl) :
    PI X (.Tuple elts kk tpos) (.Call (.Name "enumerate" p) [e] [] pos) (iEnumT X.K ta) := by
  refine ⟨fun pins s σ H R I h => ?_⟩
  refine Call_ (ld_blt I hg hm boot_enumerate (PyProof.Rows.callWith_type1 (thn (ha.run pos pins s σ H _ I h) fun us s1 ⟨vs, H1, I1, r1, q1⟩ => ?_) hs rfl))
  obtain ⟨a, xs, ex, hq, q⟩ := q1
  subst ex
  rw [Vals.ref1 r1]
  obtain ⟨its, rv, pt, hz⟩ := I1.tuple hq
  have al : a < s1.heap.objs.size := by
    obtain ⟨o, ho, _⟩ := id pt
    exact Heap.lt_size ho
  refine call_enum1 (begins_tuple a its.toArray) pt fun h' he hit hk => wpAny_pyIter_enum he ?_
  have I2 : Inv X pins σ H1 { s1 with heap := h' } := I1.kept (t' := s1.toks) hk
  refine ⟨s1.heap.objs.size + 1, [s1.heap.objs.size + 1, s1.heap.objs.size], _, _, H1, rfl, I2, turn_enumT a (s1.heap.objs.size + 1) s1.heap.objs.size, ⟨⟨.none, he⟩, ⟨_, hit, rfl, rfl⟩, Nat.succ_ne_self _, Nat.ne_of_lt al, Nat.ne_of_lt (Nat.lt_succ_of_lt al)⟩, fun b hb => ?_, q⟩
  have hle : s1.heap.objs.size ≤ b := by
    have e' : b = s1.heap.objs.size + 1 ∨ b = s1.heap.objs.size := by simpa using hb
    rcases e' with z | z
    · rw [z]
      exact Nat.le_succ _
    · rw [z]
      exact Nat.le_refl _
  exact I1.fpOk hle (I1.hok.fresh hle)
theorem walk_enumT {K : PySem.W.Frag} {a : Addr} {xs : List V} : Walk (IteT K a) xs.length (fun H => SqT K H a xs) (YPair (fun i => some (.int (i : Nat))) (fun i => xs[i]?)) := by
  constructor
  · intro i H hi q
    exact ⟨xs, xs[i], q, by simp [hi]⟩
  · intro H q
    exact ⟨xs, q, Nat.le_refl _⟩
  · intro i H v H' _ q y
    obtain ⟨T, x, h1, h2, h3, h4⟩ := y
    exact ⟨T, .int (i : Nat), x, h1, h2, h3, rfl, h4 xs q⟩

/-! ### a text -/
def IteS (z : Str) : It :=
  ⟨fun i _ => i < z.cps.size, fun i H v H' => ∃ T c, v = .ref T ∧ H T = none ∧ H' = upd H T (.tup [.int (i : Nat), .str ⟨#[c]⟩]) ∧ z.cps[i]? = some c, fun i _ => i = z.cps.size⟩
theorem turn_enumS {P : Program} {w : World} {K : PySem.W.Frag} {elts : List Expr} {kk : Nat} {tpos : Pos} (z : Str) (e it : Addr) :
    Turn P w K (.Tuple elts kk tpos) (IteS z) [e, it] e (fun i h => (∃ old, IsEnum h e it ((i : Nat) : Int) old) ∧ (∃ t, h.IsStrIter it (strIterType z) z t i) ∧ e ≠ it) where
  mem := by simp
  obj := fun i h st b hb => by
    obtain ⟨⟨old, he⟩, ⟨t, o, ho, hc, hd⟩, _⟩ := st
    have e' : b = e ∨ b = it := by simpa using hb
    rcases e' with q | q
    · rw [q]
      exact ⟨_, he, fun v q => nomatch q⟩
    · rw [q]
      exact ⟨o, ho, fun v q => by rw [hd] at q; cases q⟩
  keep := fun i h h' st k => by
    obtain ⟨⟨old, he⟩, ⟨t, o, ho, r⟩, hne⟩ := st
    exact ⟨⟨old, k e (by simp) _ he⟩, ⟨t, o, k it (by simp) _ ho, r⟩, hne⟩
  item := by
    intro X hP hw hK hc i pins s σ H E I hf st hg
    subst hP hw hK
    obtain ⟨⟨old, he⟩, ⟨t, hit⟩, hne⟩ := st
    have hi : i < z.cps.size := hg
    have D := Draws.text (prog := X.prog) (w := X.w) (A := X.A.in1) (I.ok.hd hc) it z t
    refine wpAny_mono (enum_item (elts := elts) (kk := kk) (tpos := tpos) (R := fun v H' s2 => Inv X pins σ H' s2 ∧ (IteS z).yld i H v H' ∧ ((∃ old, IsEnum s2.heap e it ((i + 1 : Nat) : Int) old) ∧ (∃ t, s2.heap.IsStrIter it (strIterType z) z t (i + 1)) ∧ e ≠ it) ∧ ∀ b ∈ [e, it], H' b = none)
      D I hf he hit hi hne (fun q => hne (List.mem_singleton.mp q)) fun u T s2 hu nT mk he2 st2 n1 n2 => ?_) (fun r s1 q => ?_) fun _ _ q => q
    · obtain ⟨c, tk, hc2, rfl⟩ := hu
      obtain ⟨H', eH, J⟩ := mk (.str ⟨#[c]⟩) ⟨tk, rfl⟩
      refine ⟨.str ⟨#[c]⟩, H', ⟨tk, rfl⟩, eH, J, ⟨T, c, rfl, nT, eH, hc2⟩, ⟨he2, ⟨t, st2⟩, hne⟩, fun b hb => ?_⟩
      rw [eH, upd_ne (by
        have e' : b = e ∨ b = it := by simpa using hb
        rcases e' with q | q
        · rw [q]; exact Ne.symm n1
        · rw [q]; exact Ne.symm n2)]
      exact (hf b hb).1
    · obtain ⟨u', e1, q⟩ := q
      refine ⟨u', e1, wpAny_mono q (fun _ s2 q => ?_) fun _ _ q => q⟩
      obtain ⟨v, H', rv', J, y, t', k⟩ := q
      exact ⟨v, H', J, rv', y, t', k⟩
  done := by
    intro X hP hw hK hc i pins s σ H E I hf st hg
    subst hP hw hK
    obtain ⟨⟨old, he⟩, ⟨t, hit⟩, hne⟩ := st
    have ei : i = z.cps.size := hg
    subst ei
    obtain ⟨f0, f1, f2, f3, f4, f5⟩ := hf it (by simp)
    have D := Draws.text (prog := X.prog) (w := X.w) (A := X.A.in1.in1) (I.ok.hd hc) it z t
    have T : s.TypeIs (.ref e) "enumerate" := ⟨_, he, rfl⟩
    refine wpAny_pyNext_enum_endD (D := Draws.text (prog := X.prog) (w := X.w) (A := X.A.in1) (I.ok.hd hc) it z t) he hit fun h' eb => ⟨rfl, I.turned (t' := s.toks) (fun b o hb q => eb b o hb q) f0 f1 f3 f4 f5⟩
  self := fun A i s Q E st h => let ⟨⟨_, he⟩, _⟩ := st; wpAny_pyIter_enum he h
def iEnumS (ta : TA) : TI := fun σ H R => ta σ H fun vs H1 => ∃ z : Str, vs = [.str z] ∧ R (IteS z) H1
theorem pi_enumS {X : Cx} {e : Expr} {ta : TA} {p pos tpos : Pos} {elts : List Expr} {kk : Nat} (hg : Gl X "enumerate") (hm : X.mg "enumerate" = none) (ha : PA X [e] ta) (hs : starEach [e] X.env = [(false, eval e X.env)] := by rfl) :
    PI X (.Tuple elts kk tpos) (.Call (.Name "enumerate" p) [e] [] pos) (iEnumS ta) := by
  refine ⟨fun pins s σ H R I h => ?_⟩
  refine Call_ (ld_blt I hg hm boot_enumerate (PyProof.Rows.callWith_type1 (thn (ha.run pos pins s σ H _ I h) fun us s1 ⟨vs, H1, I1, r1, q1⟩ => ?_) hs rfl))
  obtain ⟨z, ex, q⟩ := q1
  subst ex
  cases r1 with
  | cons r rr =>
  cases rr
  obtain ⟨t, rfl⟩ := r
  refine call_enum1 (begins_text z t) True.intro fun h' he hit hk => wpAny_pyIter_enum he ?_
  have I2 : Inv X pins σ H1 { s1 with heap := h' } := I1.kept (t' := s1.toks) hk
  refine ⟨s1.heap.objs.size + 1, [s1.heap.objs.size + 1, s1.heap.objs.size], _, _, H1, rfl, I2, turn_enumS z (s1.heap.objs.size + 1) s1.heap.objs.size, ⟨⟨.none, he⟩, ⟨t, _, hit, rfl, rfl⟩, Nat.succ_ne_self _⟩, fun b hb => ?_, q⟩
  have hle : s1.heap.objs.size ≤ b := by
    have e' : b = s1.heap.objs.size + 1 ∨ b = s1.heap.objs.size := by simpa using hb
    rcases e' with q | q
    · rw [q]
      exact Nat.le_succ _
    · rw [q]
      exact Nat.le_refl _
  exact I1.fpOk hle (I1.hok.fresh hle)
theorem walk_enumS {z : Str} : Walk (IteS z) z.cps.size (fun _ => True) (fun i H v H' => ∃ T c, v = .ref T ∧ H T = none ∧ H' = upd H T (.tup [.int (i : Nat), .str ⟨#[c]⟩]) ∧ z.cps[i]? = some c) :=
  ⟨fun _ _ hi _ => hi, fun _ _ => rfl, fun _ _ _ _ _ _ y => y⟩
end LE

/-! Own lemmas: own methods that the language calls: str, fields of f-strings, the signs & and |; defs with a star. -/
namespace LO
open PySem PySem.Spec PyProof.Rows L2
open C8 (Cal Mak Met CalAt)
section
variable {X : Cx} {k j : Nat} {C : Addr} {sp : Sp} {pins : List (Addr × Obj)} {σ : L2.St} {H : Hp} {s : Shared} {Q : VK}
/-- a def, called somewhere below the body that runs -/
theorem run_below {f : Addr} {fd : FuncData} {ps : List Str} {A : Around} {vs : List V} {us : List Value} (F : FnOk X.prog X.w X.K X.mg X.base C8.CX0 k f fd ps sp) (hb : Binds X.K fd ps []) (sb : Sub X k A) (I : Inv X pins σ H s) (r : Vals vs us) (h : sp vs H Q C8.E0) :
    wpAny (model X.prog X.w) A (call (.ref f) us) (EP X pins σ Q) X.xe s := by
  have e0 : Env0 X.prog X.w X.K X.mg X.base A X.stack s H := by
    have e := I.env0
    exact ⟨by rw [sb.fr]; exact e.frames, e.mod, e.bs, e.bsz, e.funs, e.frf, e.hok, e.bare⟩
  have hl : us.length = ps.length := by
    rw [← r.length]
    exact F.len _ _ _ _ h
  refine wpAny_call (codeAny_mono (F.run A X.stack s H ⟨us, []⟩ us vs Q C8.E0 sb.room e0 (by
    have z := hb s us I.kIn (by simpa using hl)
    simpa using z) r h) fun z s' hq => ?_)
  rcases z with e | fl
  · exact hq.elim
  cases fl with
  | ret u => exact I.after hq
  | next => exact hq.elim
  | brk => exact hq.elim
  | cont => exact hq.elim
/-- what a method that gives a text promises -/
def gTxt (sp : Sp) (a : Addr) (H : Hp) (Q : VK) : Prop := sp [.ref a] H (fun v H' => ∃ y, v = .str y ∧ Q v H') C8.E0
theorem str_back {A : Around} {u : Value} (h : EP X pins σ (fun v H' => ∃ y, v = V.str y ∧ Q v H') u s) : PySem.W.StrBack (fun r s' => EP X pins σ Q r s') u s := by
  obtain ⟨v, H', I, r, y, e, q⟩ := h
  subst e
  obtain ⟨t, rfl⟩ := r
  exact ⟨.str y, H', I, ⟨t, rfl⟩, q⟩
/-- str(o), o of the class C that has __str__ -/
def rStrO (C : Addr) (sp : Sp) : List V → Hp → VK → Prop := fun vs H Q => ∃ a dx fs, vs = [.ref a] ∧ H a = some (.ins C dx fs) ∧ gTxt sp a H Q
theorem cr_strO (c : Met X.prog X.w X.K X.mg X.base k C "__str__" sp []) (hr : Room j X.A) (hk : k + 2 ≤ j) : CallR X (.type "str") (rStrO C sp) := by
  intro pins s σ H vs us Q I r h
  obtain ⟨a, dx, fs, rfl, ha, q⟩ := h
  rw [Vals.ref1 r]
  have rv : Vals [V.ref a] [Value.ref a] := .cons rfl .nil
  obtain ⟨f, fd, ps, ds, cl, me, F, b, d⟩ := c.ex
  cases d
  obtain ⟨mA, J, _⟩ := ins_get I.hok ha
  obtain ⟨od, J, _⟩ := J.look
  have rm := hr.mono hk
  have sb : Sub X k X.A.in1.in1 := ⟨rm.in1.in1, rfl⟩
  refine PySem.W.kso_call sb.room.units0 I.kIn J me.at_ me.fn ?_
  exact wpAny_mono (run_below F b sb I rv q) (fun u s' z => str_back (A := X.A) z) fun _ _ z => z
/-- {o} in an f-string -/
def tFmtO (C : Addr) (sp : Sp) (te : TE) : TE := fun σ H Q => te σ H fun x H1 => ∃ a dx fs, x = .ref a ∧ H1 a = some (.ins C dx fs) ∧ gTxt sp a H1 Q
theorem pe_fmtO {e : Expr} {te : TE} {pos : Pos} (c : Met X.prog X.w X.K X.mg X.base k C "__str__" sp []) (hr : Room j X.A) (hk : k + 1 ≤ j) (hfm : PySem.W.findIn X.K (.ref C) "__format__" = some (some (.builtin "object.__format__"))) (hm : PySem.W.mroIn X.K C (.type "object") = some true) (he : PE X e te) :
    PE X (.FormattedValue e (-1) none pos) (tFmtO C sp te) := by
  refine ⟨fun pins s σ H Q I h => ?_⟩
  refine wpAny_FormattedValue_plain (thn (he.run pins s σ H _ I h) fun v s1 hv => ?_)
  obtain ⟨x, H1, I1, r1, a, dx, fs, rfl, ha, q⟩ := hv
  obtain rfl : v = Value.ref a := r1
  have rv : Vals [V.ref a] [Value.ref a] := .cons rfl .nil
  obtain ⟨f, fd, ps, ds, cl, me, F, b, d⟩ := c.ex
  cases d
  obtain ⟨mA, J, _⟩ := ins_get I1.hok ha
  obtain ⟨od, J, _⟩ := J.look
  have rm := hr.mono hk
  have sb : Sub X k X.A.in1 := ⟨rm.in1, rfl⟩
  refine PySem.W.kfo_fieldS sb.room.units0 I1.kIn J hfm hm me.at_ me.fn ?_
  exact wpAny_mono (run_below F b sb (I1.tok (t := s1.toks + 1)) rv q) (fun u s' z => str_back (A := X.A) z) fun _ _ z => z
/-- a sign between two of the class C -/
def rOwnB (C : Addr) (sp : Sp) : R2 := fun x y H Q => ∃ a b dx dy fs gs, x = .ref a ∧ y = .ref b ∧ H a = some (.ins C dx fs) ∧ H b = some (.ins C dy gs) ∧ sp [x, y] H (fun v H' => (∃ p, v = .ref p) ∧ Q v H') C8.E0
theorem op_own {op : Operator} {m : Str} (c : Met X.prog X.w X.K X.mg X.base k C m sp []) (hr : Room j X.A) (hk : k ≤ j) (hc : PySem.W.selfFirst X.K C = true) (hm : PySem.dunder op.info.2 = m) : OpR X (binaryOp op) (rOwnB C sp) := by
  intro pins s σ H x y u v Q I rx ry h
  obtain ⟨a, b, dx, dy, fs, gs, rfl, rfl, ha, hb, q⟩ := h
  cases rx
  cases ry
  have rv : Vals [V.ref a, V.ref b] [Value.ref a, Value.ref b] := .cons rfl (.cons rfl .nil)
  obtain ⟨f, fd, ps, ds, cl, me, F, bd, d⟩ := c.ex
  cases d
  obtain ⟨mA, J, _⟩ := ins_get I.hok ha
  obtain ⟨mB, J', _⟩ := ins_get I.hok hb
  obtain ⟨od, J, _⟩ := J.look
  obtain ⟨od', J', _⟩ := J'.look
  obtain ⟨m', hF⟩ := I.fr
  refine PySem.W.binop_K hF I.ok.mod.kin J J'.type hc (by rw [hm]; exact me.at_) me.fn ?_
  refine wpAny_mono (run_below F bd ⟨hr.mono hk, rfl⟩ I rv q) (fun u s' z => ?_) fun _ _ z => z
  obtain ⟨v, H', I', r, ⟨p, e⟩, q'⟩ := z
  subst e
  cases r
  exact ⟨.ref p, H', I', rfl, q'⟩
end

/-! ### a def of one starred parameter -/
structure CalR (P : Program) (w : World) (K : PySem.W.Frag) (mg : Str → Option Value) (base : Heap) (k : Nat) (x : Str) (sp : Sp) : Prop where
  ex : ∃ f, FnR P w K mg base C8.CX0 k f sp ∧ mg x = some (.ref f) ∧ PySem.W.keepIn K (.ref f) = true
/-- what the caller of such a def promises, by what the def wishes of its tuple -/
def spStar (sp : Sp) : Sp := fun vs H Q E => vs.length ≤ sizeLine ∧ ∀ p, H p = none → sp [V.ref p] (upd H p (.tup vs)) Q E
section
variable {P : Program} {w : World} {K : PySem.W.Frag} {mg : Str → Option Value} {base : Heap} {x qual pv : Str} {params : Arguments} {body : List Stmt} {scope : Scope} {f : Addr} {fd : FuncData} {N : List Str} {k : Nat} {sp : Sp} {kws : List (Str × V)}
theorem starD (F : FunD K x qual params body scope [] kws f fd) (hm : mg x = some (.ref f)) (S : FnScope N [pv] scope)
    (hb : ∀ (kV doc pm : Value) (an : Option Addr) (cdv ct : Value) (rest : List Value), bindArgs (PySem.W.fnOf x qual params body scope .none kV doc pm an cdv ct) ⟨rest, []⟩ = (newTuple rest >>= fun t => pure [(pv, t)]))
    (hbody : ∀ (cdv : Value) (A : Around) (outer : List Env) (s : Shared) (H : Hp) (vs : List V) (Q : VK) (E : XK), Room k (A.deeper (envOfC qual scope s.heap.objs.size f cdv)) → sp vs H Q E →
      ∃ t, PSs (cxOf C8.CX0 P w K mg base N qual scope f cdv A outer s H E).nox body t ∧ t { nx := fun _ H' => Q .non H', rt := Q } (start N vs) H) : CalR P w K mg base (k + 1) x (spStar sp) := by
  obtain ⟨oc, od, dV, kV, doc, pm, an, cdv, ct, osl, rfl, lk, hcd, hD, hK⟩ := F.ex
  rcases hD with ⟨_, rfl⟩ | ⟨e, _⟩
  · refine ⟨f, ?_, hm, F.kp⟩
    have G := StX.fn_star (ps := []) (pv := pv) (sp := sp) (k := k) (CX := C8.CX0) (P := P) (w := w) (mg := mg) (base := base) lk hcd S (by exact fun _ _ _ _ _ _ _ _ _ _ _ z => z) (fun us rest hl => by
      obtain rfl : us = [] := List.eq_nil_of_length_eq_zero hl
      exact hb kV doc pm an cdv ct rest) fun A outer s H vs Q E hr h => by
        obtain ⟨t, h1, h2⟩ := hbody cdv A outer s H vs Q E hr h
        exact ⟨t, h1.nox, h2⟩
    exact G.imp fun vs H Q E h => ⟨[], vs, rfl, rfl, h.1, fun p hp => h.2 p hp⟩
  · exact absurd rfl e
end
section
variable {X : Cx} {k j : Nat} {x : Str} {sp : Sp} {p pos sp_ : Pos} {e : Expr} {es : List Expr} {t : TA} {te : TE}
theorem pe_cR (c : CalR X.prog X.w X.K X.mg X.base k x sp) (hr : Room j X.A) (hk : k ≤ j) (hg : Gl X x) (ha : PA X (e :: es) t)
    (hdb : (x == ("__debug__" : Str)) = false := by decide) (he : starEach (e :: es) X.env = (false, eval e X.env) :: starEach es X.env := by rfl) (hpl : (backTo pos (starEach es X.env)).any (·.1) = false := by rfl) :
    PE X (.Call (.Name x p) (e :: es) [] pos) (fun σ H Q => t σ H fun vs H1 => sp vs H1 Q C8.E0) := by
  obtain ⟨f, F, hm, kp⟩ := c.ex
  refine ⟨fun pins s σ H Q I h => ?_⟩
  refine wpAny_Call_Name_kw (ld_glob I hg hm ?_ hdb)
  refine PySem.W.callWith_K (h₀ := X.base) I.ok.mod.kin kp (thn (ha.run pos pins s σ H _ I h) fun us s1 ⟨vs, H1, I1, r, q⟩ => ⟨I1.kIn, ?_⟩) he hpl
  exact wpAny_call (run_fnR F (hr.mono hk) C8.pass0 I1 r q)
theorem pe_cR1 (c : CalR X.prog X.w X.K X.mg X.base k x sp) (hr : Room j X.A) (hk : k ≤ j) (hg : Gl X x) (he : PE X e te)
    (hd : (x == ("__debug__" : Str)) = false := by decide) (hst : starEach [.Starred e sp_] X.env = [(true, eval e X.env)] := by rfl) :
    PE X (.Call (.Name x p) [.Starred e sp_] [] pos) (fun σ H Q => te σ H fun y H1 => ∃ a xs, y = V.ref a ∧ (SqT X.K H1 a xs ∨ SqL X.K H1 a xs) ∧ sp xs H1 Q C8.E0) := by
  obtain ⟨f, F, hm, kp⟩ := c.ex
  exact StX.pe_callS1 F (hr.mono hk) kp hg hm C8.pass0 he hd hst
end

section
variable {X : Cx} {k j : Nat} {C : Addr} {x : Str} {sp : Sp} {dvs : List V} {p pos : Pos}
/-- C(), nothing given -/
theorem pe_mk0 (c : Mak X.prog X.w X.K X.mg X.base k x C sp dvs) (hr : Room j X.A) (hk : k + 1 ≤ j) (hg : Gl X x) (hdb : (x == ("__debug__" : Str)) = false := by decide) :
    PE X (.Call (.Name x p) [] [] pos) (tMake C sp dvs C8.E0 tNil) := by
  obtain ⟨f, fd, ps, ds, M, F, hm, b, d⟩ := c.ex
  exact pe_make0 M F (hr.mono hk) hg hm b d C8.pass0 hdb
end
end LO

/-! Own words: circles. -/
namespace LC
open PySem PySem.Spec PyProof.Rows L2 LL
/-- an eye; a pool (true) or a common (false) of parts -/
inductive Ci where
  | eye (n : Str)
  | node (k : Bool) (ps : List Ci)
  deriving Inhabited
def kS (k : Bool) : Str := if k = true then "pool" else "common"
def sgn (k : Bool) : Str := if k = true then " & " else " | "
def Ci.kind : Ci → Str
  | .eye _ => "eye"
  | .node k _ => kS k
def Ci.name : Ci → Str
  | .eye n => n
  | .node _ _ => ""
def Ci.parts : Ci → List Ci
  | .eye _ => []
  | .node _ ps => ps
def Ci.isEye : Ci → Bool
  | .eye _ => true
  | .node _ _ => false
/-- a node of the kind k -/
def Ci.isK (k : Bool) : Ci → Bool
  | .eye _ => false
  | .node j _ => j == k
def wrap (e : Bool) (t : Str) : Str := if e = true then t else ("(" : Str) ++ t ++ (")" : Str)
mutual
def Ci.text : Ci → Str
  | .eye n => n
  | .node k ps => Txt.join (sgn k) (wtexts ps)
def wtexts : List Ci → List Str
  | [] => []
  | c :: cs => wrap c.isEye c.text :: wtexts cs
end
mutual
def Ci.size : Ci → Nat
  | .eye _ => 1
  | .node _ ps => sizes ps
def sizes : List Ci → Nat
  | [] => 0
  | c :: cs => c.size + sizes cs
end
mutual
def Ci.depth : Ci → Nat
  | .eye _ => 0
  | .node _ ps => 1 + depths ps
def depths : List Ci → Nat
  | [] => 0
  | c :: cs => max c.depth (depths cs)
end
mutual
def Ci.leaves : Ci → List Str
  | .eye n => [n]
  | .node _ ps => leavess ps
def leavess : List Ci → List Str
  | [] => []
  | c :: cs => c.leaves ++ leavess cs
end
mutual
def Ci.wf : Ci → Bool
  | .eye n => isName n
  | .node k ps => decide (2 ≤ ps.length) && (wfs k ps && decide (ps.map Ci.text).Nodup)
def wfs (k : Bool) : List Ci → Bool
  | [] => true
  | c :: cs => c.wf && (!c.isK k && wfs k cs)
end
theorem wtexts_eq : ∀ ps : List Ci, wtexts ps = ps.map fun c => wrap c.isEye c.text
  | [] => by simp [wtexts]
  | c :: cs => by rw [wtexts, wtexts_eq cs, List.map_cons]
theorem sizes_eq : ∀ ps : List Ci, ((sizes ps : Nat) : Int) = (ps.map fun c => ((c.size : Nat) : Int)).sum
  | [] => by simp [sizes]
  | c :: cs => by rw [sizes, List.map_cons, List.sum_cons, ← sizes_eq cs]; omega
theorem leavess_eq : ∀ ps : List Ci, leavess ps = ps.flatMap Ci.leaves
  | [] => by simp [leavess]
  | c :: cs => by rw [leavess, leavess_eq cs, List.flatMap_cons]
theorem sizes_app : ∀ a b : List Ci, sizes (a ++ b) = sizes a + sizes b
  | [], b => by rw [List.nil_append, sizes, Nat.zero_add]
  | c :: cs, b => by rw [List.cons_append, sizes, sizes, sizes_app cs b, Nat.add_assoc]
theorem sizes_take (ps : List Ci) (i : Nat) : sizes (ps.take i) ≤ sizes ps := by
  have q := sizes_app (ps.take i) (ps.drop i)
  rw [List.take_append_drop] at q
  omega
theorem leavess_app (a b : List Ci) : leavess (a ++ b) = leavess a ++ leavess b := by
  rw [leavess_eq, leavess_eq, leavess_eq, List.flatMap_append]
theorem take_one {α : Type} {ps : List α} {i : Nat} {c : α} (h : ps[i]? = some c) : ps.take (i + 1) = ps.take i ++ [c] := by
  rw [List.take_add_one, h]
  rfl
theorem sizes_one (c : Ci) : sizes [c] = c.size := by rw [sizes, sizes, Nat.add_zero]
theorem leavess_one (c : Ci) : leavess [c] = c.leaves := by rw [leavess, leavess, List.append_nil]
theorem depths_mem : ∀ {ps : List Ci} {c : Ci}, c ∈ ps → c.depth ≤ depths ps
  | d :: ps, c, h => by
    rw [depths]
    rcases List.mem_cons.mp h with h | h
    · rw [h]
      exact Nat.le_max_left _ _
    · exact Nat.le_trans (depths_mem h) (Nat.le_max_right _ _)
theorem depths_in : ∀ {ps : List Ci}, ps ≠ [] → ∃ c ∈ ps, c.depth = depths ps
  | [c], _ => ⟨c, List.mem_singleton.mpr rfl, by simp [depths]⟩
  | c :: d :: ps, _ => by
    obtain ⟨e, h1, h2⟩ := depths_in (ps := d :: ps) (by simp)
    rw [depths]
    by_cases q : depths (d :: ps) ≤ c.depth
    · exact ⟨c, List.mem_cons_self, (Nat.max_eq_left q).symm⟩
    · exact ⟨e, List.mem_cons_of_mem _ h1, by rw [h2, Nat.max_eq_right (by omega)]⟩
theorem sizes_mem : ∀ {ps : List Ci} {c : Ci}, c ∈ ps → c.size ≤ sizes ps
  | d :: ps, c, h => by
    rw [sizes]
    rcases List.mem_cons.mp h with h | h
    · rw [h]
      exact Nat.le_add_right _ _
    · exact Nat.le_trans (sizes_mem h) (Nat.le_add_left _ _)
theorem wfs_iff {k : Bool} : ∀ {ps : List Ci}, wfs k ps = true ↔ ∀ c ∈ ps, c.wf = true ∧ c.isK k = false
  | [] => by simp [wfs]
  | c :: cs => by
    rw [wfs, Bool.and_eq_true, Bool.and_eq_true, wfs_iff, Bool.not_eq_true']
    constructor
    · rintro ⟨h1, h2, h3⟩ d hd
      rcases List.mem_cons.mp hd with e | e
      · rw [e]
        exact ⟨h1, h2⟩
      · exact h3 d e
    · intro h
      exact ⟨(h c List.mem_cons_self).1, (h c List.mem_cons_self).2, fun d hd => h d (List.mem_cons_of_mem _ hd)⟩
theorem wf_node {k : Bool} {ps : List Ci} : (Ci.node k ps).wf = true ↔ 2 ≤ ps.length ∧ (∀ c ∈ ps, c.wf = true ∧ c.isK k = false) ∧ (ps.map Ci.text).Nodup := by
  rw [Ci.wf, Bool.and_eq_true, Bool.and_eq_true, wfs_iff, decide_eq_true_eq, decide_eq_true_eq]
theorem wf_part {c p : Ci} (h : c.wf = true) (hp : p ∈ c.parts) : p.wf = true := by
  cases c with
  | eye n => cases hp
  | node k ps => exact ((wf_node.mp h).2.1 p hp).1
mutual
theorem size_pos : ∀ {c : Ci}, c.wf = true → 1 ≤ c.size
  | .eye n, _ => Nat.le_refl 1
  | .node k ps, h => by
    have h1 := wf_node.mp h
    have h2 := sizes_len (ps := ps) fun c hc => (h1.2.1 c hc).1
    rw [Ci.size]
    omega
theorem sizes_len : ∀ {ps : List Ci}, (∀ c ∈ ps, c.wf = true) → ps.length ≤ sizes ps
  | [], _ => Nat.zero_le _
  | c :: cs, h => by
    have h1 := size_pos (h c List.mem_cons_self)
    have h2 := sizes_len (ps := cs) fun d hd => h d (List.mem_cons_of_mem _ hd)
    rw [sizes, List.length_cons]
    omega
end
theorem len_app (a b : Str) : (a ++ b).length = a.length + b.length := by
  show (a.cps ++ b.cps).size = _
  rw [Array.size_append]
  rfl
theorem len_wrap (e : Bool) (t : Str) : (wrap e t).length ≤ t.length + 2 := by
  unfold wrap
  split
  · omega
  · rw [len_app, len_app]
    show 1 + t.length + 1 ≤ _
    omega
theorem len_sgn (k : Bool) : (sgn k).length = 3 := by cases k <;> rfl
def wlens (ps : List Ci) : Nat := ((wtexts ps).map (·.length)).sum
theorem joinJ_len (S : List Nat) : ∀ xs : List (List Nat), (TL.joinL S xs).length ≤ (xs.map (·.length)).sum + xs.length * S.length
  | [] => Nat.zero_le _
  | [x] => by
    show x.length ≤ _
    simp
  | x :: y :: r => by
    show (x ++ (S ++ TL.joinL S (y :: r))).length ≤ _
    have q := joinJ_len S (y :: r)
    rw [List.length_append, List.length_append, List.map_cons, List.sum_cons, List.length_cons, Nat.succ_mul]
    omega
theorem joinC_len (sep : Str) (xs : List Str) : (Txt.join sep xs).length ≤ (xs.map (·.length)).sum + xs.length * sep.length := by
  have q := joinJ_len (TL.tl sep) (xs.map TL.tl)
  rw [← TL.tl_join, ← TL.join_eq, List.map_map, List.length_map] at q
  have e : ∀ s : Str, (TL.tl s).length = s.length := fun s => (str_len s).symm
  rw [e, e] at q
  have e2 : (xs.map ((fun x : List Nat => x.length) ∘ TL.tl)) = xs.map (·.length) := List.map_congr_left fun s _ => e s
  rw [e2] at q
  exact q
mutual
theorem text_len : ∀ {c : Ci}, c.wf = true → c.text.length ≤ c.size * (6 + 5 * c.depth)
  | .eye n, h => by
    rw [Ci.text, Ci.size, Ci.depth]
    have q : isName n = true := by
      rw [Ci.wf] at h
      exact h
    unfold isName at q
    rw [Bool.and_eq_true, Bool.and_eq_true, decide_eq_true_eq, decide_eq_true_eq] at q
    omega
  | .node k ps, h => by
    have h1 := wf_node.mp h
    have h2 := wlens_len (ps := ps) (depths ps) (fun c hc => (h1.2.1 c hc).1) fun c hc => depths_mem hc
    have h3 := joinC_len (sgn k) (wtexts ps)
    have h4 := sizes_len (ps := ps) fun c hc => (h1.2.1 c hc).1
    have h5 : (wtexts ps).length = ps.length := by rw [wtexts_eq, List.length_map]
    rw [h5, len_sgn] at h3
    rw [Ci.text, Ci.size, Ci.depth]
    have e : sizes ps * (6 + 5 * (1 + depths ps)) = sizes ps * (6 + 5 * depths ps) + 5 * sizes ps := by
      rw [Nat.mul_add 5, Nat.mul_one, ← Nat.add_assoc, Nat.add_right_comm, Nat.mul_add, Nat.mul_comm (sizes ps) 5]
    unfold wlens at h2
    omega
theorem wlens_len : ∀ {ps : List Ci} (d : Nat), (∀ c ∈ ps, c.wf = true) → (∀ c ∈ ps, c.depth ≤ d) → wlens ps ≤ sizes ps * (6 + 5 * d) + 2 * ps.length
  | [], _, _, _ => Nat.zero_le _
  | c :: cs, d, h, hd => by
    have h1 := text_len (h c List.mem_cons_self)
    have h2 := wlens_len (ps := cs) d (fun e he => h e (List.mem_cons_of_mem _ he)) fun e he => hd e (List.mem_cons_of_mem _ he)
    have h3 := len_wrap c.isEye c.text
    have h4 : c.size * (6 + 5 * c.depth) ≤ c.size * (6 + 5 * d) := Nat.mul_le_mul_left _ (by have := hd c List.mem_cons_self; omega)
    unfold wlens at h2 ⊢
    rw [wtexts, List.map_cons, List.sum_cons, sizes, Nat.add_mul, List.length_cons]
    omega
end
/-- fit to stand -/
structure Fit (c : Ci) : Prop where
  wf : c.wf = true
  size : c.size ≤ 60
  depth : c.depth ≤ 20
theorem Fit.text {c : Ci} (h : Fit c) : c.text.length ≤ 6360 := by
  have h1 := text_len h.wf
  have h2 : c.size * (6 + 5 * c.depth) ≤ 60 * 106 := Nat.mul_le_mul h.size (by have := h.depth; omega)
  omega
theorem Fit.part {c p : Ci} (h : Fit c) (hp : p ∈ c.parts) : Fit p := by
  cases c with
  | eye n => cases hp
  | node k ps =>
    have h1 := sizes_mem (ps := ps) hp
    have h2 := depths_mem (ps := ps) hp
    have h3 := h.size
    have h4 := h.depth
    rw [Ci.size] at h3
    rw [Ci.depth] at h4
    exact ⟨wf_part h.wf hp, by omega, by omega⟩
mutual
theorem leaves_len : ∀ c : Ci, c.leaves.length = c.size
  | .eye n => by rw [Ci.leaves, Ci.size]; rfl
  | .node k ps => by rw [Ci.leaves, Ci.size, leavess_len ps]
theorem leavess_len : ∀ ps : List Ci, (leavess ps).length = sizes ps
  | [] => by rw [leavess, sizes]; rfl
  | c :: cs => by rw [leavess, sizes, List.length_append, leaves_len c, leavess_len cs]
end

/-! ### building -/
/-- the parts that c gives to a node of the kind k -/
def flat1 (k : Bool) (c : Ci) : List Ci := if c.isK k = true then c.parts else [c]
def flat (k : Bool) (cs : List Ci) : List Ci := cs.flatMap (flat1 k)
/-- each text once, the first one of it -/
def uniqG : List Str → List Ci → List Ci
  | _, [] => []
  | seen, c :: cs => if c.text ∈ seen then uniqG seen cs else c :: uniqG (seen ++ [c.text]) cs
def uniq (cs : List Ci) : List Ci := uniqG [] cs
def mkN (k : Bool) : List Ci → Ci
  | [c] => c
  | rows => .node k rows
def mkC (k : Bool) (cs : List Ci) : Ci := mkN k (uniq (flat k cs))
theorem uniqG_mem : ∀ {cs : List Ci} {seen : List Str} {c : Ci}, c ∈ uniqG seen cs → c ∈ cs
  | d :: cs, seen, c, h => by
    rw [uniqG] at h
    split at h
    · exact List.mem_cons_of_mem _ (uniqG_mem h)
    · rcases List.mem_cons.mp h with e | e
      · rw [e]
        exact List.mem_cons_self
      · exact List.mem_cons_of_mem _ (uniqG_mem e)
theorem uniqG_nd : ∀ {cs : List Ci} {seen : List Str}, ((uniqG seen cs).map Ci.text).Nodup ∧ ∀ c ∈ uniqG seen cs, c.text ∉ seen
  | [], seen => ⟨List.nodup_nil, fun _ h => nomatch h⟩
  | d :: cs, seen => by
    rw [uniqG]
    split
    · exact uniqG_nd
    · rename_i q
      obtain ⟨h1, h2⟩ := uniqG_nd (cs := cs) (seen := seen ++ [d.text])
      refine ⟨?_, fun c hc => ?_⟩
      · rw [List.map_cons, List.nodup_cons]
        refine ⟨fun z => ?_, h1⟩
        obtain ⟨c, hc, e⟩ := List.mem_map.mp z
        exact h2 c hc (by rw [e]; exact List.mem_append_right _ (List.mem_singleton.mpr rfl))
      · rcases List.mem_cons.mp hc with e | e
        · rw [e]
          exact q
        · exact fun z => h2 c e (List.mem_append_left _ z)
theorem uniqG_text : ∀ {cs : List Ci} {seen : List Str} {c : Ci}, c ∈ cs → c.text ∉ seen → ∃ d ∈ uniqG seen cs, d.text = c.text
  | d :: cs, seen, c, h, hn => by
    rw [uniqG]
    rcases List.mem_cons.mp h with e | e
    · subst e
      rw [if_neg hn]
      exact ⟨c, List.mem_cons_self, rfl⟩
    · split
      · exact uniqG_text e hn
      · by_cases q : c.text = d.text
        · exact ⟨d, List.mem_cons_self, q.symm⟩
        · obtain ⟨f, h1, h2⟩ := uniqG_text (seen := seen ++ [d.text]) e (by
            rw [List.mem_append, List.mem_singleton]
            exact fun z => z.elim hn q)
          exact ⟨f, List.mem_cons_of_mem _ h1, h2⟩
theorem flat_wf {k : Bool} {cs : List Ci} (h : ∀ c ∈ cs, c.wf = true) : ∀ p ∈ flat k cs, p.wf = true ∧ p.isK k = false := by
  intro p hp0
  obtain ⟨c, hc, hp⟩ := List.mem_flatMap.mp hp0
  clear hp0
  unfold flat1 at hp
  split at hp
  · rename_i q
    cases c with
    | eye n => cases q
    | node j ps =>
      have e : j = k := eq_of_beq q
      subst e
      exact (wf_node.mp (h _ hc)).2.1 p hp
  · rename_i q
    rw [List.mem_singleton.mp hp]
    exact ⟨h c hc, by simpa using q⟩
theorem flat_ne {k : Bool} {cs : List Ci} (h : ∀ c ∈ cs, c.wf = true) (hc : cs ≠ []) : flat k cs ≠ [] := by
  obtain ⟨c, r, rfl⟩ := List.exists_cons_of_ne_nil hc
  intro z
  have q : flat1 k c = [] := by
    unfold flat at z
    rw [List.flatMap_cons] at z
    exact (List.append_eq_nil_iff.mp z).1
  unfold flat1 at q
  split at q
  · rename_i e
    cases c with
    | eye n => cases e
    | node j ps =>
      have h2 := (wf_node.mp (h _ List.mem_cons_self)).1
      rw [show ps = [] from q] at h2
      simp at h2
  · cases q
theorem flat1_len {k : Bool} {c : Ci} (h : c.wf = true) : (flat1 k c).length ≤ c.size := by
  unfold flat1
  split
  · cases c with
    | eye n => exact Nat.zero_le _
    | node j ps =>
      rw [Ci.size]
      exact sizes_len fun d hd => ((wf_node.mp h).2.1 d hd).1
  · have z := size_pos h
    simpa using z
theorem flat_app (k : Bool) (a b : List Ci) : flat k (a ++ b) = flat k a ++ flat k b := List.flatMap_append ..
theorem flat_len {k : Bool} : ∀ {cs : List Ci}, (∀ c ∈ cs, c.wf = true) → (flat k cs).length ≤ sizes cs
  | [], _ => Nat.zero_le _
  | c :: cs, h => by
    have z1 := flat1_len (k := k) (h c List.mem_cons_self)
    have z2 := flat_len (k := k) (cs := cs) fun d hd => h d (List.mem_cons_of_mem _ hd)
    unfold flat at z2 ⊢
    rw [List.flatMap_cons, List.length_append, sizes]
    omega
theorem uniqG_len : ∀ {cs : List Ci} {seen : List Str}, (uniqG seen cs).length ≤ cs.length
  | [], _ => Nat.le_refl _
  | c :: cs, seen => by
    rw [uniqG]
    split
    · exact Nat.le_succ_of_le uniqG_len
    · exact Nat.succ_le_succ uniqG_len
theorem uniq_ne {cs : List Ci} (h : cs ≠ []) : uniq cs ≠ [] := by
  obtain ⟨c, r, rfl⟩ := List.exists_cons_of_ne_nil h
  obtain ⟨d, h1, _⟩ := uniqG_text (cs := c :: r) (seen := []) (c := c) List.mem_cons_self (by simp)
  exact List.ne_nil_of_mem h1
theorem mkC_wf {k : Bool} {cs : List Ci} (h : ∀ c ∈ cs, c.wf = true) (hc : cs ≠ []) : (mkC k cs).wf = true := by
  have h1 := flat_wf (k := k) h
  have h2 := uniq_ne (flat_ne (k := k) h hc)
  have h3 : ∀ p ∈ uniq (flat k cs), p.wf = true ∧ p.isK k = false := fun p hp => h1 p (uniqG_mem hp)
  have h4 : ((uniq (flat k cs)).map Ci.text).Nodup := uniqG_nd.1
  unfold mkC
  match uniq (flat k cs), h2, h3, h4 with
  | [c], _, h3, _ => exact (h3 c (List.mem_singleton.mpr rfl)).1
  | c :: d :: r, _, h3, h4 => exact wf_node.mpr ⟨by simp, h3, h4⟩

/-! ### circles on the heap -/
def cfs (c : Ci) (r t : Addr) : List (Str × V) := [("kind", .str c.kind), ("name", .str c.name), ("_rows", .ref r), ("size", .int ((c.size : Nat) : Int)), ("depth", .int ((c.depth : Nat) : Int)), ("_text", .str c.text), ("_names", .ref t)]
structure Nms (ns : List Str) (c : Ci) : Prop where
  mem : ∀ x, x ∈ ns ↔ x ∈ c.leaves
  nd : ns.Nodup
  srt : PyProof.Rows.sortedS ns = true
theorem nodup_len {α : Type} [DecidableEq α] : ∀ {l m : List α}, l.Nodup → (∀ x ∈ l, x ∈ m) → l.length ≤ m.length
  | [], _, _, _ => Nat.zero_le _
  | x :: l, m, nd, sub => by
    obtain ⟨n1, n2⟩ := List.nodup_cons.mp nd
    have hx : x ∈ m := sub x List.mem_cons_self
    have p := List.length_erase_of_mem hx
    have q : 0 < m.length := List.length_pos_of_mem hx
    have r := nodup_len (l := l) (m := m.erase x) n2 fun y hy => (List.mem_erase_of_ne (fun z : y = x => n1 (by rw [← z]; exact hy))).mpr (sub y (List.mem_cons_of_mem _ hy))
    rw [List.length_cons]
    omega
theorem Nms.len {ns : List Str} {c : Ci} (h : Nms ns c) : ns.length ≤ c.size := by
  rw [← leaves_len]
  exact nodup_len h.nd fun x hx => (h.mem x).mp hx
mutual
/-- v is the circle c, an instance of the class at C -/
inductive CO (C : Addr) (H : Hp) : V → Ci → Prop
  | mk {a dx r t : Addr} {rows : List V} {ns : List Str} {c : Ci} (h1 : H a = some (.ins C dx (cfs c r t))) (h2 : H r = some (.tup rows)) (h3 : H t = some (.tup (ns.map V.str))) (h4 : COs C H rows c.parts) (h5 : Nms ns c) : CO C H (.ref a) c
inductive COs (C : Addr) (H : Hp) : List V → List Ci → Prop
  | nil : COs C H [] []
  | cons {v : V} {vs : List V} {c : Ci} {cs : List Ci} (h : CO C H v c) (t : COs C H vs cs) : COs C H (v :: vs) (c :: cs)
end
/-- circles and tuples stay -/
def Kc (C : Addr) (H H' : Hp) : Prop := (∀ a dx fs, fs ≠ [] → H a = some (.ins C dx fs) → H' a = some (.ins C dx fs)) ∧ ∀ a xs, H a = some (.tup xs) → H' a = some (.tup xs)
section
variable {C : Addr} {H H' H2 : Hp}
theorem Kc.refl : Kc C H H := ⟨fun _ _ _ _ h => h, fun _ _ h => h⟩
theorem Kc.trans (h : Kc C H H') (h' : Kc C H' H2) : Kc C H H2 := ⟨fun a dx fs n e => h'.1 a dx fs n (h.1 a dx fs n e), fun a xs e => h'.2 a xs (h.2 a xs e)⟩
theorem Kc.of (s : Same H H') : Kc C H H' := ⟨fun _ _ _ _ e => s _ _ e, fun _ _ e => s _ _ e⟩
theorem Kc.kp {b : Addr} (k : Kp b H H') (B : Bag H b) : Kc C H H' := by
  obtain ⟨l, ns, i, r, m, c, h1, _⟩ := B
  refine ⟨fun a dx fs _ e => k.1 a _ (fun z => ?_) e, fun a xs e => k.1 a _ (fun z => ?_) e⟩
  · rw [z, h1] at e
    cases e
  · rw [z, h1] at e
    cases e
theorem Kc.but {p dx : Addr} (hp : H p = some (.ins C dx [])) (b : But p H H') : Kc C H H' := by
  refine ⟨fun a dy fs n e => b a _ (fun z => ?_) e, fun a xs e => b a _ (fun z => ?_) e⟩
  · rw [z, hp] at e
    cases e
    exact n rfl
  · rw [z, hp] at e
    cases e
theorem Kc.lst {D : Addr} (e : ∃ xs, H D = some (.lst xs)) (k : ∀ a o, a ≠ D → H a = some o → H' a = some o) : Kc C H H' := by
  obtain ⟨xs, e⟩ := e
  refine ⟨fun b dx fs _ h => k b _ (fun z => ?_) h, fun b ys h => k b _ (fun z => ?_) h⟩
  · rw [z, e] at h
    cases h
  · rw [z, e] at h
    cases h
theorem Kc.put {a : Addr} {u o : HO} (e : H a = some u) (n1 : ∀ C dx fs, u ≠ .ins C dx fs) (n2 : ∀ xs, u ≠ .tup xs) : Kc C H (upd H a o) := by
  refine ⟨fun b dx fs _ h => ?_, fun b xs h => ?_⟩
  · rw [upd_ne (fun z => n1 _ _ _ (Option.some.inj (e.symm.trans (z ▸ h))))]
    exact h
  · rw [upd_ne (fun z => n2 _ (Option.some.inj (e.symm.trans (z ▸ h))))]
    exact h
mutual
theorem co_mono (k : Kc C H H') : ∀ {v : V} {c : Ci}, CO C H v c → CO C H' v c
  | _, _, .mk h1 h2 h3 h4 h5 => .mk (k.1 _ _ _ (by unfold cfs; simp) h1) (k.2 _ _ h2) (k.2 _ _ h3) (cos_mono k h4) h5
theorem cos_mono (k : Kc C H H') : ∀ {vs : List V} {cs : List Ci}, COs C H vs cs → COs C H' vs cs
  | _, _, .nil => .nil
  | _, _, .cons h t => .cons (co_mono k h) (cos_mono k t)
end
theorem cos_len : ∀ {vs : List V} {cs : List Ci}, COs C H vs cs → vs.length = cs.length
  | _, _, .nil => rfl
  | _, _, .cons _ t => congrArg Nat.succ (cos_len t)
theorem cos_get : ∀ {vs : List V} {cs : List Ci} {i : Nat} {v : V}, COs C H vs cs → vs[i]? = some v → ∃ c, cs[i]? = some c ∧ CO C H v c
  | _, _, 0, _, .cons h t, e => by
    simp at e
    subst e
    exact ⟨_, rfl, h⟩
  | _, _, i + 1, _, .cons h t, e => by
    obtain ⟨c, h1, h2⟩ := cos_get (i := i) t (by simpa using e)
    exact ⟨c, by simpa using h1, h2⟩
theorem cos_app : ∀ {vs ws : List V} {cs ds : List Ci}, COs C H vs cs → COs C H ws ds → COs C H (vs ++ ws) (cs ++ ds)
  | _, _, _, _, .nil, h => h
  | _, _, _, _, .cons a t, h => .cons a (cos_app t h)
theorem cos_one {v : V} {c : Ci} (h : CO C H v c) : COs C H [v] [c] := .cons h .nil
theorem co_ref {v : V} {c : Ci} (h : CO C H v c) : ∃ a dx r t, v = .ref a ∧ H a = some (.ins C dx (cfs c r t)) := by
  cases h with
  | mk h1 h2 h3 h4 h5 => exact ⟨_, _, _, _, rfl, h1⟩
end
theorem sizes_sum (ps : List Ci) : (ps.map fun c => ((c.size : Nat) : Int)).sum = ((sizes ps : Nat) : Int) := (sizes_eq ps).symm
theorem depths_max {ps : List Ci} {m : Int} (h1 : m ∈ ps.map fun c => ((c.depth : Nat) : Int)) (h2 : ∀ y ∈ ps.map fun c => ((c.depth : Nat) : Int), y ≤ m) : m = ((depths ps : Nat) : Int) := by
  obtain ⟨c, hc, rfl⟩ := List.mem_map.mp h1
  have a := depths_mem hc
  obtain ⟨d, hd, e⟩ := depths_in (List.ne_nil_of_mem hc)
  have b := h2 _ (List.mem_map.mpr ⟨d, hd, rfl⟩)
  rw [e] at b
  omega
/-! ### comprehensions over circles -/
section
variable {K : PySem.W.Frag} {C a D : Addr} {H1 : Hp} {rows : List V} {ps : List Ci} {g : TG} {te : TE} {vs : List Nat} {σ : L2.St} {Qd : Hp → Prop}
theorem lc_co {J : It} {G : Hp → Prop} (w : Walk J rows.length G (YAt rows)) (f : Ci → V) (hc : COs C H1 rows ps) (hn : rows.length ≤ 1000000) (hD : H1 D = none) (hG : ∀ H, Same H1 H → G H)
    (hs : ∀ (v : V) (c : Ci) (H : Hp) (Nx : VK), c ∈ ps → Same H1 H → CO C H v c → (∀ H4, Same H H4 → Nx (f c) H4) → g v (wipe σ vs) H fun σ2 H2 => wipe σ2 vs = wipe σ vs ∧ te σ2 H2 Nx)
    (hd : ∀ H, Same H1 H → H D = some (.lst (ps.map f)) → Qd H) :
    ∃ W : Nat → Nat → Hp → Prop, (∃ m, W 0 m (upd H1 D (.lst []))) ∧ ∀ i m H, W i m H →
      (J.stop i H ∧ Qd H) ∨ (J.go i H ∧ ∃ Nx : Hp → Prop, (∀ H', Nx H' → ∃ m', m' < m ∧ W (i + 1) m' H') ∧ ∀ x H', J.yld i H x H' → g x (wipe σ vs) H' fun σ2 H2 => wipe σ2 vs = wipe σ vs ∧ tYes σ2 H2 fun b H3 =>
        if b = true then te σ2 H3 fun y H4 => ∃ acc, H4 D = some (.lst acc) ∧ acc.length < sizeLine ∧ Nx (upd H4 D (.lst (acc ++ [y]))) else Nx H3) := by
  have hl : rows.length = ps.length := cos_len hc
  refine lc_map w (fun i => f (ps[i]?.getD default)) hn hD hG ?_ ?_
  · rintro i x H H' Nx hi s ⟨rfl, hx⟩ hN
    obtain ⟨c, h1, h2⟩ := cos_get hc hx
    rw [h1] at hN
    exact hs x c H' Nx (List.mem_of_getElem? h1) s (co_mono (Kc.of s) h2) hN
  · intro H s hL
    refine hd H s ?_
    rw [hL, hl, map_get default f ps]
end
/-! ### comprehensions of two clauses: a list at each turn, all one behind the other -/
section
variable {K : PySem.W.Frag} {J : It} {n : Nat} {G : Hp → Prop} {Y : Nat → Hp → V → Hp → Prop} {g g1 : TG} {tl te : TE} {vs vs1 : List Nat} {σ : L2.St} {H1 : Hp} {D : Addr} {Qd : Hp → Prop}
theorem wipe1_set {σ2 : L2.St} {i : Nat} {x : V} (h : i < σ2.length) : ((wipe σ2 [i]).set i (some x))[i]? = some (some x) := List.getElem?_set_self (by rw [wipe_length]; exact h)
theorem lc2_list (w : Walk J n G Y) (R : Nat → List V → Hp → Prop) (hD : H1 D = none) (hG : ∀ H, Same H1 H → G H)
    (r0 : R 0 [] (upd H1 D (.lst []))) (hR : ∀ i acc H H', (∃ xs, H D = some (.lst xs)) → (∀ a o, a ≠ D → H a = some o → H' a = some o) → R i acc H → R i acc H')
    (hs : ∀ (i : Nat) (x : V) (H H' : Hp) (acc : List V) (Nx : L2.St → VK), i < n → Same H1 H → H D = some (.lst acc) → R i acc H → Y i H x H' →
      (∀ σ2 l ys H4, σ2.length = σ.length → Same H H4 → l ≠ D → SqL K H4 l ys → (acc ++ ys).length ≤ 1000000 → R (i + 1) (acc ++ ys) H4 → Nx σ2 (.ref l) H4) → g x (wipe σ vs) H' fun σ2 H2 => wipe σ2 vs = wipe σ vs ∧ tl σ2 H2 (Nx σ2))
    (hte : ∀ (x : V) (σ2 : L2.St) (H : Hp) (Nx : VK), σ2.length = σ.length → Nx x H → g1 x (wipe σ2 vs1) H fun σ3 H5 => wipe σ3 vs1 = wipe σ2 vs1 ∧ te σ3 H5 Nx)
    (hd : ∀ H acc, Same H1 H → H D = some (.lst acc) → R n acc H → Qd H) :
    ∃ W : Nat → Nat → Hp → Prop, (∃ m, W 0 m (upd H1 D (.lst []))) ∧ ∀ i m H, W i m H →
      (J.stop i H ∧ Qd H) ∨ (J.go i H ∧ ∃ Nx : Hp → Prop, (∀ H', Nx H' → ∃ m', m' < m ∧ W (i + 1) m' H') ∧ ∀ x H', J.yld i H x H' → g x (wipe σ vs) H' fun σ2 H2 => wipe σ2 vs = wipe σ vs ∧ tYes σ2 H2 fun b H3 =>
        if b = true then iList K tl σ2 H3 fun J1 H4 => ∃ W1 : Nat → Nat → Hp → Prop, (∃ m, W1 0 m H4) ∧ ∀ j k H, W1 j k H →
          (J1.stop j H ∧ Nx H) ∨ (J1.go j H ∧ ∃ Nx1 : Hp → Prop, (∀ H', Nx1 H' → ∃ k', k' < k ∧ W1 (j + 1) k' H') ∧ ∀ x H', J1.yld j H x H' → g1 x (wipe σ2 vs1) H' fun σ3 H5 => wipe σ3 vs1 = wipe σ2 vs1 ∧ tYes σ3 H5 fun b H6 =>
            if b = true then te σ3 H6 fun y H7 => ∃ acc, H7 D = some (.lst acc) ∧ acc.length < sizeLine ∧ Nx1 (upd H7 D (.lst (acc ++ [y]))) else Nx1 H6)
        else Nx H3) := by
  refine ⟨fun i m H => m = n - i ∧ i ≤ n ∧ Same H1 H ∧ ∃ acc, H D = some (.lst acc) ∧ R i acc H, ⟨n, by simp, Nat.zero_le _, same_upd hD, [], upd_same, r0⟩, ?_⟩
  rintro i m H ⟨rfl, hi, s1, acc0, hL, hr⟩
  by_cases hlt : i < n
  · refine .inr ⟨w.goes i H hlt (hG H s1), fun H' => Same H1 H' ∧ ∃ acc, H' D = some (.lst acc) ∧ R (i + 1) acc H', fun H' z => ⟨n - (i + 1), by omega, rfl, hlt, z⟩, fun x H' y => ?_⟩
    refine hs i x H H' acc0 (fun σ2 v H4 => ∃ a, v = .ref a ∧ (∃ xs, SqL K H4 a xs) ∧ ∃ W1 : Nat → Nat → Hp → Prop, (∃ m, W1 0 m H4) ∧ ∀ j k H5, W1 j k H5 →
      ((Itl K a).stop j H5 ∧ Same H1 H5 ∧ ∃ acc, H5 D = some (.lst acc) ∧ R (i + 1) acc H5) ∨ ((Itl K a).go j H5 ∧ ∃ Nx1 : Hp → Prop, (∀ H', Nx1 H' → ∃ k', k' < k ∧ W1 (j + 1) k' H') ∧ ∀ x H', (Itl K a).yld j H5 x H' → g1 x (wipe σ2 vs1) H' fun σ3 H5 => wipe σ3 vs1 = wipe σ2 vs1 ∧ tYes σ3 H5 fun b H6 =>
            if b = true then te σ3 H6 fun y H7 => ∃ acc, H7 D = some (.lst acc) ∧ acc.length < sizeLine ∧ Nx1 (upd H7 D (.lst (acc ++ [y]))) else Nx1 H6)) hlt s1 hL hr (w.yields i H x H' hlt (hG H s1) y) ?_
    intro σ2 l ys H4 h2 s4 nl hq hz hr4
    refine ⟨l, rfl, ⟨ys, hq⟩, fun j k H5 => k = ys.length - j ∧ j ≤ ys.length ∧ (∀ a o, a ≠ D → H4 a = some o → H5 a = some o) ∧ H5 D = some (.lst (acc0 ++ ys.take j)), ⟨ys.length, by simp, Nat.zero_le _, fun _ _ _ e => e, by rw [List.take_zero, List.append_nil]; exact s4 _ _ hL⟩, ?_⟩
    rintro j k H5 ⟨rfl, hj, k5, hL5⟩
    have q5 : SqL K H5 l ys := by
      rcases hq with (e | ⟨o, e⟩) | e
      · exact .inl (.inl (k5 _ _ nl e))
      · exact .inl (.inr ⟨o, k5 _ _ nl e⟩)
      · exact .inr e
    by_cases hj2 : j < ys.length
    · refine .inr ⟨⟨ys, ys[j], q5, List.getElem?_eq_getElem hj2⟩, fun H6 => (∀ a o, a ≠ D → H4 a = some o → H6 a = some o) ∧ H6 D = some (.lst (acc0 ++ ys.take (j + 1))), fun H6 z => ⟨ys.length - (j + 1), by omega, rfl, hj2, z⟩, fun x6 H6 y6 => ?_⟩
      obtain ⟨rfl, hx6⟩ := y6
      have ex : ys[j]? = some x6 := hx6 ys q5
      have key := hte x6 σ2 H6 (Nx := fun y H7 => ∃ acc, H7 D = some (.lst acc) ∧ acc.length < sizeLine ∧ (fun H6 : Hp => (∀ a o, a ≠ D → H4 a = some o → H6 a = some o) ∧ H6 D = some (.lst (acc0 ++ ys.take (j + 1)))) (upd H7 D (.lst (acc ++ [y])))) h2 ?_
      · have e : (fun (σ3 : L2.St) (H5 : Hp) => wipe σ3 vs1 = wipe σ2 vs1 ∧ tYes σ3 H5 fun b H6 => if b = true then te σ3 H6 fun y H7 => ∃ acc2, H7 D = some (.lst acc2) ∧ acc2.length < sizeLine ∧ (fun H6 : Hp => (∀ a o, a ≠ D → H4 a = some o → H6 a = some o) ∧ H6 D = some (.lst (acc0 ++ ys.take (j + 1)))) (upd H7 D (.lst (acc2 ++ [y]))) else (fun H6 : Hp => (∀ a o, a ≠ D → H4 a = some o → H6 a = some o) ∧ H6 D = some (.lst (acc0 ++ ys.take (j + 1)))) H6) =
            fun σ3 H5 => wipe σ3 vs1 = wipe σ2 vs1 ∧ te σ3 H5 fun y H7 => ∃ acc2, H7 D = some (.lst acc2) ∧ acc2.length < sizeLine ∧ (fun H6 : Hp => (∀ a o, a ≠ D → H4 a = some o → H6 a = some o) ∧ H6 D = some (.lst (acc0 ++ ys.take (j + 1)))) (upd H7 D (.lst (acc2 ++ [y]))) := by
          funext σ3 H5
          unfold tYes
          simp only [if_true]
        first
          | exact key
          | (rw [e]; exact key)
      · refine ⟨acc0 ++ ys.take j, hL5, ?_, fun a o na e => ?_, ?_⟩
        · rw [List.length_append, List.length_take]
          rw [List.length_append] at hz
          rw [sizeLine_eq]
          omega
        · rw [upd_ne na]
          exact k5 a o na e
        · rw [upd_same, List.take_add_one, ex, ← List.append_assoc]
          rfl
    · have e : j = ys.length := by omega
      refine .inl ⟨⟨ys, q5, by omega⟩, fun a o e => ?_, acc0 ++ ys, by rw [hL5, e, List.take_length], hR _ _ H4 H5 ⟨_, s4 _ _ hL⟩ k5 hr4⟩
      exact k5 a o (ne_of_none e hD) (s4 _ _ (s1 _ _ e))
  · have e : i = n := by omega
    subst e
    exact .inl ⟨w.stops H (hG H s1), hd H acc0 s1 hL hr⟩
end
/-! ### what is asked of the class -/
def clsB (K : PySem.W.Frag) (C : Addr) : Bool := PySem.W.readsIn K C (.type "type") && decide (PySem.W.specialIn K (.ref C) "__getattribute__" = some (some (.builtin "type.__getattribute__")))
theorem clsB_ok {K : PySem.W.Frag} {C : Addr} (h : clsB K C = true) : ClX.CRead K C (.type "type") := by
  obtain ⟨h1, h2⟩ := Bool.and_eq_true_iff.mp h
  exact ⟨h1, of_decide_eq_true h2⟩
def clsIntB (K : PySem.W.Frag) (C : Addr) (f : Str) (n : Int) : Bool := match PySem.W.findCls K (.ref C) (.type "type") f with
  | some (.val (.int j _)) => decide (j = n)
  | _ => false
theorem clsIntB_ok {K : PySem.W.Frag} {C : Addr} {f : Str} {n : Int} (h : clsIntB K C f n = true) : ∃ u, ClX.CVal K C (.type "type") f (.int n) u := by
  unfold clsIntB at h
  split at h
  · rename_i j t e
    have z : j = n := of_decide_eq_true h
    subst z
    exact ⟨_, e, t, rfl⟩
  · cases h
end LC

/-! Own rules: an own exception class (over ValueError, at any depth) whose __init__ says super().__init__('..') and then stores its attributes. -/
namespace LXs
open PySem PySem.Spec PyProof.Rows L2 LL
/-- the scope of such an __init__: all names local, but __class__ -/
structure FnScopeC (N P : List Str) (sc : Scope) : Prop where
  kind : sc.kind = .function
  co : sc.isCoroutine = false
  gen : sc.isGenerator = false
  nd : N.Nodup
  pre : N.take P.length = P
  par : ∀ x ∈ P, sc.names.lookup x = some .local
  nocell : ∀ y ∈ sc.names, y.2 ≠ .cell
  free : ∀ y ∈ sc.names, y.2 = .free → y.1 = "__class__"
  sup : sc.names.lookup ("super" : Str) = some .globalImplicit
  cls : sc.names.lookup ("__class__" : Str) = some .free
/-- what the written part says of the def, of its class and of its cell -/
structure SupD (K : PySem.W.Frag) (x qual : Str) (params : Arguments) (body : List Stmt) (scope : Scope) (D f cc cda : Addr) (file : Str) (fd : FuncData) : Prop where
  ex : ∃ (oc : Value) (od : Option Addr) (doc pm : Value) (an : Option Addr) (ct : Value) (osl : Array (Option Value)),
    fd = PySem.W.fnX x qual params body scope [("__class__", cc)] .none .none doc pm an (.ref cda) ct ∧ K.lookup f = some ⟨oc, od, .func fd, osl⟩
  code : PySem.W.codeIn K (.ref cda) qual = true
  file : ∃ (c : Value) (d : Option Addr) (vs : Array Value) (sl : Array (Option Value)) (tf : Tok), K.lookup cda = some ⟨c, d, .fields vs, sl⟩ ∧ vs[2]? = some (.str file tf)
  cell : ∃ (c : Value) (d : Option Addr) (sl : Array (Option Value)), K.lookup cc = some ⟨c, d, .cell (some (.ref D)), sl⟩
  cls : ∃ cd, PySem.W.clsIn K D = some cd ∧ PySem.W.alongIn K "__init__" ((cd.mro.dropWhile (· != .ref D)).drop 1) = some (some (.builtin "ValueError.__init__"))
  self : PySem.W.mroIn K D (.ref D) = some true
  sub : PySem.W.subIn K (.ref D) (.type "ValueError") = some true
  opq : PySem.W.nsIn K cStatics "thirdparty.any" = some none
/-- the program's text calls no own super, and lies in this file -/
structure SupP (P : Program) (file : Str) : Prop where
  file : ((P.main.file : Str) == file) = true
  top : (P.main.scope.names.lookup ("super" : Str)).isSome = false
/-- the context of such a body -/
def cxC (CX : CXT) (P : Program) (w : World) (K : PySem.W.Frag) (mg : Str → Option Value) (base : Heap) (N : List Str) (qual : Str) (scope : Scope) (f cc : Addr) (cd : Value) (A : Around) (outer : List Env) (s : Shared) (H : Hp) (E : XK) : Cx where
  prog := P
  w := w
  K := K
  mg := mg
  base := base
  A := A.deeper (PySem.W.envX qual scope s.heap.objs.size f cd [("__class__", cc)])
  N := N
  s_0 := s
  H_0 := H
  env := PySem.W.envX qual scope s.heap.objs.size f cd [("__class__", cc)]
  outer := outer
  stack := PySem.W.envX qual scope s.heap.objs.size f cd [("__class__", cc)] :: outer
  ex := []
  calm := true
  fn := fun _ => false
  pn := []
  xe := fun e s' => wpAny (model P w) (A.deeper (PySem.W.envX qual scope s.heap.objs.size f cd [("__class__", cc)])) (leaving (PySem.W.envX qual scope s.heap.objs.size f cd [("__class__", cc)]) e) (fun _ s'' => CX outer H s E e s'') (fun e' s'' => CX outer H s E e' s'') s'
section
variable {CX : CXT} {P : Program} {w : World} {K : PySem.W.Frag} {mg : Str → Option Value} {base : Heap} {N ps : List Str} {x qual : Str} {params : Arguments} {body : List Stmt} {scope : Scope} {f cc cda D : Addr} {file : Str} {fd : FuncData} {A : Around} {outer : List Env} {s : Shared} {H : Hp} {E : XK} {us : List Value} {vs : List V}
theorem lookup_rev : ∀ {ps : List Str} {us : List Value} {i : Nat} {y : Str} {u : Value}, ps.Nodup → ps[i]? = some y → us[i]? = some u → (ps.zip us).reverse.lookup y = some u
  | [], _, _, _, _, _, h, _ => by simp at h
  | _ :: _, [], _, _, _, _, _, h => by simp at h
  | p :: ps, v :: us, 0, y, u, nd, h1, h2 => by
    simp only [List.getElem?_cons_zero, Option.some.injEq] at h1 h2
    subst h1
    subst h2
    rw [List.zip_cons_cons, List.reverse_cons]
    have n : ∀ q ∈ (ps.zip us).reverse, q.1 ≠ p := fun q hq z => by
      have m := (List.of_mem_zip (List.mem_reverse.mp hq)).1
      rw [z] at m
      exact (List.nodup_cons.mp nd).1 m
    have e : ∀ (l : List (Str × Value)), (∀ q ∈ l, q.1 ≠ p) → (l ++ [(p, v)]).lookup p = some v := fun l => by
      induction l with
      | nil => intro _; simp
      | cons q l ih =>
        intro hq
        obtain ⟨q1, q2⟩ := q
        have n1 : q1 ≠ p := hq (q1, q2) List.mem_cons_self
        rw [List.cons_append, List.lookup_cons]
        have n2 : (p == q1) = false := by simp [Ne.symm n1]
        rw [n2]
        exact ih fun r hr => hq r (List.mem_cons_of_mem _ hr)
    exact e _ n
  | p :: ps, v :: us, i + 1, y, u, nd, h1, h2 => by
    rw [List.getElem?_cons_succ] at h1 h2
    have ih := lookup_rev (List.nodup_cons.mp nd).2 h1 h2
    rw [List.zip_cons_cons, List.reverse_cons]
    have e : ∀ (l r : List (Str × Value)), l.lookup y = some u → (l ++ r).lookup y = some u := fun l r h => by
      rw [List.lookup_append, h]
      rfl
    exact e _ _ ih
theorem inv_startC (S : FnScopeC N ps scope) (SD : SupD K x qual params body scope D f cc cda file fd) (hd : A.handled = none) (e0 : Env0 P w K mg base A outer s H) (hl : vs.length = ps.length) (r : Vals vs us) {h1 : Heap} {tk : Nat}
    (hns : h1.Ns s.heap.objs.size fun y => (ps.zip us).reverse.lookup y) (hk : ∀ b o, s.heap.get? b = some o → h1.get? b = some o) :
    Inv (cxC CX P w K mg base N qual scope f cc (.ref cda) A outer s H E) [] (L2.start N vs) H { s with heap := h1, toks := tk } := by
  have hpl : ps.length ≤ N.length := by have := congrArg List.length S.pre; rw [List.length_take] at this; omega
  have noA : ∀ b : Addr, b ∉ (cxC CX P w K mg base N qual scope f cc (.ref cda) A outer s H E).ex := fun b z => absurd (show b ∈ ([] : List Addr) from z) (by simp)
  obtain ⟨cC', cd', csl, hcell⟩ := SD.cell
  have KX : ∀ b o, K.lookup b = some o → s.heap.get? b = some o ∧ H b = none := fun b o e => e0.bs b o (e0.mod.kin b o e)
  have one : ∀ {y : Str} {c : Addr}, List.lookup y [(("__class__" : Str), cc)] = some c → y = "__class__" ∧ c = cc := fun {y c} h => by
    rw [List.lookup_cons] at h
    split at h
    · rename_i q
      injection h with h
      exact ⟨eq_of_beq q, h.symm⟩
    · simp at h
  refine ⟨⟨e0.mod, S.kind, rfl, rfl, Nat.le_refl _, fun y z c h1 h2 => ?_, fun y hy => ?_, fun y c h _ => (Bool.noConfusion h), fun _ => hd, Around.frames_deeper e0.frames, .inr ⟨rfl, rfl⟩, fun b z => absurd z (noA b), e0.bs, e0.bsz, fun b _ _ => noA b, fun b z => absurd z (noA b), e0.funs, e0.frf⟩,
    rfl, e0.bare, Un.kept hk, ⟨_, hns, fun i y v h1 h2 h3 => ?_⟩, fun y c h => ?_, e0.hok.fresh (Nat.le_refl _), fun y c h => ?_, fun p hp => absurd (show p ∈ ([] : List (Addr × Obj)) from hp) (by simp), e0.hok.kept hk, ?_⟩
  · rw [(one h1).1, (one h2).1]
  · have hy : scope.names.lookup y = some .cell ∨ scope.names.lookup y = some .free := hy
    rcases hy with hy | hy
    · exact absurd rfl (S.nocell _ (PySem.mem_of_lookup hy))
    · have e := S.free _ (PySem.mem_of_lookup hy) rfl
      have e : y = "__class__" := e
      subst e
      exact ⟨cc, by show List.lookup _ [(("__class__" : Str), cc)] = _; rw [List.lookup_cons, beq_self_eq_true]⟩
  · have hi : i < vs.length := by
      unfold L2.start at h2
      by_cases hi : i < vs.length
      · exact hi
      · rw [List.getElem?_append_right (by simpa using hi)] at h2
        rw [List.getElem?_replicate] at h2
        split at h2 <;> cases h2
    have ha : vs[i]? = some v := by
      unfold L2.start at h2
      rw [List.getElem?_append_left (by simpa using hi), List.getElem?_map] at h2
      cases e : vs[i]? with
      | none => rw [e] at h2; cases h2
      | some a => rw [e] at h2; cases h2; rfl
    obtain ⟨u, hu, rv⟩ := r.get ha
    have hp : ps[i]? = some y := by
      rw [← S.pre, List.getElem?_take_of_lt (by omega)]; exact h1
    have ndP : ps.Nodup := by rw [← S.pre]; exact S.nd.sublist (List.take_sublist _ _)
    exact ⟨u, rv, .inl ⟨S.par y (List.mem_of_getElem? hp), lookup_rev ndP hp hu⟩⟩
  · obtain ⟨e1, e2⟩ := one h
    subst e2
    exact ⟨_, _, hk _ _ (KX _ _ hcell).1, rfl⟩
  · obtain ⟨e1, e2⟩ := one h
    subst e2
    exact (KX _ _ hcell).2
  · unfold L2.start
    show _ = N.length
    rw [List.length_append, List.length_map, List.length_replicate]
    omega
end
/-! ### super().__init__('..') -/
section
variable {CX : CXT} {P : Program} {w : World} {K : PySem.W.Frag} {mg : Str → Option Value} {base : Heap} {N ps : List Str} {x qual : Str} {params : Arguments} {body : List Stmt} {scope : Scope} {f cc cda D : Addr} {file : Str} {fd : FuncData} {A : Around} {outer : List Env} {s s1 : Shared} {H H1 : Hp} {E : XK}
theorem init_wrapped {A : Around} {E : Value → Shared → Prop} {X : Cx} {pins : List (Addr × Obj)} {σ : L2.St} {u a C : Addr} {us : List Value} {Q : Value → Shared → Prop} (T : OexC X.K C) (I : Inv X pins σ H s) (e : H a = some (exo a C none)) (hu : s.heap.get? u = some (PySem.W.kxs_mw "ValueError.__init__" a))
    (hl : us.length ≤ sizeLine) (h : ∀ s', Inv X pins σ H s' → Q .none s') : wpAny (model X.prog X.w) A (call (.ref u) us) Q E s := by
  obtain ⟨nm, q, N, bs, bm, sn, sub, ab, col, dd, k0, k1, k2, k3, k5, hC, hbm⟩ := T.cls
  obtain ⟨t1, ho⟩ := exo_at I.hok e
  have hCh := I.kIn _ _ hC
  obtain ⟨hp, g, d, t, os⟩ := s
  refine wpAny_call (codeAny_of_tree ?_)
  show wpAny _ A.in1 (callAny (.ref u) ⟨us, []⟩) _ _ _
  simp only [callAny]
  refine wpAny_bind (wpAny_load hu ?_)
  simp only [PySem.W.kxs_mw, show (Value.type "method-wrapper" == Value.type "method" || Value.type "method-wrapper" == Value.type "builtin_function_or_method" || Value.type "method-wrapper" == Value.type "method-wrapper") = true by decide, if_true]
  refine PySem.W.KFB.if_so (by decide) ?_
  refine wpAny_bind (PySem.W.check_bound_init F.excBase_ValueError.toExcCallFacts hCh ho rfl ?_)
  refine wpAny_bind (wpAny_pure (wpAny_pure ?_))
  refine ⟨PySem.plainId_quiet F.excBase_ValueError.init.plain _, codeAny_builtin F.excBase_ValueError.initEntry ?_⟩
  refine PySem.W.exc_init_tree (cls := .ref C) (t0 := t1) (dv := none) (c2 := .none) (c3 := .none) (b4 := .bool false) ho hl fun h' k hx _ => ?_
  have J := I.write (t' := t) (x := a) (e := a) (o := exo a C none) (by rw [e]; exact True.intro) (.inl rfl) k ⟨_, hx⟩ (exo_ok hx)
  have eu : upd H a (exo a C none) = H := by
    funext b
    by_cases hb : b = a
    · rw [hb, upd_same, e]
    · rw [upd_ne hb]
  rw [eu] at J
  exact h _ J
/-- super().__init__('msg') -/
abbrev supSt (msg : Str) (p0 p1 ap cp pos ep : Pos) (j : Nat) : Stmt := .Expr (.Call (.Attribute (.Call (.Name "super" p0) [] [] p1) "__init__" ap) [.Constant (.str msg) j cp] [] pos) ep
/-- how the machine takes the expression -/
def SupEval (qual : Str) (scope : Scope) (L f cc cda : Addr) (msg : Str) (p0 p1 ap cp pos : Pos) (j : Nat) : Prop := ∃ pl : Sem Bool,
  eval (.Call (.Attribute (.Call (.Name "super" p0) [] [] p1) "__init__" ap) [.Constant (.str msg) j cp] [] pos) (PySem.W.envX qual scope L f (.ref cda) [("__class__", cc)]) = (do
      let ov ← attributeBase (.Call (.Name "super" p0) [] [] p1) "__init__" (PySem.W.envX qual scope L f (.ref cda) [("__class__", cc)]) (eval (.Call (.Name "super" p0) [] [] p1) (PySem.W.envX qual scope L f (.ref cda) [("__class__", cc)]))
      standAt ap.atName
      let (g, first) ← holding [ov] (getMethod ov "__init__" pl)
      callWith pos g first (backTo pos (starEach [.Constant (.str msg) j cp] (PySem.W.envX qual scope L f (.ref cda) [("__class__", cc)]))) [])
theorem super_at (S : FnScopeC N ps scope) (SD : SupD K x qual params body scope D f cc cda file fd) (SP : SupP P file) (T : OexC K D) (hmS : mg "super" = none) {ar : Arg} (hp : (params.posonlyargs ++ params.args).head? = some ar) (hN : N[0]? = some ar.arg) (hP : ar.arg ∈ ps)
    {msg : Str} {p0 p1 ap cp pos ep : Pos} {j : Nat} (hi : ∀ L, interactive (PySem.W.envX qual scope L f (.ref cda) [("__class__", cc)]) = false) (he : ∀ L, SupEval qual scope L f cc cda msg p0 p1 ap cp pos j) {σ : L2.St} {a : Addr} {Q : Flow → Shared → Prop} {EE : Value → Shared → Prop} (I : Inv (cxC CX P w K mg base N qual scope f cc (.ref cda) A outer s H E) [] σ H1 s1)
    (hs : σ[0]? = some (some (.ref a))) (ha : H1 a = some (exo a D none)) (h : ∀ s', Inv (cxC CX P w K mg base N qual scope f cc (.ref cda) A outer s H E) [] σ H1 s' → Q .next s') :
    PySem.wpAt (model P w) (A.deeper (PySem.W.envX qual scope s.heap.objs.size f (.ref cda) [("__class__", cc)])) (.func body (PySem.W.envX qual scope s.heap.objs.size f (.ref cda) [("__class__", cc)]))
      (exec (supSt msg p0 p1 ap cp pos ep j) (PySem.W.envX qual scope s.heap.objs.size f (.ref cda) [("__class__", cc)])) Q EE s1 := by
  obtain ⟨oc, od, doc, pm, an, ct, osl, efd, lk⟩ := SD.ex
  obtain ⟨c1, d1, vs1, sl1, tf, lkc, hfl⟩ := SD.file
  obtain ⟨c2, d2, sl2, lkcc⟩ := SD.cell
  obtain ⟨cd, hcl, hal⟩ := SD.cls
  have X := I.kIn
  obtain ⟨t1, ho⟩ := exo_at I.hok ha
  obtain ⟨m, hns, hl⟩ := id I.loc
  have kself : scope.names.lookup ar.arg = some .local := S.par _ hP
  obtain ⟨u, ru, lu⟩ := hl 0 ar.arg (.ref a) hN hs (.inl kself)
  obtain rfl : u = Value.ref a := ru
  have hm : m ar.arg = some (.ref a) := by
    rcases lu with ⟨_, z⟩ | ⟨z, _⟩
    · exact z
    · exfalso
      rcases z with z | z
      · have z : scope.names.lookup ar.arg = some .cell := z
        rw [kself] at z
        cases z
      · have z : scope.names.lookup ar.arg = some .free := z
        rw [kself] at z
        cases z
  obtain ⟨oD, hD1, hD2⟩ : ∃ oD, s1.heap.get? D = some oD ∧ oD.data = .cls cd := by
    unfold PySem.W.clsIn at hcl
    split at hcl
    · rename_i c d cd' sl ho
      cases hcl
      exact ⟨_, X _ _ ho, rfl⟩
    · cases hcl
  obtain ⟨mb, hb1, hb2⟩ := I.mod.blt
  have hglob := I.mod.glob.keeps I.bk
  have hblt := hb1.keeps I.bk
  have hInst : PySem.W.InstAt s1.heap a { cls := .ref D, dict := none, data := .fields #[.ref t1, .none, .none, .none, .bool false, .none] } D none := ⟨ho, rfl, rfl, trivial⟩
  obtain ⟨pl, he⟩ := he s.heap.objs.size
  refine ks_wpAt_Expr_any ?_ (hi _)
  refine ks_wpAt_MethodCall (pl := pl) ?_ he
  refine ks_wpAt_super_base (env := PySem.W.envX qual scope s.heap.objs.size f (.ref cda) [("__class__", cc)]) S.sup S.cls (by decide) rfl (X _ _ lk) rfl (by rw [efd]; exact hp) rfl (X _ _ lkc) rfl hfl SP.file SP.top ?_
  refine PySem.W.ks_loadName_global S.kind S.sup (Calls.loadGlobal_builtin (env := PySem.W.envX qual scope s.heap.objs.size f (.ref cda) [("__class__", cc)]) hglob hmS hblt ((hb2 _ (by decide)).trans (show bootBuiltins "super" = some (.type "super") by decide +kernel)) ⟨rfl, ?_⟩)
  refine wpAny_loadName_free S.kind S.cls (show List.lookup _ [(("__class__" : Str), cc)] = some cc by rw [List.lookup_cons, beq_self_eq_true]) ⟨_, X _ _ lkcc, rfl⟩ ?_
  refine wpAny_loadName_local S.kind kself hns hm ?_
  obtain ⟨hp1, g, d, t, os⟩ := s1
  refine ks_wpAny_isType_cls hD1 hD2 ⟨rfl, ?_⟩
  refine ks_wpAny_call_super hD1 hD2 ho rfl (fun c e => by cases e) (PySem.W.looks_mroIn X SD.self) (fun h2 e2 k2 => ?_)
  have I2 := I.kept (t' := t) (h' := h2) k2
  have X2 := I2.kIn
  have ho2 := k2 _ _ ho
  have hI2 : PySem.W.Looks (model P w) h2 (isInstance (.ref a) (.type "ValueError")) true := (show PySem.W.InstAt h2 a _ D none from ⟨ho2, rfl, rfl, trivial⟩).type.andThen (PySem.W.looks_subIn X2 SD.sub)
  refine PySem.W.kxs_getMethod PySem.W.kxs_ValueError e2 (PySem.W.looks_opaque X2 SD.opq) (l₀ := cd.mro) ?_ rfl X2 hal hI2 (PySem.W.ks_ne X hInst hcl) (by decide) ?_
  · exact fun A Q E s k q => wpAny_bind ((PySem.W.looks_clsIn X2 hcl) A _ E s k (wpAny_pure q))
  have k3 : ∀ b o, h2.get? b = some o → (h2.push (PySem.W.kxs_mw "ValueError.__init__" a)).get? b = some o := fun b o e => Heap.get?_push_of_some _ e
  have I3 := I2.kept (t' := t + 1) k3
  have hu3 : (h2.push (PySem.W.kxs_mw "ValueError.__init__" a)).get? h2.objs.size = some (PySem.W.kxs_mw "ValueError.__init__" a) := Heap.get?_push_at rfl rfl
  have I4 := I3.pins_of (pins' := [(h2.objs.size, PySem.W.kxs_mw "ValueError.__init__" a)]) fun p hp => by
    rw [List.mem_singleton.mp hp]
    have lt : s.heap.objs.size < h2.objs.size := by
      obtain ⟨m2, ⟨o, es, ep, hL, r⟩, _⟩ := id I2.loc
      exact Heap.lt_size hL
    refine ⟨hu3, I2.hok.fresh (Nat.le_refl _), fun z => ?_, fun z => ?_, fun v z => by cases z⟩
    · have z : h2.objs.size = s.heap.objs.size := z
      omega
    · obtain ⟨_, o, ho9, _⟩ := I.ok.funs.mem z
      have hg2 : s.heap.get? h2.objs.size = some o := ho9
      exact absurd (Nat.lt_trans lt (Heap.lt_size hg2)) (Nat.lt_irrefl _)
  have hpa := pa_cons (X := cxC CX P w K mg base N qual scope f cc (.ref cda) A outer s H E) (pe_str (x := msg) (j := j) (pos := cp)) pa_nil
  refine PySem.W.kxs_callWith (i := "ValueError.__init__") (x := a) (by rfl) ?_
  refine PySem.Calls.evalArgs_plain ?_
  refine thn (hpa.run pos _ _ σ H1 (fun vs H2 => vs = [.str msg] ∧ H2 = H1) I4 ⟨rfl, rfl⟩) fun us s5 ⟨vs, H5, I5, r5, ev, eH⟩ => ?_
  subst ev
  subst eH
  have pu := (I5.pin (h2.objs.size, PySem.W.kxs_mw "ValueError.__init__" a) (by simp)).1
  refine ⟨pu, ?_⟩
  refine init_wrapped T I5 ha pu ?_ fun s6 I6 => h s6 (I6.pins_of fun p hp => by cases hp)
  show us.length ≤ sizeLine
  rw [← r5.length, sizeLine_eq]
  show 1 ≤ _
  omega
/-- THE RULE for such an __init__: its first statement is the call, rest: what is behind it -/
theorem fn_ofC {k : Nat} {sp : Sp} {ar : Arg} {msg : Str} {p0 p1 ap cp pos ep : Pos} {j : Nat} {rest : List Stmt} (SD : SupD K x qual params (supSt msg p0 p1 ap cp pos ep j :: rest) scope D f cc cda file fd) (S : FnScopeC N ps scope) (SP : SupP P file) (T : OexC K D) (hmS : mg "super" = none)
    (hp : (params.posonlyargs ++ params.args).head? = some ar) (hN : N[0]? = some ar.arg) (hP : ar.arg ∈ ps) (hi : ∀ L, interactive (PySem.W.envX qual scope L f (.ref cda) [("__class__", cc)]) = false) (he : ∀ L, SupEval qual scope L f cc cda msg p0 p1 ap cp pos j)
    (len : ∀ vs H Q E, sp vs H Q E → vs.length = ps.length)
    (hbody : ∀ (A : Around) (outer : List Env) (s : Shared) (H : Hp) (vs : List V) (Q : VK) (E : XK), Room k (A.deeper (PySem.W.envX qual scope s.heap.objs.size f (.ref cda) [("__class__", cc)])) → sp vs H Q E →
      (∃ a, vs[0]? = some (.ref a) ∧ H a = some (exo a D none)) ∧ ∃ t, PSs (cxC CX P w K mg base N qual scope f cc (.ref cda) A outer s H E) rest t ∧ t { nx := fun _ H' => Q .non H', rt := Q } (L2.start N vs) H) :
    FnOk P w K mg base CX (k + 1) f fd ps sp := by
  refine ⟨len, fun A outer s H args us vs Q E hr e0 hb r hsp => ?_⟩
  have hl := len _ _ _ _ hsp
  have KX : K.In s.heap := e0.mod.kin.keeps fun b o e => (e0.bs b o e).1
  have lim : s.heap.NoLimit := e0.mod.nolimit.keeps fun b o e => (e0.bs b o e).1
  obtain ⟨oc, od, doc, pm, an, ct, osl, efd, lk⟩ := id SD.ex
  subst efd
  obtain ⟨⟨a, va, ha⟩, t, ht, hq⟩ := hbody A outer s H vs Q E (hr.deeper _) hsp
  refine ks_codeAny_call_defAt (fd := PySem.W.fnX x qual params (supSt msg p0 p1 ap cp pos ep j :: rest) scope [("__class__", cc)] .none .none doc pm an (.ref cda) ct) (body := supSt msg p0 p1 ap cp pos ep j :: rest) (binds := ps.zip us) hr.depth (KX _ _ lk) rfl lim (PySem.W.codeRec_of KX SD.code) rfl hb S.nocell
    (fun y hy => S.par _ (List.of_mem_zip hy).1) (fun h0 hns hk => ?_) S.co S.gen S.kind
  have I := inv_startC (CX := CX) (E := E) (tk := s.toks + (ps.zip us).length) S SD hr.hd e0 hl r hns hk
  have hs0 : (L2.start N vs)[0]? = some (some (.ref a)) := by
    unfold L2.start
    have lt : 0 < vs.length := (List.getElem?_eq_some_iff.mp va).1
    rw [List.getElem?_append_left (by simpa using lt), List.getElem?_map, va]
    rfl
  refine ks_wpAt_execs_cons ?_
  refine super_at S SD SP T hmS hp hN hP hi he I hs0 ha fun s' I' => ?_
  refine wpAt_of_wpAny ?_
  refine wpAny_mono (ht.run [] s' (L2.start N vs) H _ I' hq) (fun fl s' hs => ?_) fun e s' hs => hs
  have fin : ∀ {σ' : L2.St} {H' : Hp} {v : V} {u : Value}, Inv (cxC CX P w K mg base N qual scope f cc (.ref cda) A outer s H E) [] σ' H' s' → L2.RelV v u → Q v H' → CE outer P w H s Q u s' :=
    fun {σ' H' v u} J rv q => ⟨v, H', J.os, J.bare, J.base, J.hok, rv, q⟩
  cases fl with
  | ret u =>
    obtain ⟨v, σ', H', J, rv, q⟩ := hs
    exact fin J rv q
  | next =>
    obtain ⟨σ', H', J, q⟩ := hs
    exact fin (v := V.non) (u := Value.none) J rfl q
  | brk =>
    obtain ⟨_, _, _, q⟩ := hs
    exact False.elim q
  | cont =>
    obtain ⟨_, _, _, q⟩ := hs
    exact False.elim q
end
end LXs

/-! Own rules: a class of errors told by one look (errB); raising it. -/
namespace LXs
open PySem PySem.Spec PyProof.Rows L2 LL
theorem ba {a b : Bool} (h : (a && b) = true) : a = true ∧ b = true := Bool.and_eq_true_iff.mp h
/-! ### the text of such an __init__ -/
def supB : Stmt → Bool
  | .Expr (.Call (.Attribute (.Call (.Name s _) [] [] _) i ap) [.Constant (.str _) _ _] [] pos) _ => decide (s = ("super" : Str)) && (decide (i = ("__init__" : Str)) && (ap.endLine == pos.line))
  | _ => false
theorem supB_ok {st : Stmt} (h : supB st = true) : ∃ msg p0 p1 ap cp pos ep j, st = supSt msg p0 p1 ap cp pos ep j ∧ (ap.endLine == pos.line) = true := by
  unfold supB at h
  split at h
  · rename_i s p0 p1 i ap m j cp pos ep
    obtain ⟨h1, h2⟩ := ba h
    obtain ⟨h2, h3⟩ := ba h2
    have h1 := of_decide_eq_true h1
    have h2 := of_decide_eq_true h2
    subst h1
    subst h2
    exact ⟨m, p0, p1, ap, cp, pos, ep, j, rfl, h3⟩
  · cases h
def stoB (f : Str) : Stmt → Bool
  | .Assign [.Attribute (.Name s _) g _] (.Name v _) _ => decide (s = ("self" : Str)) && (decide (g = f) && decide (v = f))
  | _ => false
theorem stoB_ok {f : Str} {st : Stmt} (h : stoB f st = true) : ∃ q1 q2 q3 q4, st = .Assign [.Attribute (.Name "self" q1) f q2] (.Name f q3) q4 := by
  unfold stoB at h
  split at h
  · rename_i s q1 g q2 v q3 q4
    obtain ⟨h1, h2⟩ := ba h
    obtain ⟨h2, h3⟩ := ba h2
    have h1 := of_decide_eq_true h1
    have h2 := of_decide_eq_true h2
    have h3 := of_decide_eq_true h3
    subst h1
    subst h2
    subst h3
    exact ⟨q1, q2, q3, q4, rfl⟩
  · cases h
def stosB : List Str → List Stmt → Bool
  | [], [] => true
  | f :: fs, s :: ss => stoB f s && stosB fs ss
  | _, _ => false
def bodyB (fs : List Str) : FuncBody → Bool
  | .stmts (s :: ss) => supB s && stosB fs ss
  | _ => false
theorem bodyB_ok {fs : List Str} {b : FuncBody} (h : bodyB fs b = true) : ∃ st ss, b = .stmts (st :: ss) ∧ supB st = true ∧ stosB fs ss = true := by
  unfold bodyB at h
  split at h
  · rename_i st ss
    obtain ⟨h1, h2⟩ := ba h
    exact ⟨st, ss, rfl, h1, h2⟩
  · cases h
def argsB (ps : List Str) : Arguments → Bool
  | ⟨[], as, none, [], [], none, []⟩ => decide (as.map (·.arg) = ps)
  | _ => false
def scopeB (ps : List Str) (sc : Scope) : Bool :=
  decide (sc.kind = .function) && (!sc.isCoroutine && (!sc.isGenerator && (decide ps.Nodup && (ps.all (fun x => decide (sc.names.lookup x = some .local)) && (sc.names.all (fun y => decide (y.2 ≠ .cell)) && (sc.names.all (fun y => decide (y.2 = .free → y.1 = ("__class__" : Str))) &&
    (decide (sc.names.lookup ("super" : Str) = some .globalImplicit) && decide (sc.names.lookup ("__class__" : Str) = some .free))))))))
theorem scopeB_ok {ps : List Str} {sc : Scope} (h : scopeB ps sc = true) : FnScopeC ps ps sc := by
  unfold scopeB at h
  obtain ⟨h1, h⟩ := ba h
  obtain ⟨h2, h⟩ := ba h
  obtain ⟨h3, h⟩ := ba h
  obtain ⟨h4, h⟩ := ba h
  obtain ⟨h5, h⟩ := ba h
  obtain ⟨h6, h⟩ := ba h
  obtain ⟨h7, h⟩ := ba h
  obtain ⟨h8, h9⟩ := ba h
  exact ⟨of_decide_eq_true h1, by simpa using h2, by simpa using h3, of_decide_eq_true h4, List.take_length, fun x hx => of_decide_eq_true (List.all_eq_true.mp h5 x hx), fun y hy => of_decide_eq_true (List.all_eq_true.mp h6 y hy),
    fun y hy => of_decide_eq_true (List.all_eq_true.mp h7 y hy), of_decide_eq_true h8, of_decide_eq_true h9⟩
theorem interactive_no {qual : Str} {sc : Scope} {L f : Addr} {cd : Value} {cl : List (Str × Addr)} (h : sc.kind = .function) : interactive (PySem.W.envX qual sc L f cd cl) = false := by
  unfold interactive
  show (sc.kind == .module && _) = false
  rw [h]
  rfl
theorem sup_eval {qual : Str} {sc : Scope} {L f cc cda : Addr} {msg : Str} {p0 p1 ap cp pos : Pos} {j : Nat} (h : (ap.endLine == pos.line) = true) : SupEval qual sc L f cc cda msg p0 p1 ap cp pos j := by
  refine ⟨(do return (← importBound (.Call (.Name "super" p0) [] [] p1) (PySem.W.envX qual sc L f (.ref cda) [("__class__", cc)])).getD true), ?_⟩
  show (attributeBase (.Call (.Name "super" p0) [] [] p1) "__init__" (PySem.W.envX qual sc L f (.ref cda) [("__class__", cc)]) (eval (.Call (.Name "super" p0) [] [] p1) (PySem.W.envX qual sc L f (.ref cda) [("__class__", cc)])) >>= fun ov => standAt ap.atName >>= fun _ =>
    methodCall (.Call (.Name "super" p0) [] [] p1) "__init__" ap pos (PySem.W.envX qual sc L f (.ref cda) [("__class__", cc)]) ov 1 (backTo pos (starEach [.Constant (.str msg) j cp] (PySem.W.envX qual sc L f (.ref cda) [("__class__", cc)]))) (backToKw pos (keywordEach [] (PySem.W.envX qual sc L f (.ref cda) [("__class__", cc)])))) = _
  congr 1
  funext ov
  congr 1
  funext _
  unfold methodCall
  congr 1
  funext z
  obtain ⟨g, first⟩ := z
  show methodCallPos true _ _ ap pos >>= _ = _
  unfold methodCallPos
  rw [if_pos (by rw [h]; rfl)]
  rfl
/-! ### the looks -/
section
variable (K : PySem.W.Frag)
def oexB (C : Addr) : Bool := (match K.lookup C with
  | some ⟨.type "type", _, .cls cd, sl⟩ => (match cd.mro, sl.toList with
    | .ref C' :: bm, [_, _, _, _, some (.builtin n), _] => decide (C' = C) && (decide (n = "ValueError.__new__") && (!cd.hasDel && (PySem.HandSPX.refsVE bm && cd.hasDict)))
    | _, _ => false)
  | _ => false) && (decide (PySem.W.findIn K (.ref C) "__setattr__" = some (some (.builtin "object.__setattr__"))) && (decide (PySem.W.subIn K (.ref C) (.type "BaseException") = some true) && (decide (PySem.W.typeIn K (.ref C) = some (.type "type")) && PySem.W.keepIn K (.ref C))))
def fileB (cda : Addr) : Bool := match K.lookup cda with
  | some ⟨_, _, .fields vs, _⟩ => (match vs[2]? with
    | some (Value.str file _) => decide (file = ("/claim/cut.py" : Str))
    | _ => false)
  | _ => false
def cellB (cc D : Addr) : Bool := match K.lookup cc with
  | some ⟨_, _, .cell (some (.ref D')), _⟩ => decide (D' = D)
  | _ => false
def supClsB (C : Addr) : Bool := match PySem.W.clsIn K C with
  | some cd => decide (PySem.W.alongIn K "__init__" ((cd.mro.dropWhile (· != .ref C)).drop 1) = some (some (.builtin "ValueError.__init__")))
  | none => false
def initB (C : Addr) (fs : List Str) (fI : Addr) : Bool := match K.lookup fI with
  | some ⟨_, _, .func fd, _⟩ => (match fd.closure, fd.code with
    | [(k, cc)], .ref cda => decide (k = ("__class__" : Str)) && (decide (fd.globals = mainGlobals) && (decide (fd.builtins = builtinsNs) && (decide (fd.defaults = .none) && (decide (fd.kwdefaults = .none) &&
        (bodyB fs fd.body && (argsB ("self" :: fs) fd.params && (scopeB ("self" :: fs) fd.scope && (PySem.W.codeIn K (.ref cda) fd.qualname && (fileB K cda && cellB K cc C)))))))))
    | _, _ => false)
  | _ => false
def fnAt (C : Addr) : Addr := match PySem.W.findIn K (.ref C) "__init__" with
  | some (some (.ref f)) => f
  | _ => 0
/-- the class at C is an error of this kind, its attributes fs -/
def errB (C : Addr) (fs : List Str) : Bool :=
  oexB K C && (decide (PySem.W.findIn K (.ref C) "__init__" = some (some (.ref (fnAt K C)))) && (decide (PySem.W.typeIn K (.ref (fnAt K C)) = some (.type "function")) && (initB K C fs (fnAt K C) && (supClsB K C && (decide (PySem.W.mroIn K C (.ref C) = some true) &&
    (decide (PySem.W.subIn K (.ref C) (.type "ValueError") = some true) && (decide (PySem.W.nsIn K cStatics "thirdparty.any" = some none) && (fs.all (fun f => decide (PySem.W.findIn K (.ref C) f = some none) && (!(f == ("__debug__" : Str)) && !(f == ("__classdict__" : Str)))) &&
      decide (PySem.W.nsIn K mainGlobals "super" = some none)))))))))
end
section
variable {K : PySem.W.Frag} {C : Addr} {fs : List Str}
theorem oexB_ok (h : oexB K C = true) : OexC K C := by
  unfold oexB at h
  obtain ⟨h0, h⟩ := ba h
  obtain ⟨h1, h⟩ := ba h
  obtain ⟨h2, h⟩ := ba h
  obtain ⟨h3, h4⟩ := ba h
  refine ⟨?_, of_decide_eq_true h1, of_decide_eq_true h2, of_decide_eq_true h3, h4⟩
  split at h0
  · rename_i dd cd sl ho
    split at h0
    · rename_i C' bm k0 k1 k2 k3 n k5 hm hs
      obtain ⟨g1, g⟩ := ba h0
      obtain ⟨g2, g⟩ := ba g
      obtain ⟨g3, g⟩ := ba g
      obtain ⟨g4, g5⟩ := ba g
      have g1 := of_decide_eq_true g1
      have g2 := of_decide_eq_true g2
      obtain ⟨nm, bs, mro, ns, qn, hd, sn, sub, ab, col, del⟩ := cd
      dsimp only at hm g3 g5
      have g3 : del = false := by simpa using g3
      subst g1
      subst g2
      subst hm
      subst g3
      subst g5
      refine ⟨nm, qn, ns, bs, bm, sn, sub, ab, col, dd, k0, k1, k2, k3, k5, ?_, g4⟩
      rw [ho]
      congr 2
      apply Array.toList_inj.mp
      exact hs
    · cases h0
  · cases h0
theorem initB_ok {fI : Addr} (h : initB K C fs fI = true) (hs : supClsB K C = true) (hself : PySem.W.mroIn K C (.ref C) = some true) (hsub : PySem.W.subIn K (.ref C) (.type "ValueError") = some true) (ho : PySem.W.nsIn K cStatics "thirdparty.any" = some none) :
    ∃ (x qual : Str) (params : Arguments) (st : Stmt) (ss : List Stmt) (scope : Scope) (cc cda : Addr) (fd : FuncData), SupD K x qual params (st :: ss) scope C fI cc cda "/claim/cut.py" fd ∧ supB st = true ∧ stosB fs ss = true ∧ argsB ("self" :: fs) params = true ∧ scopeB ("self" :: fs) scope = true := by
  unfold initB at h
  split at h
  · rename_i oc od fd osl lk
    split at h
    · rename_i k cc cda hcl hcd
      obtain ⟨n1, n2, n3, n4, n5, n6, n7, n8, n9, n10, n11, n12, n13, n14, n15⟩ := fd
      dsimp only at hcl hcd h
      subst hcl
      subst hcd
      obtain ⟨h1, h⟩ := ba h
      obtain ⟨h2, h⟩ := ba h
      obtain ⟨h3, h⟩ := ba h
      obtain ⟨h4, h⟩ := ba h
      obtain ⟨h5, h⟩ := ba h
      obtain ⟨h6, h⟩ := ba h
      obtain ⟨h7, h⟩ := ba h
      obtain ⟨h8, h⟩ := ba h
      obtain ⟨h9, h⟩ := ba h
      obtain ⟨h10, h11⟩ := ba h
      have e1 := of_decide_eq_true h1
      have e2 := of_decide_eq_true h2
      have e3 := of_decide_eq_true h3
      have e4 := of_decide_eq_true h4
      have e5 := of_decide_eq_true h5
      subst e1
      subst e2
      subst e3
      subst e4
      subst e5
      obtain ⟨st, ss, e6, b1, b2⟩ := bodyB_ok h6
      subst e6
      refine ⟨n1, n2, n3, st, ss, n5, cc, cda, _, ⟨⟨oc, od, n10, n11, n12, n14, osl, rfl, lk⟩, h9, ?_, ?_, ?_, hself, hsub, ho⟩, b1, b2, h7, h8⟩
      · unfold fileB at h10
        split at h10
        · rename_i c d vs sl lkc
          split at h10
          · rename_i file tf hf
            have e := of_decide_eq_true h10
            subst e
            exact ⟨c, d, vs, sl, tf, lkc, hf⟩
          · cases h10
        · cases h10
      · unfold cellB at h11
        split at h11
        · rename_i c d D' sl lkc
          have e := of_decide_eq_true h11
          subst e
          exact ⟨c, d, sl, lkc⟩
        · cases h11
      · unfold supClsB at hs
        split at hs
        · rename_i cd hc
          exact ⟨cd, hc, of_decide_eq_true hs⟩
        · cases hs
    · cases h
  · cases h
end
end LXs

/-! Own rules: raising an own error, C(e, ..). -/
namespace LXs
open PySem PySem.Spec PyProof.Rows L2 LL
section
variable {X : Cx} {st : Stmt} {ss : List Stmt} {es : List Expr} {t t' : TS} {ta : TA}
theorem ps_of (h : PS X st t) (c : ∀ D σ H, t' D σ H → t D σ H) : PS X st t' := ⟨fun pins s σ H D I q => h.run pins s σ H D I (c D σ H q)⟩
theorem pss_of (h : PSs X ss t) (c : ∀ D σ H, t' D σ H → t D σ H) : PSs X ss t' := ⟨fun pins s σ H D I q => h.run pins s σ H D I (c D σ H q)⟩
theorem pa_any (h : PA X es ta) : PA X es (fun σ H Q => ∃ Q0 : List V → Hp → Prop, ta σ H Q0 ∧ ∀ vs H1, Q0 vs H1 → Q vs H1) :=
  ⟨fun pos pins s σ H Q I ⟨Q0, h0, c⟩ => thn (h.run pos pins s σ H Q0 I h0) fun us s1 ⟨vs, H1, I1, r, q⟩ => ⟨vs, H1, I1, r, c vs H1 q⟩⟩
end
/-- the heap in which the error at a has these fields, the newest first -/
def hacc (H : Hp) (a C dx : Addr) (acc : List (Str × V)) : Hp := upd (upd H dx (exd dx acc)) a (exo a C (some dx))
theorem hacc_put {H : Hp} {a C dx : Addr} {acc acc' : List (Str × V)} (n : dx ≠ a) : upd (hacc H a C dx acc) dx (exd dx acc') = hacc H a C dx acc' := by
  funext b
  unfold hacc
  by_cases h1 : b = dx
  · subst h1
    rw [upd_same, upd_ne n, upd_same]
  · rw [upd_ne h1]
    by_cases h2 : b = a
    · subst h2
      rw [upd_same, upd_same]
    · rw [upd_ne h2, upd_ne h2, upd_ne h1, upd_ne h1]
section
variable {X : Cx} {C : Addr}
def Fld (X : Cx) (C : Addr) (i : Nat) (fs : List Str) : Prop := ∀ (j : Nat) (f : Str), fs[j]? = some f → X.N[i + j]? = some f ∧ Vis X.env.scope f ∧ (f == ("__debug__" : Str)) = false ∧ (f == ("__classdict__" : Str)) = false ∧ PySem.W.findIn X.K (.ref C) f = some none
theorem Fld.tail {i : Nat} {f : Str} {fs : List Str} (h : Fld X C i (f :: fs)) : Fld X C (i + 1) fs := fun j g e => by
  have z := h (j + 1) g (by rw [List.getElem?_cons_succ]; exact e)
  rw [show i + (j + 1) = i + 1 + j by omega] at z
  exact z
def tMore (C : Addr) (i : Nat) (fs : List Str) : TS := fun D σ H1 => ∃ (a dx : Addr) (H : Hp) (acc : List (Str × V)) (ws : List V), σ[0]? = some (some (.ref a)) ∧ dx ≠ a ∧ ws.length = fs.length ∧ (∀ (j : Nat) (w : V), ws[j]? = some w → σ[i + j]? = some (some w)) ∧ acc.length + fs.length ≤ 900 ∧
  H1 = hacc H a C dx acc ∧ D.nx σ (hacc H a C dx ((fs.zip ws).reverse ++ acc))
theorem stos_more (T : OexC X.K C) (h0 : X.N[0]? = some ("self" : Str)) (v0 : Vis X.env.scope ("self" : Str)) : ∀ (fs : List Str) (ss : List Stmt) (i : Nat), stosB fs ss = true → Fld X C i fs → PSs X ss (tMore C i fs)
  | [], [], i, _, _ => pss_of pss_nil fun D σ H1 ⟨a, dx, H, acc, ws, _, _, hl, _, _, e, q⟩ => by
    have z : ws = [] := List.length_eq_zero_iff.mp hl
    subst z
    subst e
    exact q
  | [], _ :: _, _, h, _ => by cases h
  | _ :: _, [], _, h, _ => by cases h
  | f :: fs, s :: ss, i, h, F => by
    obtain ⟨h1, h2⟩ := ba h
    obtain ⟨q1, q2, q3, q4, rfl⟩ := stoB_ok h1
    obtain ⟨n1, n2, n3, n4, n5⟩ := F 0 f rfl
    refine pss_of (pss_cons (ps_ost (f := f) (pe_var (i := 0) h0 v0) (pe_var (i := i + 0) n1 n2 n3 n4)) (stos_more T h0 v0 fs ss (i + 1) h2 F.tail)) fun D σ H1 ⟨a, dx, H, acc, ws, g1, g2, hl, g3, g4, e, q⟩ => ?_
    match ws, hl, g3, q with
    | [], hl, _, _ => cases hl
    | w :: ws, hl, g3, q =>
      subst e
      have ha : hacc H a C dx acc a = some (exo a C (some dx)) := upd_same
      have hd : hacc H a C dx acc dx = some (exd dx acc) := by
        unfold hacc
        rw [upd_ne g2, upd_same]
      rw [List.length_cons] at g4
      refine ⟨w, g3 0 w rfl, .ref a, g1, a, C, rfl, T, n5, .inr ⟨dx, acc, ha, hd, by omega, ?_⟩⟩
      refine ⟨a, dx, H, (f, w) :: acc, ws, g1, g2, by simpa using hl, fun j u hj => ?_, by rw [List.length_cons]; omega, hacc_put g2, ?_⟩
      · have z := g3 (j + 1) u (by rw [List.getElem?_cons_succ]; exact hj)
        rw [show i + (j + 1) = i + 1 + j by omega] at z
        exact z
      · rw [List.zip_cons_cons, List.reverse_cons, List.append_assoc] at q
        exact q
def tFirst (C : Addr) (fs : List Str) : TS := fun D σ H => ∃ (a : Addr) (ws : List V), σ[0]? = some (some (.ref a)) ∧ ws.length = fs.length ∧ (∀ (j : Nat) (w : V), ws[j]? = some w → σ[1 + j]? = some (some w)) ∧ fs.length ≤ 800 ∧ H a = some (exo a C none) ∧
  ∀ dx, H dx = none → dx ≠ a → D.nx σ (hacc H a C dx (fs.zip ws).reverse)
theorem stos_first (T : OexC X.K C) (h0 : X.N[0]? = some ("self" : Str)) (v0 : Vis X.env.scope ("self" : Str)) {f : Str} {fs : List Str} {ss : List Stmt} (h : stosB (f :: fs) ss = true) (F : Fld X C 1 (f :: fs)) : PSs X ss (tFirst C (f :: fs)) := by
  match ss, h with
  | s :: ss, h =>
    obtain ⟨h1, h2⟩ := ba h
    obtain ⟨q1, q2, q3, q4, rfl⟩ := stoB_ok h1
    obtain ⟨n1, n2, n3, n4, n5⟩ := F 0 f rfl
    refine pss_of (pss_cons (ps_ost (f := f) (pe_var (i := 0) h0 v0) (pe_var (i := 1 + 0) n1 n2 n3 n4)) (stos_more T h0 v0 fs ss 2 h2 F.tail)) fun D σ H ⟨a, ws, g1, hl, g3, g4, ha, q⟩ => ?_
    match ws, hl, g3, q with
    | [], hl, _, _ => cases hl
    | w :: ws, hl, g3, q =>
      rw [List.length_cons] at g4
      refine ⟨w, g3 0 w rfl, .ref a, g1, a, C, rfl, T, n5, .inl ⟨ha, fun dx m1 m2 => ?_⟩⟩
      refine ⟨a, dx, H, [(f, w)], ws, g1, m2, by simpa using hl, fun j u hj => ?_, by rw [List.length_singleton]; omega, rfl, ?_⟩
      · have z := g3 (j + 1) u (by rw [List.getElem?_cons_succ]; exact hj)
        rw [show 1 + (j + 1) = 2 + j by omega] at z
        exact z
      · have q := q dx m1 m2
        rw [List.zip_cons_cons, List.reverse_cons] at q
        exact q
end
/-- what such an __init__ does -/
def spErr (C : Addr) (fs : List Str) : Sp := fun vs H Q _ => ∃ (a : Addr) (ws : List V), vs = .ref a :: ws ∧ ws.length = fs.length ∧ H a = some (exo a C none) ∧ ∀ dx, H dx = none → dx ≠ a → Q .non (hacc H a C dx (fs.zip ws).reverse)
/-- x names the class at C of errors with these attributes -/
structure ErrK (P : Program) (w : World) (K : PySem.W.Frag) (mg : Str → Option Value) (base : Heap) (x : Str) (C : Addr) (fs : List Str) : Prop where
  ex : ∃ (fI : Addr) (fd : FuncData), OexC K C ∧ PySem.W.findIn K (.ref C) "__init__" = some (some (.ref fI)) ∧ PySem.W.typeIn K (.ref fI) = some (.type "function") ∧ FnOk P w K mg base CX0 1 fI fd ("self" :: fs) (spErr C fs) ∧ Binds K fd ("self" :: fs) []
  gl : mg x = some (.ref C)
/-- values by place come to these parameters -/
def BOk (ps : List Str) : Prop := ∀ (x qual : Str) (as : List Arg) (body : List Stmt) (scope : Scope) (cc : Addr) (doc pm : Value) (an : Option Addr) (cd ct : Value) (us : List Value), as.map (·.arg) = ps → us.length = ps.length →
  bindArgs (PySem.W.fnX x qual ⟨[], as, none, [], [], none, []⟩ body scope [("__class__", cc)] .none .none doc pm an cd ct) ⟨us, []⟩ = pure (ps.zip us)
theorem bok_value : BOk ["self", "value"] := fun x qual as body scope cc doc pm an cd ct us h hu => by
  match as, us, h, hu with
  | [⟨n0, a0, p0⟩, ⟨n1, a1, p1⟩], [u0, u1], h, _ =>
    injection h with h1 h
    injection h with h2 _
    have h1 : n0 = _ := h1
    have h2 : n1 = _ := h2
    subst h1
    subst h2
    rfl
theorem bok_at : BOk ["self", "at"] := fun x qual as body scope cc doc pm an cd ct us h hu => by
  match as, us, h, hu with
  | [⟨n0, a0, p0⟩, ⟨n1, a1, p1⟩], [u0, u1], h, _ =>
    injection h with h1 h
    injection h with h2 _
    have h1 : n0 = _ := h1
    have h2 : n1 = _ := h2
    subst h1
    subst h2
    rfl
theorem bok_name : BOk ["self", "name"] := fun x qual as body scope cc doc pm an cd ct us h hu => by
  match as, us, h, hu with
  | [⟨n0, a0, p0⟩, ⟨n1, a1, p1⟩], [u0, u1], h, _ =>
    injection h with h1 h
    injection h with h2 _
    have h1 : n0 = _ := h1
    have h2 : n1 = _ := h2
    subst h1
    subst h2
    rfl
theorem bok_most : BOk ["self", "what", "most"] := fun x qual as body scope cc doc pm an cd ct us h hu => by
  match as, us, h, hu with
  | [⟨n0, a0, p0⟩, ⟨n1, a1, p1⟩, ⟨n2, a2, p2⟩], [u0, u1, u2], h, _ =>
    injection h with h1 h
    injection h with h2 h
    injection h with h3 _
    have h1 : n0 = _ := h1
    have h2 : n1 = _ := h2
    have h3 : n2 = _ := h3
    subst h1
    subst h2
    subst h3
    rfl
theorem bok_other : BOk ["self", "one", "other"] := fun x qual as body scope cc doc pm an cd ct us h hu => by
  match as, us, h, hu with
  | [⟨n0, a0, p0⟩, ⟨n1, a1, p1⟩, ⟨n2, a2, p2⟩], [u0, u1, u2], h, _ =>
    injection h with h1 h
    injection h with h2 h
    injection h with h3 _
    have h1 : n0 = _ := h1
    have h2 : n1 = _ := h2
    have h3 : n2 = _ := h3
    subst h1
    subst h2
    subst h3
    rfl
theorem binds_args {K : PySem.W.Frag} {ps : List Str} {params : Arguments} (B : BOk ps) (h : argsB ps params = true) {x qual : Str} {body : List Stmt} {scope : Scope} {cc : Addr} {doc pm : Value} {an : Option Addr} {cd ct : Value} :
    Binds K (PySem.W.fnX x qual params body scope [("__class__", cc)] .none .none doc pm an cd ct) ps [] := by
  unfold argsB at h
  split at h
  · rename_i as
    exact .all fun us hu => B _ _ _ _ _ _ _ _ _ _ _ us (of_decide_eq_true h) hu
  · cases h
theorem err_ok {P : Program} {w : World} {K : PySem.W.Frag} {mg : Str → Option Value} {base h : Heap} {x : Str} {C : Addr} {fs : List Str} (KX : K.In h) (G : h.Ns mainGlobals mg) (SP : SupP P "/claim/cut.py") (e : errB K C fs = true) (B : BOk ("self" :: fs)) (hl : fs.length = 1 ∨ fs.length = 2) (gl : mg x = some (.ref C)) : ErrK P w K mg base x C fs := by
  unfold errB at e
  obtain ⟨e1, e⟩ := ba e
  obtain ⟨e2, e⟩ := ba e
  obtain ⟨e3, e⟩ := ba e
  obtain ⟨e4, e⟩ := ba e
  obtain ⟨e5, e⟩ := ba e
  obtain ⟨e6, e⟩ := ba e
  obtain ⟨e7, e⟩ := ba e
  obtain ⟨e8, e⟩ := ba e
  obtain ⟨e9, e10⟩ := ba e
  have T := oexB_ok e1
  obtain ⟨nx, qual, params, st, ss, scope, cc, cda, fd, SD, b1, b2, b3, b4⟩ := initB_ok e4 e5 (of_decide_eq_true e6) (of_decide_eq_true e7) (of_decide_eq_true e8)
  obtain ⟨msg, p0, p1, ap, cp, pos, ep, j, rfl, hpos⟩ := supB_ok b1
  have S := scopeB_ok b4
  have hm : mg "super" = none := PySem.W.mg_none_of KX G (of_decide_eq_true e10)
  obtain ⟨ar, har, hself⟩ : ∃ ar, (params.posonlyargs ++ params.args).head? = some ar ∧ ar.arg = ("self" : Str) := by
    unfold argsB at b3
    split at b3
    · rename_i as
      have z := of_decide_eq_true b3
      match as, z with
      | a :: as, z =>
        rw [List.map_cons] at z
        injection z with z _
        exact ⟨a, rfl, z⟩
    · cases b3
  have hF := List.all_eq_true.mp e9
  refine ⟨⟨fnAt K C, fd, T, of_decide_eq_true e2, of_decide_eq_true e3, ?_, ?_⟩, gl⟩
  · refine fn_ofC (N := "self" :: fs) (ps := "self" :: fs) SD S SP T hm har (by rw [hself]; rfl) (by rw [hself]; exact List.mem_cons_self) (fun L => interactive_no S.kind) (fun L => sup_eval hpos) (fun vs H Q E ⟨a, ws, ev, hw, _⟩ => by rw [ev, List.length_cons, List.length_cons, hw]) fun A outer s H vs Q E hr hsp => ?_
    obtain ⟨a, ws, rfl, hw, ha, q⟩ := hsp
    refine ⟨⟨a, rfl, ha⟩, ?_⟩
    obtain ⟨f, fs', rfl⟩ : ∃ f fs', fs = f :: fs' := by
      match fs, hl with
      | f :: fs', _ => exact ⟨f, fs', rfl⟩
      | [], hl => simp at hl
    have vis : ∀ y ∈ (("self" : Str) :: f :: fs'), Vis scope y := fun y hy => .inl (S.par y hy)
    refine ⟨_, stos_first (X := cxC CX0 P w K mg base ("self" :: f :: fs') qual scope (fnAt K C) cc (.ref cda) A outer s H E) T rfl (vis _ List.mem_cons_self) b2 (fun j g hj => ?_), ?_⟩
    · have m := List.mem_of_getElem? hj
      have z := hF g m
      obtain ⟨z1, z2⟩ := ba z
      obtain ⟨z2, z3⟩ := ba z2
      refine ⟨?_, vis _ (List.mem_cons_of_mem _ m), by simpa using z2, by simpa using z3, of_decide_eq_true z1⟩
      show (("self" : Str) :: f :: fs')[1 + j]? = some g
      rw [Nat.add_comm, List.getElem?_cons_succ]
      exact hj
    · have e0 : L2.start ("self" :: f :: fs') (.ref a :: ws) = (V.ref a :: ws).map some := by
        unfold L2.start
        rw [show (("self" : Str) :: f :: fs').length - (V.ref a :: ws).length = 0 by rw [List.length_cons, List.length_cons (a := V.ref a), hw, Nat.sub_self], List.replicate_zero, List.append_nil]
      rw [e0]
      refine ⟨a, ws, rfl, hw, fun j u hj => ?_, by omega, ha, q⟩
      rw [Nat.add_comm, List.map_cons, List.getElem?_cons_succ, List.getElem?_map, hj]
      rfl
  · obtain ⟨oc, od, doc, pm, an, ct, osl, efd, lk⟩ := SD.ex
    rw [efd]
    exact binds_args B b3
theorem fld_no {K : PySem.W.Frag} {C : Addr} {fs : List Str} {f : Str} (e : errB K C fs = true) (hf : f ∈ fs) : PySem.W.findIn K (.ref C) f = some none := by
  unfold errB at e
  obtain ⟨_, e⟩ := ba e
  obtain ⟨_, e⟩ := ba e
  obtain ⟨_, e⟩ := ba e
  obtain ⟨_, e⟩ := ba e
  obtain ⟨_, e⟩ := ba e
  obtain ⟨_, e⟩ := ba e
  obtain ⟨_, e⟩ := ba e
  obtain ⟨_, e⟩ := ba e
  obtain ⟨e9, _⟩ := ba e
  exact of_decide_eq_true (ba (List.all_eq_true.mp e9 f hf)).1
/-- C(e, ..) to be raised -/
def tErr (C : Addr) (fs : List Str) (ta : TA) : L2.St → Hp → XK → Prop := fun σ H Q => ta σ H fun vs H1 => vs.length = fs.length ∧ vs.length ≤ 1000 ∧ ∀ d, H1 d = none → Q (.ref C) (some d) (upd H1 d (.xd (fs.zip vs).reverse))
section
variable {X : Cx} {x : Str} {C : Addr} {fs : List Str} {j : Nat} {e : Expr} {es : List Expr} {ta : TA} {p pos rp : Pos} {W : WX}
theorem pmk_err (c : ErrK X.prog X.w X.K X.mg X.base x C fs) (hr : Room j X.A) (hk : 2 ≤ j) (hg : Gl X x) (ha : PA X (e :: es) ta)
    (hdb : (x == ("__debug__" : Str)) = false := by decide) (he : starEach (e :: es) X.env = (false, eval e X.env) :: starEach es X.env := by rfl) (hpl : (backTo pos (starEach es X.env)).any (·.1) = false := by rfl) :
    PMk X (.Call (.Name x p) (e :: es) [] pos) (tErr C fs ta) := by
  obtain ⟨fI, fd, T, iC, tI, F, b⟩ := c.ex
  intro pins s σ H Q I h
  refine pmk_oex T iC tI F (hr.mono hk) b .nil pass0 hg c.gl (pa_any ha) hdb he hpl pins s σ H Q I ?_
  refine ⟨_, h, fun vs H1 ⟨hl, hz, q⟩ => ⟨hz, fun a na => ?_⟩⟩
  refine ⟨a, vs ++ [], rfl, by rw [List.append_nil, hl], upd_same, fun dx nd ne => ⟨rfl, dx, (fs.zip (vs ++ [])).reverse, upd_same, ?_, ?_, ?_⟩⟩
  · unfold hacc
    rw [upd_ne ne, upd_same]
  · rw [upd_ne ne] at nd
    exact nd
  · rw [upd_ne ne] at nd
    have q := q dx nd
    rw [List.append_nil]
    have eH : upd (del (hacc (upd H1 a (exo a C none)) a C dx (fs.zip vs).reverse) a) dx (HO.xd (fs.zip vs).reverse) = upd H1 dx (.xd (fs.zip vs).reverse) := by
      funext b
      by_cases h1 : b = dx
      · subst h1
        rw [upd_same, upd_same]
      · rw [upd_ne h1, upd_ne h1]
        by_cases h2 : b = a
        · subst h2
          rw [del_same, na]
        · rw [del_ne h2]
          unfold hacc
          rw [upd_ne h2, upd_ne h1, upd_ne h2]
    rw [eH]
    exact q
/-- raise C(e, ..) -/
theorem ps_err (hc : X.calm = true) (tk : Takes X W) (c : ErrK X.prog X.w X.K X.mg X.base x C fs) (hr : Room j X.A) (hk : 2 ≤ j) (hg : Gl X x) (ha : PA X (e :: es) ta)
    (hdb : (x == ("__debug__" : Str)) = false := by decide) (he : starEach (e :: es) X.env = (false, eval e X.env) :: starEach es X.env := by rfl) (hpl : (backTo pos (starEach es X.env)).any (·.1) = false := by rfl) :
    PS X (.Raise (some (.Call (.Name x p) (e :: es) [] pos)) none rp) (fun _ σ H => ta σ H fun vs H1 => vs.length = fs.length ∧ vs.length ≤ 1000 ∧ ∀ d, H1 d = none → W (.ref C) (some d) σ (upd H1 d (.xd (fs.zip vs).reverse))) :=
  ps_raise hc tk (pmk_err c hr hk hg ha hdb he hpl)
end
end LXs
/-! ### isinstance, asked of a caught exception with attributes -/
namespace LXs
open PySem PySem.Spec PyProof.Rows L2 LL
def excCB (K : PySem.W.Frag) (D : Addr) : Bool :=
  decide (PySem.W.findIn K (.ref D) "__getattribute__" = some (some (.builtin "BaseException.__getattribute__"))) && (decide (PySem.W.findIn K (.ref D) "__getattr__" = some none) && (decide (PySem.W.subIn K (.ref D) (.type "BaseException") = some true) && (PySem.W.hasDictIn K D &&
    (decide (PySem.W.findIn K (.ref D) "__class__" = some (some (.builtin "object.__class__"))) && (decide (PySem.W.specialIn K (.builtin "object.__class__") "__get__" = some (some (.builtin "getset_descriptor.__get__"))) && (decide (PySem.W.takesIn K (.builtin "object.__class__") = some true) && (decide (PySem.W.mroIn K D (.type "object") = some true) && (PySem.W.clsIn K D).isSome)))))))
theorem excC_ok {K : PySem.W.Frag} {D : Addr} (h : excCB K D = true) : ExcC K D ∧ (PySem.W.clsIn K D).isSome = true := by
  unfold excCB at h
  obtain ⟨h1, h⟩ := ba h
  obtain ⟨h2, h⟩ := ba h
  obtain ⟨h3, h⟩ := ba h
  obtain ⟨h4, h⟩ := ba h
  obtain ⟨h5, h⟩ := ba h
  obtain ⟨h6, h⟩ := ba h
  obtain ⟨h7, h⟩ := ba h
  obtain ⟨h8, h9⟩ := ba h
  exact ⟨⟨of_decide_eq_true h1, of_decide_eq_true h2, of_decide_eq_true h3, h4, of_decide_eq_true h5, of_decide_eq_true h6, of_decide_eq_true h7, of_decide_eq_true h8⟩, h9⟩
def rIsX (K : PySem.W.Frag) (D a : Addr) (cls : Value) (d : Option Addr) : List V → Hp → VK → Prop := fun xs H Q => ∃ (c : V) (cv : Value) (b : Bool) (dd : Addr) (fs : List (Str × V)), xs = [.ref a, c] ∧ cls = .ref D ∧ d = some dd ∧ H dd = some (.xd fs) ∧ (∀ u, RelV c u → u = cv) ∧ PySem.W.kitOne K (.ref D) cv = some b ∧ Q (.bl b) H
theorem call_isX {X : Cx} {a D : Addr} {oe : Obj} {cls : Value} {d : Option Addr} {pn : List (Addr × Obj)} (CC : ExcC X.K D ∧ (PySem.W.clsIn X.K D).isSome = true) (hz : Zc cls d oe) (hf : ∃ vs, oe.data = .fields vs) : CallR (X.suite a ((a, oe) :: pn)) (.builtin "isinstance") (rIsX X.K D a cls d) := by
  obtain ⟨C, cl⟩ := CC
  intro pins s σ H xs us Q I r h
  obtain ⟨c, cv, b, dd, fs, rfl, rfl, rfl, hdd, hcv, e, q⟩ := h
  cases r with
  | cons rx rr =>
    cases rr with
    | cons rt rr =>
      cases rr
      cases rx
      have ec := hcv _ rt
      subst ec
      obtain ⟨hget, _⟩ := I.pin (a, oe) (List.mem_append.mpr (.inl List.mem_cons_self))
      obtain ⟨vs, hv⟩ := hf
      have hx : ObjOk X.prog X.w H s.heap dd (.xd fs) := I.hok dd _ hdd
      obtain ⟨mA, hns, hr⟩ := hx
      obtain ⟨od, ho, hl⟩ := lookIn_ns hns
      have J : PySem.W.InstAt s.heap a oe D (some od) := ⟨hget, hz.1, by unfold PySem.W.notCls; rw [hv] <;> rfl, by rw [hz.2]; exact ho⟩
      exact PySem.W.kia_one (PySem.W.kitx_exc cl C.hg C.hk C.hs C.ha C.hn C.ht C.hm) I.kIn J e (fun z => nomatch z) fun tk => ⟨.bl b, H, I.kept (t' := tk) fun _ _ z => z, rfl, q⟩
end LXs

/-! Own words: defs that make lambdas, defs that call what they get. -/
namespace LLm
open PySem PySem.Spec PyProof.Rows L2 LL LamX
/-- the code object of the def at f, its table -/
def codF (K : PySem.W.Frag) (f : Addr) : Addr := match K.lookup f with
  | some ⟨_, _, .func fd, _⟩ => (match fd.code with
    | .ref c => c
    | _ => 0)
  | _ => 0
def tabF (K : PySem.W.Frag) (f : Addr) : Addr := match K.lookup (codF K f) with
  | some ⟨_, _, .fields vs, _⟩ => (match (vs[11]? : Option Value) with
    | some (.ref P) => P
    | _ => 0)
  | _ => 0
/-- the look at the makers named -/
def mkB (K : PySem.W.Frag) (xs : List Str) : Bool := xs.all (fun x => PySem.W.codeHdIn K (codF K (He.ga K x)) (tabF K (He.ga K x)) && (K.lookup (tabF K (He.ga K x))).isNone) && decide ((xs.map fun x => tabF K (He.ga K x)).Nodup)
def lamN (x : Str) : Str := x ++ ".<locals>." ++ "<lambda>"
def tabsOf (K : PySem.W.Frag) (xs : List Str) : List (Addr × Str) := xs.map fun x => (tabF K (He.ga K x), lamN x)
def TBs (K : PySem.W.Frag) (mg : Str → Option Value) (base : Heap) (xs : List Str) : Prop := ∀ x ∈ xs, TabB base mg (codF K (He.ga K x)) (tabF K (He.ga K x))
theorem tabs_uniq {K : PySem.W.Frag} {xs : List Str} (h : mkB K xs = true) {x : Str} (hx : x ∈ xs) : (tabF K (He.ga K x), lamN x) ∈ tabsOf K xs ∧ ∀ p ∈ tabsOf K xs, p.1 = tabF K (He.ga K x) → p.2 = lamN x := by
  refine ⟨List.mem_map.mpr ⟨x, hx, rfl⟩, fun p hp e => ?_⟩
  have nd := of_decide_eq_true (Bool.and_eq_true_iff.mp h).2
  obtain ⟨y, hy, rfl⟩ := List.mem_map.mp hp
  have e : tabF K (He.ga K y) = tabF K (He.ga K x) := e
  have z : y = x := by
    clear hp h
    induction xs with
    | nil => cases hx
    | cons a r ih =>
      rw [List.map_cons, List.nodup_cons] at nd
      rcases List.mem_cons.mp hx with rfl | hx'
      · rcases List.mem_cons.mp hy with rfl | hy'
        · rfl
        · exact absurd (List.mem_map.mpr ⟨y, hy', e⟩) nd.1
      · rcases List.mem_cons.mp hy with rfl | hy'
        · exact absurd (List.mem_map.mpr ⟨x, hx', e.symm⟩) nd.1
        · exact ih hx' nd.2 hy'
  rw [z]
section
variable {CX : CXT} {P : Program} {w : World} {K : PySem.W.Frag} {mg : Str → Option Value} {base : Heap} {x qual : Str} {params : Arguments} {body : List Stmt} {scope : Scope} {f : Addr} {fd : FuncData} {N ps : List Str} {k : Nat} {sp : Sp} {kws : List (Str × V)}
/-- THE RULE of a maker: its code is known -/
theorem calM (F : FunD K x qual params body scope [] kws f fd) (hm : mg x = some (.ref f)) (b : Binds K fd ps []) (S : FnScope N ps scope) (len : ∀ vs H Q E, sp vs H Q E → vs.length = ps.length)
    (hbody : ∀ (A : Around) (outer : List Env) (s : Shared) (H : Hp) (vs : List V) (Q : VK) (E : XK), Room k (A.deeper (envOfC qual scope s.heap.objs.size f (.ref (codF K f)))) → sp vs H Q E →
      ∃ t, PSs (cxOf CX0 P w K mg base N qual scope f (.ref (codF K f)) A outer s H E).nox body t ∧ t { nx := fun _ H' => Q .non H', rt := Q } (L2.start N vs) H) : C8.Cal P w K mg base (k + 1) x sp [] := by
  obtain ⟨oc, od, dV, kV, doc, pm, an, cdv, ct, osl, efd, lk, hcd, _, _⟩ := id F.ex
  have ec : cdv = .ref (codF K f) := by
    unfold PySem.W.codeIn at hcd
    split at hcd
    · rename_i c
      unfold codF
      rw [lk, efd]
    · cases hcd
  subst efd
  subst ec
  refine ⟨f, _, ps, [], ?_, hm, F.kp, b, .nil⟩
  exact fn_of lk hcd S len fun A outer s H vs Q E hr hsp => by
    obtain ⟨t, h1, h2⟩ := hbody A outer s H vs Q E hr hsp
    exact ⟨t, h1.nox, h2⟩
end
/-- x is a def of one parameter that calls what it got; TT: what it makes of the lambda's reading -/
structure Giv (P : Program) (w : World) (K : PySem.W.Frag) (mg : Str → Option Value) (base : Heap) (x : Str) (TT : (XK → Hp → VK → Prop) → Hp → VK → Prop) : Prop where
  ex : ∃ (g : Addr) (a : Str) (pg : Arguments) (bg : List Stmt) (sg : Scope) (dV kV doc pm cdv ct oc : Value) (an od : Option Addr) (osl : Array (Option Value)) (Ng : List Str),
    mg x = some (.ref g) ∧ PySem.W.keepIn K (.ref g) = true ∧ K.lookup g = some ⟨oc, od, .func (PySem.W.fnOf x x pg bg sg dV kV doc pm an cdv ct), osl⟩ ∧ PySem.W.codeIn K cdv x = true ∧ L2.Binds K (PySem.W.fnOf x x pg bg sg dV kV doc pm an cdv ct) [a] [] ∧
    FnScope Ng [a] sg ∧ Ng[0]? = some a ∧ Vis sg a ∧ (a == ("__debug__" : Str)) = false ∧ (a == ("__classdict__" : Str)) = false ∧
    ∀ (X : Cx) (q : Str), X.prog = P → X.w = w → X.K = K → X.mg = mg → X.base = base → GivesTo X Ng x sg g cdv bg a q TT
section
variable {X : Cx} {TT : (XK → Hp → VK → Prop) → Hp → VK → Prop} {x : Str} {params : Arguments} {body : Expr} {scope : Scope} {t : XK → TE} {p lpos pos : Pos} {k j c P : Nat} {T : List (Addr × Str)}
/-- x(lambda: body) -/
theorem pe_giv (G : Giv X.prog X.w X.K X.mg X.base x TT) (hg : Gl X x) (TB : TabB X.base X.mg c P) (hcode : X.env.code = .ref c) (hmT : (P, X.env.qual ++ "<lambda>") ∈ T) (hu : ∀ p ∈ T, p.1 = P → p.2 = X.env.qual ++ "<lambda>") (hr : Room j X.A) (hk : k + 2 ≤ j) (L : LamS X.env.scope scope)
    (hdef : defaultsOf params X.env = ([], [])) (hbind : ∀ (q : Str) (cl : List (Str × Addr)) (pm cv ctv : Value), bindArgs (PySem.W.kla_fn "<lambda>" q params body scope cl pm cv ctv) ⟨[], []⟩ = pure [])
    (hbody : ∀ (A : Around) (outer : List Env) (s : Shared) (H : Hp) (E : XK) (f c' : Addr), Room k (A.deeper (lamEnv X scope s.heap.objs.size f c')) → PE (lamCx X A outer s H E scope f c') body (t E))
    (hdb : (x == ("__debug__" : Str)) = false := by decide) : PE X (.Call (.Name x p) [.Lambda params body scope lpos] [] pos) (tLam T TT t) := by
  obtain ⟨g, a, pg, bg, sg, dV, kV, doc, pm, cdv, ct, oc, an, od, osl, Ng, hm, kp, lk, hcg, hb, Sg, hN, hv, hd, hcd, hG⟩ := G.ex
  exact pe_lamcall hg hm kp lk hcg hb Sg hN hv (hG X _ rfl rfl rfl rfl rfl) TB hcode hmT hu (hr.mono hk) L hdef hbind hbody hdb hd hcd
end
end LLm
/-! ### the parameter called, in a try -/
namespace LLm
open PySem PySem.Spec PyProof.Rows L2 LL LamX
theorem takes_len {X : Cx} {W : WX} (t : Takes X W) : Takes X (fun cls d σ H => σ.length = X.N.length → W cls d σ H) := fun u s' ⟨a, B, sI, pins, σ, H, cls, d, e, I, nb, up, sky, na, os, ag, w⟩ =>
  t u s' ⟨a, B, sI, pins, σ, H, cls, d, e, I, nb, up, sky, na, os, ag, w I.len⟩
/-- what is asked of a(), the lambda at f: tl its reading, W the air -/
def tAct (n : Nat) (f c' : Addr) (q : Str) (tl : XK → Hp → VK → Prop) (W : WX) : TS := fun D σ H => ∃ Ech : XK, (∀ cls d σ' H', Ech cls d H' → σ'.length = n → W cls d σ' H') ∧ σ[0]? = some (some (.ref f)) ∧ H c' = some (CodeO c' q) ∧ tl Ech H (fun _ H' => D.nx σ H')
theorem act_ss {Z : Cx} {W : WX} {n : Nat} {e : Expr} {f c' : Addr} {q : Str} {tl : XK → Hp → VK → Prop} {pos : Pos} (hn : Z.N.length = n) (h : ∀ E : XK, (∀ cls d σ' H', E cls d H' → σ'.length = Z.N.length → W cls d σ' H') → PE Z e (fun σZ HZ Q => σZ[0]? = some (some (.ref f)) ∧ HZ c' = some (CodeO c' q) ∧ tl E HZ Q))
    (hs : swapsWith e none pos.line Z.env = pure false := by rfl) : PSs Z [.Expr e pos] (tAct n f c' q tl W) := by
  subst hn
  exact ⟨fun pins s σ H D I ⟨E, hW, h1, h2, h3⟩ => (pss_one (ps_expr (h E hW) hs)).run pins s σ H D I ⟨h1, h2, h3⟩⟩
end LLm
namespace K34
open PySem PySem.Spec PyProof.Rows L2 RZ LL LC
open C8 (Cal Mak Met CalAt pe_c pe_mk pe_mt pe_mt0 pe_gc)
def topS (i : Nat) : Stmt := PySem.Challenge.pw_pooledeyes_k34_put_out_in_any_order.main.body.getD i (.Pass ⟨0, 0, 0, 0⟩)
abbrev s_is_name : Stmt := topS 10
abbrev s_Circle___init__ : Stmt := inClass (topS 14) 1
abbrev s_Circle_parts : Stmt := inClass (topS 14) 2
abbrev s_Circle_eyes : Stmt := inClass (topS 14) 3
abbrev s_Circle___str__ : Stmt := inClass (topS 14) 4
abbrev s_Circle___and__ : Stmt := inClass (topS 14) 7
abbrev s_Circle___or__ : Stmt := inClass (topS 14) 8
abbrev s_written_part : Stmt := topS 15
abbrev s_eye : Stmt := topS 16
abbrev s_pool : Stmt := topS 17
abbrev s_common : Stmt := topS 18
abbrev s_built_circle : Stmt := topS 19
abbrev s_flat_parts : Stmt := topS 20
abbrev s_unlike_rows : Stmt := topS 21
abbrev s_Scanner___init__ : Stmt := inClass (topS 39) 0
abbrev s_Scanner_takes : Stmt := inClass (topS 39) 1
abbrev s_Scanner_begins_item : Stmt := inClass (topS 39) 2
abbrev s_Scanner_takes_sign : Stmt := inClass (topS 39) 3
abbrev s_Scanner_closes : Stmt := inClass (topS 39) 4
abbrev s_Scanner_can_end : Stmt := inClass (topS 39) 5
abbrev s_wrong_place : Stmt := topS 40
abbrev s_circle_of : Stmt := topS 41
abbrev s_joined_items : Stmt := topS 42
abbrev s_read_circle : Stmt := topS 38
abbrev s_Order___init__ : Stmt := inClass (topS 24) 0
abbrev s_Order_place : Stmt := inClass (topS 24) 1
abbrev s_Order_tells : Stmt := inClass (topS 24) 5
abbrev s_Order__decide : Stmt := inClass (topS 24) 6
abbrev s_Order__all_tell : Stmt := inClass (topS 24) 7
abbrev s_built : Stmt := topS 23
abbrev s__goes_beyond : Stmt := topS 26
abbrev s__replacement : Stmt := topS 27
abbrev s__needed_parts : Stmt := topS 28
abbrev s__reduced : Stmt := topS 29
abbrev s__key_by : Stmt := topS 30
abbrev s_key_of : Stmt := topS 31
abbrev s_put_eyes_out : Stmt := topS 33
abbrev s_out : Stmt := topS 35
abbrev s_of_kind : Stmt := topS 45
abbrev s_mirrored : Stmt := topS 46
abbrev s__law_bag : Stmt := topS 48
abbrev s__law_draw : Stmt := topS 49
abbrev s__law_of : Stmt := topS 50
abbrev s__law_mixed : Stmt := topS 51
abbrev s__law_same : Stmt := topS 52
abbrev s__law_names : Stmt := topS 53
abbrev s__law_leaf : Stmt := topS 54
abbrev s__law_joined : Stmt := topS 55
abbrev s__law_kind : Stmt := topS 56
abbrev s__law_eye : Stmt := topS 57
abbrev s__law_circle : Stmt := topS 58
abbrev s__law_chain : Stmt := topS 59
abbrev s__law_any : Stmt := topS 60
abbrev s__law_made : Stmt := topS 61
abbrev s__law_handed : Stmt := topS 62
abbrev s__law_word : Stmt := topS 63
abbrev s__law_one_by_one : Stmt := topS 64
abbrev s__law_at_once : Stmt := topS 65
abbrev s__law_order_so : Stmt := topS 66
abbrev s__law_mirror_so : Stmt := topS 67
abbrev s__law_why : Stmt := topS 68
abbrev s__law_caught : Stmt := topS 69
abbrev s__law_refused_so : Stmt := topS 70
abbrev s_law : Stmt := topS 71
abbrev N_is_name : List Str := ["value", "letter"]
theorem sc_is_name : FnScope ["value", "letter"] ["value"] (defScope s_is_name) := ⟨rfl, rfl, rfl, by decide +kernel, rfl, by decide +kernel, by decide +kernel⟩
abbrev N_Circle___init__ : List Str := ["self", "kind", "name", "rows", "part", "names", "each"]
theorem sc_Circle___init__ : FnScope ["self", "kind", "name", "rows", "part", "names", "each"] ["self", "kind", "name", "rows"] (defScope s_Circle___init__) := ⟨rfl, rfl, rfl, by decide +kernel, rfl, by decide +kernel, by decide +kernel⟩
abbrev N_Circle_parts : List Str := ["self"]
theorem sc_Circle_parts : FnScope ["self"] ["self"] (defScope s_Circle_parts) := ⟨rfl, rfl, rfl, by decide +kernel, rfl, by decide +kernel, by decide +kernel⟩
abbrev N_Circle_eyes : List Str := ["self"]
theorem sc_Circle_eyes : FnScope ["self"] ["self"] (defScope s_Circle_eyes) := ⟨rfl, rfl, rfl, by decide +kernel, rfl, by decide +kernel, by decide +kernel⟩
abbrev N_Circle___str__ : List Str := ["self"]
theorem sc_Circle___str__ : FnScope ["self"] ["self"] (defScope s_Circle___str__) := ⟨rfl, rfl, rfl, by decide +kernel, rfl, by decide +kernel, by decide +kernel⟩
abbrev N_Circle___and__ : List Str := ["self", "other"]
theorem sc_Circle___and__ : FnScope ["self", "other"] ["self", "other"] (defScope s_Circle___and__) := ⟨rfl, rfl, rfl, by decide +kernel, rfl, by decide +kernel, by decide +kernel⟩
abbrev N_Circle___or__ : List Str := ["self", "other"]
theorem sc_Circle___or__ : FnScope ["self", "other"] ["self", "other"] (defScope s_Circle___or__) := ⟨rfl, rfl, rfl, by decide +kernel, rfl, by decide +kernel, by decide +kernel⟩
abbrev N_written_part : List Str := ["circle"]
theorem sc_written_part : FnScope ["circle"] ["circle"] (defScope s_written_part) := ⟨rfl, rfl, rfl, by decide +kernel, rfl, by decide +kernel, by decide +kernel⟩
abbrev N_eye : List Str := ["name"]
theorem sc_eye : FnScope ["name"] ["name"] (defScope s_eye) := ⟨rfl, rfl, rfl, by decide +kernel, rfl, by decide +kernel, by decide +kernel⟩
abbrev N_pool : List Str := ["circles"]
theorem sc_pool : FnScope ["circles"] ["circles"] (defScope s_pool) := ⟨rfl, rfl, rfl, by decide +kernel, rfl, by decide +kernel, by decide +kernel⟩
abbrev N_common : List Str := ["circles"]
theorem sc_common : FnScope ["circles"] ["circles"] (defScope s_common) := ⟨rfl, rfl, rfl, by decide +kernel, rfl, by decide +kernel, by decide +kernel⟩
abbrev N_built_circle : List Str := ["kind", "circles", "at", "circle", "rows", "part"]
theorem sc_built_circle : FnScope ["kind", "circles", "at", "circle", "rows", "part"] ["kind", "circles"] (defScope s_built_circle) := ⟨rfl, rfl, rfl, by decide +kernel, rfl, by decide +kernel, by decide +kernel⟩
abbrev N_flat_parts : List Str := ["kind", "circle"]
theorem sc_flat_parts : FnScope ["kind", "circle"] ["kind", "circle"] (defScope s_flat_parts) := ⟨rfl, rfl, rfl, by decide +kernel, rfl, by decide +kernel, by decide +kernel⟩
abbrev N_unlike_rows : List Str := ["circles", "seen", "rows", "circle", "text"]
theorem sc_unlike_rows : FnScope ["circles", "seen", "rows", "circle", "text"] ["circles"] (defScope s_unlike_rows) := ⟨rfl, rfl, rfl, by decide +kernel, rfl, by decide +kernel, by decide +kernel⟩
abbrev N_Scanner___init__ : List Str := ["self"]
theorem sc_Scanner___init__ : FnScope ["self"] ["self"] (defScope s_Scanner___init__) := ⟨rfl, rfl, rfl, by decide +kernel, rfl, by decide +kernel, by decide +kernel⟩
abbrev N_Scanner_takes : List Str := ["self", "letter"]
theorem sc_Scanner_takes : FnScope ["self", "letter"] ["self", "letter"] (defScope s_Scanner_takes) := ⟨rfl, rfl, rfl, by decide +kernel, rfl, by decide +kernel, by decide +kernel⟩
abbrev N_Scanner_begins_item : List Str := ["self", "letter"]
theorem sc_Scanner_begins_item : FnScope ["self", "letter"] ["self", "letter"] (defScope s_Scanner_begins_item) := ⟨rfl, rfl, rfl, by decide +kernel, rfl, by decide +kernel, by decide +kernel⟩
abbrev N_Scanner_takes_sign : List Str := ["self", "letter", "right"]
theorem sc_Scanner_takes_sign : FnScope ["self", "letter", "right"] ["self", "letter"] (defScope s_Scanner_takes_sign) := ⟨rfl, rfl, rfl, by decide +kernel, rfl, by decide +kernel, by decide +kernel⟩
abbrev N_Scanner_closes : List Str := ["self", "letter"]
theorem sc_Scanner_closes : FnScope ["self", "letter"] ["self", "letter"] (defScope s_Scanner_closes) := ⟨rfl, rfl, rfl, by decide +kernel, rfl, by decide +kernel, by decide +kernel⟩
abbrev N_Scanner_can_end : List Str := ["self"]
theorem sc_Scanner_can_end : FnScope ["self"] ["self"] (defScope s_Scanner_can_end) := ⟨rfl, rfl, rfl, by decide +kernel, rfl, by decide +kernel, by decide +kernel⟩
abbrev N_wrong_place : List Str := ["text", "scanner", "at", "letter"]
theorem sc_wrong_place : FnScope ["text", "scanner", "at", "letter"] ["text"] (defScope s_wrong_place) := ⟨rfl, rfl, rfl, by decide +kernel, rfl, by decide +kernel, by decide +kernel⟩
abbrev N_circle_of : List Str := ["text", "signs", "levels", "word", "circle"]
theorem sc_circle_of : FnScope ["text", "signs", "levels", "word", "circle"] ["text"] (defScope s_circle_of) := ⟨rfl, rfl, rfl, by decide +kernel, rfl, by decide +kernel, by decide +kernel⟩
abbrev N_joined_items : List Str := ["sign", "items"]
theorem sc_joined_items : FnScope ["sign", "items"] ["sign", "items"] (defScope s_joined_items) := ⟨rfl, rfl, rfl, by decide +kernel, rfl, by decide +kernel, by decide +kernel⟩
abbrev N_read_circle : List Str := ["text", "at"]
theorem sc_read_circle : FnScope ["text", "at"] ["text"] (defScope s_read_circle) := ⟨rfl, rfl, rfl, by decide +kernel, rfl, by decide +kernel, by decide +kernel⟩
abbrev N_Order___init__ : List Str := ["self"]
theorem sc_Order___init__ : FnScope ["self"] ["self"] (defScope s_Order___init__) := ⟨rfl, rfl, rfl, by decide +kernel, rfl, by decide +kernel, by decide +kernel⟩
abbrev N_Order_place : List Str := ["self", "circle", "text", "parts", "part"]
theorem sc_Order_place : FnScope ["self", "circle", "text", "parts", "part"] ["self", "circle"] (defScope s_Order_place) := ⟨rfl, rfl, rfl, by decide +kernel, rfl, by decide +kernel, by decide +kernel⟩
abbrev N_Order_tells : List Str := ["self", "one", "other"]
theorem sc_Order_tells : FnScope ["self", "one", "other"] ["self", "one", "other"] (defScope s_Order_tells) := ⟨rfl, rfl, rfl, by decide +kernel, rfl, by decide +kernel, by decide +kernel⟩
abbrev N_Order__decide : List Str := ["self", "one", "other", "part"]
theorem sc_Order__decide : FnScope ["self", "one", "other", "part"] ["self", "one", "other"] (defScope s_Order__decide) := ⟨rfl, rfl, rfl, by decide +kernel, rfl, by decide +kernel, by decide +kernel⟩
abbrev N_Order__all_tell : List Str := ["self", "ones", "others", "one", "other"]
theorem sc_Order__all_tell : FnScope ["self", "ones", "others", "one", "other"] ["self", "ones", "others"] (defScope s_Order__all_tell) := ⟨rfl, rfl, rfl, by decide +kernel, rfl, by decide +kernel, by decide +kernel⟩
abbrev N_built : List Str := ["kind", "circles"]
theorem sc_built : FnScope ["kind", "circles"] ["kind", "circles"] (defScope s_built) := ⟨rfl, rfl, rfl, by decide +kernel, rfl, by decide +kernel, by decide +kernel⟩
abbrev N__goes_beyond : List Str := ["order", "kind", "one", "other"]
theorem sc__goes_beyond : FnScope ["order", "kind", "one", "other"] ["order", "kind", "one", "other"] (defScope s__goes_beyond) := ⟨rfl, rfl, rfl, by decide +kernel, rfl, by decide +kernel, by decide +kernel⟩
abbrev N__replacement : List Str := ["order", "kind", "whole", "part", "inner"]
theorem sc__replacement : FnScope ["order", "kind", "whole", "part", "inner"] ["order", "kind", "whole", "part"] (defScope s__replacement) := ⟨rfl, rfl, rfl, by decide +kernel, rfl, by decide +kernel, by decide +kernel⟩
abbrev N__needed_parts : List Str := ["order", "kind", "parts", "numbers", "part", "kept", "at", "number", "needed", "index", "other"]
theorem sc__needed_parts : FnScope ["order", "kind", "parts", "numbers", "part", "kept", "at", "number", "needed", "index", "other"] ["order", "kind", "parts"] (defScope s__needed_parts) := ⟨rfl, rfl, rfl, by decide +kernel, rfl, by decide +kernel, by decide +kernel⟩
abbrev N__reduced : List Str := ["order", "kind", "parts", "circle", "whole", "ahead", "part"]
theorem sc__reduced : FnScope ["order", "kind", "parts", "circle", "whole", "ahead", "part"] ["order", "kind", "parts"] (defScope s__reduced) := ⟨rfl, rfl, rfl, by decide +kernel, rfl, by decide +kernel, by decide +kernel⟩
abbrev N__key_by : List Str := ["order", "circle", "part"]
theorem sc__key_by : FnScope ["order", "circle", "part"] ["order", "circle"] (defScope s__key_by) := ⟨rfl, rfl, rfl, by decide +kernel, rfl, by decide +kernel, by decide +kernel⟩
abbrev N_key_of : List Str := ["circle"]
theorem sc_key_of : FnScope ["circle"] ["circle"] (defScope s_key_of) := ⟨rfl, rfl, rfl, by decide +kernel, rfl, by decide +kernel, by decide +kernel⟩
abbrev N_put_eyes_out : List Str := ["circle", "names", "above", "parts", "part", "kept", "spared"]
theorem sc_put_eyes_out : FnScope ["circle", "names", "above", "parts", "part", "kept", "spared"] ["circle", "names", "above"] (defScope s_put_eyes_out) := ⟨rfl, rfl, rfl, by decide +kernel, rfl, by decide +kernel, by decide +kernel⟩
abbrev N_out : List Str := ["circle", "above", "eyes", "name", "rest"]
theorem sc_out : FnScope ["circle", "above", "eyes", "name", "rest"] ["circle", "above", "eyes"] (defScope s_out) := ⟨rfl, rfl, rfl, by decide +kernel, rfl, by decide +kernel, by decide +kernel⟩
abbrev N_of_kind : List Str := ["kind", "circles"]
theorem sc_of_kind : FnScope ["kind", "circles"] ["kind", "circles"] (defScope s_of_kind) := ⟨rfl, rfl, rfl, by decide +kernel, rfl, by decide +kernel, by decide +kernel⟩
abbrev N_mirrored : List Str := ["circle", "part"]
theorem sc_mirrored : FnScope ["circle", "part"] ["circle"] (defScope s_mirrored) := ⟨rfl, rfl, rfl, by decide +kernel, rfl, by decide +kernel, by decide +kernel⟩
abbrev N__law_bag : List Str := ["_law_script", "_law_mixed_here", "_law_cell"]
theorem sc__law_bag : FnScope ["_law_script", "_law_mixed_here", "_law_cell"] ["_law_script"] (defScope s__law_bag) := ⟨rfl, rfl, rfl, by decide +kernel, rfl, by decide +kernel, by decide +kernel⟩
abbrev N__law_draw : List Str := ["_law_bag_here", "_law_sides", "_law_cell", "_law_digit", "_law_mixed_here"]
theorem sc__law_draw : FnScope ["_law_bag_here", "_law_sides", "_law_cell", "_law_digit", "_law_mixed_here"] ["_law_bag_here", "_law_sides"] (defScope s__law_draw) := ⟨rfl, rfl, rfl, by decide +kernel, rfl, by decide +kernel, by decide +kernel⟩
abbrev N__law_of : List Str := ["_law_bag_here", "_law_things"]
theorem sc__law_of : FnScope ["_law_bag_here", "_law_things"] ["_law_bag_here", "_law_things"] (defScope s__law_of) := ⟨rfl, rfl, rfl, by decide +kernel, rfl, by decide +kernel, by decide +kernel⟩
abbrev N__law_mixed : List Str := ["_law_bag_here", "_law_things", "_law_found", "_law_thing"]
theorem sc__law_mixed : FnScope ["_law_bag_here", "_law_things", "_law_found", "_law_thing"] ["_law_bag_here", "_law_things"] (defScope s__law_mixed) := ⟨rfl, rfl, rfl, by decide +kernel, rfl, by decide +kernel, by decide +kernel⟩
abbrev N__law_same : List Str := ["_law_found", "_law_due", "_law_one", "_law_other"]
theorem sc__law_same : FnScope ["_law_found", "_law_due", "_law_one", "_law_other"] ["_law_found", "_law_due"] (defScope s__law_same) := ⟨rfl, rfl, rfl, by decide +kernel, rfl, by decide +kernel, by decide +kernel⟩
abbrev N__law_names : List Str := ["_law_bag_here", "_law_count", "_law_letters", "_law_stem", "_law_k", "_law_place", "_law_base", "_law_jump", "_law_word_here", "_law_found", "_law_name"]
theorem sc__law_names : FnScope ["_law_bag_here", "_law_count", "_law_letters", "_law_stem", "_law_k", "_law_place", "_law_base", "_law_jump", "_law_word_here", "_law_found", "_law_name"] ["_law_bag_here", "_law_count"] (defScope s__law_names) := ⟨rfl, rfl, rfl, by decide +kernel, rfl, by decide +kernel, by decide +kernel⟩
abbrev N__law_leaf : List Str := ["_law_name"]
theorem sc__law_leaf : FnScope ["_law_name"] ["_law_name"] (defScope s__law_leaf) := ⟨rfl, rfl, rfl, by decide +kernel, rfl, by decide +kernel, by decide +kernel⟩
abbrev N__law_joined : List Str := ["_law_kind_here", "_law_some", "_law_flat", "_law_one", "_law_parts", "_law_part", "_law_sign"]
theorem sc__law_joined : FnScope ["_law_kind_here", "_law_some", "_law_flat", "_law_one", "_law_parts", "_law_part", "_law_sign"] ["_law_kind_here", "_law_some"] (defScope s__law_joined) := ⟨rfl, rfl, rfl, by decide +kernel, rfl, by decide +kernel, by decide +kernel⟩
abbrev N__law_kind : List Str := ["_law_bag_here"]
theorem sc__law_kind : FnScope ["_law_bag_here"] ["_law_bag_here"] (defScope s__law_kind) := ⟨rfl, rfl, rfl, by decide +kernel, rfl, by decide +kernel, by decide +kernel⟩
abbrev N__law_eye : List Str := ["_law_bag_here", "_law_names_here"]
theorem sc__law_eye : FnScope ["_law_bag_here", "_law_names_here"] ["_law_bag_here", "_law_names_here"] (defScope s__law_eye) := ⟨rfl, rfl, rfl, by decide +kernel, rfl, by decide +kernel, by decide +kernel⟩
abbrev N__law_circle : List Str := ["_law_bag_here", "_law_names_here", "_law_deep", "_law_room", "_law_parts", "_law_k"]
theorem sc__law_circle : FnScope ["_law_bag_here", "_law_names_here", "_law_deep", "_law_room", "_law_parts", "_law_k"] ["_law_bag_here", "_law_names_here", "_law_deep", "_law_room"] (defScope s__law_circle) := ⟨rfl, rfl, rfl, by decide +kernel, rfl, by decide +kernel, by decide +kernel⟩
abbrev N__law_chain : List Str := ["_law_bag_here", "_law_names_here", "_law_deep", "_law_found", "_law_kind_here", "_law_k", "_law_one"]
theorem sc__law_chain : FnScope ["_law_bag_here", "_law_names_here", "_law_deep", "_law_found", "_law_kind_here", "_law_k", "_law_one"] ["_law_bag_here", "_law_names_here", "_law_deep"] (defScope s__law_chain) := ⟨rfl, rfl, rfl, by decide +kernel, rfl, by decide +kernel, by decide +kernel⟩
abbrev N__law_any : List Str := ["_law_bag_here", "_law_names_here", "_law_way"]
theorem sc__law_any : FnScope ["_law_bag_here", "_law_names_here", "_law_way"] ["_law_bag_here", "_law_names_here"] (defScope s__law_any) := ⟨rfl, rfl, rfl, by decide +kernel, rfl, by decide +kernel, by decide +kernel⟩
abbrev N__law_made : List Str := ["_law_c", "_law_found", "_law_part"]
theorem sc__law_made : FnScope ["_law_c", "_law_found", "_law_part"] ["_law_c"] (defScope s__law_made) := ⟨rfl, rfl, rfl, by decide +kernel, rfl, by decide +kernel, by decide +kernel⟩
abbrev N__law_handed : List Str := ["_law_bag_here", "_law_c"]
theorem sc__law_handed : FnScope ["_law_bag_here", "_law_c"] ["_law_bag_here", "_law_c"] (defScope s__law_handed) := ⟨rfl, rfl, rfl, by decide +kernel, rfl, by decide +kernel, by decide +kernel⟩
abbrev N__law_word : List Str := ["_law_found"]
theorem sc__law_word : FnScope ["_law_found"] ["_law_found"] (defScope s__law_word) := ⟨rfl, rfl, rfl, by decide +kernel, rfl, by decide +kernel, by decide +kernel⟩
abbrev N__law_one_by_one : List Str := ["_law_handed_here", "_law_gone", "_law_up", "_law_found", "_law_name"]
theorem sc__law_one_by_one : FnScope ["_law_handed_here", "_law_gone", "_law_up", "_law_found", "_law_name"] ["_law_handed_here", "_law_gone", "_law_up"] (defScope s__law_one_by_one) := ⟨rfl, rfl, rfl, by decide +kernel, rfl, by decide +kernel, by decide +kernel⟩
abbrev N__law_at_once : List Str := ["_law_handed_here", "_law_gone", "_law_up"]
theorem sc__law_at_once : FnScope ["_law_handed_here", "_law_gone", "_law_up"] ["_law_handed_here", "_law_gone", "_law_up"] (defScope s__law_at_once) := ⟨rfl, rfl, rfl, by decide +kernel, rfl, by decide +kernel, by decide +kernel⟩
abbrev N__law_order_so : List Str := ["_law_bag_here", "_law_handed_here", "_law_gone", "_law_up", "_law_due", "_law_k", "_law_some", "_law_half"]
theorem sc__law_order_so : FnScope ["_law_bag_here", "_law_handed_here", "_law_gone", "_law_up", "_law_due", "_law_k", "_law_some", "_law_half"] ["_law_bag_here", "_law_handed_here", "_law_gone", "_law_up"] (defScope s__law_order_so) := ⟨rfl, rfl, rfl, by decide +kernel, rfl, by decide +kernel, by decide +kernel⟩
abbrev N__law_mirror_so : List Str := ["_law_handed_here", "_law_gone", "_law_there", "_law_due"]
theorem sc__law_mirror_so : FnScope ["_law_handed_here", "_law_gone", "_law_there", "_law_due"] ["_law_handed_here", "_law_gone"] (defScope s__law_mirror_so) := ⟨rfl, rfl, rfl, by decide +kernel, rfl, by decide +kernel, by decide +kernel⟩
abbrev N__law_why : List Str := ["_law_ask", "_law_found", "e"]
theorem sc__law_why : FnScope ["_law_ask", "_law_found", "e"] ["_law_ask"] (defScope s__law_why) := ⟨rfl, rfl, rfl, by decide +kernel, rfl, by decide +kernel, by decide +kernel⟩
abbrev N__law_caught : List Str := ["_law_ask", "_law_found", "e"]
theorem sc__law_caught : FnScope ["_law_ask", "_law_found", "e"] ["_law_ask"] (defScope s__law_caught) := ⟨rfl, rfl, rfl, by decide +kernel, rfl, by decide +kernel, by decide +kernel⟩
abbrev N__law_refused_so : List Str := ["_law_bag_here", "_law_handed_here", "_law_gone", "_law_up", "_law_odds", "_law_one", "_law_two", "_law_good"]
theorem sc__law_refused_so : FnScope ["_law_bag_here", "_law_handed_here", "_law_gone", "_law_up", "_law_odds", "_law_one", "_law_two", "_law_good"] ["_law_bag_here", "_law_handed_here", "_law_gone", "_law_up"] (defScope s__law_refused_so) := ⟨rfl, rfl, rfl, by decide +kernel, rfl, by decide +kernel, by decide +kernel⟩
abbrev N_law : List Str := ["_law_script", "_law_bag_here", "_law_names_here", "_law_turn", "_law_c", "_law_handed_here", "_law_gone", "_law_k", "_law_up"]
theorem sc_law : FnScope ["_law_script", "_law_bag_here", "_law_names_here", "_law_turn", "_law_c", "_law_handed_here", "_law_gone", "_law_k", "_law_up"] ["_law_script"] (defScope s_law) := ⟨rfl, rfl, rfl, by decide +kernel, rfl, by decide +kernel, by decide +kernel⟩
def d_is_name : He.DefD := ⟨("is_name", none), "is_name", "is_name", defArgs s_is_name, defBody s_is_name, defScope s_is_name, [], []⟩
def d_Circle___init__ : He.DefD := ⟨("Circle", some "__init__"), "__init__", "Circle.__init__", defArgs s_Circle___init__, defBody s_Circle___init__, defScope s_Circle___init__, [], []⟩
def d_Circle_parts : He.DefD := ⟨("Circle", some "parts"), "parts", "Circle.parts", defArgs s_Circle_parts, defBody s_Circle_parts, defScope s_Circle_parts, [], []⟩
def d_Circle_eyes : He.DefD := ⟨("Circle", some "eyes"), "eyes", "Circle.eyes", defArgs s_Circle_eyes, defBody s_Circle_eyes, defScope s_Circle_eyes, [], []⟩
def d_Circle___str__ : He.DefD := ⟨("Circle", some "__str__"), "__str__", "Circle.__str__", defArgs s_Circle___str__, defBody s_Circle___str__, defScope s_Circle___str__, [], []⟩
def d_Circle___and__ : He.DefD := ⟨("Circle", some "__and__"), "__and__", "Circle.__and__", defArgs s_Circle___and__, defBody s_Circle___and__, defScope s_Circle___and__, [], []⟩
def d_Circle___or__ : He.DefD := ⟨("Circle", some "__or__"), "__or__", "Circle.__or__", defArgs s_Circle___or__, defBody s_Circle___or__, defScope s_Circle___or__, [], []⟩
def d_written_part : He.DefD := ⟨("written_part", none), "written_part", "written_part", defArgs s_written_part, defBody s_written_part, defScope s_written_part, [], []⟩
def d_eye : He.DefD := ⟨("eye", none), "eye", "eye", defArgs s_eye, defBody s_eye, defScope s_eye, [], []⟩
def d_pool : He.DefD := ⟨("pool", none), "pool", "pool", defArgs s_pool, defBody s_pool, defScope s_pool, [], []⟩
def d_common : He.DefD := ⟨("common", none), "common", "common", defArgs s_common, defBody s_common, defScope s_common, [], []⟩
def d_built_circle : He.DefD := ⟨("built_circle", none), "built_circle", "built_circle", defArgs s_built_circle, defBody s_built_circle, defScope s_built_circle, [], []⟩
def d_flat_parts : He.DefD := ⟨("flat_parts", none), "flat_parts", "flat_parts", defArgs s_flat_parts, defBody s_flat_parts, defScope s_flat_parts, [], []⟩
def d_unlike_rows : He.DefD := ⟨("unlike_rows", none), "unlike_rows", "unlike_rows", defArgs s_unlike_rows, defBody s_unlike_rows, defScope s_unlike_rows, [], []⟩
def d_Scanner___init__ : He.DefD := ⟨("Scanner", some "__init__"), "__init__", "Scanner.__init__", defArgs s_Scanner___init__, defBody s_Scanner___init__, defScope s_Scanner___init__, [], []⟩
def d_Scanner_takes : He.DefD := ⟨("Scanner", some "takes"), "takes", "Scanner.takes", defArgs s_Scanner_takes, defBody s_Scanner_takes, defScope s_Scanner_takes, [], []⟩
def d_Scanner_begins_item : He.DefD := ⟨("Scanner", some "begins_item"), "begins_item", "Scanner.begins_item", defArgs s_Scanner_begins_item, defBody s_Scanner_begins_item, defScope s_Scanner_begins_item, [], []⟩
def d_Scanner_takes_sign : He.DefD := ⟨("Scanner", some "takes_sign"), "takes_sign", "Scanner.takes_sign", defArgs s_Scanner_takes_sign, defBody s_Scanner_takes_sign, defScope s_Scanner_takes_sign, [], []⟩
def d_Scanner_closes : He.DefD := ⟨("Scanner", some "closes"), "closes", "Scanner.closes", defArgs s_Scanner_closes, defBody s_Scanner_closes, defScope s_Scanner_closes, [], []⟩
def d_Scanner_can_end : He.DefD := ⟨("Scanner", some "can_end"), "can_end", "Scanner.can_end", defArgs s_Scanner_can_end, defBody s_Scanner_can_end, defScope s_Scanner_can_end, [], []⟩
def d_wrong_place : He.DefD := ⟨("wrong_place", none), "wrong_place", "wrong_place", defArgs s_wrong_place, defBody s_wrong_place, defScope s_wrong_place, [], []⟩
def d_circle_of : He.DefD := ⟨("circle_of", none), "circle_of", "circle_of", defArgs s_circle_of, defBody s_circle_of, defScope s_circle_of, [], []⟩
def d_joined_items : He.DefD := ⟨("joined_items", none), "joined_items", "joined_items", defArgs s_joined_items, defBody s_joined_items, defScope s_joined_items, [], []⟩
def d_read_circle : He.DefD := ⟨("read_circle", none), "read_circle", "read_circle", defArgs s_read_circle, defBody s_read_circle, defScope s_read_circle, [], []⟩
def d_Order___init__ : He.DefD := ⟨("Order", some "__init__"), "__init__", "Order.__init__", defArgs s_Order___init__, defBody s_Order___init__, defScope s_Order___init__, [], []⟩
def d_Order_place : He.DefD := ⟨("Order", some "place"), "place", "Order.place", defArgs s_Order_place, defBody s_Order_place, defScope s_Order_place, [], []⟩
def d_Order_tells : He.DefD := ⟨("Order", some "tells"), "tells", "Order.tells", defArgs s_Order_tells, defBody s_Order_tells, defScope s_Order_tells, [], []⟩
def d_Order__decide : He.DefD := ⟨("Order", some "_decide"), "_decide", "Order._decide", defArgs s_Order__decide, defBody s_Order__decide, defScope s_Order__decide, [], []⟩
def d_Order__all_tell : He.DefD := ⟨("Order", some "_all_tell"), "_all_tell", "Order._all_tell", defArgs s_Order__all_tell, defBody s_Order__all_tell, defScope s_Order__all_tell, [], []⟩
def d_built : He.DefD := ⟨("built", none), "built", "built", defArgs s_built, defBody s_built, defScope s_built, [], []⟩
def d__goes_beyond : He.DefD := ⟨("_goes_beyond", none), "_goes_beyond", "_goes_beyond", defArgs s__goes_beyond, defBody s__goes_beyond, defScope s__goes_beyond, [], []⟩
def d__replacement : He.DefD := ⟨("_replacement", none), "_replacement", "_replacement", defArgs s__replacement, defBody s__replacement, defScope s__replacement, [], []⟩
def d__needed_parts : He.DefD := ⟨("_needed_parts", none), "_needed_parts", "_needed_parts", defArgs s__needed_parts, defBody s__needed_parts, defScope s__needed_parts, [], []⟩
def d__reduced : He.DefD := ⟨("_reduced", none), "_reduced", "_reduced", defArgs s__reduced, defBody s__reduced, defScope s__reduced, [], []⟩
def d__key_by : He.DefD := ⟨("_key_by", none), "_key_by", "_key_by", defArgs s__key_by, defBody s__key_by, defScope s__key_by, [], []⟩
def d_key_of : He.DefD := ⟨("key_of", none), "key_of", "key_of", defArgs s_key_of, defBody s_key_of, defScope s_key_of, [], []⟩
def d_put_eyes_out : He.DefD := ⟨("put_eyes_out", none), "put_eyes_out", "put_eyes_out", defArgs s_put_eyes_out, defBody s_put_eyes_out, defScope s_put_eyes_out, [], []⟩
def d_out : He.DefD := ⟨("out", none), "out", "out", defArgs s_out, defBody s_out, defScope s_out, [], [("above", .bl true)]⟩
def d_of_kind : He.DefD := ⟨("of_kind", none), "of_kind", "of_kind", defArgs s_of_kind, defBody s_of_kind, defScope s_of_kind, [], []⟩
def d_mirrored : He.DefD := ⟨("mirrored", none), "mirrored", "mirrored", defArgs s_mirrored, defBody s_mirrored, defScope s_mirrored, [], []⟩
def d__law_bag : He.DefD := ⟨("_law_bag", none), "_law_bag", "_law_bag", defArgs s__law_bag, defBody s__law_bag, defScope s__law_bag, [], []⟩
def d__law_draw : He.DefD := ⟨("_law_draw", none), "_law_draw", "_law_draw", defArgs s__law_draw, defBody s__law_draw, defScope s__law_draw, [], []⟩
def d__law_of : He.DefD := ⟨("_law_of", none), "_law_of", "_law_of", defArgs s__law_of, defBody s__law_of, defScope s__law_of, [], []⟩
def d__law_mixed : He.DefD := ⟨("_law_mixed", none), "_law_mixed", "_law_mixed", defArgs s__law_mixed, defBody s__law_mixed, defScope s__law_mixed, [], []⟩
def d__law_same : He.DefD := ⟨("_law_same", none), "_law_same", "_law_same", defArgs s__law_same, defBody s__law_same, defScope s__law_same, [], []⟩
def d__law_names : He.DefD := ⟨("_law_names", none), "_law_names", "_law_names", defArgs s__law_names, defBody s__law_names, defScope s__law_names, [], []⟩
def d__law_leaf : He.DefD := ⟨("_law_leaf", none), "_law_leaf", "_law_leaf", defArgs s__law_leaf, defBody s__law_leaf, defScope s__law_leaf, [], []⟩
def d__law_joined : He.DefD := ⟨("_law_joined", none), "_law_joined", "_law_joined", defArgs s__law_joined, defBody s__law_joined, defScope s__law_joined, [], []⟩
def d__law_kind : He.DefD := ⟨("_law_kind", none), "_law_kind", "_law_kind", defArgs s__law_kind, defBody s__law_kind, defScope s__law_kind, [], []⟩
def d__law_eye : He.DefD := ⟨("_law_eye", none), "_law_eye", "_law_eye", defArgs s__law_eye, defBody s__law_eye, defScope s__law_eye, [], []⟩
def d__law_circle : He.DefD := ⟨("_law_circle", none), "_law_circle", "_law_circle", defArgs s__law_circle, defBody s__law_circle, defScope s__law_circle, [], []⟩
def d__law_chain : He.DefD := ⟨("_law_chain", none), "_law_chain", "_law_chain", defArgs s__law_chain, defBody s__law_chain, defScope s__law_chain, [], []⟩
def d__law_any : He.DefD := ⟨("_law_any", none), "_law_any", "_law_any", defArgs s__law_any, defBody s__law_any, defScope s__law_any, [], []⟩
def d__law_made : He.DefD := ⟨("_law_made", none), "_law_made", "_law_made", defArgs s__law_made, defBody s__law_made, defScope s__law_made, [], []⟩
def d__law_handed : He.DefD := ⟨("_law_handed", none), "_law_handed", "_law_handed", defArgs s__law_handed, defBody s__law_handed, defScope s__law_handed, [], []⟩
def d__law_word : He.DefD := ⟨("_law_word", none), "_law_word", "_law_word", defArgs s__law_word, defBody s__law_word, defScope s__law_word, [], []⟩
def d__law_one_by_one : He.DefD := ⟨("_law_one_by_one", none), "_law_one_by_one", "_law_one_by_one", defArgs s__law_one_by_one, defBody s__law_one_by_one, defScope s__law_one_by_one, [], []⟩
def d__law_at_once : He.DefD := ⟨("_law_at_once", none), "_law_at_once", "_law_at_once", defArgs s__law_at_once, defBody s__law_at_once, defScope s__law_at_once, [], []⟩
def d__law_order_so : He.DefD := ⟨("_law_order_so", none), "_law_order_so", "_law_order_so", defArgs s__law_order_so, defBody s__law_order_so, defScope s__law_order_so, [], []⟩
def d__law_mirror_so : He.DefD := ⟨("_law_mirror_so", none), "_law_mirror_so", "_law_mirror_so", defArgs s__law_mirror_so, defBody s__law_mirror_so, defScope s__law_mirror_so, [], []⟩
def d__law_why : He.DefD := ⟨("_law_why", none), "_law_why", "_law_why", defArgs s__law_why, defBody s__law_why, defScope s__law_why, [], []⟩
def d__law_caught : He.DefD := ⟨("_law_caught", none), "_law_caught", "_law_caught", defArgs s__law_caught, defBody s__law_caught, defScope s__law_caught, [], []⟩
def d__law_refused_so : He.DefD := ⟨("_law_refused_so", none), "_law_refused_so", "_law_refused_so", defArgs s__law_refused_so, defBody s__law_refused_so, defScope s__law_refused_so, [], []⟩
def d_law : He.DefD := ⟨("law", none), "law", "law", defArgs s_law, defBody s_law, defScope s_law, [], []⟩
def fn0 : List He.DefD := [d_is_name, d_Circle___init__, d_Circle_parts, d_Circle_eyes, d_Circle___str__, d_Circle___and__, d_Circle___or__, d_written_part, d_eye, d_pool, d_common, d_built_circle, d_flat_parts, d_unlike_rows, d_Scanner___init__, d_Scanner_takes, d_Scanner_begins_item, d_Scanner_takes_sign, d_Scanner_closes, d_Scanner_can_end, d_wrong_place, d_circle_of, d_joined_items, d_read_circle, d_Order___init__, d_Order_place, d_Order_tells, d_Order__decide, d_Order__all_tell, d_built, d__goes_beyond, d__replacement, d__needed_parts, d__reduced, d__key_by, d_key_of, d_put_eyes_out, d_out, d_of_kind, d_mirrored, d__law_bag, d__law_draw, d__law_of, d__law_mixed, d__law_same, d__law_names, d__law_leaf, d__law_joined, d__law_kind, d__law_eye, d__law_circle, d__law_chain, d__law_any, d__law_made, d__law_handed, d__law_word, d__law_one_by_one, d__law_at_once, d__law_order_so, d__law_mirror_so, d__law_why, d__law_caught, d__law_refused_so, d_law]
def fn : List He.DefD := fn0
def fa0 : List He.Fa := [.free "isinstance", .free "str", .int "LONGEST" 6, .free "len", .free "all", .str "LETTERS" "abcdefghijklmnopqrstuvwxyz", .free "tuple", .free "sum", .free "max", .free "sorted", .glo "SIGNS", .glo "written_part", .free "set", .free "list", .glo "pool", .glo "common", .glo "is_name", .glo "InvalidName", .glo "Circle", .glo "built_circle", .glo "InvalidCircle", .free "enumerate", .glo "unlike_rows", .glo "flat_parts", .glo "TooMany", .int "DEEPEST" 20, .int "OPEN" 20, .glo "Scanner", .glo "joined_items", .glo "eye"]
def fa1 : List He.Fa := [.glo "InvalidText", .glo "wrong_place", .glo "circle_of", .glo "_goes_beyond", .glo "built", .glo "_replacement", .glo "_needed_parts", .glo "_reduced", .glo "_key_by", .glo "Order", .glo "put_eyes_out", .glo "key_of", .glo "of_kind", .glo "MIRRORS", .glo "mirrored", .free "int", .glo "_law_draw", .glo "_law_same", .free "zip", .free "bool", .glo "_law_of", .free "range", .glo "_law_mixed", .glo "_law_leaf", .glo "_law_eye", .glo "_law_joined", .glo "_law_kind", .glo "_law_circle", .glo "_law_chain", .glo "_law_made"]
def fa2 : List He.Fa := [.glo "read_circle", .glo "out", .glo "_law_word", .glo "_law_at_once", .glo "_law_one_by_one", .glo "PooledError", .free "ValueError", .glo "_law_why", .glo "_law_caught", .glo "_law_bag", .glo "_law_names", .glo "_law_any", .glo "_law_handed", .glo "_law_mirror_so", .glo "_law_order_so", .glo "_law_refused_so", .glo "law", .cls "Circle", .mkr "Circle", .noat "Circle" "kind", .noat "Circle" "name", .noat "Circle" "_rows", .noat "Circle" "size", .noat "Circle" "depth", .noat "Circle" "_text", .noat "Circle" "_names", .meth "Circle" "parts", .meth "Circle" "eyes", .meth "Circle" "__str__", .meth "Circle" "__and__"]
def fa3 : List He.Fa := [.meth "Circle" "__or__", .cls "Scanner", .mkr "Scanner", .noat "Scanner" "awaited", .noat "Scanner" "letters", .noat "Scanner" "signs", .meth "Scanner" "takes", .meth "Scanner" "begins_item", .meth "Scanner" "takes_sign", .meth "Scanner" "closes", .meth "Scanner" "can_end", .cls "Order", .mkr "Order", .noat "Order" "_kinds", .noat "Order" "_parts", .noat "Order" "_texts", .noat "Order" "_numbers", .noat "Order" "_known", .meth "Order" "place", .meth "Order" "tells", .meth "Order" "_decide", .meth "Order" "_all_tell"]
def fa : List He.Fa := fa0 ++ (fa1 ++ (fa2 ++ (fa3)))
def mkrN : List Str := ["_law_refused_so"]
def ex (K : PySem.W.Frag) : Bool := LL.insB K (He.ga K "Circle") && (decide (PySem.W.kitOne K (.ref (He.ga K "Circle")) (.ref (He.ga K "Circle")) = some true) && (decide (PySem.W.findIn K (.ref (He.ga K "Circle")) "__format__" = some (some (.builtin "object.__format__"))) && (PySem.W.selfFirst K (He.ga K "Circle") && (LC.clsB K (He.ga K "Circle") && (LC.clsIntB K (He.ga K "Circle") "LIMIT" 60 && (He.valsB K (He.ga K "SIGNS") [("pool", .str " & ")] && (He.valsB K (He.ga K "SIGNS") [("common", .str " | ")] && (LXs.errB K (He.ga K "InvalidName") ["value"] && (xfB K (He.ga K "InvalidName") && (xfB K (He.ga K "PooledError") && (decide (PySem.W.exmOne K (.ref (He.ga K "InvalidName")) (.ref (He.ga K "InvalidName")) = some true) && (decide (PySem.W.exmOne K (.ref (He.ga K "InvalidName")) (.ref (He.ga K "PooledError")) = some true) && (LXs.excCB K (He.ga K "InvalidName") && (decide (PySem.W.kitOne K (.ref (He.ga K "InvalidName")) (.type "ValueError") = some true) && (LLm.mkB K mkrN && (He.valsB K (He.ga K "MIRRORS") [("pool", .str "common")] && (He.valsB K (He.ga K "MIRRORS") [("common", .str "pool")])))))))))))))))))
def ts : List He.Tab := [(fun K => He.ga K "SIGNS", ["pool", "common"]), (fun K => He.ga K "MIRRORS", ["pool", "common"])]
/-! the hook: the facts, the defs, one more Bool, the tables of texts, the tables of code objects -/
abbrev AlE : Type := ((He.AlD × Bool) × List (Option (List (Option (Str × Int))))) × List (Option Obj)
/-- the addresses that the module's names reach in five steps, each once, but the tables of code objects -/
def addN : List Addr → Nat → List Addr → List Addr × Nat
  | [], m, acc => (acc, m)
  | a :: r, m, acc => match Nat.beq (Nat.land (Nat.shiftRight m a) 1) 0 with
    | true => addN r (Nat.lor m (Nat.shiftLeft 1 a)) (a :: acc)
    | false => addN r m acc
def notTab (g : Addr → Option Obj) (a : Addr) : Bool := match g a with
  | some ⟨.none, _, _, _⟩ => false
  | _ => true
def bfs (g : Addr → Option Obj) : Nat → List Addr → Nat → List Addr
  | 0, fr, _ => fr
  | n + 1, fr, m => match addN (fr.flatMap fun a => match g a with
    | some o => He.refsD o
    | none => []) m [] with
    | (nw, m') => fr ++ bfs g n nw m'
def asE (g : Addr → Option Obj) : List Addr := (bfs g 5 [mainGlobals] (Nat.shiftLeft 1 mainGlobals)).filter (notTab g) ++ [cStatics]
def obsK (K : PySem.W.Frag) : (He.AlD × Bool) × List (Option (List (Option (Str × Int)))) := ((He.obsD fa fn K, ex K), ts.map fun t => He.dicW K (t.1 K))
def obsT (g : Addr → Option Obj) (K : PySem.W.Frag) : List (Option Obj) := mkrN.map fun x => g (LLm.tabF K (He.ga K x))
def obsE (g : Addr → Option Obj) : AlE := (obsK (He.frG g (asE g)), obsT g (He.frG g (asE g)))
def valE (w : World) : AlE := (((He.valD fn, true), ts.map fun t => some (He.keysIn w.params t.2)), mkrN.map fun _ => some (PySem.W.tabObj #[]))
def Says (K : PySem.W.Frag) : Prop := He.SaysD fa fn K ∧ ex K = true
def Tabs (w : World) (K : PySem.W.Frag) : Prop := (ts.map fun t => He.dicW K (t.1 K)) = ts.map fun t => some (He.keysIn w.params t.2)
def TabsE (K : PySem.W.Frag) (h : Heap) : Prop := ∀ x ∈ mkrN, h.get? (LLm.tabF K (He.ga K x)) = some (PySem.W.tabObj #[])
theorem tabsE_of {h : Heap} {K : PySem.W.Frag} (e : obsT h.get? K = mkrN.map fun _ => some (PySem.W.tabObj #[])) : TabsE K h := List.map_inj_left.mp e
def hk : PySem.W.Hook where
  α := AlE
  obs := fun s => obsE s.heap.get?
  val := valE
  says := fun w h => ∃ K : PySem.W.Frag, K.In h ∧ Says K ∧ Tabs w K ∧ TabsE K h
  of := fun w s e => ⟨_, He.frG_in, ⟨congrArg (fun z : AlE => z.1.1.1) e, congrArg (fun z : AlE => z.1.1.2) e⟩, (congrArg (fun z : AlE => z.1.2) e : (obsE s.heap.get?).1.2 = (valE w).1.2), tabsE_of (congrArg (fun z : AlE => z.2) e)⟩
  keeps := fun _ _ _ ⟨K, hK, c1, c2, c3⟩ k => ⟨K, PySem.W.Frag.In.keeps hK k, c1, c2, fun x hx => k _ _ (c3 x hx)⟩
def ob (s : PySem.W.SharedT) : AlE := obsE (HandSHeadRun.getT s)
theorem ob_eq (s : PySem.W.SharedT) : ob s = hk.obs s.abs := by
  have e : HandSHeadRun.getT s = s.abs.heap.get? := funext (HandSHeadRun.getT_eq s)
  show obsE (HandSHeadRun.getT s) = obsE s.abs.heap.get?
  rw [e]
/-- what is known of the top: its objects stand in K, its names in mg -/
structure Txt (K : PySem.W.Frag) (mg : Str → Option Value) : Prop where
  here : ∃ h : Heap, K.In h ∧ h.Ns mainGlobals mg
  says : Says K
section
variable {K : PySem.W.Frag} {mg : Str → Option Value}
theorem Txt.fact (T : Txt K mg) (i : Nat) {f : He.Fa} (h : fa[i]? = some f) : f.ok K = true := T.says.1.fact i h
theorem Txt.glo (T : Txt K mg) (i : Nat) {x : Str} (h : fa[i]? = some (.glo x)) : mg x = some (.ref (He.ga K x)) := by
  obtain ⟨_, X, G⟩ := T.here
  exact He.glo_ok X G (T.fact i h)
theorem Txt.free (T : Txt K mg) (i : Nat) {x : Str} (h : fa[i]? = some (.free x)) : mg x = none := by
  obtain ⟨_, X, G⟩ := T.here
  exact He.free_ok X G (T.fact i h)
theorem Txt.int (T : Txt K mg) (i : Nat) {x : Str} {n : Int} (h : fa[i]? = some (.int x n)) : ∃ u, mg x = some u ∧ RelV (.int n) u := by
  obtain ⟨_, X, G⟩ := T.here
  obtain ⟨t, e⟩ := He.int_ok X G (T.fact i h)
  exact ⟨_, e, t, rfl⟩
theorem Txt.str (T : Txt K mg) (i : Nat) {x z : Str} (h : fa[i]? = some (.str x z)) : ∃ u, mg x = some u ∧ RelV (.str z) u := by
  obtain ⟨_, X, G⟩ := T.here
  obtain ⟨t, e⟩ := He.str_ok X G (T.fact i h)
  exact ⟨_, e, t, rfl⟩
theorem Txt.exs (T : Txt K mg) : ex K = true := T.says.2
theorem Txt.def_ (T : Txt K mg) (i : Nat) {d : He.DefD} (h : fn[i]? = some d) : ∃ fd, FunD K d.name d.qual d.params d.body d.scope (d.dvs K) (d.kws K) (He.fAd K d.at_) fd := T.says.1.def_ i h

theorem Txt.z_isinstance (T : Txt K mg) : mg "isinstance" = none := T.free 0 rfl
theorem Txt.z_str (T : Txt K mg) : mg "str" = none := T.free 1 rfl
theorem Txt.v_LONGEST (T : Txt K mg) : ∃ u, mg "LONGEST" = some u ∧ RelV (.int 6) u := T.int 2 rfl
theorem Txt.z_len (T : Txt K mg) : mg "len" = none := T.free 3 rfl
theorem Txt.z_all (T : Txt K mg) : mg "all" = none := T.free 4 rfl
theorem Txt.v_LETTERS (T : Txt K mg) : ∃ u, mg "LETTERS" = some u ∧ RelV (.str "abcdefghijklmnopqrstuvwxyz") u := T.str 5 rfl
theorem Txt.z_tuple (T : Txt K mg) : mg "tuple" = none := T.free 6 rfl
theorem Txt.z_sum (T : Txt K mg) : mg "sum" = none := T.free 7 rfl
theorem Txt.z_max (T : Txt K mg) : mg "max" = none := T.free 8 rfl
theorem Txt.z_sorted (T : Txt K mg) : mg "sorted" = none := T.free 9 rfl
theorem Txt.g_SIGNS (T : Txt K mg) : mg "SIGNS" = some (.ref (He.ga K "SIGNS")) := T.glo 10 rfl
theorem Txt.v_SIGNS (T : Txt K mg) : ∃ u, mg "SIGNS" = some u ∧ RelV (.ref (He.ga K "SIGNS")) u := ⟨_, T.g_SIGNS, rfl⟩
theorem Txt.g_written_part (T : Txt K mg) : mg "written_part" = some (.ref (He.ga K "written_part")) := T.glo 11 rfl
theorem Txt.v_written_part (T : Txt K mg) : ∃ u, mg "written_part" = some u ∧ RelV (.ref (He.ga K "written_part")) u := ⟨_, T.g_written_part, rfl⟩
theorem Txt.z_set (T : Txt K mg) : mg "set" = none := T.free 12 rfl
theorem Txt.z_list (T : Txt K mg) : mg "list" = none := T.free 13 rfl
theorem Txt.g_pool (T : Txt K mg) : mg "pool" = some (.ref (He.ga K "pool")) := T.glo 14 rfl
theorem Txt.v_pool (T : Txt K mg) : ∃ u, mg "pool" = some u ∧ RelV (.ref (He.ga K "pool")) u := ⟨_, T.g_pool, rfl⟩
theorem Txt.g_common (T : Txt K mg) : mg "common" = some (.ref (He.ga K "common")) := T.glo 15 rfl
theorem Txt.v_common (T : Txt K mg) : ∃ u, mg "common" = some u ∧ RelV (.ref (He.ga K "common")) u := ⟨_, T.g_common, rfl⟩
theorem Txt.g_is_name (T : Txt K mg) : mg "is_name" = some (.ref (He.ga K "is_name")) := T.glo 16 rfl
theorem Txt.v_is_name (T : Txt K mg) : ∃ u, mg "is_name" = some u ∧ RelV (.ref (He.ga K "is_name")) u := ⟨_, T.g_is_name, rfl⟩
theorem Txt.g_InvalidName (T : Txt K mg) : mg "InvalidName" = some (.ref (He.ga K "InvalidName")) := T.glo 17 rfl
theorem Txt.v_InvalidName (T : Txt K mg) : ∃ u, mg "InvalidName" = some u ∧ RelV (.ref (He.ga K "InvalidName")) u := ⟨_, T.g_InvalidName, rfl⟩
theorem Txt.g_Circle (T : Txt K mg) : mg "Circle" = some (.ref (He.ga K "Circle")) := T.glo 18 rfl
theorem Txt.v_Circle (T : Txt K mg) : ∃ u, mg "Circle" = some u ∧ RelV (.ref (He.ga K "Circle")) u := ⟨_, T.g_Circle, rfl⟩
theorem Txt.g_built_circle (T : Txt K mg) : mg "built_circle" = some (.ref (He.ga K "built_circle")) := T.glo 19 rfl
theorem Txt.v_built_circle (T : Txt K mg) : ∃ u, mg "built_circle" = some u ∧ RelV (.ref (He.ga K "built_circle")) u := ⟨_, T.g_built_circle, rfl⟩
theorem Txt.g_InvalidCircle (T : Txt K mg) : mg "InvalidCircle" = some (.ref (He.ga K "InvalidCircle")) := T.glo 20 rfl
theorem Txt.v_InvalidCircle (T : Txt K mg) : ∃ u, mg "InvalidCircle" = some u ∧ RelV (.ref (He.ga K "InvalidCircle")) u := ⟨_, T.g_InvalidCircle, rfl⟩
theorem Txt.z_enumerate (T : Txt K mg) : mg "enumerate" = none := T.free 21 rfl
theorem Txt.g_unlike_rows (T : Txt K mg) : mg "unlike_rows" = some (.ref (He.ga K "unlike_rows")) := T.glo 22 rfl
theorem Txt.v_unlike_rows (T : Txt K mg) : ∃ u, mg "unlike_rows" = some u ∧ RelV (.ref (He.ga K "unlike_rows")) u := ⟨_, T.g_unlike_rows, rfl⟩
theorem Txt.g_flat_parts (T : Txt K mg) : mg "flat_parts" = some (.ref (He.ga K "flat_parts")) := T.glo 23 rfl
theorem Txt.v_flat_parts (T : Txt K mg) : ∃ u, mg "flat_parts" = some u ∧ RelV (.ref (He.ga K "flat_parts")) u := ⟨_, T.g_flat_parts, rfl⟩
theorem Txt.g_TooMany (T : Txt K mg) : mg "TooMany" = some (.ref (He.ga K "TooMany")) := T.glo 24 rfl
theorem Txt.v_TooMany (T : Txt K mg) : ∃ u, mg "TooMany" = some u ∧ RelV (.ref (He.ga K "TooMany")) u := ⟨_, T.g_TooMany, rfl⟩
theorem Txt.v_DEEPEST (T : Txt K mg) : ∃ u, mg "DEEPEST" = some u ∧ RelV (.int 20) u := T.int 25 rfl
theorem Txt.v_OPEN (T : Txt K mg) : ∃ u, mg "OPEN" = some u ∧ RelV (.int 20) u := T.int 26 rfl
theorem Txt.g_Scanner (T : Txt K mg) : mg "Scanner" = some (.ref (He.ga K "Scanner")) := T.glo 27 rfl
theorem Txt.v_Scanner (T : Txt K mg) : ∃ u, mg "Scanner" = some u ∧ RelV (.ref (He.ga K "Scanner")) u := ⟨_, T.g_Scanner, rfl⟩
theorem Txt.g_joined_items (T : Txt K mg) : mg "joined_items" = some (.ref (He.ga K "joined_items")) := T.glo 28 rfl
theorem Txt.v_joined_items (T : Txt K mg) : ∃ u, mg "joined_items" = some u ∧ RelV (.ref (He.ga K "joined_items")) u := ⟨_, T.g_joined_items, rfl⟩
theorem Txt.g_eye (T : Txt K mg) : mg "eye" = some (.ref (He.ga K "eye")) := T.glo 29 rfl
theorem Txt.v_eye (T : Txt K mg) : ∃ u, mg "eye" = some u ∧ RelV (.ref (He.ga K "eye")) u := ⟨_, T.g_eye, rfl⟩
theorem Txt.g_InvalidText (T : Txt K mg) : mg "InvalidText" = some (.ref (He.ga K "InvalidText")) := T.glo 30 rfl
theorem Txt.v_InvalidText (T : Txt K mg) : ∃ u, mg "InvalidText" = some u ∧ RelV (.ref (He.ga K "InvalidText")) u := ⟨_, T.g_InvalidText, rfl⟩
theorem Txt.g_wrong_place (T : Txt K mg) : mg "wrong_place" = some (.ref (He.ga K "wrong_place")) := T.glo 31 rfl
theorem Txt.v_wrong_place (T : Txt K mg) : ∃ u, mg "wrong_place" = some u ∧ RelV (.ref (He.ga K "wrong_place")) u := ⟨_, T.g_wrong_place, rfl⟩
theorem Txt.g_circle_of (T : Txt K mg) : mg "circle_of" = some (.ref (He.ga K "circle_of")) := T.glo 32 rfl
theorem Txt.v_circle_of (T : Txt K mg) : ∃ u, mg "circle_of" = some u ∧ RelV (.ref (He.ga K "circle_of")) u := ⟨_, T.g_circle_of, rfl⟩
theorem Txt.g__goes_beyond (T : Txt K mg) : mg "_goes_beyond" = some (.ref (He.ga K "_goes_beyond")) := T.glo 33 rfl
theorem Txt.v__goes_beyond (T : Txt K mg) : ∃ u, mg "_goes_beyond" = some u ∧ RelV (.ref (He.ga K "_goes_beyond")) u := ⟨_, T.g__goes_beyond, rfl⟩
theorem Txt.g_built (T : Txt K mg) : mg "built" = some (.ref (He.ga K "built")) := T.glo 34 rfl
theorem Txt.v_built (T : Txt K mg) : ∃ u, mg "built" = some u ∧ RelV (.ref (He.ga K "built")) u := ⟨_, T.g_built, rfl⟩
theorem Txt.g__replacement (T : Txt K mg) : mg "_replacement" = some (.ref (He.ga K "_replacement")) := T.glo 35 rfl
theorem Txt.v__replacement (T : Txt K mg) : ∃ u, mg "_replacement" = some u ∧ RelV (.ref (He.ga K "_replacement")) u := ⟨_, T.g__replacement, rfl⟩
theorem Txt.g__needed_parts (T : Txt K mg) : mg "_needed_parts" = some (.ref (He.ga K "_needed_parts")) := T.glo 36 rfl
theorem Txt.v__needed_parts (T : Txt K mg) : ∃ u, mg "_needed_parts" = some u ∧ RelV (.ref (He.ga K "_needed_parts")) u := ⟨_, T.g__needed_parts, rfl⟩
theorem Txt.g__reduced (T : Txt K mg) : mg "_reduced" = some (.ref (He.ga K "_reduced")) := T.glo 37 rfl
theorem Txt.v__reduced (T : Txt K mg) : ∃ u, mg "_reduced" = some u ∧ RelV (.ref (He.ga K "_reduced")) u := ⟨_, T.g__reduced, rfl⟩
theorem Txt.g__key_by (T : Txt K mg) : mg "_key_by" = some (.ref (He.ga K "_key_by")) := T.glo 38 rfl
theorem Txt.v__key_by (T : Txt K mg) : ∃ u, mg "_key_by" = some u ∧ RelV (.ref (He.ga K "_key_by")) u := ⟨_, T.g__key_by, rfl⟩
theorem Txt.g_Order (T : Txt K mg) : mg "Order" = some (.ref (He.ga K "Order")) := T.glo 39 rfl
theorem Txt.v_Order (T : Txt K mg) : ∃ u, mg "Order" = some u ∧ RelV (.ref (He.ga K "Order")) u := ⟨_, T.g_Order, rfl⟩
theorem Txt.g_put_eyes_out (T : Txt K mg) : mg "put_eyes_out" = some (.ref (He.ga K "put_eyes_out")) := T.glo 40 rfl
theorem Txt.v_put_eyes_out (T : Txt K mg) : ∃ u, mg "put_eyes_out" = some u ∧ RelV (.ref (He.ga K "put_eyes_out")) u := ⟨_, T.g_put_eyes_out, rfl⟩
theorem Txt.g_key_of (T : Txt K mg) : mg "key_of" = some (.ref (He.ga K "key_of")) := T.glo 41 rfl
theorem Txt.v_key_of (T : Txt K mg) : ∃ u, mg "key_of" = some u ∧ RelV (.ref (He.ga K "key_of")) u := ⟨_, T.g_key_of, rfl⟩
theorem Txt.g_of_kind (T : Txt K mg) : mg "of_kind" = some (.ref (He.ga K "of_kind")) := T.glo 42 rfl
theorem Txt.v_of_kind (T : Txt K mg) : ∃ u, mg "of_kind" = some u ∧ RelV (.ref (He.ga K "of_kind")) u := ⟨_, T.g_of_kind, rfl⟩
theorem Txt.g_MIRRORS (T : Txt K mg) : mg "MIRRORS" = some (.ref (He.ga K "MIRRORS")) := T.glo 43 rfl
theorem Txt.v_MIRRORS (T : Txt K mg) : ∃ u, mg "MIRRORS" = some u ∧ RelV (.ref (He.ga K "MIRRORS")) u := ⟨_, T.g_MIRRORS, rfl⟩
theorem Txt.g_mirrored (T : Txt K mg) : mg "mirrored" = some (.ref (He.ga K "mirrored")) := T.glo 44 rfl
theorem Txt.v_mirrored (T : Txt K mg) : ∃ u, mg "mirrored" = some u ∧ RelV (.ref (He.ga K "mirrored")) u := ⟨_, T.g_mirrored, rfl⟩
theorem Txt.z_int (T : Txt K mg) : mg "int" = none := T.free 45 rfl
theorem Txt.g__law_draw (T : Txt K mg) : mg "_law_draw" = some (.ref (He.ga K "_law_draw")) := T.glo 46 rfl
theorem Txt.v__law_draw (T : Txt K mg) : ∃ u, mg "_law_draw" = some u ∧ RelV (.ref (He.ga K "_law_draw")) u := ⟨_, T.g__law_draw, rfl⟩
theorem Txt.g__law_same (T : Txt K mg) : mg "_law_same" = some (.ref (He.ga K "_law_same")) := T.glo 47 rfl
theorem Txt.v__law_same (T : Txt K mg) : ∃ u, mg "_law_same" = some u ∧ RelV (.ref (He.ga K "_law_same")) u := ⟨_, T.g__law_same, rfl⟩
theorem Txt.z_zip (T : Txt K mg) : mg "zip" = none := T.free 48 rfl
theorem Txt.z_bool (T : Txt K mg) : mg "bool" = none := T.free 49 rfl
theorem Txt.g__law_of (T : Txt K mg) : mg "_law_of" = some (.ref (He.ga K "_law_of")) := T.glo 50 rfl
theorem Txt.v__law_of (T : Txt K mg) : ∃ u, mg "_law_of" = some u ∧ RelV (.ref (He.ga K "_law_of")) u := ⟨_, T.g__law_of, rfl⟩
theorem Txt.z_range (T : Txt K mg) : mg "range" = none := T.free 51 rfl
theorem Txt.g__law_mixed (T : Txt K mg) : mg "_law_mixed" = some (.ref (He.ga K "_law_mixed")) := T.glo 52 rfl
theorem Txt.v__law_mixed (T : Txt K mg) : ∃ u, mg "_law_mixed" = some u ∧ RelV (.ref (He.ga K "_law_mixed")) u := ⟨_, T.g__law_mixed, rfl⟩
theorem Txt.g__law_leaf (T : Txt K mg) : mg "_law_leaf" = some (.ref (He.ga K "_law_leaf")) := T.glo 53 rfl
theorem Txt.v__law_leaf (T : Txt K mg) : ∃ u, mg "_law_leaf" = some u ∧ RelV (.ref (He.ga K "_law_leaf")) u := ⟨_, T.g__law_leaf, rfl⟩
theorem Txt.g__law_eye (T : Txt K mg) : mg "_law_eye" = some (.ref (He.ga K "_law_eye")) := T.glo 54 rfl
theorem Txt.v__law_eye (T : Txt K mg) : ∃ u, mg "_law_eye" = some u ∧ RelV (.ref (He.ga K "_law_eye")) u := ⟨_, T.g__law_eye, rfl⟩
theorem Txt.g__law_joined (T : Txt K mg) : mg "_law_joined" = some (.ref (He.ga K "_law_joined")) := T.glo 55 rfl
theorem Txt.v__law_joined (T : Txt K mg) : ∃ u, mg "_law_joined" = some u ∧ RelV (.ref (He.ga K "_law_joined")) u := ⟨_, T.g__law_joined, rfl⟩
theorem Txt.g__law_kind (T : Txt K mg) : mg "_law_kind" = some (.ref (He.ga K "_law_kind")) := T.glo 56 rfl
theorem Txt.v__law_kind (T : Txt K mg) : ∃ u, mg "_law_kind" = some u ∧ RelV (.ref (He.ga K "_law_kind")) u := ⟨_, T.g__law_kind, rfl⟩
theorem Txt.g__law_circle (T : Txt K mg) : mg "_law_circle" = some (.ref (He.ga K "_law_circle")) := T.glo 57 rfl
theorem Txt.v__law_circle (T : Txt K mg) : ∃ u, mg "_law_circle" = some u ∧ RelV (.ref (He.ga K "_law_circle")) u := ⟨_, T.g__law_circle, rfl⟩
theorem Txt.g__law_chain (T : Txt K mg) : mg "_law_chain" = some (.ref (He.ga K "_law_chain")) := T.glo 58 rfl
theorem Txt.v__law_chain (T : Txt K mg) : ∃ u, mg "_law_chain" = some u ∧ RelV (.ref (He.ga K "_law_chain")) u := ⟨_, T.g__law_chain, rfl⟩
theorem Txt.g__law_made (T : Txt K mg) : mg "_law_made" = some (.ref (He.ga K "_law_made")) := T.glo 59 rfl
theorem Txt.v__law_made (T : Txt K mg) : ∃ u, mg "_law_made" = some u ∧ RelV (.ref (He.ga K "_law_made")) u := ⟨_, T.g__law_made, rfl⟩
theorem Txt.g_read_circle (T : Txt K mg) : mg "read_circle" = some (.ref (He.ga K "read_circle")) := T.glo 60 rfl
theorem Txt.v_read_circle (T : Txt K mg) : ∃ u, mg "read_circle" = some u ∧ RelV (.ref (He.ga K "read_circle")) u := ⟨_, T.g_read_circle, rfl⟩
theorem Txt.g_out (T : Txt K mg) : mg "out" = some (.ref (He.ga K "out")) := T.glo 61 rfl
theorem Txt.v_out (T : Txt K mg) : ∃ u, mg "out" = some u ∧ RelV (.ref (He.ga K "out")) u := ⟨_, T.g_out, rfl⟩
theorem Txt.g__law_word (T : Txt K mg) : mg "_law_word" = some (.ref (He.ga K "_law_word")) := T.glo 62 rfl
theorem Txt.v__law_word (T : Txt K mg) : ∃ u, mg "_law_word" = some u ∧ RelV (.ref (He.ga K "_law_word")) u := ⟨_, T.g__law_word, rfl⟩
theorem Txt.g__law_at_once (T : Txt K mg) : mg "_law_at_once" = some (.ref (He.ga K "_law_at_once")) := T.glo 63 rfl
theorem Txt.v__law_at_once (T : Txt K mg) : ∃ u, mg "_law_at_once" = some u ∧ RelV (.ref (He.ga K "_law_at_once")) u := ⟨_, T.g__law_at_once, rfl⟩
theorem Txt.g__law_one_by_one (T : Txt K mg) : mg "_law_one_by_one" = some (.ref (He.ga K "_law_one_by_one")) := T.glo 64 rfl
theorem Txt.v__law_one_by_one (T : Txt K mg) : ∃ u, mg "_law_one_by_one" = some u ∧ RelV (.ref (He.ga K "_law_one_by_one")) u := ⟨_, T.g__law_one_by_one, rfl⟩
theorem Txt.g_PooledError (T : Txt K mg) : mg "PooledError" = some (.ref (He.ga K "PooledError")) := T.glo 65 rfl
theorem Txt.v_PooledError (T : Txt K mg) : ∃ u, mg "PooledError" = some u ∧ RelV (.ref (He.ga K "PooledError")) u := ⟨_, T.g_PooledError, rfl⟩
theorem Txt.z_ValueError (T : Txt K mg) : mg "ValueError" = none := T.free 66 rfl
theorem Txt.g__law_why (T : Txt K mg) : mg "_law_why" = some (.ref (He.ga K "_law_why")) := T.glo 67 rfl
theorem Txt.v__law_why (T : Txt K mg) : ∃ u, mg "_law_why" = some u ∧ RelV (.ref (He.ga K "_law_why")) u := ⟨_, T.g__law_why, rfl⟩
theorem Txt.g__law_caught (T : Txt K mg) : mg "_law_caught" = some (.ref (He.ga K "_law_caught")) := T.glo 68 rfl
theorem Txt.v__law_caught (T : Txt K mg) : ∃ u, mg "_law_caught" = some u ∧ RelV (.ref (He.ga K "_law_caught")) u := ⟨_, T.g__law_caught, rfl⟩
theorem Txt.g__law_bag (T : Txt K mg) : mg "_law_bag" = some (.ref (He.ga K "_law_bag")) := T.glo 69 rfl
theorem Txt.v__law_bag (T : Txt K mg) : ∃ u, mg "_law_bag" = some u ∧ RelV (.ref (He.ga K "_law_bag")) u := ⟨_, T.g__law_bag, rfl⟩
theorem Txt.g__law_names (T : Txt K mg) : mg "_law_names" = some (.ref (He.ga K "_law_names")) := T.glo 70 rfl
theorem Txt.v__law_names (T : Txt K mg) : ∃ u, mg "_law_names" = some u ∧ RelV (.ref (He.ga K "_law_names")) u := ⟨_, T.g__law_names, rfl⟩
theorem Txt.g__law_any (T : Txt K mg) : mg "_law_any" = some (.ref (He.ga K "_law_any")) := T.glo 71 rfl
theorem Txt.v__law_any (T : Txt K mg) : ∃ u, mg "_law_any" = some u ∧ RelV (.ref (He.ga K "_law_any")) u := ⟨_, T.g__law_any, rfl⟩
theorem Txt.g__law_handed (T : Txt K mg) : mg "_law_handed" = some (.ref (He.ga K "_law_handed")) := T.glo 72 rfl
theorem Txt.v__law_handed (T : Txt K mg) : ∃ u, mg "_law_handed" = some u ∧ RelV (.ref (He.ga K "_law_handed")) u := ⟨_, T.g__law_handed, rfl⟩
theorem Txt.g__law_mirror_so (T : Txt K mg) : mg "_law_mirror_so" = some (.ref (He.ga K "_law_mirror_so")) := T.glo 73 rfl
theorem Txt.v__law_mirror_so (T : Txt K mg) : ∃ u, mg "_law_mirror_so" = some u ∧ RelV (.ref (He.ga K "_law_mirror_so")) u := ⟨_, T.g__law_mirror_so, rfl⟩
theorem Txt.g__law_order_so (T : Txt K mg) : mg "_law_order_so" = some (.ref (He.ga K "_law_order_so")) := T.glo 74 rfl
theorem Txt.v__law_order_so (T : Txt K mg) : ∃ u, mg "_law_order_so" = some u ∧ RelV (.ref (He.ga K "_law_order_so")) u := ⟨_, T.g__law_order_so, rfl⟩
theorem Txt.g__law_refused_so (T : Txt K mg) : mg "_law_refused_so" = some (.ref (He.ga K "_law_refused_so")) := T.glo 75 rfl
theorem Txt.v__law_refused_so (T : Txt K mg) : ∃ u, mg "_law_refused_so" = some u ∧ RelV (.ref (He.ga K "_law_refused_so")) u := ⟨_, T.g__law_refused_so, rfl⟩
theorem Txt.g_law (T : Txt K mg) : mg "law" = some (.ref (He.ga K "law")) := T.glo 76 rfl
theorem Txt.v_law (T : Txt K mg) : ∃ u, mg "law" = some u ∧ RelV (.ref (He.ga K "law")) u := ⟨_, T.g_law, rfl⟩
theorem Txt.f_cls_Circle (T : Txt K mg) : (He.Fa.cls "Circle").ok K = true := T.fact 77 rfl
theorem Txt.f_mkr_Circle (T : Txt K mg) : (He.Fa.mkr "Circle").ok K = true := T.fact 78 rfl
theorem Txt.f_no_Circle_kind (T : Txt K mg) : (He.Fa.noat "Circle" "kind").ok K = true := T.fact 79 rfl
theorem Txt.f_no_Circle_name (T : Txt K mg) : (He.Fa.noat "Circle" "name").ok K = true := T.fact 80 rfl
theorem Txt.f_no_Circle__rows (T : Txt K mg) : (He.Fa.noat "Circle" "_rows").ok K = true := T.fact 81 rfl
theorem Txt.f_no_Circle_size (T : Txt K mg) : (He.Fa.noat "Circle" "size").ok K = true := T.fact 82 rfl
theorem Txt.f_no_Circle_depth (T : Txt K mg) : (He.Fa.noat "Circle" "depth").ok K = true := T.fact 83 rfl
theorem Txt.f_no_Circle__text (T : Txt K mg) : (He.Fa.noat "Circle" "_text").ok K = true := T.fact 84 rfl
theorem Txt.f_no_Circle__names (T : Txt K mg) : (He.Fa.noat "Circle" "_names").ok K = true := T.fact 85 rfl
theorem Txt.f_meth_Circle_parts (T : Txt K mg) : (He.Fa.meth "Circle" "parts").ok K = true := T.fact 86 rfl
theorem Txt.f_meth_Circle_eyes (T : Txt K mg) : (He.Fa.meth "Circle" "eyes").ok K = true := T.fact 87 rfl
theorem Txt.f_meth_Circle___str__ (T : Txt K mg) : (He.Fa.meth "Circle" "__str__").ok K = true := T.fact 88 rfl
theorem Txt.f_meth_Circle___and__ (T : Txt K mg) : (He.Fa.meth "Circle" "__and__").ok K = true := T.fact 89 rfl
theorem Txt.f_meth_Circle___or__ (T : Txt K mg) : (He.Fa.meth "Circle" "__or__").ok K = true := T.fact 90 rfl
theorem Txt.f_cls_Scanner (T : Txt K mg) : (He.Fa.cls "Scanner").ok K = true := T.fact 91 rfl
theorem Txt.f_mkr_Scanner (T : Txt K mg) : (He.Fa.mkr "Scanner").ok K = true := T.fact 92 rfl
theorem Txt.f_no_Scanner_awaited (T : Txt K mg) : (He.Fa.noat "Scanner" "awaited").ok K = true := T.fact 93 rfl
theorem Txt.f_no_Scanner_letters (T : Txt K mg) : (He.Fa.noat "Scanner" "letters").ok K = true := T.fact 94 rfl
theorem Txt.f_no_Scanner_signs (T : Txt K mg) : (He.Fa.noat "Scanner" "signs").ok K = true := T.fact 95 rfl
theorem Txt.f_meth_Scanner_takes (T : Txt K mg) : (He.Fa.meth "Scanner" "takes").ok K = true := T.fact 96 rfl
theorem Txt.f_meth_Scanner_begins_item (T : Txt K mg) : (He.Fa.meth "Scanner" "begins_item").ok K = true := T.fact 97 rfl
theorem Txt.f_meth_Scanner_takes_sign (T : Txt K mg) : (He.Fa.meth "Scanner" "takes_sign").ok K = true := T.fact 98 rfl
theorem Txt.f_meth_Scanner_closes (T : Txt K mg) : (He.Fa.meth "Scanner" "closes").ok K = true := T.fact 99 rfl
theorem Txt.f_meth_Scanner_can_end (T : Txt K mg) : (He.Fa.meth "Scanner" "can_end").ok K = true := T.fact 100 rfl
theorem Txt.f_cls_Order (T : Txt K mg) : (He.Fa.cls "Order").ok K = true := T.fact 101 rfl
theorem Txt.f_mkr_Order (T : Txt K mg) : (He.Fa.mkr "Order").ok K = true := T.fact 102 rfl
theorem Txt.f_no_Order__kinds (T : Txt K mg) : (He.Fa.noat "Order" "_kinds").ok K = true := T.fact 103 rfl
theorem Txt.f_no_Order__parts (T : Txt K mg) : (He.Fa.noat "Order" "_parts").ok K = true := T.fact 104 rfl
theorem Txt.f_no_Order__texts (T : Txt K mg) : (He.Fa.noat "Order" "_texts").ok K = true := T.fact 105 rfl
theorem Txt.f_no_Order__numbers (T : Txt K mg) : (He.Fa.noat "Order" "_numbers").ok K = true := T.fact 106 rfl
theorem Txt.f_no_Order__known (T : Txt K mg) : (He.Fa.noat "Order" "_known").ok K = true := T.fact 107 rfl
theorem Txt.f_meth_Order_place (T : Txt K mg) : (He.Fa.meth "Order" "place").ok K = true := T.fact 108 rfl
theorem Txt.f_meth_Order_tells (T : Txt K mg) : (He.Fa.meth "Order" "tells").ok K = true := T.fact 109 rfl
theorem Txt.f_meth_Order__decide (T : Txt K mg) : (He.Fa.meth "Order" "_decide").ok K = true := T.fact 110 rfl
theorem Txt.f_meth_Order__all_tell (T : Txt K mg) : (He.Fa.meth "Order" "_all_tell").ok K = true := T.fact 111 rfl
theorem Txt.x_ins (T : Txt K mg) : (LL.insB K (He.ga K "Circle")) = true := (Bool.and_eq_true_iff.mp T.exs).1
theorem Txt.x_isC (T : Txt K mg) : (decide (PySem.W.kitOne K (.ref (He.ga K "Circle")) (.ref (He.ga K "Circle")) = some true)) = true := (Bool.and_eq_true_iff.mp (Bool.and_eq_true_iff.mp T.exs).2).1
theorem Txt.x_fmt (T : Txt K mg) : (decide (PySem.W.findIn K (.ref (He.ga K "Circle")) "__format__" = some (some (.builtin "object.__format__")))) = true := (Bool.and_eq_true_iff.mp (Bool.and_eq_true_iff.mp (Bool.and_eq_true_iff.mp T.exs).2).2).1
theorem Txt.x_self (T : Txt K mg) : (PySem.W.selfFirst K (He.ga K "Circle")) = true := (Bool.and_eq_true_iff.mp (Bool.and_eq_true_iff.mp (Bool.and_eq_true_iff.mp (Bool.and_eq_true_iff.mp T.exs).2).2).2).1
theorem Txt.x_rdC (T : Txt K mg) : (LC.clsB K (He.ga K "Circle")) = true := (Bool.and_eq_true_iff.mp (Bool.and_eq_true_iff.mp (Bool.and_eq_true_iff.mp (Bool.and_eq_true_iff.mp (Bool.and_eq_true_iff.mp T.exs).2).2).2).2).1
theorem Txt.x_lim (T : Txt K mg) : (LC.clsIntB K (He.ga K "Circle") "LIMIT" 60) = true := (Bool.and_eq_true_iff.mp (Bool.and_eq_true_iff.mp (Bool.and_eq_true_iff.mp (Bool.and_eq_true_iff.mp (Bool.and_eq_true_iff.mp (Bool.and_eq_true_iff.mp T.exs).2).2).2).2).2).1
theorem Txt.x_sp (T : Txt K mg) : (He.valsB K (He.ga K "SIGNS") [("pool", .str " & ")]) = true := (Bool.and_eq_true_iff.mp (Bool.and_eq_true_iff.mp (Bool.and_eq_true_iff.mp (Bool.and_eq_true_iff.mp (Bool.and_eq_true_iff.mp (Bool.and_eq_true_iff.mp (Bool.and_eq_true_iff.mp T.exs).2).2).2).2).2).2).1
theorem Txt.x_sc (T : Txt K mg) : (He.valsB K (He.ga K "SIGNS") [("common", .str " | ")]) = true := (Bool.and_eq_true_iff.mp (Bool.and_eq_true_iff.mp (Bool.and_eq_true_iff.mp (Bool.and_eq_true_iff.mp (Bool.and_eq_true_iff.mp (Bool.and_eq_true_iff.mp (Bool.and_eq_true_iff.mp (Bool.and_eq_true_iff.mp T.exs).2).2).2).2).2).2).2).1
theorem Txt.x_e_InvalidName (T : Txt K mg) : (LXs.errB K (He.ga K "InvalidName") ["value"]) = true := (Bool.and_eq_true_iff.mp (Bool.and_eq_true_iff.mp (Bool.and_eq_true_iff.mp (Bool.and_eq_true_iff.mp (Bool.and_eq_true_iff.mp (Bool.and_eq_true_iff.mp (Bool.and_eq_true_iff.mp (Bool.and_eq_true_iff.mp (Bool.and_eq_true_iff.mp T.exs).2).2).2).2).2).2).2).2).1
theorem Txt.x_xf_InvalidName (T : Txt K mg) : (xfB K (He.ga K "InvalidName")) = true := (Bool.and_eq_true_iff.mp (Bool.and_eq_true_iff.mp (Bool.and_eq_true_iff.mp (Bool.and_eq_true_iff.mp (Bool.and_eq_true_iff.mp (Bool.and_eq_true_iff.mp (Bool.and_eq_true_iff.mp (Bool.and_eq_true_iff.mp (Bool.and_eq_true_iff.mp (Bool.and_eq_true_iff.mp T.exs).2).2).2).2).2).2).2).2).2).1
theorem Txt.x_xf_PooledError (T : Txt K mg) : (xfB K (He.ga K "PooledError")) = true := (Bool.and_eq_true_iff.mp (Bool.and_eq_true_iff.mp (Bool.and_eq_true_iff.mp (Bool.and_eq_true_iff.mp (Bool.and_eq_true_iff.mp (Bool.and_eq_true_iff.mp (Bool.and_eq_true_iff.mp (Bool.and_eq_true_iff.mp (Bool.and_eq_true_iff.mp (Bool.and_eq_true_iff.mp (Bool.and_eq_true_iff.mp T.exs).2).2).2).2).2).2).2).2).2).2).1
theorem Txt.x_m_InvalidName (T : Txt K mg) : (decide (PySem.W.exmOne K (.ref (He.ga K "InvalidName")) (.ref (He.ga K "InvalidName")) = some true)) = true := (Bool.and_eq_true_iff.mp (Bool.and_eq_true_iff.mp (Bool.and_eq_true_iff.mp (Bool.and_eq_true_iff.mp (Bool.and_eq_true_iff.mp (Bool.and_eq_true_iff.mp (Bool.and_eq_true_iff.mp (Bool.and_eq_true_iff.mp (Bool.and_eq_true_iff.mp (Bool.and_eq_true_iff.mp (Bool.and_eq_true_iff.mp (Bool.and_eq_true_iff.mp T.exs).2).2).2).2).2).2).2).2).2).2).2).1
theorem Txt.x_m_PooledError (T : Txt K mg) : (decide (PySem.W.exmOne K (.ref (He.ga K "InvalidName")) (.ref (He.ga K "PooledError")) = some true)) = true := (Bool.and_eq_true_iff.mp (Bool.and_eq_true_iff.mp (Bool.and_eq_true_iff.mp (Bool.and_eq_true_iff.mp (Bool.and_eq_true_iff.mp (Bool.and_eq_true_iff.mp (Bool.and_eq_true_iff.mp (Bool.and_eq_true_iff.mp (Bool.and_eq_true_iff.mp (Bool.and_eq_true_iff.mp (Bool.and_eq_true_iff.mp (Bool.and_eq_true_iff.mp (Bool.and_eq_true_iff.mp T.exs).2).2).2).2).2).2).2).2).2).2).2).2).1
theorem Txt.x_ie_InvalidName (T : Txt K mg) : (LXs.excCB K (He.ga K "InvalidName")) = true := (Bool.and_eq_true_iff.mp (Bool.and_eq_true_iff.mp (Bool.and_eq_true_iff.mp (Bool.and_eq_true_iff.mp (Bool.and_eq_true_iff.mp (Bool.and_eq_true_iff.mp (Bool.and_eq_true_iff.mp (Bool.and_eq_true_iff.mp (Bool.and_eq_true_iff.mp (Bool.and_eq_true_iff.mp (Bool.and_eq_true_iff.mp (Bool.and_eq_true_iff.mp (Bool.and_eq_true_iff.mp (Bool.and_eq_true_iff.mp T.exs).2).2).2).2).2).2).2).2).2).2).2).2).2).1
theorem Txt.x_is_ve (T : Txt K mg) : (decide (PySem.W.kitOne K (.ref (He.ga K "InvalidName")) (.type "ValueError") = some true)) = true := (Bool.and_eq_true_iff.mp (Bool.and_eq_true_iff.mp (Bool.and_eq_true_iff.mp (Bool.and_eq_true_iff.mp (Bool.and_eq_true_iff.mp (Bool.and_eq_true_iff.mp (Bool.and_eq_true_iff.mp (Bool.and_eq_true_iff.mp (Bool.and_eq_true_iff.mp (Bool.and_eq_true_iff.mp (Bool.and_eq_true_iff.mp (Bool.and_eq_true_iff.mp (Bool.and_eq_true_iff.mp (Bool.and_eq_true_iff.mp (Bool.and_eq_true_iff.mp T.exs).2).2).2).2).2).2).2).2).2).2).2).2).2).2).1
theorem Txt.x_mk (T : Txt K mg) : (LLm.mkB K mkrN) = true := (Bool.and_eq_true_iff.mp (Bool.and_eq_true_iff.mp (Bool.and_eq_true_iff.mp (Bool.and_eq_true_iff.mp (Bool.and_eq_true_iff.mp (Bool.and_eq_true_iff.mp (Bool.and_eq_true_iff.mp (Bool.and_eq_true_iff.mp (Bool.and_eq_true_iff.mp (Bool.and_eq_true_iff.mp (Bool.and_eq_true_iff.mp (Bool.and_eq_true_iff.mp (Bool.and_eq_true_iff.mp (Bool.and_eq_true_iff.mp (Bool.and_eq_true_iff.mp (Bool.and_eq_true_iff.mp T.exs).2).2).2).2).2).2).2).2).2).2).2).2).2).2).2).1
theorem Txt.x_mp (T : Txt K mg) : (He.valsB K (He.ga K "MIRRORS") [("pool", .str "common")]) = true := (Bool.and_eq_true_iff.mp (Bool.and_eq_true_iff.mp (Bool.and_eq_true_iff.mp (Bool.and_eq_true_iff.mp (Bool.and_eq_true_iff.mp (Bool.and_eq_true_iff.mp (Bool.and_eq_true_iff.mp (Bool.and_eq_true_iff.mp (Bool.and_eq_true_iff.mp (Bool.and_eq_true_iff.mp (Bool.and_eq_true_iff.mp (Bool.and_eq_true_iff.mp (Bool.and_eq_true_iff.mp (Bool.and_eq_true_iff.mp (Bool.and_eq_true_iff.mp (Bool.and_eq_true_iff.mp (Bool.and_eq_true_iff.mp T.exs).2).2).2).2).2).2).2).2).2).2).2).2).2).2).2).2).1
theorem Txt.x_mc (T : Txt K mg) : (He.valsB K (He.ga K "MIRRORS") [("common", .str "pool")]) = true := (Bool.and_eq_true_iff.mp (Bool.and_eq_true_iff.mp (Bool.and_eq_true_iff.mp (Bool.and_eq_true_iff.mp (Bool.and_eq_true_iff.mp (Bool.and_eq_true_iff.mp (Bool.and_eq_true_iff.mp (Bool.and_eq_true_iff.mp (Bool.and_eq_true_iff.mp (Bool.and_eq_true_iff.mp (Bool.and_eq_true_iff.mp (Bool.and_eq_true_iff.mp (Bool.and_eq_true_iff.mp (Bool.and_eq_true_iff.mp (Bool.and_eq_true_iff.mp (Bool.and_eq_true_iff.mp (Bool.and_eq_true_iff.mp T.exs).2).2).2).2).2).2).2).2).2).2).2).2).2).2).2).2).2
/-- .. and the tables -/
structure TxtW (w : World) (K : PySem.W.Frag) (mg : Str → Option Value) : Prop extends Txt K mg where
  tabs : Tabs w K
theorem TxtW.tab {w : World} (T : TxtW w K mg) (i : Nat) {t : He.Tab} (h : ts[i]? = some t := by rfl) : ∃ es n, KDict K w (t.1 K) es n := by
  have e := T.tabs
  have e2 : (ts.map fun t => He.dicW K (t.1 K))[i]? = (ts.map fun t => some (He.keysIn w.params t.2))[i]? := by rw [show (ts.map fun t => He.dicW K (t.1 K)) = _ from e]
  rw [List.getElem?_map, List.getElem?_map, h] at e2
  exact He.dicW_ok (Option.some.inj e2)

theorem Txt.F_is_name (T : Txt K mg) : ∃ fd, FunD K d_is_name.name d_is_name.qual d_is_name.params d_is_name.body d_is_name.scope (d_is_name.dvs K) (d_is_name.kws K) (He.fAd K d_is_name.at_) fd := T.def_ 0 rfl
theorem Txt.F_Circle___init__ (T : Txt K mg) : ∃ fd, FunD K d_Circle___init__.name d_Circle___init__.qual d_Circle___init__.params d_Circle___init__.body d_Circle___init__.scope (d_Circle___init__.dvs K) (d_Circle___init__.kws K) (He.fAd K d_Circle___init__.at_) fd := T.def_ 1 rfl
theorem Txt.F_Circle_parts (T : Txt K mg) : ∃ fd, FunD K d_Circle_parts.name d_Circle_parts.qual d_Circle_parts.params d_Circle_parts.body d_Circle_parts.scope (d_Circle_parts.dvs K) (d_Circle_parts.kws K) (He.fAd K d_Circle_parts.at_) fd := T.def_ 2 rfl
theorem Txt.F_Circle_eyes (T : Txt K mg) : ∃ fd, FunD K d_Circle_eyes.name d_Circle_eyes.qual d_Circle_eyes.params d_Circle_eyes.body d_Circle_eyes.scope (d_Circle_eyes.dvs K) (d_Circle_eyes.kws K) (He.fAd K d_Circle_eyes.at_) fd := T.def_ 3 rfl
theorem Txt.F_Circle___str__ (T : Txt K mg) : ∃ fd, FunD K d_Circle___str__.name d_Circle___str__.qual d_Circle___str__.params d_Circle___str__.body d_Circle___str__.scope (d_Circle___str__.dvs K) (d_Circle___str__.kws K) (He.fAd K d_Circle___str__.at_) fd := T.def_ 4 rfl
theorem Txt.F_Circle___and__ (T : Txt K mg) : ∃ fd, FunD K d_Circle___and__.name d_Circle___and__.qual d_Circle___and__.params d_Circle___and__.body d_Circle___and__.scope (d_Circle___and__.dvs K) (d_Circle___and__.kws K) (He.fAd K d_Circle___and__.at_) fd := T.def_ 5 rfl
theorem Txt.F_Circle___or__ (T : Txt K mg) : ∃ fd, FunD K d_Circle___or__.name d_Circle___or__.qual d_Circle___or__.params d_Circle___or__.body d_Circle___or__.scope (d_Circle___or__.dvs K) (d_Circle___or__.kws K) (He.fAd K d_Circle___or__.at_) fd := T.def_ 6 rfl
theorem Txt.F_written_part (T : Txt K mg) : ∃ fd, FunD K d_written_part.name d_written_part.qual d_written_part.params d_written_part.body d_written_part.scope (d_written_part.dvs K) (d_written_part.kws K) (He.fAd K d_written_part.at_) fd := T.def_ 7 rfl
theorem Txt.F_eye (T : Txt K mg) : ∃ fd, FunD K d_eye.name d_eye.qual d_eye.params d_eye.body d_eye.scope (d_eye.dvs K) (d_eye.kws K) (He.fAd K d_eye.at_) fd := T.def_ 8 rfl
theorem Txt.F_pool (T : Txt K mg) : ∃ fd, FunD K d_pool.name d_pool.qual d_pool.params d_pool.body d_pool.scope (d_pool.dvs K) (d_pool.kws K) (He.fAd K d_pool.at_) fd := T.def_ 9 rfl
theorem Txt.F_common (T : Txt K mg) : ∃ fd, FunD K d_common.name d_common.qual d_common.params d_common.body d_common.scope (d_common.dvs K) (d_common.kws K) (He.fAd K d_common.at_) fd := T.def_ 10 rfl
theorem Txt.F_built_circle (T : Txt K mg) : ∃ fd, FunD K d_built_circle.name d_built_circle.qual d_built_circle.params d_built_circle.body d_built_circle.scope (d_built_circle.dvs K) (d_built_circle.kws K) (He.fAd K d_built_circle.at_) fd := T.def_ 11 rfl
theorem Txt.F_flat_parts (T : Txt K mg) : ∃ fd, FunD K d_flat_parts.name d_flat_parts.qual d_flat_parts.params d_flat_parts.body d_flat_parts.scope (d_flat_parts.dvs K) (d_flat_parts.kws K) (He.fAd K d_flat_parts.at_) fd := T.def_ 12 rfl
theorem Txt.F_unlike_rows (T : Txt K mg) : ∃ fd, FunD K d_unlike_rows.name d_unlike_rows.qual d_unlike_rows.params d_unlike_rows.body d_unlike_rows.scope (d_unlike_rows.dvs K) (d_unlike_rows.kws K) (He.fAd K d_unlike_rows.at_) fd := T.def_ 13 rfl
theorem Txt.F_Scanner___init__ (T : Txt K mg) : ∃ fd, FunD K d_Scanner___init__.name d_Scanner___init__.qual d_Scanner___init__.params d_Scanner___init__.body d_Scanner___init__.scope (d_Scanner___init__.dvs K) (d_Scanner___init__.kws K) (He.fAd K d_Scanner___init__.at_) fd := T.def_ 14 rfl
theorem Txt.F_Scanner_takes (T : Txt K mg) : ∃ fd, FunD K d_Scanner_takes.name d_Scanner_takes.qual d_Scanner_takes.params d_Scanner_takes.body d_Scanner_takes.scope (d_Scanner_takes.dvs K) (d_Scanner_takes.kws K) (He.fAd K d_Scanner_takes.at_) fd := T.def_ 15 rfl
theorem Txt.F_Scanner_begins_item (T : Txt K mg) : ∃ fd, FunD K d_Scanner_begins_item.name d_Scanner_begins_item.qual d_Scanner_begins_item.params d_Scanner_begins_item.body d_Scanner_begins_item.scope (d_Scanner_begins_item.dvs K) (d_Scanner_begins_item.kws K) (He.fAd K d_Scanner_begins_item.at_) fd := T.def_ 16 rfl
theorem Txt.F_Scanner_takes_sign (T : Txt K mg) : ∃ fd, FunD K d_Scanner_takes_sign.name d_Scanner_takes_sign.qual d_Scanner_takes_sign.params d_Scanner_takes_sign.body d_Scanner_takes_sign.scope (d_Scanner_takes_sign.dvs K) (d_Scanner_takes_sign.kws K) (He.fAd K d_Scanner_takes_sign.at_) fd := T.def_ 17 rfl
theorem Txt.F_Scanner_closes (T : Txt K mg) : ∃ fd, FunD K d_Scanner_closes.name d_Scanner_closes.qual d_Scanner_closes.params d_Scanner_closes.body d_Scanner_closes.scope (d_Scanner_closes.dvs K) (d_Scanner_closes.kws K) (He.fAd K d_Scanner_closes.at_) fd := T.def_ 18 rfl
theorem Txt.F_Scanner_can_end (T : Txt K mg) : ∃ fd, FunD K d_Scanner_can_end.name d_Scanner_can_end.qual d_Scanner_can_end.params d_Scanner_can_end.body d_Scanner_can_end.scope (d_Scanner_can_end.dvs K) (d_Scanner_can_end.kws K) (He.fAd K d_Scanner_can_end.at_) fd := T.def_ 19 rfl
theorem Txt.F_wrong_place (T : Txt K mg) : ∃ fd, FunD K d_wrong_place.name d_wrong_place.qual d_wrong_place.params d_wrong_place.body d_wrong_place.scope (d_wrong_place.dvs K) (d_wrong_place.kws K) (He.fAd K d_wrong_place.at_) fd := T.def_ 20 rfl
theorem Txt.F_circle_of (T : Txt K mg) : ∃ fd, FunD K d_circle_of.name d_circle_of.qual d_circle_of.params d_circle_of.body d_circle_of.scope (d_circle_of.dvs K) (d_circle_of.kws K) (He.fAd K d_circle_of.at_) fd := T.def_ 21 rfl
theorem Txt.F_joined_items (T : Txt K mg) : ∃ fd, FunD K d_joined_items.name d_joined_items.qual d_joined_items.params d_joined_items.body d_joined_items.scope (d_joined_items.dvs K) (d_joined_items.kws K) (He.fAd K d_joined_items.at_) fd := T.def_ 22 rfl
theorem Txt.F_read_circle (T : Txt K mg) : ∃ fd, FunD K d_read_circle.name d_read_circle.qual d_read_circle.params d_read_circle.body d_read_circle.scope (d_read_circle.dvs K) (d_read_circle.kws K) (He.fAd K d_read_circle.at_) fd := T.def_ 23 rfl
theorem Txt.F_Order___init__ (T : Txt K mg) : ∃ fd, FunD K d_Order___init__.name d_Order___init__.qual d_Order___init__.params d_Order___init__.body d_Order___init__.scope (d_Order___init__.dvs K) (d_Order___init__.kws K) (He.fAd K d_Order___init__.at_) fd := T.def_ 24 rfl
theorem Txt.F_Order_place (T : Txt K mg) : ∃ fd, FunD K d_Order_place.name d_Order_place.qual d_Order_place.params d_Order_place.body d_Order_place.scope (d_Order_place.dvs K) (d_Order_place.kws K) (He.fAd K d_Order_place.at_) fd := T.def_ 25 rfl
theorem Txt.F_Order_tells (T : Txt K mg) : ∃ fd, FunD K d_Order_tells.name d_Order_tells.qual d_Order_tells.params d_Order_tells.body d_Order_tells.scope (d_Order_tells.dvs K) (d_Order_tells.kws K) (He.fAd K d_Order_tells.at_) fd := T.def_ 26 rfl
theorem Txt.F_Order__decide (T : Txt K mg) : ∃ fd, FunD K d_Order__decide.name d_Order__decide.qual d_Order__decide.params d_Order__decide.body d_Order__decide.scope (d_Order__decide.dvs K) (d_Order__decide.kws K) (He.fAd K d_Order__decide.at_) fd := T.def_ 27 rfl
theorem Txt.F_Order__all_tell (T : Txt K mg) : ∃ fd, FunD K d_Order__all_tell.name d_Order__all_tell.qual d_Order__all_tell.params d_Order__all_tell.body d_Order__all_tell.scope (d_Order__all_tell.dvs K) (d_Order__all_tell.kws K) (He.fAd K d_Order__all_tell.at_) fd := T.def_ 28 rfl
theorem Txt.F_built (T : Txt K mg) : ∃ fd, FunD K d_built.name d_built.qual d_built.params d_built.body d_built.scope (d_built.dvs K) (d_built.kws K) (He.fAd K d_built.at_) fd := T.def_ 29 rfl
theorem Txt.F__goes_beyond (T : Txt K mg) : ∃ fd, FunD K d__goes_beyond.name d__goes_beyond.qual d__goes_beyond.params d__goes_beyond.body d__goes_beyond.scope (d__goes_beyond.dvs K) (d__goes_beyond.kws K) (He.fAd K d__goes_beyond.at_) fd := T.def_ 30 rfl
theorem Txt.F__replacement (T : Txt K mg) : ∃ fd, FunD K d__replacement.name d__replacement.qual d__replacement.params d__replacement.body d__replacement.scope (d__replacement.dvs K) (d__replacement.kws K) (He.fAd K d__replacement.at_) fd := T.def_ 31 rfl
theorem Txt.F__needed_parts (T : Txt K mg) : ∃ fd, FunD K d__needed_parts.name d__needed_parts.qual d__needed_parts.params d__needed_parts.body d__needed_parts.scope (d__needed_parts.dvs K) (d__needed_parts.kws K) (He.fAd K d__needed_parts.at_) fd := T.def_ 32 rfl
theorem Txt.F__reduced (T : Txt K mg) : ∃ fd, FunD K d__reduced.name d__reduced.qual d__reduced.params d__reduced.body d__reduced.scope (d__reduced.dvs K) (d__reduced.kws K) (He.fAd K d__reduced.at_) fd := T.def_ 33 rfl
theorem Txt.F__key_by (T : Txt K mg) : ∃ fd, FunD K d__key_by.name d__key_by.qual d__key_by.params d__key_by.body d__key_by.scope (d__key_by.dvs K) (d__key_by.kws K) (He.fAd K d__key_by.at_) fd := T.def_ 34 rfl
theorem Txt.F_key_of (T : Txt K mg) : ∃ fd, FunD K d_key_of.name d_key_of.qual d_key_of.params d_key_of.body d_key_of.scope (d_key_of.dvs K) (d_key_of.kws K) (He.fAd K d_key_of.at_) fd := T.def_ 35 rfl
theorem Txt.F_put_eyes_out (T : Txt K mg) : ∃ fd, FunD K d_put_eyes_out.name d_put_eyes_out.qual d_put_eyes_out.params d_put_eyes_out.body d_put_eyes_out.scope (d_put_eyes_out.dvs K) (d_put_eyes_out.kws K) (He.fAd K d_put_eyes_out.at_) fd := T.def_ 36 rfl
theorem Txt.F_out (T : Txt K mg) : ∃ fd, FunD K d_out.name d_out.qual d_out.params d_out.body d_out.scope (d_out.dvs K) (d_out.kws K) (He.fAd K d_out.at_) fd := T.def_ 37 rfl
theorem Txt.F_of_kind (T : Txt K mg) : ∃ fd, FunD K d_of_kind.name d_of_kind.qual d_of_kind.params d_of_kind.body d_of_kind.scope (d_of_kind.dvs K) (d_of_kind.kws K) (He.fAd K d_of_kind.at_) fd := T.def_ 38 rfl
theorem Txt.F_mirrored (T : Txt K mg) : ∃ fd, FunD K d_mirrored.name d_mirrored.qual d_mirrored.params d_mirrored.body d_mirrored.scope (d_mirrored.dvs K) (d_mirrored.kws K) (He.fAd K d_mirrored.at_) fd := T.def_ 39 rfl
theorem Txt.F__law_bag (T : Txt K mg) : ∃ fd, FunD K d__law_bag.name d__law_bag.qual d__law_bag.params d__law_bag.body d__law_bag.scope (d__law_bag.dvs K) (d__law_bag.kws K) (He.fAd K d__law_bag.at_) fd := T.def_ 40 rfl
theorem Txt.F__law_draw (T : Txt K mg) : ∃ fd, FunD K d__law_draw.name d__law_draw.qual d__law_draw.params d__law_draw.body d__law_draw.scope (d__law_draw.dvs K) (d__law_draw.kws K) (He.fAd K d__law_draw.at_) fd := T.def_ 41 rfl
theorem Txt.F__law_of (T : Txt K mg) : ∃ fd, FunD K d__law_of.name d__law_of.qual d__law_of.params d__law_of.body d__law_of.scope (d__law_of.dvs K) (d__law_of.kws K) (He.fAd K d__law_of.at_) fd := T.def_ 42 rfl
theorem Txt.F__law_mixed (T : Txt K mg) : ∃ fd, FunD K d__law_mixed.name d__law_mixed.qual d__law_mixed.params d__law_mixed.body d__law_mixed.scope (d__law_mixed.dvs K) (d__law_mixed.kws K) (He.fAd K d__law_mixed.at_) fd := T.def_ 43 rfl
theorem Txt.F__law_same (T : Txt K mg) : ∃ fd, FunD K d__law_same.name d__law_same.qual d__law_same.params d__law_same.body d__law_same.scope (d__law_same.dvs K) (d__law_same.kws K) (He.fAd K d__law_same.at_) fd := T.def_ 44 rfl
theorem Txt.F__law_names (T : Txt K mg) : ∃ fd, FunD K d__law_names.name d__law_names.qual d__law_names.params d__law_names.body d__law_names.scope (d__law_names.dvs K) (d__law_names.kws K) (He.fAd K d__law_names.at_) fd := T.def_ 45 rfl
theorem Txt.F__law_leaf (T : Txt K mg) : ∃ fd, FunD K d__law_leaf.name d__law_leaf.qual d__law_leaf.params d__law_leaf.body d__law_leaf.scope (d__law_leaf.dvs K) (d__law_leaf.kws K) (He.fAd K d__law_leaf.at_) fd := T.def_ 46 rfl
theorem Txt.F__law_joined (T : Txt K mg) : ∃ fd, FunD K d__law_joined.name d__law_joined.qual d__law_joined.params d__law_joined.body d__law_joined.scope (d__law_joined.dvs K) (d__law_joined.kws K) (He.fAd K d__law_joined.at_) fd := T.def_ 47 rfl
theorem Txt.F__law_kind (T : Txt K mg) : ∃ fd, FunD K d__law_kind.name d__law_kind.qual d__law_kind.params d__law_kind.body d__law_kind.scope (d__law_kind.dvs K) (d__law_kind.kws K) (He.fAd K d__law_kind.at_) fd := T.def_ 48 rfl
theorem Txt.F__law_eye (T : Txt K mg) : ∃ fd, FunD K d__law_eye.name d__law_eye.qual d__law_eye.params d__law_eye.body d__law_eye.scope (d__law_eye.dvs K) (d__law_eye.kws K) (He.fAd K d__law_eye.at_) fd := T.def_ 49 rfl
theorem Txt.F__law_circle (T : Txt K mg) : ∃ fd, FunD K d__law_circle.name d__law_circle.qual d__law_circle.params d__law_circle.body d__law_circle.scope (d__law_circle.dvs K) (d__law_circle.kws K) (He.fAd K d__law_circle.at_) fd := T.def_ 50 rfl
theorem Txt.F__law_chain (T : Txt K mg) : ∃ fd, FunD K d__law_chain.name d__law_chain.qual d__law_chain.params d__law_chain.body d__law_chain.scope (d__law_chain.dvs K) (d__law_chain.kws K) (He.fAd K d__law_chain.at_) fd := T.def_ 51 rfl
theorem Txt.F__law_any (T : Txt K mg) : ∃ fd, FunD K d__law_any.name d__law_any.qual d__law_any.params d__law_any.body d__law_any.scope (d__law_any.dvs K) (d__law_any.kws K) (He.fAd K d__law_any.at_) fd := T.def_ 52 rfl
theorem Txt.F__law_made (T : Txt K mg) : ∃ fd, FunD K d__law_made.name d__law_made.qual d__law_made.params d__law_made.body d__law_made.scope (d__law_made.dvs K) (d__law_made.kws K) (He.fAd K d__law_made.at_) fd := T.def_ 53 rfl
theorem Txt.F__law_handed (T : Txt K mg) : ∃ fd, FunD K d__law_handed.name d__law_handed.qual d__law_handed.params d__law_handed.body d__law_handed.scope (d__law_handed.dvs K) (d__law_handed.kws K) (He.fAd K d__law_handed.at_) fd := T.def_ 54 rfl
theorem Txt.F__law_word (T : Txt K mg) : ∃ fd, FunD K d__law_word.name d__law_word.qual d__law_word.params d__law_word.body d__law_word.scope (d__law_word.dvs K) (d__law_word.kws K) (He.fAd K d__law_word.at_) fd := T.def_ 55 rfl
theorem Txt.F__law_one_by_one (T : Txt K mg) : ∃ fd, FunD K d__law_one_by_one.name d__law_one_by_one.qual d__law_one_by_one.params d__law_one_by_one.body d__law_one_by_one.scope (d__law_one_by_one.dvs K) (d__law_one_by_one.kws K) (He.fAd K d__law_one_by_one.at_) fd := T.def_ 56 rfl
theorem Txt.F__law_at_once (T : Txt K mg) : ∃ fd, FunD K d__law_at_once.name d__law_at_once.qual d__law_at_once.params d__law_at_once.body d__law_at_once.scope (d__law_at_once.dvs K) (d__law_at_once.kws K) (He.fAd K d__law_at_once.at_) fd := T.def_ 57 rfl
theorem Txt.F__law_order_so (T : Txt K mg) : ∃ fd, FunD K d__law_order_so.name d__law_order_so.qual d__law_order_so.params d__law_order_so.body d__law_order_so.scope (d__law_order_so.dvs K) (d__law_order_so.kws K) (He.fAd K d__law_order_so.at_) fd := T.def_ 58 rfl
theorem Txt.F__law_mirror_so (T : Txt K mg) : ∃ fd, FunD K d__law_mirror_so.name d__law_mirror_so.qual d__law_mirror_so.params d__law_mirror_so.body d__law_mirror_so.scope (d__law_mirror_so.dvs K) (d__law_mirror_so.kws K) (He.fAd K d__law_mirror_so.at_) fd := T.def_ 59 rfl
theorem Txt.F__law_why (T : Txt K mg) : ∃ fd, FunD K d__law_why.name d__law_why.qual d__law_why.params d__law_why.body d__law_why.scope (d__law_why.dvs K) (d__law_why.kws K) (He.fAd K d__law_why.at_) fd := T.def_ 60 rfl
theorem Txt.F__law_caught (T : Txt K mg) : ∃ fd, FunD K d__law_caught.name d__law_caught.qual d__law_caught.params d__law_caught.body d__law_caught.scope (d__law_caught.dvs K) (d__law_caught.kws K) (He.fAd K d__law_caught.at_) fd := T.def_ 61 rfl
theorem Txt.F__law_refused_so (T : Txt K mg) : ∃ fd, FunD K d__law_refused_so.name d__law_refused_so.qual d__law_refused_so.params d__law_refused_so.body d__law_refused_so.scope (d__law_refused_so.dvs K) (d__law_refused_so.kws K) (He.fAd K d__law_refused_so.at_) fd := T.def_ 62 rfl
theorem Txt.F_law (T : Txt K mg) : ∃ fd, FunD K d_law.name d_law.qual d_law.params d_law.body d_law.scope (d_law.dvs K) (d_law.kws K) (He.fAd K d_law.at_) fd := T.def_ 63 rfl
end
end K34
namespace K34
open PySem PySem.Spec PyProof.Rows L2 RZ LL LC
open C8 (Cal Mak Met CalAt pe_c pe_mk pe_mt pe_mt0 pe_gc)
def loose0 : List Str := ["_wall", "PooledError", "InvalidName", "InvalidText", "InvalidCircle", "TooMany", "LETTERS", "LONGEST", "is_name", "DEEPEST", "SIGNS", "Circle", "written_part", "eye", "pool", "common", "built_circle", "flat_parts", "unlike_rows", "built", "Order", "_goes_beyond", "_replacement", "_needed_parts", "_reduced", "_key_by", "key_of", "put_eyes_out", "out", "OPEN"]
def loose1 : List Str := ["read_circle", "Scanner", "wrong_place", "circle_of", "joined_items", "MIRRORS", "of_kind", "mirrored", "_law_bag", "_law_draw", "_law_of", "_law_mixed", "_law_same", "_law_names", "_law_leaf", "_law_joined", "_law_kind", "_law_eye", "_law_circle", "_law_chain", "_law_any", "_law_made", "_law_handed", "_law_word", "_law_one_by_one", "_law_at_once", "_law_order_so", "_law_mirror_so", "_law_why", "_law_caught"]
def loose2 : List Str := ["_law_refused_so"]
def loose : List Str := loose0 ++ (loose1 ++ (loose2))
abbrev R : PySem.W.OpenRow := PySem.W.OpenLaw.row PySem.Challenge.rw_pooledeyes_k34_put_out_in_any_order
noncomputable def En (w : World) (os : OsState) : Option PySem.W.SharedT := HandSHeadRun.endF (HandSHeadRun.stepQ (HandSHeadRun.denQ HandSHeadRun.tabQ) R.prog w) 16000 R.prog w os
noncomputable def KK (s : PySem.W.SharedT) : PySem.W.Frag := He.frG (HandSHeadRun.getT s) (asE (HandSHeadRun.getT s))
noncomputable def oLooks (w : World) (s : PySem.W.SharedT) : Bool := HandSHeadRun.looksF R.prog (PySem.W.boot_heap w.params) s.abs
noncomputable def oSeen (s : PySem.W.SharedT) := HandSHeadRun.seenQ (PySem.W.view R.prog [71]) loose (importedModules R.prog.main.body) (fun s => PySem.W.xlAt (PySem.W.view R.prog [71]) [] s && PySem.W.recOk R.toRowW.records s) s.abs
noncomputable def oA (w : World) (s : PySem.W.SharedT) := (oLooks w s, oSeen s, ex (KK s), (ts.map fun t => He.dicW (KK s) (t.1 (KK s))), obsT (HandSHeadRun.getT s) (KK s))
noncomputable def oF0 (s : PySem.W.SharedT) := ((((fa0.all fun f => f.ok (KK s)) && (fa1.all fun f => f.ok (KK s)) && (fa2.all fun f => f.ok (KK s)) && (fa3.all fun f => f.ok (KK s))) && (fn0.all fun d => d.ok (KK s))), fn0.map fun d => He.fnW (KK s) d.at_)
theorem pA0 (w : World) (os : OsState) : (En (w.withFollow "special-get-raises" false) os).map (oA (w.withFollow "special-get-raises" false)) = some (true, PySem.W.openGood (PySem.W.view R.prog [71]) loose, true, (ts.map fun t => some (He.keysIn (w.withFollow "special-get-raises" false).params t.2)), (mkrN.map fun _ => some (PySem.W.tabObj #[]))) := by kernel_rfl
theorem pF0_0 (w : World) (os : OsState) : (En (w.withFollow "special-get-raises" false) os).map oF0 = some (true, fn0.map He.DefD.val) := by kernel_rfl
theorem run0 (w : World) : HandSHeadRun.RunEq R (PySem.W.view R.prog [71]) hk ob 16000 loose (w.withFollow "special-get-raises" false) := by
  intro os
  obtain ⟨s, es, eA⟩ := Option.map_eq_some_iff.mp (pA0 w os)
  have g : ∀ {α : Type} {f : PySem.W.SharedT → α} {v : α}, (En (w.withFollow "special-get-raises" false) os).map f = some v → f s = v := fun {α f v} h => by
    rw [es] at h
    exact Option.some.inj h
  have eF0 := g (pF0_0 w os)
  have a1 : oLooks (w.withFollow "special-get-raises" false) s = true := congrArg (fun z => z.1) eA
  have a2 : oSeen s = PySem.W.openGood (PySem.W.view R.prog [71]) loose := congrArg (fun z => z.2.1) eA
  have a4 : ex (KK s) = true := congrArg (fun z => z.2.2.1) eA
  have a5 : (ts.map fun t => He.dicW (KK s) (t.1 (KK s))) = (ts.map fun t => some (He.keysIn (w.withFollow "special-get-raises" false).params t.2)) := congrArg (fun z => z.2.2.2.1) eA
  have a6 : obsT (HandSHeadRun.getT s) (KK s) = (mkrN.map fun _ => some (PySem.W.tabObj #[])) := congrArg (fun z => z.2.2.2.2) eA
  have d0 : (((fa0.all fun f => f.ok (KK s)) && (fa1.all fun f => f.ok (KK s)) && (fa2.all fun f => f.ok (KK s)) && (fa3.all fun f => f.ok (KK s))) && (fn0.all fun d => d.ok (KK s))) = true := congrArg (fun z => z.1) eF0
  have b0 : (fn0.all fun d => d.ok (KK s)) = true := (Bool.and_eq_true_iff.mp d0).2
  have f0 : ((fa0.all fun f => f.ok (KK s)) && (fa1.all fun f => f.ok (KK s)) && (fa2.all fun f => f.ok (KK s)) && (fa3.all fun f => f.ok (KK s))) = true := (Bool.and_eq_true_iff.mp d0).1
  simp only [Bool.and_eq_true] at f0
  have c0 : (fn0.map fun d => He.fnW (KK s) d.at_) = fn0.map He.DefD.val := congrArg (fun z => z.2) eF0
  have k1 : ((fa.all fun f => f.ok (KK s)) && fn.all fun d => d.ok (KK s)) = true := by
    unfold fa fn
    simp only [List.all_append, b0, f0, Bool.and_true]
  have k2 : (fn.map fun d => He.fnW (KK s) d.at_) = fn.map He.DefD.val := by
    unfold fn
    simp only [List.map_append, c0]
  show (En (w.withFollow "special-get-raises" false) os).map _ = _
  rw [es]
  exact congrArg some (Prod.ext a1 (Prod.ext a2 (Prod.ext (Prod.ext (Prod.ext (Prod.ext k1 k2) a4) a5) a6)))
theorem pA1 (w : World) (os : OsState) : (En (w.withFollow "special-get-raises" true) os).map (oA (w.withFollow "special-get-raises" true)) = some (true, PySem.W.openGood (PySem.W.view R.prog [71]) loose, true, (ts.map fun t => some (He.keysIn (w.withFollow "special-get-raises" true).params t.2)), (mkrN.map fun _ => some (PySem.W.tabObj #[]))) := by kernel_rfl
theorem pF1_0 (w : World) (os : OsState) : (En (w.withFollow "special-get-raises" true) os).map oF0 = some (true, fn0.map He.DefD.val) := by kernel_rfl
theorem run1 (w : World) : HandSHeadRun.RunEq R (PySem.W.view R.prog [71]) hk ob 16000 loose (w.withFollow "special-get-raises" true) := by
  intro os
  obtain ⟨s, es, eA⟩ := Option.map_eq_some_iff.mp (pA1 w os)
  have g : ∀ {α : Type} {f : PySem.W.SharedT → α} {v : α}, (En (w.withFollow "special-get-raises" true) os).map f = some v → f s = v := fun {α f v} h => by
    rw [es] at h
    exact Option.some.inj h
  have eF0 := g (pF1_0 w os)
  have a1 : oLooks (w.withFollow "special-get-raises" true) s = true := congrArg (fun z => z.1) eA
  have a2 : oSeen s = PySem.W.openGood (PySem.W.view R.prog [71]) loose := congrArg (fun z => z.2.1) eA
  have a4 : ex (KK s) = true := congrArg (fun z => z.2.2.1) eA
  have a5 : (ts.map fun t => He.dicW (KK s) (t.1 (KK s))) = (ts.map fun t => some (He.keysIn (w.withFollow "special-get-raises" true).params t.2)) := congrArg (fun z => z.2.2.2.1) eA
  have a6 : obsT (HandSHeadRun.getT s) (KK s) = (mkrN.map fun _ => some (PySem.W.tabObj #[])) := congrArg (fun z => z.2.2.2.2) eA
  have d0 : (((fa0.all fun f => f.ok (KK s)) && (fa1.all fun f => f.ok (KK s)) && (fa2.all fun f => f.ok (KK s)) && (fa3.all fun f => f.ok (KK s))) && (fn0.all fun d => d.ok (KK s))) = true := congrArg (fun z => z.1) eF0
  have b0 : (fn0.all fun d => d.ok (KK s)) = true := (Bool.and_eq_true_iff.mp d0).2
  have f0 : ((fa0.all fun f => f.ok (KK s)) && (fa1.all fun f => f.ok (KK s)) && (fa2.all fun f => f.ok (KK s)) && (fa3.all fun f => f.ok (KK s))) = true := (Bool.and_eq_true_iff.mp d0).1
  simp only [Bool.and_eq_true] at f0
  have c0 : (fn0.map fun d => He.fnW (KK s) d.at_) = fn0.map He.DefD.val := congrArg (fun z => z.2) eF0
  have k1 : ((fa.all fun f => f.ok (KK s)) && fn.all fun d => d.ok (KK s)) = true := by
    unfold fa fn
    simp only [List.all_append, b0, f0, Bool.and_true]
  have k2 : (fn.map fun d => He.fnW (KK s) d.at_) = fn.map He.DefD.val := by
    unfold fn
    simp only [List.map_append, c0]
  show (En (w.withFollow "special-get-raises" true) os).map _ = _
  rw [es]
  exact congrArg some (Prod.ext a1 (Prod.ext a2 (Prod.ext (Prod.ext (Prod.ext (Prod.ext k1 k2) a4) a5) a6)))
theorem run (w : World) : HandSHeadRun.RunEq R (PySem.W.view R.prog [71]) hk ob 16000 loose w := PySem.W.byRow2 "special-get-raises" (P := fun w => HandSHeadRun.RunEq R (PySem.W.view R.prog [71]) hk ob 16000 loose w) run0 run1 w
end K34
/-! Own words: the scanner of circle texts. -/
namespace LS
open PySem PySem.Spec PyProof.Rows L2 LL LC
def chr (c : Nat) : Str := ⟨#[c]⟩
structure Sc where
  aw : Str
  le : Int
  sg : List Str
def Sc.last (s : Sc) : Str := s.sg.getLastD ""
def beg (s : Sc) (c : Nat) : Bool × Sc := if chr c = "(" then (decide (((s.sg.length : Nat) : Int) + 1 - 1 ≤ 20), { s with sg := s.sg ++ [("" : Str)] }) else (decide (c ∈ LET.cps.toList), { s with aw := "name", le := 1 })
def sig (s : Sc) (c : Nat) : Bool × Sc := (decide (chr c = "&" ∨ chr c = "|") && decide (s.last = "" ∨ s.last = chr c), { s with sg := s.sg.dropLast ++ [chr c], aw := "blank" })
def clo (s : Sc) (c : Nat) : Bool × Sc := if chr c ≠ ")" ∨ s.sg.length = 1 then (false, s) else (true, { s with sg := s.sg.dropLast, aw := "end" })
def step (s : Sc) (c : Nat) : Bool × Sc :=
  if s.aw = "name" ∧ c ∈ LET.cps.toList then (decide (s.le + 1 ≤ 6), { s with le := s.le + 1 })
  else if s.aw = "item" then beg s c
  else if s.aw = "blank" then (decide (chr c = " "), { s with aw := "item" })
  else if s.aw = "sign" then sig s c
  else if chr c = " " then (true, { s with aw := "sign" })
  else clo s c
def sc0 : Sc := ⟨"item", 0, [("" : Str)]⟩
def fin (s : Sc) : Bool := decide (s.aw = "name" ∨ s.aw = "end") && decide (s.sg.length = 1)
/-- the place of the first sign that cannot stand, none if all of it stands -/
def scan : Sc → Nat → List Nat → Option Nat
  | s, n, [] => if fin s = true then none else some n
  | s, n, c :: cs => if (step s c).1 = true then scan (step s c).2 (n + 1) cs else some n
theorem step_len (s : Sc) (c : Nat) (h : s.sg ≠ []) : (step s c).2.sg ≠ [] ∧ (step s c).2.sg.length ≤ s.sg.length + 1 := by
  have hl : 0 < s.sg.length := List.length_pos_iff.mpr h
  have key : ∀ t : Sc, 0 < t.sg.length ∧ t.sg.length ≤ s.sg.length + 1 → t.sg ≠ [] ∧ t.sg.length ≤ s.sg.length + 1 := fun t ⟨h1, h2⟩ => ⟨List.length_pos_iff.mp h1, h2⟩
  refine key _ ?_
  unfold step
  split
  · exact ⟨hl, Nat.le_succ _⟩
  split
  · unfold beg
    split
    · simp
    · exact ⟨hl, Nat.le_succ _⟩
  split
  · exact ⟨hl, Nat.le_succ _⟩
  split
  · unfold sig
    simp
    try omega
  split
  · exact ⟨hl, Nat.le_succ _⟩
  · unfold clo
    split
    · exact ⟨hl, Nat.le_succ _⟩
    · rename_i q
      have q2 : ¬ s.sg.length = 1 := fun z => q (.inr z)
      simp
      omega
theorem step_ok_len {s : Sc} {c : Nat} (h : (step s c).1 = true) (hl : s.sg.length ≤ 21) (hn : s.sg ≠ []) : (step s c).2.sg.length ≤ 21 := by
  have hp : 0 < s.sg.length := List.length_pos_iff.mpr hn
  unfold step at h ⊢
  split
  · exact hl
  split
  · rename_i q1 q2
    rw [if_neg q1, if_pos q2] at h
    unfold beg at h ⊢
    split
    · rename_i q3
      rw [if_pos q3] at h
      have z := of_decide_eq_true h
      simp
      omega
    · exact hl
  split
  · exact hl
  split
  · unfold sig
    simp
    omega
  split
  · exact hl
  · unfold clo
    split
    · exact hl
    · simp
      omega
/-- on the heap -/
def sfs (s : Sc) (l : Addr) : List (Str × V) := [("awaited", .str s.aw), ("letters", .int s.le), ("signs", .ref l)]
def Scn (C : Addr) (H : Hp) (x dx l : Addr) (s : Sc) : Prop := H x = some (.ins C dx (sfs s l)) ∧ H l = some (.lst (s.sg.map V.str)) ∧ s.sg ≠ [] ∧ s.sg.length ≤ 100000
def Kb (x l : Addr) (H H' : Hp) : Prop := ∀ a o, a ≠ x → a ≠ l → H a = some o → H' a = some o
theorem Kb.refl (x l : Addr) (H : Hp) : Kb x l H H := fun _ _ _ _ h => h
theorem Kb.trans {x l : Addr} {H H1 H2 : Hp} (h : Kb x l H H1) (h' : Kb x l H1 H2) : Kb x l H H2 := fun a o n m e => h' a o n m (h a o n m e)
theorem Kb.x {x l : Addr} {H H' : Hp} {o : HO} (h : Kb x l H H') : Kb x l H (upd H' x o) := fun a u n m e => by
  rw [upd_ne n]
  exact h a u n m e
theorem Kb.l {x l : Addr} {H H' : Hp} {o : HO} (h : Kb x l H H') : Kb x l H (upd H' l o) := fun a u n m e => by
  rw [upd_ne m]
  exact h a u n m e
theorem Kb.new {x l p : Addr} {H H' : Hp} {o : HO} (h : Kb x l H H') (n : H' p = none) : Kb x l H (upd H' p o) := fun a u na ma e => by
  rw [upd_ne (ne_of_none (h a u na ma e) n)]
  exact h a u na ma e
theorem Kb.of {x l : Addr} {H H' : Hp} (s : Same H H') : Kb x l H H' := fun a o _ _ e => s a o e
section
variable {C : Addr} {H H' : Hp} {x dx l : Addr} {s t : Sc}
theorem Scn.ne (h : Scn C H x dx l s) : l ≠ x := ne_of h.2.1 h.1 (by simp)
theorem Scn.same (h : Scn C H x dx l s) (k : Same H H') : Scn C H' x dx l s := ⟨k _ _ h.1, k _ _ h.2.1, h.2.2⟩
theorem Scn.fld (h : Scn C H x dx l s) {a : Str} {n : Int} : Scn C (upd H x (.ins C dx (sfs { s with aw := a, le := n } l))) x dx l { s with aw := a, le := n } := ⟨upd_same, by rw [upd_ne h.ne]; exact h.2.1, h.2.2⟩
end
theorem str_dec (a b : Str) : decide (V.str a = V.str b) = decide (a = b) := by
  rw [Bool.eq_iff_iff]
  simp

/-! ### good texts stand -/
inductive Runs : Sc → List Nat → Sc → Prop
  | nil {s : Sc} : Runs s [] s
  | cons {s t : Sc} {c : Nat} {cs : List Nat} (h : (step s c).1 = true) (r : Runs (step s c).2 cs t) : Runs s (c :: cs) t
theorem Runs.app {s t u : Sc} {a b : List Nat} (h : Runs s a t) (k : Runs t b u) : Runs s (a ++ b) u := by
  induction h with
  | nil => exact k
  | cons h _ ih => exact .cons h (ih k)
theorem Runs.scan {s t : Sc} {l : List Nat} (h : Runs s l t) : ∀ n, fin t = true → LS.scan s n l = none := by
  induction h with
  | nil =>
    intro n hf
    rw [LS.scan, if_pos hf]
  | cons h _ ih =>
    intro n hf
    rw [LS.scan, if_pos h]
    exact ih (n + 1) hf

/-- a name, from where an item may begin -/
theorem runs_letters : ∀ (l : List Nat) (s : Sc), s.aw = "name" → (∀ c ∈ l, c ∈ LET.cps.toList) → s.le + l.length ≤ 6 → Runs s l { s with le := s.le + l.length }
  | [], s, _, _, _ => by
    have e : ({ s with le := s.le + ([] : List Nat).length } : Sc) = s := by
      show ({ s with le := s.le + 0 } : Sc) = s
      rw [Int.add_zero]
    rw [e]
    exact .nil
  | c :: l, s, ha, hl, hn => by
    have hc := hl c List.mem_cons_self
    rw [List.length_cons] at hn
    have e : step s c = (decide (s.le + 1 ≤ 6), { s with le := s.le + 1 }) := by
      unfold step
      rw [if_pos ⟨ha, hc⟩]
    have r := runs_letters l { s with le := s.le + 1 } ha (fun d hd => hl d (List.mem_cons_of_mem _ hd)) (by show s.le + 1 + l.length ≤ 6; omega)
    refine .cons (by rw [e]; exact decide_eq_true (by omega)) ?_
    rw [e]
    have e2 : s.le + ((c :: l).length : Nat) = s.le + 1 + (l.length : Nat) := by
      rw [List.length_cons]
      omega
    rw [e2]
    exact r

theorem runs_name {n : Str} (h : isName n = true) (s : Sc) (ha : s.aw = "item") : Runs s n.cps.toList { s with aw := "name", le := (n.length : Nat) } := by
  unfold isName at h
  rw [Bool.and_eq_true, Bool.and_eq_true, decide_eq_true_eq, decide_eq_true_eq] at h
  have hl : ∀ c ∈ n.cps.toList, c ∈ LET.cps.toList := fun c hc => of_decide_eq_true (List.all_eq_true.mp h.2 c hc)
  have len : n.length = n.cps.toList.length := str_len n
  rw [len] at h ⊢
  generalize n.cps.toList = l at hl h
  cases l with
  | nil => simp at h
  | cons c l =>
    have hc := hl c List.mem_cons_self
    have nl : ¬ chr c = "(" := fun z => by
      have e : c = 40 := by
        have q := congrArg (fun x : Str => x.cps[0]?) z
        have q2 : some c = some 40 := q
        exact Option.some.inj q2
      rw [e] at hc
      revert hc
      decide +kernel
    have e : step s c = (true, { s with aw := "name", le := 1 }) := by
      unfold step
      rw [if_neg (fun z => by rw [ha] at z; exact absurd z.1 (by decide +kernel)), if_pos ha]
      unfold beg
      rw [if_neg nl, decide_eq_true hc]
    have r := runs_letters l { s with aw := "name", le := 1 } rfl (fun d hd => hl d (List.mem_cons_of_mem _ hd)) (by
      have q := h.1.2
      rw [List.length_cons] at q
      show (1 : Int) + l.length ≤ 6
      omega)
    refine .cons (by rw [e]) ?_
    rw [e]
    have e2 : (((c :: l).length : Nat) : Int) = 1 + (l.length : Nat) := by
      rw [List.length_cons]
      omega
    rw [e2]
    exact r

theorem not_let {c : Nat} (h : c < 97 ∨ 122 < c) : c ∉ LET.cps.toList := fun hc => by
  have q : (LET.cps.toList.all fun c => decide (97 ≤ c) && decide (c ≤ 122)) = true := by decide +kernel
  have z := List.all_eq_true.mp q c hc
  simp at z
  omega
/-- an end of an item -/
def Ended (s : Sc) : Prop := s.aw = "name" ∨ s.aw = "end"
theorem step_open {s : Sc} (ha : s.aw = "item") (hl : s.sg.length ≤ 20) : step s 40 = (true, { s with sg := s.sg ++ [("" : Str)] }) := by
  unfold step
  rw [if_neg (fun z => not_let (by omega) z.2), if_pos ha]
  unfold beg
  rw [if_pos (show chr 40 = "(" from rfl), decide_eq_true (by omega)]
theorem step_close {s : Sc} (ha : Ended s) (hl : s.sg.length ≠ 1) : step s 41 = (true, { s with sg := s.sg.dropLast, aw := "end" }) := by
  unfold step
  rw [if_neg (fun z => not_let (by omega) z.2)]
  rw [if_neg (by rcases ha with z | z <;> (rw [z]; decide +kernel)), if_neg (by rcases ha with z | z <;> (rw [z]; decide +kernel)), if_neg (by rcases ha with z | z <;> (rw [z]; decide +kernel))]
  rw [if_neg (show ¬ chr 41 = " " by decide +kernel)]
  unfold clo
  rw [if_neg (by
    intro z
    rcases z with z | z
    · exact z rfl
    · exact hl z)]
theorem step_blank {s : Sc} (ha : Ended s) : step s 32 = (true, { s with aw := "sign" }) := by
  unfold step
  rw [if_neg (fun z => not_let (by omega) z.2)]
  rw [if_neg (by rcases ha with z | z <;> (rw [z]; decide +kernel)), if_neg (by rcases ha with z | z <;> (rw [z]; decide +kernel)), if_neg (by rcases ha with z | z <;> (rw [z]; decide +kernel))]
  rw [if_pos (show chr 32 = " " from rfl)]

def opc (k : Bool) : Nat := if k = true then 38 else 124
theorem step_sign {s : Sc} {S : List Str} {x : Str} {k : Bool} (ha : s.aw = "sign") (hs : s.sg = S ++ [x]) (hx : x = "" ∨ x = chr (opc k)) : step s (opc k) = (true, { s with sg := S ++ [chr (opc k)], aw := "blank" }) := by
  have hk : opc k = 38 ∨ opc k = 124 := by cases k <;> simp [opc]
  unfold step
  rw [if_neg (fun z => not_let (by omega) z.2)]
  rw [if_neg (by rw [ha]; decide +kernel), if_neg (by rw [ha]; decide +kernel), if_pos ha]
  unfold sig Sc.last
  have e : (S ++ [x]).getLastD "" = x := by
    rw [List.getLastD_eq_getLast?, List.getLast?_append]
    rfl
  rw [hs, e, List.dropLast_concat, decide_eq_true hx]
  have e2 : chr (opc k) = "&" ∨ chr (opc k) = "|" := by
    cases k with
    | true => exact .inl rfl
    | false => exact .inr rfl
  rw [decide_eq_true e2]
  rfl
theorem step_next {s : Sc} (ha : s.aw = "blank") : step s 32 = (true, { s with aw := "item" }) := by
  unfold step
  rw [if_neg (fun z => not_let (by omega) z.2), if_neg (by rw [ha]; decide +kernel), if_pos ha, decide_eq_true (show chr 32 = " " from rfl)]

abbrev cp (z : Str) : List Nat := z.cps.toList
theorem cp_join (y : Str) (ws : List Str) : cp (Txt.join y ws) = TL.joinL (cp y) (ws.map cp) := by
  have q := TL.tl_join y ws
  rw [← TL.join_eq] at q
  exact q
mutual
theorem runs_w : ∀ {c : Ci} {s : Sc} {S : List Str} {x : Str}, c.wf = true → s.aw = "item" → s.sg = S ++ [x] → s.sg.length + c.depth ≤ 21 → ∃ t, Runs s (cp (wrap c.isEye c.text)) t ∧ Ended t ∧ t.sg = S ++ [x]
  | .eye n, s, S, x, h, ha, hs, _ => by
    rw [Ci.wf] at h
    rw [Ci.text]
    exact ⟨_, runs_name h s ha, .inl rfl, hs⟩
  | .node k ps, s, S, x, h, ha, hs, hd => by
    have hw := wf_node.mp h
    rw [Ci.depth] at hd
    have hne : ps ≠ [] := by
      intro z
      rw [z] at hw
      simp at hw
    have e1 := step_open ha (by omega)
    obtain ⟨t, r, he, ⟨y, hy⟩⟩ := runs_n (ps := ps) k (s := { s with sg := s.sg ++ [("" : Str)] }) (S := s.sg) (x := "") (fun c hc => (hw.2.1 c hc).1) hne ha rfl (.inl rfl) (by simp; omega)
    have hl : t.sg.length ≠ 1 := by
      rw [hy, hs]
      simp
    have e2 := step_close he hl
    refine ⟨{ t with sg := t.sg.dropLast, aw := "end" }, ?_, .inr rfl, ?_⟩
    · show Runs s (cp (("(" : Str) ++ (Ci.node k ps).text ++ (")" : Str))) _
      have ec : cp (("(" : Str) ++ (Ci.node k ps).text ++ (")" : Str)) = 40 :: (cp (Ci.node k ps).text ++ [41]) := by
        have q : cp (("(" : Str) ++ (Ci.node k ps).text ++ (")" : Str)) = cp (("(" : Str) ++ (Ci.node k ps).text) ++ cp (")" : Str) := TL.tl_append _ _
        have q2 : cp (("(" : Str) ++ (Ci.node k ps).text) = cp ("(" : Str) ++ cp (Ci.node k ps).text := TL.tl_append _ _
        rw [q, q2]
        rfl
      rw [ec, Ci.text]
      refine .cons (by rw [e1]) ?_
      rw [e1]
      refine r.app (.cons (by rw [e2]) ?_)
      rw [e2]
      exact .nil
    · show t.sg.dropLast = _
      rw [hy, List.dropLast_concat, hs]
theorem runs_n (k : Bool) : ∀ {ps : List Ci} {s : Sc} {S : List Str} {x : Str}, (∀ c ∈ ps, c.wf = true) → ps ≠ [] → s.aw = "item" → s.sg = S ++ [x] → (x = "" ∨ x = chr (opc k)) → s.sg.length + depths ps ≤ 21 →
    ∃ t, Runs s (cp (Txt.join (sgn k) (wtexts ps))) t ∧ Ended t ∧ ∃ y, t.sg = S ++ [y]
  | [], _, _, _, _, h, _, _, _, _ => absurd rfl h
  | [c], s, S, x, hw, _, ha, hs, _, hd => by
    rw [depths, depths, Nat.max_zero] at hd
    obtain ⟨t, r, he, ht⟩ := runs_w (hw c List.mem_cons_self) ha hs hd
    rw [wtexts, wtexts, cp_join]
    exact ⟨t, r, he, x, ht⟩
  | c :: d :: cs, s, S, x, hw, _, ha, hs, hx, hd => by
    rw [depths] at hd
    obtain ⟨t, r, he, ht⟩ := runs_w (hw c List.mem_cons_self) ha hs (Nat.le_trans (Nat.add_le_add_left (Nat.le_max_left _ _) _) hd)
    have e1 := step_blank he
    have e2 := step_sign (s := { t with aw := "sign" }) (S := S) (x := x) (k := k) rfl ht hx
    have e3 := step_next (s := { ({ t with aw := "sign" } : Sc) with sg := S ++ [chr (opc k)], aw := "blank" }) rfl
    have hl : (S ++ [chr (opc k)]).length = s.sg.length := by rw [hs]; simp
    obtain ⟨u, r2, he2, hy⟩ := runs_n k (ps := d :: cs) (s := { t with sg := S ++ [chr (opc k)], aw := "item" }) (S := S) (x := chr (opc k)) (fun e he => hw e (List.mem_cons_of_mem _ he)) (by simp) rfl rfl (.inr rfl)
      (by show (S ++ [chr (opc k)]).length + _ ≤ 21; rw [hl]; exact Nat.le_trans (Nat.add_le_add_left (Nat.le_max_right _ _) _) hd)
    refine ⟨u, ?_, he2, hy⟩
    rw [wtexts, cp_join, List.map_cons]
    rw [cp_join] at r2
    have e4 : ∃ q r, (wtexts (d :: cs)).map cp = q :: r := by
      rw [wtexts]
      exact ⟨_, _, rfl⟩
    obtain ⟨q0, r0, e4⟩ := e4
    rw [e4] at r2 ⊢
    show Runs s (cp (wrap c.isEye c.text) ++ (cp (sgn k) ++ TL.joinL (cp (sgn k)) (q0 :: r0))) u
    refine r.app ?_
    have es : cp (sgn k) = [32, opc k, 32] := by cases k <;> decide +kernel
    have r3 : Runs { t with sg := S ++ [chr (opc k)], aw := "item" } (TL.joinL (cp (sgn k)) (q0 :: r0)) u := r2
    rw [es] at r3 ⊢
    refine .cons (by rw [e1]) ?_
    rw [e1]
    refine .cons (by rw [e2]) ?_
    rw [e2]
    refine .cons (by rw [e3]) ?_
    rw [e3]
    exact r3
end

/-- the text of a circle stands as a whole -/
theorem scan_text {c : Ci} (h : Fit c) : LS.scan sc0 0 c.text.cps.toList = none := by
  have hd := h.depth
  have l1 : sc0.sg.length = 1 := rfl
  have go : ∃ t, Runs sc0 (cp c.text) t ∧ Ended t ∧ ∃ y, t.sg = [] ++ [y] := by
    cases c with
    | eye n =>
      obtain ⟨t, r, he, ht⟩ := runs_w (c := .eye n) (s := sc0) (S := []) (x := "") h.wf rfl rfl (by omega)
      exact ⟨t, r, he, _, ht⟩
    | node k ps =>
      have hw := wf_node.mp h.wf
      rw [Ci.depth] at hd
      have hne : ps ≠ [] := by
        intro z
        rw [z] at hw
        simp at hw
      rw [Ci.text]
      exact runs_n (ps := ps) k (s := sc0) (S := []) (x := "") (fun c hc => (hw.2.1 c hc).1) hne rfl rfl (.inl rfl) (by omega)
  obtain ⟨t, r, he, y, hy⟩ := go
  refine r.scan 0 ?_
  unfold fin
  rw [hy, decide_eq_true (show t.aw = "name" ∨ t.aw = "end" from he)]
  rfl
end LS

/-! Own lemmas: a list of one written text ahead of everything, splits of replaced texts. -/
namespace LTk
open PySem PySem.Spec PyProof.Rows L2
section
variable {X : Cx} {rest : List Stmt} {u : TS} {o e : Expr} {to te : TE}
/-- x = [c], c a written text: behind it a token is out -/
theorem pss_lst1 {i j : Nat} {x c : Str} {cpos lpos pos' pos : Pos} (hN : X.N.Nodup) (hi : X.N[i]? = some x) (hx : Loc X.env.scope x) (h2 : PSsT X rest u)
    (hs : swapsWith (.List [.Constant (.str c) j cpos] lpos) (some (.Name x pos')) pos.line X.env = pure false := by rfl) (hf : X.fn x = true ∨ X.env.scope.names.lookup x = some .local := by first | exact .inl rfl | exact .inr rfl | assumption) :
    PSs X (.Assign [.Name x pos'] (.List [.Constant (.str c) j cpos] lpos) pos :: rest) (tSeq (tAsg (tLst (tCons (tC (.str c)) tNil)) (gName i)) u) := by
  refine ⟨fun pins s σ H D I h => ?_⟩
  refine wpAny_execs_cons (wpAny_Assign_Name (wpAny_List_spliced ?_) hs)
  show wpAny _ _ (spliced ((false, eval (.Constant (.str c) j cpos) X.env) :: backTo lpos (starEach [] X.env))) _ _ s
  refine Calls.spliced_cons (Calls.Constant_str (Calls.spliced_nil ?_))
  obtain ⟨hz, h⟩ := h
  have hz2 : (1 : Nat) ≤ sizeLine := by decide
  refine ⟨hz2, ?_⟩
  have hn : H s.heap.objs.size = none := I.hok.fresh (Nat.le_refl _)
  have J : Inv X pins σ (upd H s.heap.objs.size (.lst [.str c])) { s with heap := s.heap.push { cls := .type "list", data := .seq #[.str c s.toks] }, toks := s.toks + 1 } :=
    I.laid (t' := s.toks + 1) (fun b u e => Heap.get?_push_of_some _ e) (Nat.le_refl _) ⟨hz2, [.str c s.toks], 0, .cons ⟨_, rfl⟩ .nil, Heap.get?_push_size _ rfl⟩
  refine wpAny_mono (PySem.wpAny_toks (store_ok (v := V.ref s.heap.objs.size) (u := Value.ref s.heap.objs.size) (Q := fun _ s2 => Inv X pins (σ.set i (some (V.ref s.heap.objs.size))) (upd H s.heap.objs.size (.lst [.str c])) s2) J hN hi hx rfl (fun _ I2 => I2) hf)) (fun _ s2 q => ?_) fun _ _ z => z.2
  have hk : s.toks + 1 ≤ s2.toks := q.1
  exact h2 pins s2 _ _ D (by omega) q.2 (h _ hn)
theorem pet_split {apos pos : Pos} (ho : PET X o to) (he : PE X e te) (hs : starEach [e] X.env = [(false, eval e X.env)] := by rfl) (hbase : attributeBase o "split" X.env (eval o X.env) = eval o X.env := by rfl) (hline : (apos.endLine == pos.line) = true := by rfl) :
    PET X (.Call (.Attribute o "split" apos) [e] [] pos) (tM1 (fun x xs H Q => ∃ a b, x = .str a ∧ xs = [.str b] ∧ (b.length == 0) = false ∧ a.length + 2 ≤ sizeLine ∧ rNewStrs (Txt.split a b) H Q) to te) := by
  intro pins s σ H Q h0 I h
  refine PySem.Call_method1 hbase hs hline (thn (ho pins s σ H _ h0 I h) fun v s1 ⟨x, H1, I1, r1, q1⟩ => ?_)
  obtain ⟨⟨a, rfl⟩, q1⟩ := q1
  obtain ⟨t, rfl⟩ := _root_.id r1
  refine ⟨"str", _, F.plainAttrs_str, F.slot_str_split, F.type_str_split, typeIs_str _ _ _, (fun _ e => nomatch e), Calls.callWith_builtin rfl (Calls.evalArgs_plain (Calls.spliced_cons ?_))⟩
  exact thn (he.run pins s1 σ H1 _ I1 q1) fun u s2 ⟨y, H2, I2, r2, q2⟩ => Calls.spliced_nil (mt_split pins s2 σ H2 _ [y] _ [u] Q I2 r1 (.cons r2 .nil) q2)
end
end LTk

/-! Own words: the words of a circle text and the two stacks that read them. -/
namespace LR
open PySem PySem.Spec PyProof.Rows L2 LL LC
def joined (sg : Str) (cs : List Ci) : Ci := if sg = "&" then mkC true cs else if sg = "|" then mkC false cs else cs.headD default
structure JOk (sg : Str) (cs : List Ci) : Prop where
  ne : cs ≠ []
  sz : sizes cs ≤ 900
  wf : ∀ c ∈ cs, c.wf = true
  fit : Fit (joined sg cs)
/-- the words of a text as circle_of sees them -/
def wordsOf (z : Str) : List Str := Txt.split (Txt.replace (Txt.replace z "(" "( ") ")" " )") " "
abbrev Stk : Type := List Str × List (List Ci)
inductive Feed : Stk → Str → Stk → Prop
  | op {S : List Str} {L : List (List Ci)} : Feed (S, L) "(" (S ++ [("" : Str)], L ++ [[]])
  | cl {S : List Str} {sg : Str} {L : List (List Ci)} {last items : List Ci} (h : JOk sg items) : Feed (S ++ [sg], L ++ [last, items]) ")" (S, L ++ [last ++ [joined sg items]])
  | sg {S : List Str} {s w : Str} {L : List (List Ci)} (h : w = "&" ∨ w = "|") : Feed (S ++ [s], L) w (S ++ [w], L)
  | nm {S : List Str} {w : Str} {L : List (List Ci)} {items : List Ci} (h : isName w = true) (h2 : PyData.strOk w = true) (h3 : w ≠ "(" ∧ w ≠ ")" ∧ w ≠ "&" ∧ w ≠ "|") : Feed (S, L ++ [items]) w (S, L ++ [items ++ [.eye w]])
inductive Feeds : Stk → List Str → Stk → Prop
  | nil {s : Stk} : Feeds s [] s
  | cons {s t u : Stk} {w : Str} {ws : List Str} (h : Feed s w t) (r : Feeds t ws u) : Feeds s (w :: ws) u
theorem Feeds.app {s t u : Stk} {a b : List Str} (h : Feeds s a t) (k : Feeds t b u) : Feeds s (a ++ b) u := by
  induction h with
  | nil => exact k
  | cons h _ ih => exact .cons h (ih k)
theorem Feeds.one {s t : Stk} {w : Str} (h : Feed s w t) : Feeds s [w] t := .cons h .nil
/-- the words of a circle -/
def opw (k : Bool) : Str := if k = true then "&" else "|"
mutual
def toks : Ci → List Str
  | .eye n => [n]
  | .node k ps => toksN k ps
def toksN (k : Bool) : List Ci → List Str
  | [] => []
  | [c] => wtoks c
  | c :: d :: cs => wtoks c ++ (opw k :: toksN k (d :: cs))
def wtoks : Ci → List Str
  | .eye n => [n]
  | .node k ps => "(" :: (toksN k ps ++ [(")" : Str)])
end

theorem flat_self {k : Bool} : ∀ {ps : List Ci}, (∀ c ∈ ps, c.isK k = false) → flat k ps = ps
  | [], _ => rfl
  | c :: cs, h => by
    have e := flat_self (k := k) (ps := cs) fun d hd => h d (List.mem_cons_of_mem _ hd)
    unfold flat at e ⊢
    rw [List.flatMap_cons, e]
    unfold flat1
    rw [if_neg (by rw [h c List.mem_cons_self]; decide)]
    rfl
theorem uniq_self : ∀ {ps : List Ci} {seen : List Str}, (ps.map Ci.text).Nodup → (∀ c ∈ ps, c.text ∉ seen) → uniqG seen ps = ps
  | [], _, _, _ => rfl
  | c :: cs, seen, nd, h => by
    rw [List.map_cons, List.nodup_cons] at nd
    rw [uniqG, if_neg (h c List.mem_cons_self)]
    rw [uniq_self nd.2 fun d hd z => ?_]
    rcases List.mem_append.mp z with z | z
    · exact h d (List.mem_cons_of_mem _ hd) z
    · exact nd.1 (List.mem_map.mpr ⟨d, hd, List.mem_singleton.mp z⟩)
theorem mkC_node {k : Bool} {ps : List Ci} (h : (Ci.node k ps).wf = true) : mkC k ps = .node k ps := by
  obtain ⟨h1, h2, h3⟩ := wf_node.mp h
  have e : uniq (flat k ps) = ps := by
    rw [flat_self fun c hc => (h2 c hc).2]
    exact uniq_self h3 fun c _ z => by cases z
  unfold mkC
  rw [e]
  match ps, h1 with
  | a :: b :: r, _ => rfl
theorem jok_node {k : Bool} {ps : List Ci} (h : Fit (.node k ps)) : JOk (opw k) ps ∧ joined (opw k) ps = .node k ps := by
  have hw := wf_node.mp h.wf
  have e : joined (opw k) ps = .node k ps := by
    unfold joined opw
    cases k with
    | true => rw [if_pos rfl, if_pos rfl, mkC_node h.wf]
    | false => rw [if_neg (show ¬ (false = true) by decide), if_neg (by decide +kernel), if_pos rfl, mkC_node h.wf]
  have sz := h.size
  rw [Ci.size] at sz
  refine ⟨⟨?_, by omega, fun c hc => (hw.2.1 c hc).1, by rw [e]; exact h⟩, e⟩
  intro z
  rw [z] at hw
  simp at hw
theorem opw_or (k : Bool) : opw k = "&" ∨ opw k = "|" := by
  cases k with
  | true => exact .inl rfl
  | false => exact .inr rfl
theorem letter_small {c : Nat} (h : c ∈ LET.cps.toList) : 97 ≤ c ∧ c ≤ 122 := by
  have q : (LET.cps.toList.all fun c => decide (97 ≤ c) && decide (c ≤ 122)) = true := by decide +kernel
  have z := List.all_eq_true.mp q c h
  simpa using z
theorem name_plain {w : Str} (h : isName w = true) : PyData.strOk w = true ∧ (w ≠ "(" ∧ w ≠ ")" ∧ w ≠ "&" ∧ w ≠ "|") := by
  unfold isName at h
  rw [Bool.and_eq_true, Bool.and_eq_true] at h
  have hl : ∀ c ∈ w.cps.toList, 97 ≤ c ∧ c ≤ 122 := fun c hc => letter_small (of_decide_eq_true (List.all_eq_true.mp h.2 c hc))
  have no : ∀ c : Nat, c < 97 ∨ 122 < c → w ≠ ⟨#[c]⟩ := fun c hc z => by
    have q := hl c (by rw [z]; simp)
    omega
  refine ⟨?_, no 40 (by omega), no 41 (by omega), no 38 (by omega), no 124 (by omega)⟩
  unfold PyData.strOk
  rw [← Array.all_toList, List.all_eq_true]
  intro c hc
  have q := hl c hc
  exact decide_eq_true (by omega)
mutual
theorem feeds_w : ∀ {c : Ci} (S : List Str) (s : Str) (L : List (List Ci)) (items : List Ci), Fit c → Feeds (S ++ [s], L ++ [items]) (wtoks c) (S ++ [s], L ++ [items ++ [c]])
  | .eye n, S, s, L, items, h => by
    have hn : isName n = true := by
      have z := h.wf
      rw [Ci.wf] at z
      exact z
    rw [wtoks]
    exact .one (.nm hn (name_plain hn).1 (name_plain hn).2)
  | .node k ps, S, s, L, items, h => by
    have hw := wf_node.mp h.wf
    obtain ⟨j1, j2⟩ := jok_node h
    have r := feeds_n (ps := ps) k (S ++ [s]) "" (L ++ [items]) [] (fun c hc => h.part hc)
    rw [if_pos hw.1, List.nil_append] at r
    rw [wtoks]
    refine .cons (t := (S ++ [s] ++ [("" : Str)], L ++ [items] ++ [[]])) .op (r.app (.one ?_))
    have f := Feed.cl (S := S ++ [s]) (L := L) (last := items) j1
    rw [j2] at f
    have e : L ++ [items] ++ [ps] = L ++ [items, ps] := by simp
    rw [e]
    exact f
theorem feeds_n : ∀ {ps : List Ci} (k : Bool) (S : List Str) (s : Str) (L : List (List Ci)) (items : List Ci), (∀ c ∈ ps, Fit c) → Feeds (S ++ [s], L ++ [items]) (toksN k ps) (S ++ [if 2 ≤ ps.length then opw k else s], L ++ [items ++ ps])
  | [], k, S, s, L, items, _ => by
    rw [toksN, List.append_nil, if_neg (by simp)]
    exact .nil
  | [c], k, S, s, L, items, h => by
    rw [toksN, if_neg (by simp)]
    exact feeds_w S s L items (h c List.mem_cons_self)
  | c :: d :: cs, k, S, s, L, items, h => by
    rw [toksN, if_pos (by simp)]
    have r1 := feeds_w S s L items (h c List.mem_cons_self)
    have r2 := feeds_n (ps := d :: cs) k S (opw k) L (items ++ [c]) fun e he => h e (List.mem_cons_of_mem _ he)
    have e1 : (if 2 ≤ (d :: cs).length then opw k else opw k) = opw k := by split <;> rfl
    have e2 : items ++ [c] ++ d :: cs = items ++ c :: d :: cs := by simp
    rw [e1, e2] at r2
    exact r1.app (.cons (.sg (opw_or k)) r2)
end

/-- all the words of a circle: what is left on the stacks gives the circle -/
theorem feeds_top {c : Ci} (h : Fit c) : ∃ sg items, Feeds ([("" : Str)], [[]]) (toks c) ([sg], [items]) ∧ JOk sg items ∧ joined sg items = c := by
  cases c with
  | eye n =>
    have e : joined "" [Ci.eye n] = .eye n := by
      unfold joined
      rw [if_neg (by decide +kernel), if_neg (by decide +kernel)]
      rfl
    refine ⟨"", [.eye n], ?_, ⟨by simp, ?_, ?_, by rw [e]; exact h⟩, e⟩
    · have r := feeds_w [] "" [] [] h
      rw [wtoks] at r
      rw [toks]
      exact r
    · have z := h.size
      rw [sizes_one]
      omega
    · intro c hc
      rw [List.mem_singleton.mp hc]
      exact h.wf
  | node k ps =>
    obtain ⟨j1, j2⟩ := jok_node h
    have hw := wf_node.mp h.wf
    have r := feeds_n (ps := ps) k [] "" [] [] (fun c hc => h.part hc)
    rw [if_pos hw.1] at r
    rw [toks]
    exact ⟨opw k, ps, r, j1, j2⟩

/-! ### the words of a text, from its signs -/
def rp (d : Nat) : List Nat := if d = 40 then [40, 32] else if d = 41 then [32, 41] else [d]
theorem joinL_app {S : List Nat} : ∀ {a b : List (List Nat)}, a ≠ [] → b ≠ [] → TL.joinL S (a ++ b) = TL.joinL S a ++ (S ++ TL.joinL S b)
  | [], _, h, _ => absurd rfl h
  | [x], [], _, h => absurd rfl h
  | [x], y :: b, _, _ => rfl
  | x :: y :: a, b, _, hb => by
    show x ++ (S ++ TL.joinL S (y :: a ++ b)) = x ++ (S ++ TL.joinL S (y :: a)) ++ (S ++ TL.joinL S b)
    rw [joinL_app (a := y :: a) (by simp) hb]
    simp only [List.append_assoc]
abbrev tls (ws : List Str) : List (List Nat) := ws.map TL.tl
theorem name_rp {n : Str} (h : isName n = true) : (TL.tl n).flatMap rp = TL.tl n := by
  unfold isName at h
  rw [Bool.and_eq_true, Bool.and_eq_true] at h
  have hl : ∀ c ∈ TL.tl n, 97 ≤ c ∧ c ≤ 122 := fun c hc => letter_small (of_decide_eq_true (List.all_eq_true.mp h.2 c hc))
  generalize TL.tl n = l at hl
  induction l with
  | nil => rfl
  | cons c l ih =>
    have q := hl c List.mem_cons_self
    rw [List.flatMap_cons, ih fun d hd => hl d (List.mem_cons_of_mem _ hd)]
    unfold rp
    rw [if_neg (by omega), if_neg (by omega)]
    rfl
theorem wtoks_ne : ∀ c : Ci, wtoks c ≠ []
  | .eye n => by rw [wtoks]; simp
  | .node k ps => by rw [wtoks]; simp
theorem toksN_ne {k : Bool} : ∀ {ps : List Ci}, ps ≠ [] → toksN k ps ≠ []
  | [], h => absurd rfl h
  | [c], _ => by rw [toksN]; exact wtoks_ne c
  | c :: d :: cs, _ => by rw [toksN]; simp
theorem tl_app (a b : Str) : TL.tl (a ++ b) = TL.tl a ++ TL.tl b := TL.tl_append a b
mutual
theorem rp_w : ∀ {c : Ci}, c.wf = true → (TL.tl (wrap c.isEye c.text)).flatMap rp = TL.joinL [32] (tls (wtoks c))
  | .eye n, h => by
    rw [Ci.wf] at h
    rw [wtoks, Ci.text]
    show (TL.tl n).flatMap rp = TL.tl n
    exact name_rp h
  | .node k ps, h => by
    have hw := wf_node.mp h
    have hne : ps ≠ [] := by
      intro z
      rw [z] at hw
      simp at hw
    have r := rp_n k (ps := ps) (fun c hc => (hw.2.1 c hc).1) hne
    rw [wtoks, Ci.text]
    show (TL.tl (("(" : Str) ++ Txt.join (sgn k) (wtexts ps) ++ (")" : Str))).flatMap rp = _
    rw [tl_app, tl_app, List.flatMap_append, List.flatMap_append, r]
    have e : tls ("(" :: (toksN k ps ++ [(")" : Str)])) = [[40]] ++ (tls (toksN k ps) ++ [[41]]) := by
      unfold tls
      rw [List.map_cons, List.map_append]
      rfl
    have n1 : tls (toksN k ps) ≠ [] := by
      intro z
      exact toksN_ne hne (List.map_eq_nil_iff.mp z)
    rw [e, joinL_app (by simp) (by simp), joinL_app n1 (by simp)]
    show [40, 32] ++ TL.joinL [32] (tls (toksN k ps)) ++ [32, 41] = [40] ++ ([32] ++ (TL.joinL [32] (tls (toksN k ps)) ++ ([32] ++ [41])))
    simp
theorem rp_n (k : Bool) : ∀ {ps : List Ci}, (∀ c ∈ ps, c.wf = true) → ps ≠ [] → (TL.tl (Txt.join (sgn k) (wtexts ps))).flatMap rp = TL.joinL [32] (tls (toksN k ps))
  | [], _, h => absurd rfl h
  | [c], h, _ => by
    rw [toksN, wtexts, wtexts, TL.join_eq, TL.tl_join]
    exact rp_w (h c List.mem_cons_self)
  | c :: d :: cs, h, _ => by
    have r1 := rp_w (h c List.mem_cons_self)
    have r2 := rp_n k (ps := d :: cs) (fun e he => h e (List.mem_cons_of_mem _ he)) (by simp)
    rw [toksN, wtexts, TL.join_eq, TL.tl_join, List.map_cons]
    rw [TL.join_eq, TL.tl_join] at r2
    have e1 : ∃ q r, (wtexts (d :: cs)).map TL.tl = q :: r := by
      rw [wtexts]
      exact ⟨_, _, rfl⟩
    obtain ⟨q, r, e1⟩ := e1
    rw [e1] at r2 ⊢
    show (TL.tl (wrap c.isEye c.text) ++ (TL.tl (sgn k) ++ TL.joinL (TL.tl (sgn k)) (q :: r))).flatMap rp = _
    rw [List.flatMap_append, List.flatMap_append, r1, r2]
    have es : (TL.tl (sgn k)).flatMap rp = [32] ++ TL.tl (opw k) ++ [32] := by cases k <;> decide +kernel
    have n1 : tls (wtoks c) ≠ [] := by
      intro z
      exact wtoks_ne c (List.map_eq_nil_iff.mp z)
    have n2 : tls (toksN k (d :: cs)) ≠ [] := by
      intro z
      exact toksN_ne (by simp) (List.map_eq_nil_iff.mp z)
    have e3 : tls (wtoks c ++ (opw k :: toksN k (d :: cs))) = tls (wtoks c) ++ ([TL.tl (opw k)] ++ tls (toksN k (d :: cs))) := by
      unfold tls
      rw [List.map_append, List.map_cons]
      rfl
    rw [es, e3, joinL_app n1 (by simp), joinL_app (by simp) n2]
    show _ = TL.joinL [32] (tls (wtoks c)) ++ ([32] ++ (TL.tl (opw k) ++ ([32] ++ TL.joinL [32] (tls (toksN k (d :: cs))))))
    simp
end

theorem replL_one (c : Nat) (z : List Nat) : ∀ l : List Nat, StrLaws.replL [c] z l = l.flatMap fun d => if d = c then z else [d]
  | [] => StrLaws.replL_nil
  | d :: l => by
    rw [List.flatMap_cons, ← replL_one c z l]
    by_cases e : d = c
    · rw [if_pos e]
      exact StrLaws.replL_hit (by simp) (by rw [e]; rfl)
    · rw [if_neg e]
      exact StrLaws.replL_miss (by
        show ¬ [d] = [c]
        simpa using e)
theorem two_rp (l : List Nat) : (l.flatMap fun d => if d = 40 then [40, 32] else [d]).flatMap (fun d => if d = 41 then [32, 41] else [d]) = l.flatMap rp := by
  induction l with
  | nil => rfl
  | cons d l ih =>
    rw [List.flatMap_cons, List.flatMap_append, ih, List.flatMap_cons]
    congr 1
    unfold rp
    by_cases e : d = 40
    · rw [if_pos e, if_pos e]
      rfl
    · rw [if_neg e, if_neg e]
      simp
theorem name_sp {n : Str} (h : isName n = true) : 32 ∉ TL.tl n := by
  unfold isName at h
  rw [Bool.and_eq_true, Bool.and_eq_true] at h
  intro z
  have q := letter_small (of_decide_eq_true (List.all_eq_true.mp h.2 32 z))
  omega
mutual
theorem wtoks_sp : ∀ {c : Ci}, c.wf = true → ∀ p ∈ wtoks c, 32 ∉ TL.tl p
  | .eye n, h, p, hp => by
    rw [Ci.wf] at h
    rw [wtoks] at hp
    rw [List.mem_singleton.mp hp]
    exact name_sp h
  | .node k ps, h, p, hp => by
    have hw := wf_node.mp h
    rw [wtoks] at hp
    rcases List.mem_cons.mp hp with e | e
    · rw [e]
      decide +kernel
    · rcases List.mem_append.mp e with e | e
      · exact toksN_sp k (ps := ps) (fun c hc => (hw.2.1 c hc).1) p e
      · rw [List.mem_singleton.mp e]
        decide +kernel
theorem toksN_sp (k : Bool) : ∀ {ps : List Ci}, (∀ c ∈ ps, c.wf = true) → ∀ p ∈ toksN k ps, 32 ∉ TL.tl p
  | [], _, p, hp => by
    rw [toksN] at hp
    cases hp
  | [c], h, p, hp => by
    rw [toksN] at hp
    exact wtoks_sp (h c List.mem_cons_self) p hp
  | c :: d :: cs, h, p, hp => by
    rw [toksN] at hp
    rcases List.mem_append.mp hp with e | e
    · exact wtoks_sp (h c List.mem_cons_self) p e
    · rcases List.mem_cons.mp e with e | e
      · rw [e]
        cases k <;> decide +kernel
      · exact toksN_sp k (ps := d :: cs) (fun e he => h e (List.mem_cons_of_mem _ he)) p e
end
/-- the words that circle_of sees are the circle's -/
theorem words_of {c : Ci} (h : c.wf = true) : wordsOf c.text = toks c := by
  have e0 : TL.tl (Txt.replace (Txt.replace c.text "(" "( ") ")" " )") = (TL.tl c.text).flatMap rp := by
    have r1 := StrLaws.replace_list (x := c.text) (y := "(") (z := "( ") (by decide +kernel)
    have r2 := StrLaws.replace_list (x := Txt.replace c.text "(" "( ") (y := ")") (z := " )") (by decide +kernel)
    show (Txt.replace (Txt.replace c.text "(" "( ") ")" " )").cps.toList = _
    rw [r2, r1]
    show StrLaws.replL [41] [32, 41] (StrLaws.replL [40] [40, 32] c.text.cps.toList) = _
    rw [replL_one, replL_one, two_rp]
  have e1 : (TL.tl c.text).flatMap rp = TL.joinL [32] (tls (toks c)) ∧ toks c ≠ [] ∧ ∀ p ∈ toks c, 32 ∉ TL.tl p := by
    cases c with
    | eye n =>
      rw [Ci.wf] at h
      rw [Ci.text, toks]
      exact ⟨name_rp h, by simp, fun p hp => by rw [List.mem_singleton.mp hp]; exact name_sp h⟩
    | node k ps =>
      have hw := wf_node.mp h
      have hne : ps ≠ [] := by
        intro z
        rw [z] at hw
        simp at hw
      rw [Ci.text, toks]
      exact ⟨rp_n k (fun c hc => (hw.2.1 c hc).1) hne, toksN_ne hne, toksN_sp k fun c hc => (hw.2.1 c hc).1⟩
  obtain ⟨e1, e2, e3⟩ := e1
  have e4 : Txt.replace (Txt.replace c.text "(" "( ") ")" " )" = Txt.join " " (toks c) := by
    refine TL.ext_tl ?_
    rw [e0, e1, TL.join_eq, TL.tl_join]
    rfl
  unfold wordsOf
  rw [e4]
  exact TL.split_join (y := " ") (s := 32) (S := []) (by rfl) (by decide +kernel) e2 e3
def feedF (st : Stk) (w : Str) : Stk :=
  if w = "(" then (st.1 ++ [("" : Str)], st.2 ++ [[]])
  else if w = ")" then (st.1.dropLast, st.2.dropLast.dropLast ++ [st.2.dropLast.getLastD [] ++ [joined (st.1.getLastD "") (st.2.getLastD [])]])
  else if w = "&" ∨ w = "|" then (st.1.dropLast ++ [w], st.2)
  else (st.1, st.2.dropLast ++ [st.2.getLastD [] ++ [.eye w]])
theorem lastD_app {α : Type} (l : List α) (x d : α) : (l ++ [x]).getLastD d = x := by
  rw [List.getLastD_eq_getLast?, List.getLast?_append]
  rfl
theorem feed_fun {s t : Stk} {w : Str} (h : Feed s w t) : feedF s w = t := by
  cases h with
  | op => rfl
  | @cl S sg L last items hj =>
    unfold feedF
    rw [if_neg (by decide +kernel), if_pos rfl]
    have e : L ++ [last, items] = L ++ [last] ++ [items] := by simp
    show ((S ++ [sg]).dropLast, (L ++ [last, items]).dropLast.dropLast ++ [(L ++ [last, items]).dropLast.getLastD [] ++ [joined ((S ++ [sg]).getLastD "") ((L ++ [last, items]).getLastD [])]]) = _
    rw [e, lastD_app, lastD_app, List.dropLast_concat, List.dropLast_concat, lastD_app, List.dropLast_concat]
  | @sg S s0 w0 L hw =>
    unfold feedF
    have n : ¬ w = "(" ∧ ¬ w = ")" := by rcases hw with z | z <;> (rw [z]; decide +kernel)
    rw [if_neg n.1, if_neg n.2, if_pos hw]
    show ((S ++ [s0]).dropLast ++ [w], L) = _
    rw [List.dropLast_concat]
  | @nm S w0 L items h1 h2 h3 =>
    unfold feedF
    rw [if_neg h3.1, if_neg h3.2.1, if_neg (fun z => z.elim h3.2.2.1 h3.2.2.2)]
    show (S, (L ++ [items]).dropLast ++ [(L ++ [items]).getLastD [] ++ [.eye w]]) = _
    rw [lastD_app, List.dropLast_concat]
theorem feeds_fun {s t : Stk} {ws : List Str} (h : Feeds s ws t) : ws.foldl feedF s = t := by
  induction h with
  | nil => rfl
  | cons h _ ih =>
    rw [List.foldl_cons, feed_fun h]
    exact ih
/-- a text tells its circle -/
theorem text_inj {c d : Ci} (hc : Fit c) (hd : Fit d) (h : c.text = d.text) : c = d := by
  obtain ⟨sg, items, f1, _, e1⟩ := feeds_top hc
  obtain ⟨sg', items', f2, _, e2⟩ := feeds_top hd
  have ew : toks c = toks d := by rw [← words_of hc.wf, ← words_of hd.wf, h]
  rw [ew] at f1
  have q := (feeds_fun f1).symm.trans (feeds_fun f2)
  have q1 := (Prod.mk.inj q).1
  have q2 := (Prod.mk.inj q).2
  have q1 : sg = sg' := by simpa using q1
  have q2 : items = items' := by simpa using q2
  rw [← e1, ← e2, q1, q2]
end LR

/-! Own words: the stack of lists of circles while a text is read. -/
namespace LR
open PySem PySem.Spec PyProof.Rows L2 LL LC
/-- lists of circles at the addresses, all new since H0, apart from one another and from s and lv; none longer than B -/
inductive Lv (C : Addr) (H0 H : Hp) (s lv : Addr) (B : Nat) : List Addr → List (List Ci) → Prop
  | nil : Lv C H0 H s lv B [] []
  | snoc {as : List Addr} {L : List (List Ci)} {a : Addr} {rows : List V} {cs : List Ci} (t : Lv C H0 H s lv B as L) (n : a ∉ as) (n0 : H0 a = none) (ns : a ≠ s) (nl : a ≠ lv) (h : H a = some (.lst rows)) (hc : COs C H rows cs) (hb : rows.length ≤ B) : Lv C H0 H s lv B (as ++ [a]) (L ++ [cs])
section
variable {C : Addr} {H0 H H' : Hp} {s lv : Addr} {B B' : Nat}
theorem Lv.mono {as : List Addr} {L : List (List Ci)} (h : Lv C H0 H s lv B as L) (k : Kc C H H') (hs : ∀ a ∈ as, ∀ o, H a = some o → H' a = some o) (hB : B ≤ B') : Lv C H0 H' s lv B' as L := by
  induction h with
  | nil => exact .nil
  | snoc t n n0 ns nl h hc hb ih => exact .snoc (ih fun a ha => hs a (List.mem_append_left _ ha)) n n0 ns nl (hs _ (List.mem_append_right _ (List.mem_singleton.mpr rfl)) _ h) (cos_mono k hc) (Nat.le_trans hb hB)
theorem Lv.inv {as : List Addr} {L : List (List Ci)} {cs : List Ci} (h : Lv C H0 H s lv B as (L ++ [cs])) : ∃ as' a rows, as = as' ++ [a] ∧ Lv C H0 H s lv B as' L ∧ a ∉ as' ∧ H0 a = none ∧ a ≠ s ∧ a ≠ lv ∧ H a = some (.lst rows) ∧ COs C H rows cs ∧ rows.length ≤ B := by
  generalize e : L ++ [cs] = M at h
  cases h with
  | nil => simp at e
  | snoc t n n0 ns nl h hc hb =>
    obtain ⟨rfl, e2⟩ := List.append_inj' e rfl
    cases e2
    exact ⟨_, _, _, rfl, t, n, n0, ns, nl, h, hc, hb⟩
theorem Lv.fre {as : List Addr} {L : List (List Ci)} (h : Lv C H0 H s lv B as L) : ∀ a ∈ as, H0 a = none ∧ a ≠ s ∧ a ≠ lv ∧ ∃ rows, H a = some (.lst rows) := by
  induction h with
  | nil => intro a ha; cases ha
  | snoc t n n0 ns nl h hc hb ih =>
    intro a ha
    rcases List.mem_append.mp ha with z | z
    · exact ih a z
    · rw [List.mem_singleton.mp z]
      exact ⟨n0, ns, nl, _, h⟩
theorem Lv.len {as : List Addr} {L : List (List Ci)} (h : Lv C H0 H s lv B as L) : as.length = L.length := by
  induction h with
  | nil => rfl
  | snoc t n n0 ns nl h hc hb ih => rw [List.length_append, List.length_append, ih]; rfl
end
theorem getLast_ref {as : List Addr} {a : Addr} : atI ((as ++ [a]).map V.ref) (-1) = some (.ref a) := by
  rw [List.map_append]
  exact atI_last _ _
theorem pop_ref {as : List Addr} {a : Addr} : ((as ++ [a]).map V.ref)[((as ++ [a]).map V.ref).length - 1]? = some (.ref a) ∧ ((as ++ [a]).map V.ref).dropLast = as.map V.ref := by
  rw [List.map_append]
  refine ⟨?_, ?_⟩
  · simp
  · simp
theorem pop_str {S : List Str} {a : Str} : ((S ++ [a]).map V.str)[((S ++ [a]).map V.str).length - 1]? = some (.str a) ∧ ((S ++ [a]).map V.str).dropLast = S.map V.str := by
  rw [List.map_append]
  refine ⟨?_, ?_⟩
  · simp
  · simp
/-! how many words -/
mutual
theorem wtoks_len : ∀ {c : Ci}, c.wf = true → (wtoks c).length + 3 ≤ 4 * c.size
  | .eye n, _ => by rw [wtoks, Ci.size]; exact (show 1 + 3 ≤ 4 * 1 by decide)
  | .node k ps, h => by
    have hw := wf_node.mp h
    have hne : ps ≠ [] := by
      intro z
      rw [z] at hw
      simp at hw
    have r := toksN_len (k := k) (ps := ps) (fun c hc => (hw.2.1 c hc).1) hne
    have h2 := hw.1
    rw [wtoks, Ci.size, List.length_cons, List.length_append]
    simp
    omega
theorem toksN_len : ∀ {k : Bool} {ps : List Ci}, (∀ c ∈ ps, c.wf = true) → ps ≠ [] → (toksN k ps).length + 2 * ps.length + 1 ≤ 4 * sizes ps
  | _, [], _, h => absurd rfl h
  | k, [c], h, _ => by
    have r := wtoks_len (h c List.mem_cons_self)
    rw [toksN, sizes_one]
    simp
    omega
  | k, c :: d :: cs, h, _ => by
    have r1 := wtoks_len (h c List.mem_cons_self)
    have r2 := toksN_len (k := k) (ps := d :: cs) (fun e he => h e (List.mem_cons_of_mem _ he)) (by simp)
    rw [toksN, sizes, List.length_append, List.length_cons, List.length_cons]
    omega
end
theorem toks_len {c : Ci} (h : Fit c) : (toks c).length ≤ 240 := by
  have hs := h.size
  cases c with
  | eye n => rw [toks]; exact (show 1 ≤ 240 by decide)
  | node k ps =>
    have hw := wf_node.mp h.wf
    have hne : ps ≠ [] := by
      intro z
      rw [z] at hw
      simp at hw
    have r := toksN_len (k := k) (ps := ps) (fun c hc => (hw.2.1 c hc).1) hne
    rw [Ci.size] at hs
    rw [toks]
    omega
end LR

/-! Own words: what a circle always tells, and the table Order. -/
namespace LD
open PySem PySem.Spec PyProof.Rows L2 LL LC
/-! ### the order of circles -/
inductive Le : Ci → Ci → Prop
  | eye (n : Str) : Le (.eye n) (.eye n)
  | lc {ps : List Ci} {d : Ci} (h : ∀ p ∈ ps, Le p d) : Le (.node false ps) d
  | rp {c : Ci} {qs : List Ci} (h : ∀ q ∈ qs, Le c q) : Le c (.node true qs)
  | lp {ps : List Ci} {p d : Ci} (hp : p ∈ ps) (h : Le p d) : Le (.node true ps) d
  | rc {qs : List Ci} {c q : Ci} (hq : q ∈ qs) (h : Le c q) : Le c (.node false qs)
theorem Le.refl (c : Ci) : Le c c := by
  match c with
  | .eye n => exact .eye n
  | .node true ps => exact .rp fun q hq => .lp hq (Le.refl q)
  | .node false ps => exact .lc fun q hq => .rc hq (Le.refl q)
termination_by sizeOf c
decreasing_by
  all_goals
    have := List.sizeOf_lt_of_mem hq
    simp only [Ci.node.sizeOf_spec]
    omega
theorem Le.inv_lc {c d : Ci} (h : Le c d) : ∀ ps, c = .node false ps → ∀ p ∈ ps, Le p d := by
  induction h with
  | eye n => intro ps e; cases e
  | lc h ih => intro ps e p hp; cases e; exact h p hp
  | rp h ih => intro ps e p hp; exact .rp fun q hq => ih q hq ps e p hp
  | lp hp h ih => intro ps e; cases e
  | rc hq h ih => intro ps e p hp; exact .rc hq (ih ps e p hp)
theorem Le.inv_rp {c d : Ci} (h : Le c d) : ∀ qs, d = .node true qs → ∀ q ∈ qs, Le c q := by
  induction h with
  | eye n => intro ps e; cases e
  | lc h ih => intro qs e q hq; exact .lc fun p hp => ih p hp qs e q hq
  | rp h ih => intro qs e q hq; cases e; exact h q hq
  | lp hp h ih => intro qs e q hq; exact .lp hp (ih qs e q hq)
  | rc hq h ih => intro qs e; cases e
theorem Le.trans_ : ∀ (n : Nat) {a b c : Ci}, sizeOf a + sizeOf b + sizeOf c ≤ n → Le a b → Le b c → Le a c := by
  intro n
  induction n with
  | zero =>
    intro a b c hn
    cases a <;> simp only [Ci.node.sizeOf_spec, Ci.eye.sizeOf_spec] at hn <;> omega
  | succ n ih =>
    intro a b c hn h1 h2
    cases h1 with
    | eye m => exact h2
    | @lc ps _ h =>
      refine .lc fun p hp => ih (b := b) ?_ (h p hp) h2
      have := List.sizeOf_lt_of_mem hp
      simp only [Ci.node.sizeOf_spec] at hn
      omega
    | @lp ps p _ hp h =>
      refine .lp hp (ih (b := b) ?_ h h2)
      have := List.sizeOf_lt_of_mem hp
      simp only [Ci.node.sizeOf_spec] at hn
      omega
    | @rc qs _ q hq h =>
      refine ih (b := q) ?_ h (h2.inv_lc qs rfl q hq)
      have := List.sizeOf_lt_of_mem hq
      simp only [Ci.node.sizeOf_spec] at hn
      omega
    | @rp _ qs h =>
      cases h2 with
      | @rp _ rs k =>
        refine .rp fun r hr => ih (b := .node true qs) ?_ (.rp h) (k r hr)
        have := List.sizeOf_lt_of_mem hr
        simp only [Ci.node.sizeOf_spec] at hn ⊢
        omega
      | @lp _ q _ hq k =>
        refine ih (b := q) ?_ (h q hq) k
        have := List.sizeOf_lt_of_mem hq
        simp only [Ci.node.sizeOf_spec] at hn
        omega
      | @rc rs _ r hr k =>
        refine .rc hr (ih (b := .node true qs) ?_ (.rp h) k)
        have := List.sizeOf_lt_of_mem hr
        simp only [Ci.node.sizeOf_spec] at hn ⊢
        omega
theorem Le.trans {a b c : Ci} (h : Le a b) (k : Le b c) : Le a c := Le.trans_ _ (Nat.le_refl _) h k
/-- what tells answers -/
noncomputable def leB (c d : Ci) : Bool := @decide (Le c d) (Classical.propDecidable _)
theorem leB_iff {c d : Ci} : leB c d = true ↔ Le c d := by
  unfold leB
  exact @decide_eq_true_iff _ (Classical.propDecidable _)
theorem leB_self (c : Ci) : leB c c = true := leB_iff.mpr (Le.refl c)
def isCom : Ci → Bool
  | .node false _ => true
  | _ => false
def isPool : Ci → Bool
  | .node true _ => true
  | _ => false
theorem le_com {c d : Ci} (h : isCom c = true) : Le c d ↔ ∀ p ∈ c.parts, Le p d := by
  match c, h with
  | .node false ps, _ => exact ⟨fun k => k.inv_lc ps rfl, .lc⟩
theorem le_pool {c d : Ci} (h : isPool d = true) : Le c d ↔ ∀ q ∈ d.parts, Le c q := by
  match d, h with
  | .node true qs, _ => exact ⟨fun k => k.inv_rp qs rfl, .rp⟩
theorem le_rest {c d : Ci} (hc : isCom c = false) (hd : isPool d = false) (hne : c ≠ d) : Le c d ↔ (∃ p ∈ c.parts, Le p d) ∨ ∃ q ∈ d.parts, Le c q := by
  constructor
  · intro k
    cases k with
    | eye n => exact absurd rfl hne
    | lc h => cases hc
    | rp h => cases hd
    | lp hp h => exact .inl ⟨_, hp, h⟩
    | rc hq h => exact .inr ⟨_, hq, h⟩
  · rintro (⟨p, hp, h⟩ | ⟨q, hq, h⟩)
    · match c, hc with
      | .node true ps, _ => exact .lp hp h
      | .eye n, _ => cases hp
    · match d, hd with
      | .node false qs, _ => exact .rc hq h
      | .eye n, _ => cases hq

/-! ### the table on the heap -/
structure OA where
  dx : Addr
  k : Addr
  p : Addr
  t : Addr
  n : Addr
  m : Addr
def OA.all (A : OA) : List Addr := [A.k, A.p, A.t, A.n, A.m]
def ofs (A : OA) : List (Str × V) := [("_kinds", .ref A.k), ("_parts", .ref A.p), ("_texts", .ref A.t), ("_numbers", .ref A.n), ("_known", .ref A.m)]
/-- all but the table's own lists and dicts stays -/
def Ko (A : OA) (H H' : Hp) : Prop := ∀ a o, a ∉ A.all → H a = some o → H' a = some o
theorem Ko.refl (A : OA) (H : Hp) : Ko A H H := fun _ _ _ h => h
theorem Ko.trans {A : OA} {H H1 H2 : Hp} (h : Ko A H H1) (k : Ko A H1 H2) : Ko A H H2 := fun a o n e => k a o n (h a o n e)
theorem Ko.of {A : OA} {H H' : Hp} (h : Same H H') : Ko A H H' := fun a o _ e => h a o e
theorem Ko.upd {A : OA} {H H' : Hp} {a : Addr} {o : HO} (h : Ko A H H') (ha : a ∈ A.all) : Ko A H (upd H' a o) := fun b u n e => by
  rw [upd_ne (fun z => n (by rw [z]; exact ha))]
  exact h b u n e
/-- the place of a text -/
def tix (T : List Ci) (z : Str) : Option V := ((T.map Ci.text).idxOf? z).map fun i => V.int ((i : Nat) : Int)
structure OrdS (C : Addr) (H : Hp) (x : Addr) (A : OA) (T : List Ci) (rows : List Addr) : Prop where
  hx : H x = some (.ins C A.dx (ofs A))
  nd : A.all.Nodup
  hk : H A.k = some (.lst (T.map fun c => .str c.kind))
  hp : H A.p = some (.lst (rows.map V.ref))
  ht : H A.t = some (.lst (T.map fun c => .str c.text))
  hn : ∃ kvs, H A.n = some (.dK kvs) ∧ kvs.length ≤ T.length ∧ ∀ z, valV kvs (.inr z) = tix T z
  hm : ∃ kvs : List (List Key × V), H A.m = some (.dT kvs) ∧ (kvs.map (·.1)).Nodup ∧ (∀ kv ∈ kvs, ∃ i j : Nat, kv.1 = [.inl ((i : Nat) : Int), .inl ((j : Nat) : Int)] ∧ ∃ c d, T[i]? = some c ∧ T[j]? = some d ∧ kv.2 = .bl (leB c d))
  rl : rows.length = T.length
  hr : ∀ (i : Nat) (a : Addr) (c : Ci), rows[i]? = some a → T[i]? = some c → a ∉ A.all ∧ ∃ js : List Nat, H a = some (.lst (js.map fun j => V.int ((j : Nat) : Int))) ∧ js.map (fun j => T[j]?) = c.parts.map some
  fit : ∀ c ∈ T, Fit c
  tn : (T.map Ci.text).Nodup
  sz : T.length ≤ 4000
section
variable {C : Addr} {H H' : Hp} {x : Addr} {A : OA} {T : List Ci} {rows : List Addr}
theorem OrdS.xn (h : OrdS C H x A T rows) : x ∉ A.all := by
  intro z
  have hx := h.hx
  obtain ⟨kv, hn, _⟩ := h.hn
  obtain ⟨kv2, hm, _⟩ := h.hm
  have hk := h.hk
  have hp := h.hp
  have ht := h.ht
  unfold OA.all at z
  simp only [List.mem_cons, List.not_mem_nil, or_false] at z
  rcases z with z | z | z | z | z
  · rw [z, hk] at hx; cases hx
  · rw [z, hp] at hx; cases hx
  · rw [z, ht] at hx; cases hx
  · rw [z, hn] at hx; cases hx
  · rw [z, hm] at hx; cases hx
theorem OrdS.same (h : OrdS C H x A T rows) (s : Same H H') : OrdS C H' x A T rows := by
  obtain ⟨kv, hn, hn2⟩ := h.hn
  obtain ⟨kv2, hm, hm2⟩ := h.hm
  refine ⟨s _ _ h.hx, h.nd, s _ _ h.hk, s _ _ h.hp, s _ _ h.ht, ⟨kv, s _ _ hn, hn2⟩, ⟨kv2, s _ _ hm, hm2⟩, h.rl, fun i a c h1 h2 => ?_, h.fit, h.tn, h.sz⟩
  obtain ⟨h3, js, h4, h5⟩ := h.hr i a c h1 h2
  exact ⟨h3, js, s _ _ h4, h5⟩
/-- what stands outside changes, too -/
theorem OrdS.out (h : OrdS C H x A T rows) (s : ∀ a o, (a = x ∨ a ∈ A.all ∨ a ∈ rows) → H a = some o → H' a = some o) : OrdS C H' x A T rows := by
  obtain ⟨kv, hn, hn2⟩ := h.hn
  obtain ⟨kv2, hm, hm2⟩ := h.hm
  refine ⟨s _ _ (.inl rfl) h.hx, h.nd, s _ _ (.inr (.inl (by simp [OA.all]))) h.hk, s _ _ (.inr (.inl (by simp [OA.all]))) h.hp, s _ _ (.inr (.inl (by simp [OA.all]))) h.ht, ⟨kv, s _ _ (.inr (.inl (by simp [OA.all]))) hn, hn2⟩, ⟨kv2, s _ _ (.inr (.inl (by simp [OA.all]))) hm, hm2⟩, h.rl, fun i a c h1 h2 => ?_, h.fit, h.tn, h.sz⟩
  obtain ⟨h3, js, h4, h5⟩ := h.hr i a c h1 h2
  exact ⟨h3, js, s _ _ (.inr (.inr (List.mem_of_getElem? h1))) h4, h5⟩
theorem OrdS.kc (h : OrdS C H x A T rows) (k : Ko A H H') {D : Addr} : Kc D H H' := by
  obtain ⟨kv, hn, _⟩ := h.hn
  obtain ⟨kv2, hm, _⟩ := h.hm
  have key : ∀ a ∈ A.all, (∀ C dx fs, H a ≠ some (.ins C dx fs)) ∧ ∀ xs, H a ≠ some (.tup xs) := by
    intro a z
    unfold OA.all at z
    simp only [List.mem_cons, List.not_mem_nil, or_false] at z
    rcases z with rfl | rfl | rfl | rfl | rfl
    · rw [h.hk]; exact ⟨fun _ _ _ z => (by cases z), fun _ z => (by cases z)⟩
    · rw [h.hp]; exact ⟨fun _ _ _ z => (by cases z), fun _ z => (by cases z)⟩
    · rw [h.ht]; exact ⟨fun _ _ _ z => (by cases z), fun _ z => (by cases z)⟩
    · rw [hn]; exact ⟨fun _ _ _ z => (by cases z), fun _ z => (by cases z)⟩
    · rw [hm]; exact ⟨fun _ _ _ z => (by cases z), fun _ z => (by cases z)⟩
  exact ⟨fun a dx fs _ e => k a _ (fun z => (key a z).1 _ _ _ e) e, fun a xs e => k a _ (fun z => (key a z).2 _ e) e⟩
theorem OrdS.fresh (h : OrdS C H x A T rows) {p : Addr} (hp : H p = none) : p ∉ A.all := by
  intro z
  obtain ⟨kv, hn, _⟩ := h.hn
  obtain ⟨kv2, hm, _⟩ := h.hm
  unfold OA.all at z
  simp only [List.mem_cons, List.not_mem_nil, or_false] at z
  rcases z with rfl | rfl | rfl | rfl | rfl
  · rw [h.hk] at hp; cases hp
  · rw [h.hp] at hp; cases hp
  · rw [h.ht] at hp; cases hp
  · rw [hn] at hp; cases hp
  · rw [hm] at hp; cases hp
theorem tix_some {z : Str} {v : V} (h : tix T z = some v) : ∃ i c, v = .int ((i : Nat) : Int) ∧ T[i]? = some c ∧ c.text = z := by
  unfold tix at h
  obtain ⟨i, h1, h2⟩ := Option.map_eq_some_iff.mp h
  have h3 := List.idxOf?_eq_some_iff.mp h1
  obtain ⟨hi, h4, h5⟩ := h3
  rw [List.length_map] at hi
  rw [List.getElem_map] at h4
  exact ⟨i, T[i], h2.symm, List.getElem?_eq_getElem hi, by simpa using h4⟩
theorem tix_none {z : Str} : tix T z = none ↔ z ∉ T.map Ci.text := by
  unfold tix
  rw [Option.map_eq_none_iff, List.idxOf?_eq_none_iff]
theorem tix_at (tn : (T.map Ci.text).Nodup) {i : Nat} {c : Ci} (h : T[i]? = some c) : tix T c.text = some (.int ((i : Nat) : Int)) := by
  have h0 : (T.map Ci.text)[i]? = some c.text := by rw [List.getElem?_map, h]; rfl
  cases e : tix T c.text with
  | none => exact absurd (List.mem_of_getElem? h0) (tix_none.mp e)
  | some v =>
    obtain ⟨j, d, h1, h2, h3⟩ := tix_some e
    have hj : (T.map Ci.text)[j]? = some c.text := by rw [List.getElem?_map, h2, ← h3]; rfl
    have e2 : i = j := by
      obtain ⟨hi, gi⟩ := List.getElem?_eq_some_iff.mp h0
      obtain ⟨hj2, gj⟩ := List.getElem?_eq_some_iff.mp hj
      exact (List.getElem_inj tn).mp (gi.trans gj.symm)
    rw [h1, e2]
theorem tix_snoc {c : Ci} {z : Str} (hn : c.text ∉ T.map Ci.text) : tix (T ++ [c]) z = if z = c.text then some (.int ((T.length : Nat) : Int)) else tix T z := by
  unfold tix List.idxOf?
  rw [List.map_append, List.findIdx?_append]
  change Option.map (fun i : Nat => V.int (i : Int)) (((T.map Ci.text).idxOf? z).or (((List.map Ci.text [c]).idxOf? z).map fun i => i + (T.map Ci.text).length)) = if z = c.text then _ else Option.map (fun i : Nat => V.int (i : Int)) ((T.map Ci.text).idxOf? z)
  by_cases e : z = c.text
  · rw [if_pos e]
    subst e
    rw [List.idxOf?_eq_none_iff.mpr hn]
    simp [List.idxOf?_cons]
  · rw [if_neg e]
    have e2 : (List.map Ci.text [c]).idxOf? z = none := by
      rw [List.idxOf?_eq_none_iff]
      simpa using e
    rw [e2]
    cases (List.map Ci.text T).idxOf? z <;> rfl
theorem getElem?_pre {α : Type} {T T' : List α} (p : T <+: T') {i : Nat} {c : α} (h : T[i]? = some c) : T'[i]? = some c := by
  obtain ⟨r, rfl⟩ := p
  have hi : i < T.length := (List.getElem?_eq_some_iff.mp h).1
  rw [List.getElem?_append_left hi]
  exact h
/-- one circle more -/
theorem OrdS.add (h : OrdS C H x A T rows) {c : Ci} {js : List Nat} {a : Addr} {kvs : List (Key × V)} (ha : H a = some (.lst (js.map fun j => V.int ((j : Nat) : Int)))) (hj : js.map (fun j => T[j]?) = c.parts.map some) (na : a ∉ A.all)
    (nt : c.text ∉ T.map Ci.text) (hf : Fit c) (hl : T.length < 4000) (hkv : H A.n = some (.dK kvs)) :
    OrdS C (upd (upd (upd (upd H A.n (.dK (putK kvs (.inr c.text) (.int ((T.length : Nat) : Int))))) A.k (.lst (T.map (fun c => V.str c.kind) ++ [.str c.kind]))) A.p (.lst (rows.map V.ref ++ [.ref a]))) A.t (.lst (T.map (fun c => V.str c.text) ++ [.str c.text]))) x A (T ++ [c]) (rows ++ [a]) := by
  obtain ⟨kv, hn, hn2, hn3⟩ := h.hn
  obtain ⟨kv2, hm, hm2, hm3⟩ := h.hm
  have nd := h.nd
  have e0 : kv = kvs := by
    rw [hn] at hkv
    cases hkv
    rfl
  subst e0
  have xn := h.xn
  unfold OA.all at nd xn
  simp only [List.nodup_cons, List.mem_cons, List.not_mem_nil, or_false, not_or, List.nodup_nil, and_true] at nd xn
  obtain ⟨⟨n1, n2, n3, n4⟩, ⟨n5, n6, n7⟩, ⟨n8, n9⟩, n10, n11⟩ := nd
  obtain ⟨x1, x2, x3, x4, x5⟩ := xn
  have out : ∀ {b : Addr} {o : HO}, b ∉ A.all → H b = some o → (upd (upd (upd (upd H A.n (.dK (putK kv (.inr c.text) (.int ((T.length : Nat) : Int))))) A.k (.lst (T.map (fun c => V.str c.kind) ++ [.str c.kind]))) A.p (.lst (rows.map V.ref ++ [.ref a]))) A.t (.lst (T.map (fun c => V.str c.text) ++ [.str c.text]))) b = some o := by
    intro b o nb e
    unfold OA.all at nb
    simp only [List.mem_cons, List.not_mem_nil, or_false, not_or] at nb
    obtain ⟨b1, b2, b3, b4, b5⟩ := nb
    rw [upd_ne b3, upd_ne b2, upd_ne b1, upd_ne b4]
    exact e
  have pre : ∀ {js : List Nat} {d : Ci}, js.map (fun j => T[j]?) = d.parts.map some → js.map (fun j => (T ++ [c])[j]?) = d.parts.map some := by
    intro js d e
    rw [← e]
    refine List.map_congr_left fun j hj => ?_
    have q : T[j]? ∈ d.parts.map some := by rw [← e]; exact List.mem_map.mpr ⟨j, hj, rfl⟩
    obtain ⟨p, _, hp⟩ := List.mem_map.mp q
    rw [← hp]
    exact getElem?_pre (List.prefix_append T [c]) hp.symm
  refine ⟨?_, h.nd, ?_, ?_, ?_, ⟨putK kv (.inr c.text) (.int ((T.length : Nat) : Int)), ?_, ?_, fun z => ?_⟩, ⟨kv2, ?_, hm2, fun q hq => ?_⟩, ?_, fun i b d h1 h2 => ?_, fun d hd => ?_, ?_, ?_⟩
  · rw [upd_ne x3, upd_ne x2, upd_ne x1, upd_ne x4]
    exact h.hx
  · rw [upd_ne n2, upd_ne n1, upd_same, List.map_append]
    rfl
  · rw [upd_ne n5, upd_same, List.map_append]
    rfl
  · rw [upd_same, List.map_append]
    rfl
  · rw [upd_ne (Ne.symm n8), upd_ne (Ne.symm n6), upd_ne (Ne.symm n3), upd_same]
  · have z := length_putK kv (.inr c.text) (.int ((T.length : Nat) : Int))
    rw [List.length_append]
    simp
    omega
  · rw [valV_put, tix_snoc nt]
    by_cases e : z = c.text
    · rw [if_pos (by rw [e]), if_pos e]
    · rw [if_neg (fun q => e (Sum.inr.inj q)), if_neg e]
      exact hn3 z
  · rw [upd_ne (Ne.symm n9), upd_ne (Ne.symm n7), upd_ne (Ne.symm n4), upd_ne (Ne.symm n10)]
    exact hm
  · obtain ⟨i, j, e1, c1, d1, g1, g2, g3⟩ := hm3 q hq
    exact ⟨i, j, e1, c1, d1, getElem?_pre (List.prefix_append T [c]) g1, getElem?_pre (List.prefix_append T [c]) g2, g3⟩
  · rw [List.length_append, List.length_append, h.rl]
    rfl
  · by_cases hi : i < T.length
    · rw [List.getElem?_append_left hi] at h2
      rw [List.getElem?_append_left (by rw [h.rl]; exact hi)] at h1
      obtain ⟨q1, js1, q2, q3⟩ := h.hr i b d h1 h2
      exact ⟨q1, js1, out q1 q2, pre q3⟩
    · have hi2 : i = T.length := by
        have := (List.getElem?_eq_some_iff.mp h2).1
        rw [List.length_append] at this
        simp at this
        omega
      subst hi2
      rw [List.getElem?_concat_length] at h2
      rw [← h.rl, List.getElem?_concat_length] at h1
      cases h1
      cases h2
      exact ⟨na, js, out na ha, pre hj⟩
  · rcases List.mem_append.mp hd with z | z
    · exact h.fit d z
    · rw [List.mem_singleton.mp z]
      exact hf
  · rw [List.map_append, List.nodup_append]
    refine ⟨h.tn, by simp, fun y hy z hz => ?_⟩
    rw [List.map_singleton, List.mem_singleton] at hz
    rw [hz]
    exact fun e => nt (by rw [← e]; exact hy)
  · rw [List.length_append]
    simp
    omega
theorem putK_keys {κ : Type} [DecidableEq κ] {kvs : List (κ × V)} {k : κ} {v : V} (h : (kvs.map (·.1)).Nodup) : ((putK kvs k v).map (·.1)).Nodup := by
  unfold putK
  split
  · rw [List.map_map]
    have e : (fun kv : κ × V => kv.1) ∘ (fun kv : κ × V => if kv.1 = k then (kv.1, v) else kv) = fun kv => kv.1 := by
      funext kv
      show (if kv.1 = k then (kv.1, v) else kv).1 = kv.1
      split <;> rfl
    rw [e]
    exact h
  · rename_i q
    rw [List.map_append, List.nodup_append]
    refine ⟨h, by simp, fun y hy z hz => ?_⟩
    rw [List.map_singleton, List.mem_singleton] at hz
    rw [hz]
    intro e
    obtain ⟨kv, h1, h2⟩ := List.mem_map.mp hy
    exact q (List.any_eq_true.mpr ⟨kv, h1, decide_eq_true (h2.trans e)⟩)
theorem mem_putK {κ : Type} [DecidableEq κ] {kvs : List (κ × V)} {k : κ} {v : V} {q : κ × V} (h : q ∈ putK kvs k v) : q = (k, v) ∨ q ∈ kvs := by
  unfold putK at h
  split at h
  · obtain ⟨kv, h1, h2⟩ := List.mem_map.mp h
    split at h2
    · rename_i e
      left
      rw [← h2, e]
    · right
      rw [← h2]
      exact h1
  · rcases List.mem_append.mp h with z | z
    · exact .inr z
    · exact .inl (List.mem_singleton.mp z)
theorem valV_mem {κ : Type} [DecidableEq κ] {kvs : List (κ × V)} {k : κ} {v : V} (h : valV kvs k = some v) : (k, v) ∈ kvs := by
  unfold valV at h
  obtain ⟨kv, h1, h2⟩ := Option.map_eq_some_iff.mp h
  have h3 := List.find?_some h1
  have h4 := List.mem_of_find?_eq_some h1
  have h5 : kv.1 = k := by simpa using h3
  rw [← h5, ← h2]
  exact h4
/-- keys of two numbers below n are few -/
theorem keys_len {ks : List (List Key)} (nd : ks.Nodup) {n : Nat} (h : ∀ k ∈ ks, ∃ i j : Nat, k = [.inl ((i : Nat) : Int), .inl ((j : Nat) : Int)] ∧ i < n ∧ j < n) : ks.length ≤ n * n := by
  have sub := nodup_len (m := (List.range n).flatMap fun i => (List.range n).map fun j => ([.inl ((i : Nat) : Int), .inl ((j : Nat) : Int)] : List Key)) nd (fun k hk => by
    obtain ⟨i, j, e, hi, hj⟩ := h k hk
    rw [List.mem_flatMap]
    exact ⟨i, List.mem_range.mpr hi, List.mem_map.mpr ⟨j, List.mem_range.mpr hj, e.symm⟩⟩)
  refine Nat.le_trans sub (Nat.le_of_eq ?_)
  rw [List.length_flatMap]
  have e : ∀ l : List Nat, (l.map fun _ => n).sum = l.length * n := fun l => by
    induction l with
    | nil => simp
    | cons a l ih => rw [List.map_cons, List.sum_cons, ih, List.length_cons, Nat.succ_mul]; omega
  simp only [List.length_map, List.length_range]
  rw [e, List.length_range]
theorem OrdS.known (h : OrdS C H x A T rows) : ∃ kvs, H A.m = some (.dT kvs) ∧ kvs.length < sizeLine ∧ (∀ (i j : Nat) (c d : Ci) (v : V), T[i]? = some c → T[j]? = some d → valV kvs [.inl ((i : Nat) : Int), .inl ((j : Nat) : Int)] = some v → v = .bl (leB c d)) ∧
    ∀ (i j : Nat) (c d : Ci), T[i]? = some c → T[j]? = some d → OrdS C (upd H A.m (.dT (putK kvs [.inl ((i : Nat) : Int), .inl ((j : Nat) : Int)] (.bl (leB c d))))) x A T rows := by
  obtain ⟨kv, hn, hn2, hn3⟩ := h.hn
  obtain ⟨kvs, hm, hm2, hm3⟩ := h.hm
  refine ⟨kvs, hm, ?_, fun i j c d v hi hj e => ?_, fun i j c d hi hj => ?_⟩
  · have z := keys_len hm2 (n := T.length) (fun k hk => by
      obtain ⟨q, hq, e⟩ := List.mem_map.mp hk
      obtain ⟨i, j, e1, c, d, g1, g2, _⟩ := hm3 q hq
      exact ⟨i, j, by rw [← e, e1], (List.getElem?_eq_some_iff.mp g1).1, (List.getElem?_eq_some_iff.mp g2).1⟩)
    rw [List.length_map] at z
    have z2 : T.length * T.length ≤ 4000 * 4000 := Nat.mul_le_mul h.sz h.sz
    rw [sizeLine_eq]
    omega
  · obtain ⟨i', j', e1, c', d', g1, g2, g3⟩ := hm3 _ (valV_mem e)
    have e2 : (i : Int) = i' ∧ (j : Int) = j' := by simpa using e1
    have e3 : i = i' := by omega
    have e4 : j = j' := by omega
    subst e3
    subst e4
    rw [hi] at g1
    rw [hj] at g2
    cases g1
    cases g2
    exact g3
  · have nd := h.nd
    have xn := h.xn
    unfold OA.all at nd xn
    simp only [List.nodup_cons, List.mem_cons, List.not_mem_nil, or_false, not_or, List.nodup_nil, and_true] at nd xn
    obtain ⟨⟨n1, n2, n3, n4⟩, ⟨n5, n6, n7⟩, ⟨n8, n9⟩, n10, n11⟩ := nd
    obtain ⟨x1, x2, x3, x4, x5⟩ := xn
    refine ⟨by rw [upd_ne x5]; exact h.hx, h.nd, by rw [upd_ne n4]; exact h.hk, by rw [upd_ne n7]; exact h.hp, by rw [upd_ne n9]; exact h.ht, ⟨kv, by rw [upd_ne n10]; exact hn, hn2, hn3⟩, ⟨_, upd_same, putK_keys hm2, fun q hq => ?_⟩, h.rl, fun a b e h1 h2 => ?_, h.fit, h.tn, h.sz⟩
    · rcases mem_putK hq with z | z
      · rw [z]
        exact ⟨i, j, rfl, c, d, hi, hj, rfl⟩
      · exact hm3 q z
    · obtain ⟨q1, js, q2, q3⟩ := h.hr a b e h1 h2
      refine ⟨q1, js, ?_, q3⟩
      rw [upd_ne (fun z => q1 (by rw [z]; simp [OA.all]))]
      exact q2
end
/-! ### comprehensions that carry a state -/
section
variable {J : It} {n : Nat} {G : Hp → Prop} {Y : Nat → Hp → V → Hp → Prop} {g : TG} {te : TE} {vs : List Nat} {σ : L2.St} {H1 : Hp} {D : Addr} {Qd : Hp → Prop}
theorem lc_st (w : Walk J n G Y) (R : Nat → List V → Hp → Prop) (hn : n ≤ 1000000) (hG : ∀ i acc H, H D = some (.lst acc) → R i acc H → G H) (r0 : R 0 [] (upd H1 D (.lst [])))
    (hs : ∀ (i : Nat) (x : V) (H H' : Hp) (acc : List V) (Nx : VK), i < n → H D = some (.lst acc) → acc.length = i → R i acc H → Y i H x H' → (∀ y H4, H4 D = some (.lst acc) → R (i + 1) (acc ++ [y]) (upd H4 D (.lst (acc ++ [y]))) → Nx y H4) →
      g x (wipe σ vs) H' fun σ2 H2 => wipe σ2 vs = wipe σ vs ∧ te σ2 H2 Nx)
    (hd : ∀ H acc, H D = some (.lst acc) → acc.length = n → R n acc H → Qd H) :
    ∃ W : Nat → Nat → Hp → Prop, (∃ m, W 0 m (upd H1 D (.lst []))) ∧ ∀ i m H, W i m H →
      (J.stop i H ∧ Qd H) ∨ (J.go i H ∧ ∃ Nx : Hp → Prop, (∀ H', Nx H' → ∃ m', m' < m ∧ W (i + 1) m' H') ∧ ∀ x H', J.yld i H x H' → g x (wipe σ vs) H' fun σ2 H2 => wipe σ2 vs = wipe σ vs ∧ tYes σ2 H2 fun b H3 =>
        if b = true then te σ2 H3 fun y H4 => ∃ acc, H4 D = some (.lst acc) ∧ acc.length < sizeLine ∧ Nx (upd H4 D (.lst (acc ++ [y]))) else Nx H3) := by
  refine lc_it w (fun i H => ∃ acc, H D = some (.lst acc) ∧ acc.length = i ∧ R i acc H) ⟨[], upd_same, rfl, r0⟩ (fun i H _ p => ?_) ?_ (fun H p => ?_)
  · obtain ⟨acc, h1, _, h3⟩ := p
    exact hG i acc H h1 h3
  · rintro i x H H' hi ⟨acc, h1, h2, h3⟩ hy
    rw [tYes_eq (fun i H => ∃ acc, H D = some (.lst acc) ∧ acc.length = i ∧ R i acc H)]
    refine hs i x H H' acc _ hi h1 h2 h3 hy fun y H4 h4 r4 => ⟨acc, h4, ?_, acc ++ [y], upd_same, ?_, r4⟩
    · rw [h2]
      exact Nat.lt_of_lt_of_le (Nat.lt_of_lt_of_le hi hn) (by decide)
    · rw [List.length_append, h2]
      rfl
  · obtain ⟨acc, h1, h2, h3⟩ := p
    exact hd H acc h1 h2 h3
end
end LD

/-! Own words: the laws' own circles, tuples of kind, parts, text. -/
namespace LN
open PySem PySem.Spec PyProof.Rows L2 LL LC LR LD
mutual
inductive Nd (H : Hp) : V → Ci → Prop
  | eye {a : Addr} {n : Str} (h : H a = some (.tup [.str "eye", .str n, .str n])) : Nd H (.ref a) (.eye n)
  | node {a b : Addr} {k : Bool} {rows : List V} {ps : List Ci} (h : H a = some (.tup [.str (kS k), .ref b, .str (Ci.node k ps).text])) (hb : H b = some (.tup rows)) (hr : Nds H rows ps) : Nd H (.ref a) (.node k ps)
inductive Nds (H : Hp) : List V → List Ci → Prop
  | nil : Nds H [] []
  | cons {v : V} {vs : List V} {c : Ci} {cs : List Ci} (h : Nd H v c) (t : Nds H vs cs) : Nds H (v :: vs) (c :: cs)
end
/-- tuples stay -/
def Kt (H H' : Hp) : Prop := ∀ a xs, H a = some (.tup xs) → H' a = some (.tup xs)
section
variable {H H' H2 : Hp}
theorem Kt.refl : Kt H H := fun _ _ h => h
theorem Kt.trans (h : Kt H H') (k : Kt H' H2) : Kt H H2 := fun a xs e => k a xs (h a xs e)
theorem Kt.of (s : Same H H') : Kt H H' := fun _ _ e => s _ _ e
theorem Kt.kp {b : Addr} (k : Kp b H H') (B : Bag H b) : Kt H H' := (Kc.kp (C := b) k B).2
theorem Kt.put {a : Addr} {u o : HO} (e : H a = some u) (n : ∀ xs, u ≠ .tup xs) : Kt H (upd H a o) := by
  intro b xs h
  rw [upd_ne (fun z => n _ (Option.some.inj (e.symm.trans (z ▸ h))))]
  exact h
theorem Kt.new {p : Addr} {o : HO} (n : H p = none) : Kt H (upd H p o) := Kt.of (same_upd n)
mutual
theorem nd_mono (k : Kt H H') : ∀ {v : V} {c : Ci}, Nd H v c → Nd H' v c
  | _, _, .eye h => .eye (k _ _ h)
  | _, _, .node h hb hr => .node (k _ _ h) (k _ _ hb) (nds_mono k hr)
theorem nds_mono (k : Kt H H') : ∀ {vs : List V} {cs : List Ci}, Nds H vs cs → Nds H' vs cs
  | _, _, .nil => .nil
  | _, _, .cons h t => .cons (nd_mono k h) (nds_mono k t)
end
theorem nds_len : ∀ {vs : List V} {cs : List Ci}, Nds H vs cs → vs.length = cs.length
  | _, _, .nil => rfl
  | _, _, .cons _ t => congrArg Nat.succ (nds_len t)
theorem nds_get : ∀ {vs : List V} {cs : List Ci} {i : Nat} {v : V}, Nds H vs cs → vs[i]? = some v → ∃ c, cs[i]? = some c ∧ Nd H v c
  | _, _, 0, _, .cons h t, e => by
    simp at e
    subst e
    exact ⟨_, rfl, h⟩
  | _, _, i + 1, _, .cons h t, e => by
    obtain ⟨c, h1, h2⟩ := nds_get (i := i) t (by simpa using e)
    exact ⟨c, by simpa using h1, h2⟩
theorem nds_get2 : ∀ {vs : List V} {cs : List Ci} {i : Nat} {c : Ci}, Nds H vs cs → cs[i]? = some c → ∃ v, vs[i]? = some v ∧ Nd H v c
  | _, _, 0, _, .cons h t, e => by
    simp at e
    subst e
    exact ⟨_, rfl, h⟩
  | _, _, i + 1, _, .cons h t, e => by
    obtain ⟨c, h1, h2⟩ := nds_get2 (i := i) t (by simpa using e)
    exact ⟨c, by simpa using h1, h2⟩
theorem nds_app : ∀ {vs ws : List V} {cs ds : List Ci}, Nds H vs cs → Nds H ws ds → Nds H (vs ++ ws) (cs ++ ds)
  | _, _, _, _, .nil, h => h
  | _, _, _, _, .cons a t, h => .cons a (nds_app t h)
theorem nds_one {v : V} {c : Ci} (h : Nd H v c) : Nds H [v] [c] := .cons h .nil
theorem nds_take : ∀ {vs : List V} {cs : List Ci} (n : Nat), Nds H vs cs → Nds H (vs.take n) (cs.take n)
  | _, _, 0, _ => by rw [List.take_zero, List.take_zero]; exact .nil
  | _, _, n + 1, .nil => .nil
  | _, _, n + 1, .cons h t => .cons h (nds_take n t)
theorem nds_drop : ∀ {vs : List V} {cs : List Ci} (n : Nat), Nds H vs cs → Nds H (vs.drop n) (cs.drop n)
  | _, _, 0, h => by rw [List.drop_zero, List.drop_zero]; exact h
  | _, _, n + 1, .nil => .nil
  | _, _, n + 1, .cons h t => by rw [List.drop_succ_cons, List.drop_succ_cons]; exact nds_drop n t
theorem nds_set : ∀ {vs : List V} {cs : List Ci} (i : Nat) {v : V} {c : Ci}, Nds H vs cs → Nd H v c → Nds H (vs.set i v) (cs.set i c)
  | _, _, _, _, _, .nil, _ => .nil
  | _, _, 0, _, _, .cons h t, e => .cons e t
  | _, _, i + 1, _, _, .cons h t, e => .cons h (nds_set i t e)
end
/-- the three things of a node -/
def third : Ci → V → V
  | .eye n, _ => .str n
  | .node _ _, v => v
theorem nd_ref {H : Hp} {v : V} {c : Ci} (h : Nd H v c) : ∃ a, v = .ref a ∧ ((∃ n, c = .eye n ∧ H a = some (.tup [.str c.kind, .str n, .str c.text])) ∨ ∃ b rows, c.isEye = false ∧ H a = some (.tup [.str c.kind, .ref b, .str c.text]) ∧ H b = some (.tup rows) ∧ Nds H rows c.parts) := by
  cases h with
  | eye h => exact ⟨_, rfl, .inl ⟨_, rfl, by rw [Ci.text]; exact h⟩⟩
  | node h hb hr => exact ⟨_, rfl, .inr ⟨_, _, rfl, h, hb, hr⟩⟩
/-- kind and text stand at 0 and 2 -/
theorem nd_three {H : Hp} {v : V} {c : Ci} (h : Nd H v c) : ∃ a y, v = .ref a ∧ H a = some (.tup [.str c.kind, y, .str c.text]) := by
  obtain ⟨a, rfl, ⟨n, _, e⟩ | ⟨b, rows, _, e, _⟩⟩ := nd_ref h
  · exact ⟨a, _, rfl, e⟩
  · exact ⟨a, _, rfl, e⟩
/-! ### as data -/
mutual
def ndata : Ci → PyData
  | .eye n => .tuple [.str "eye", .str n, .str n]
  | .node k ps => .tuple [.str (kS k), .tuple (ndatas ps), .str (Txt.join (sgn k) (wtexts ps))]
def ndatas : List Ci → List PyData
  | [] => []
  | c :: cs => ndata c :: ndatas cs
end
theorem ndatas_eq : ∀ cs : List Ci, ndatas cs = cs.map ndata
  | [] => by rw [ndatas]; rfl
  | c :: cs => by rw [ndatas, ndatas_eq cs]; rfl
section
variable {K : PySem.W.Frag} {H : Hp}
mutual
theorem nd_dp : ∀ {v : V} {c : Ci}, Nd H v c → Dp K H v (ndata c)
  | _, _, .eye h => by
    rw [ndata]
    exact .tup (sqT_of h) (.cons (.str _) (.cons (.str _) (.cons (.str _) .nil)))
  | _, _, .node h hb hr => by
    rw [Ci.text] at h
    rw [ndata]
    exact .tup (sqT_of h) (.cons (.str _) (.cons (.tup (sqT_of hb) (nds_dp hr)) (.cons (.str _) .nil)))
theorem nds_dp : ∀ {vs : List V} {cs : List Ci}, Nds H vs cs → DpAll K H vs (ndatas cs)
  | _, _, .nil => by rw [ndatas]; exact .nil
  | _, _, .cons h t => by rw [ndatas]; exact .cons (nd_dp h) (nds_dp t)
end
end
theorem sg_join {P : Nat → Prop} {y : Str} {ws : List Str} (hy : Sg P y) (h : ∀ z ∈ ws, Sg P z) : Sg P (Txt.join y ws) := by
  intro c hc
  have e : (Txt.join y ws).cps.toList = TL.joinL (TL.tl y) (ws.map TL.tl) := by
    show TL.tl (Txt.join y ws) = _
    rw [TL.join_eq, TL.tl_join]
  rw [e] at hc
  rcases joinL_mem hc with h1 | ⟨p, h1, h2⟩
  · exact hy c h1
  · obtain ⟨z, hz, e2⟩ := List.mem_map.mp h1
    rw [← e2] at h2
    exact h z hz c h2
theorem sg_all {z : Str} (h : (z.cps.toList.all fun c => decide (c < 128)) = true) : Sg (fun c => c < 128) z := fun c hc => of_decide_eq_true (List.all_eq_true.mp h c hc)
mutual
theorem text_sg : ∀ {c : Ci}, c.wf = true → Sg (fun c => c < 128) c.text
  | .eye n, h => by
    rw [Ci.wf] at h
    unfold isName at h
    rw [Bool.and_eq_true, Bool.and_eq_true] at h
    rw [Ci.text]
    intro c hc
    have z := letter_small (of_decide_eq_true (List.all_eq_true.mp h.2 c hc))
    show c < 128
    omega
  | .node k ps, h => by
    have hw := wf_node.mp h
    rw [Ci.text]
    refine sg_join ?_ (texts_sg fun c hc => (hw.2.1 c hc).1)
    cases k <;> exact sg_all (by decide +kernel)
theorem texts_sg : ∀ {ps : List Ci}, (∀ c ∈ ps, c.wf = true) → ∀ z ∈ wtexts ps, Sg (fun c => c < 128) z
  | [], _, z, hz => by rw [wtexts] at hz; cases hz
  | c :: cs, h, z, hz => by
    rw [wtexts] at hz
    rcases List.mem_cons.mp hz with e | e
    · rw [e]
      have s := text_sg (h c List.mem_cons_self)
      unfold wrap
      split
      · exact s
      · exact sg_append (sg_append (sg_all (by decide +kernel)) s) (sg_all (by decide +kernel))
    · exact texts_sg (fun d hd => h d (List.mem_cons_of_mem _ hd)) z e
end
theorem text_ok {c : Ci} (h : c.wf = true) : PyData.strOk c.text = true := sg_ok (text_sg h)
mutual
theorem ndata_can : ∀ {c : Ci}, c.wf = true → (ndata c).canLay0 = true
  | .eye n, h => by
    have z := text_ok h
    rw [Ci.text] at z
    simp [ndata, PyData.canLay0, PyData.canLayAll0, z]
    decide +kernel
  | .node k ps, h => by
    have z := text_ok h
    rw [Ci.text] at z
    have hw := wf_node.mp h
    have r := ndatas_can (ps := ps) fun c hc => (hw.2.1 c hc).1
    simp [ndata, PyData.canLay0, PyData.canLayAll0, z, r]
    cases k <;> decide +kernel
theorem ndatas_can : ∀ {ps : List Ci}, (∀ c ∈ ps, c.wf = true) → PyData.canLayAll0 (ndatas ps) = true
  | [], _ => by rw [ndatas]; rfl
  | c :: cs, h => by
    rw [ndatas]
    simp [PyData.canLayAll0, ndata_can (h c List.mem_cons_self), ndatas_can fun d hd => h d (List.mem_cons_of_mem _ hd)]
end
mutual
theorem ndata_depth : ∀ c : Ci, (ndata c).depth ≤ 2 * c.depth + 1
  | .eye n => by simp [ndata, PyData.depth, PyData.depthAll]
  | .node k ps => by
    have r := ndatas_depth ps
    rw [Ci.depth]
    simp only [ndata, PyData.depth, PyData.depthAll]
    omega
theorem ndatas_depth : ∀ ps : List Ci, PyData.depthAll (ndatas ps) ≤ 2 * depths ps + 1
  | [] => by simp [ndatas, PyData.depthAll]
  | c :: cs => by
    have r1 := ndata_depth c
    have r2 := ndatas_depth cs
    rw [depths]
    simp only [ndatas, PyData.depthAll]
    omega
end
theorem shaped_nd {c : Ci} (h : c.wf = true) (hd : c.depth ≤ 20) : SeqAt.shaped (ndata c) = true := by
  have z := ndata_depth c
  unfold SeqAt.shaped
  rw [ndata_can h, Bool.true_and]
  exact decide_eq_true (by omega)
theorem depths_le {ps : List Ci} {d : Nat} (h : ∀ c ∈ ps, c.depth ≤ d) : depths ps ≤ d := by
  induction ps with
  | nil => rw [depths]; exact Nat.zero_le _
  | cons c cs ih =>
    rw [depths]
    exact Nat.max_le.mpr ⟨h c List.mem_cons_self, ih fun e he => h e (List.mem_cons_of_mem _ he)⟩
theorem shaped_nds {ps : List Ci} (h : ∀ c ∈ ps, c.wf = true) (hd : ∀ c ∈ ps, c.depth ≤ 20) : SeqAt.shaped (.list (ndatas ps)) = true := by
  have z := ndatas_depth ps
  have z2 := depths_le hd
  unfold SeqAt.shaped
  simp only [PyData.canLay0, PyData.depth, ndatas_can h, Bool.true_and]
  exact decide_eq_true (by omega)
theorem eqv_nd {c d : Ci} (hc : Fit c) (hd : Fit d) : PyData.eqv (ndata c) (ndata d) = decide (c.text = d.text) := by
  by_cases e : c.text = d.text
  · have e2 := text_inj hc hd e
    subst e2
    rw [decide_eq_true rfl]
    exact PySem.SeqAt.eqv_refl _ (ndata_can hc.wf)
  · rw [decide_eq_false e]
    have key : ∀ a b a' b' : PyData, PyData.eqv (.tuple [a, b, .str c.text]) (.tuple [a', b', .str d.text]) = false := by
      intro a b a' b'
      simp [PyData.eqv, PyData.eqvAll, e]
    cases c with
    | eye n =>
      cases d with
      | eye m =>
        rw [Ci.text, Ci.text] at key
        rw [ndata, ndata]
        exact key _ _ _ _
      | node k ps =>
        rw [Ci.text, Ci.text] at key
        rw [ndata, ndata]
        exact key _ _ _ _
    | node j qs =>
      cases d with
      | eye m =>
        rw [Ci.text, Ci.text] at key
        rw [ndata, ndata]
        exact key _ _ _ _
      | node k ps =>
        rw [Ci.text, Ci.text] at key
        rw [ndata, ndata]
        exact key _ _ _ _
theorem any_nd {c : Ci} (hc : Fit c) : ∀ {ds : List Ci}, (∀ d ∈ ds, Fit d) → ((ndatas ds).any fun z => PyData.eqv z (ndata c)) = decide (c.text ∈ ds.map Ci.text)
  | [], _ => by rw [ndatas]; rfl
  | d :: ds, h => by
    rw [ndatas, List.any_cons, any_nd hc fun e he => h e (List.mem_cons_of_mem _ he), eqv_nd (h d List.mem_cons_self) hc, Bool.eq_iff_iff, Bool.or_eq_true, decide_eq_true_eq, decide_eq_true_eq, decide_eq_true_eq, List.map_cons, List.mem_cons]
    exact or_congr eq_comm Iff.rfl
/-! ### what joining keeps -/
theorem flat_sizes {k : Bool} : ∀ cs : List Ci, sizes (flat k cs) = sizes cs
  | [] => rfl
  | c :: cs => by
    have ih := flat_sizes (k := k) cs
    unfold flat at ih ⊢
    rw [List.flatMap_cons, sizes_app, ih, sizes]
    congr 1
    unfold flat1
    split
    · rename_i e
      cases c with
      | eye n => cases e
      | node j ps => rw [Ci.size]; rfl
    · exact sizes_one c
theorem uniqG_sizes : ∀ {cs : List Ci} {seen : List Str}, sizes (uniqG seen cs) ≤ sizes cs
  | [], _ => Nat.le_refl _
  | c :: cs, seen => by
    rw [uniqG]
    split
    · rw [sizes]
      exact Nat.le_trans uniqG_sizes (Nat.le_add_left _ _)
    · rw [sizes, sizes]
      exact Nat.add_le_add_left uniqG_sizes _
theorem mkN_size {k : Bool} {ps : List Ci} : (mkN k ps).size = sizes ps := by
  match ps with
  | [] => rw [mkN]; rw [Ci.size]; intro c z; cases z
  | [c] => rw [mkN, sizes_one]
  | c :: d :: r => rw [mkN, Ci.size]; intro e z; cases z
theorem mkN_depth {k : Bool} {ps : List Ci} {d : Nat} (h : ∀ c ∈ ps, c.depth ≤ d) : (mkN k ps).depth ≤ 1 + d := by
  match ps, h with
  | [], h => rw [mkN]; rw [Ci.depth]; exact Nat.add_le_add_left (depths_le h) _; intro c z; cases z
  | [c], h => rw [mkN]; have := h c List.mem_cons_self; omega
  | c :: e :: r, h => rw [mkN]; rw [Ci.depth]; exact Nat.add_le_add_left (depths_le h) _; intro e z; cases z
theorem mkN_leaves {k : Bool} {ps : List Ci} : (mkN k ps).leaves = leavess ps := by
  match ps with
  | [] => rw [mkN]; rw [Ci.leaves]; intro c z; cases z
  | [c] => rw [mkN, leavess_one]
  | c :: d :: r => rw [mkN, Ci.leaves]; intro e z; cases z
theorem leavess_mem {ps : List Ci} {x : Str} : x ∈ leavess ps ↔ ∃ c ∈ ps, x ∈ c.leaves := by
  rw [leavess_eq, List.mem_flatMap]
theorem flat_mem {k : Bool} {cs : List Ci} {p : Ci} (h : p ∈ flat k cs) : ∃ c ∈ cs, p = c ∨ p ∈ c.parts := by
  obtain ⟨c, hc, hp⟩ := List.mem_flatMap.mp h
  unfold flat1 at hp
  split at hp
  · exact ⟨c, hc, .inr hp⟩
  · exact ⟨c, hc, .inl (List.mem_singleton.mp hp)⟩
theorem pdepth {c p : Ci} (h : p ∈ c.parts) : p.depth < c.depth := by
  cases c with
  | eye n => cases h
  | node k ps =>
    have z := depths_mem (ps := ps) h
    rw [Ci.depth]
    omega
theorem pleaves {c p : Ci} (h : p ∈ c.parts) {x : Str} (hx : x ∈ p.leaves) : x ∈ c.leaves := by
  cases c with
  | eye n => cases h
  | node k ps =>
    rw [Ci.leaves]
    exact leavess_mem.mpr ⟨p, h, hx⟩
/-- a circle over some names, of at most so many eyes and so deep -/
structure Nc (zs : List Str) (c : Ci) (S D : Nat) : Prop where
  wf : c.wf = true
  size : c.size ≤ S
  depth : c.depth ≤ D
  ov : ∀ x ∈ c.leaves, x ∈ zs
theorem Nc.mono {zs : List Str} {c : Ci} {S D S' D' : Nat} (h : Nc zs c S D) (h1 : S ≤ S') (h2 : D ≤ D') : Nc zs c S' D' := ⟨h.wf, Nat.le_trans h.size h1, Nat.le_trans h.depth h2, h.ov⟩
theorem Nc.fit {zs : List Str} {c : Ci} {S D : Nat} (h : Nc zs c S D) (h1 : S ≤ 60 := by decide) (h2 : D ≤ 20 := by decide) : Fit c := ⟨h.wf, Nat.le_trans h.size h1, Nat.le_trans h.depth h2⟩
theorem Nc.part {zs : List Str} {c p : Ci} {S D : Nat} (h : Nc zs c S D) (hp : p ∈ c.parts) : Nc zs p S (D - 1) := by
  have z1 := pdepth hp
  have z2 := h.depth
  refine ⟨wf_part h.wf hp, ?_, by omega, fun x hx => h.ov x (pleaves hp hx)⟩
  cases c with
  | eye n => cases hp
  | node k ps =>
    have z := sizes_mem (ps := ps) hp
    have z3 := h.size
    rw [Ci.size] at z3
    omega
theorem sizes_le {ps : List Ci} {s : Nat} (h : ∀ c ∈ ps, c.size ≤ s) : sizes ps ≤ ps.length * s := by
  induction ps with
  | nil => rw [sizes]; exact Nat.zero_le _
  | cons c cs ih =>
    have z1 := h c List.mem_cons_self
    have z2 := ih fun e he => h e (List.mem_cons_of_mem _ he)
    rw [sizes, List.length_cons, Nat.succ_mul]
    omega
theorem mkC_nc {zs : List Str} {k : Bool} {cs : List Ci} {S D : Nat} (hne : cs ≠ []) (hwf : ∀ c ∈ cs, c.wf = true) (hs : sizes cs ≤ S) (hd : ∀ c ∈ cs, c.depth ≤ D) (ho : ∀ c ∈ cs, ∀ x ∈ c.leaves, x ∈ zs) : Nc zs (mkC k cs) S (1 + D) := by
  refine ⟨mkC_wf hwf hne, ?_, ?_, ?_⟩
  · unfold mkC
    rw [mkN_size]
    exact Nat.le_trans uniqG_sizes (by rw [flat_sizes]; exact hs)
  · unfold mkC
    refine mkN_depth fun p hp => ?_
    obtain ⟨c, hc, rfl | h⟩ := flat_mem (uniqG_mem hp)
    · exact hd _ hc
    · exact Nat.le_trans (Nat.le_of_lt (pdepth h)) (hd c hc)
  · unfold mkC
    rw [mkN_leaves]
    intro x hx
    obtain ⟨p, hp, hx⟩ := leavess_mem.mp hx
    obtain ⟨c, hc, rfl | h⟩ := flat_mem (uniqG_mem hp)
    · exact ho _ hc x hx
    · exact ho c hc x (pleaves h hx)
/-! ### a circle put together part by part -/
theorem uniqG_app : ∀ {a b : List Ci} {seen : List Str}, uniqG seen (a ++ b) = uniqG seen a ++ uniqG (seen ++ (uniqG seen a).map Ci.text) b
  | [], b, seen => by simp [uniqG]
  | c :: a, b, seen => by
    rw [List.cons_append, uniqG, uniqG]
    split
    · exact uniqG_app
    · rw [uniqG_app (a := a), List.cons_append, List.map_cons, List.append_assoc]
      rfl
theorem mkC_step {k : Bool} {ps : List Ci} {p : Ci} (hne : ps ≠ []) (h1 : ∀ c ∈ ps, c.isK k = false) (h2 : p.isK k = false) (nd : ((ps ++ [p]).map Ci.text).Nodup) : mkC k [mkN k ps, p] = mkN k (ps ++ [p]) := by
  have e1 : flat1 k (mkN k ps) = ps := by
    unfold flat1
    match ps, hne with
    | [c], _ =>
      rw [mkN, if_neg (by rw [h1 c List.mem_cons_self]; decide)]
    | c :: d :: r, _ =>
      rw [mkN, if_pos (by show (k == k) = true; cases k <;> rfl)]
      · rfl
      · intro e z
        cases z
  have e2 : flat k [mkN k ps, p] = ps ++ [p] := by
    unfold flat
    rw [List.flatMap_cons, List.flatMap_cons, List.flatMap_nil, e1]
    unfold flat1
    rw [if_neg (by rw [h2]; decide), List.append_nil]
  unfold mkC
  rw [e2]
  have e3 : uniq (ps ++ [p]) = ps ++ [p] := uniq_self nd fun c _ z => by cases z
  rw [e3]
theorem mkN_fit {k : Bool} {ps : List Ci} (hne : ps ≠ []) (hf : Fit (.node k ps)) (n : Nat) (hn : 1 ≤ n) : Fit (mkN k (ps.take n)) := by
  have hw := wf_node.mp hf.wf
  have hm : ∀ c ∈ ps.take n, c ∈ ps := fun c hc => List.mem_of_mem_take hc
  have hne2 : ps.take n ≠ [] := by
    intro z
    have z1 := congrArg List.length z
    rw [List.length_take, List.length_nil] at z1
    have z2 := List.length_pos_iff.mpr hne
    omega
  refine ⟨?_, ?_, ?_⟩
  · have nd : ((ps.take n).map Ci.text).Nodup := by
      rw [List.map_take]
      exact (List.take_sublist _ _).nodup hw.2.2
    match hq : ps.take n, hne2 with
    | [c], _ =>
      rw [mkN]
      exact (hw.2.1 c (hm c (by rw [hq]; exact List.mem_cons_self))).1
    | c :: d :: r, _ =>
      rw [mkN]
      · refine wf_node.mpr ⟨by simp, fun e he => hw.2.1 e (hm e (by rw [hq]; exact he)), by rw [← hq]; exact nd⟩
      · intro e z
        cases z
  · rw [mkN_size]
    have z := hf.size
    rw [Ci.size] at z
    exact Nat.le_trans (sizes_take ps n) z
  · have z := hf.depth
    rw [Ci.depth] at z
    exact Nat.le_trans (mkN_depth fun c hc => depths_mem (hm c hc)) z
theorem hu65 {A : Around} {k : Nat} (hr : Room k A) : A.units + 65 < cLine := by have := hr.un; omega
/-! ### comprehensions over nodes -/
section
variable {K : PySem.W.Frag} {a D : Addr} {H1 : Hp} {rows : List V} {ps : List Ci} {g : TG} {te : TE} {vs : List Nat} {σ : L2.St} {Qd : Hp → Prop}
theorem lc_nd {J : It} {G : Hp → Prop} (w : Walk J rows.length G (YAt rows)) (f : Ci → V) (hc : Nds H1 rows ps) (hn : rows.length ≤ 1000000) (hD : H1 D = none) (hG : ∀ H, Same H1 H → G H)
    (hs : ∀ (v : V) (c : Ci) (H : Hp) (Nx : VK), c ∈ ps → Same H1 H → Nd H v c → (∀ H4, Same H H4 → Nx (f c) H4) → g v (wipe σ vs) H fun σ2 H2 => wipe σ2 vs = wipe σ vs ∧ te σ2 H2 Nx)
    (hd : ∀ H, Same H1 H → H D = some (.lst (ps.map f)) → Qd H) :
    ∃ W : Nat → Nat → Hp → Prop, (∃ m, W 0 m (upd H1 D (.lst []))) ∧ ∀ i m H, W i m H →
      (J.stop i H ∧ Qd H) ∨ (J.go i H ∧ ∃ Nx : Hp → Prop, (∀ H', Nx H' → ∃ m', m' < m ∧ W (i + 1) m' H') ∧ ∀ x H', J.yld i H x H' → g x (wipe σ vs) H' fun σ2 H2 => wipe σ2 vs = wipe σ vs ∧ tYes σ2 H2 fun b H3 =>
        if b = true then te σ2 H3 fun y H4 => ∃ acc, H4 D = some (.lst acc) ∧ acc.length < sizeLine ∧ Nx (upd H4 D (.lst (acc ++ [y]))) else Nx H3) := by
  have hl : rows.length = ps.length := nds_len hc
  refine lc_map w (fun i => f (ps[i]?.getD default)) hn hD hG ?_ ?_
  · rintro i x H H' Nx hi s ⟨rfl, hx⟩ hN
    obtain ⟨c, h1, h2⟩ := nds_get hc hx
    rw [h1] at hN
    exact hs x c H' Nx (List.mem_of_getElem? h1) s (nd_mono (Kt.of s) h2) hN
  · intro H s hL
    refine hd H s ?_
    rw [hL, hl, map_get default f ps]
end
theorem kind_eye (c : Ci) : decide (V.str c.kind = V.str "eye") = c.isEye := by
  match c with
  | .eye n => exact (show decide (V.str "eye" = V.str "eye") = true by decide +kernel)
  | .node true ps => exact (show decide (V.str "pool" = V.str "eye") = false by decide +kernel)
  | .node false ps => exact (show decide (V.str "common" = V.str "eye") = false by decide +kernel)
theorem kS_pool (k : Bool) : decide (V.str (kS k) = V.str "pool") = k := by cases k <;> decide +kernel
theorem sizes_set : ∀ {ps : List Ci} {i : Nat} {p q : Ci}, ps[i]? = some p → sizes (ps.set i q) + p.size = sizes ps + q.size
  | [], i, p, q, h => by cases h
  | c :: cs, 0, p, q, h => by
    have e : c = p := by simpa using h
    subst e
    rw [List.set_cons_zero, sizes, sizes]
    omega
  | c :: cs, i + 1, p, q, h => by
    have ih := sizes_set (ps := cs) (i := i) (p := p) (q := q) (by simpa using h)
    rw [List.set_cons_succ, sizes, sizes]
    omega
theorem mem_set {α : Type} {l : List α} {i : Nat} {x y : α} (h : x ∈ l.set i y) : x = y ∨ x ∈ l := by
  rcases List.mem_or_eq_of_mem_set h with h | h
  · exact .inr h
  · exact .inl h
theorem cutV_to (xs : List V) (n : Nat) : cutV xs none (some (n : Int)) = xs.take n := by
  unfold cutV
  rw [HT.sIx_none, HT.sIx_nat]
  simp
theorem cutV_from (xs : List V) (n : Nat) : cutV xs (some (n : Int)) none = xs.drop n := by
  unfold cutV
  rw [HT.sIx_none, HT.sIx_nat]
  by_cases h : n ≤ xs.length
  · rw [Nat.min_eq_left h, List.take_of_length_le (by simp)]
  · rw [Nat.min_eq_right (by omega), List.drop_of_length_le (by simp), List.drop_of_length_le (by omega)]
    simp
theorem sizes_sub : ∀ {a b : List Ci}, a.Sublist b → sizes a ≤ sizes b
  | _, _, .slnil => Nat.le_refl _
  | _, _, .cons c h => by
    have ih := sizes_sub h
    rw [sizes]
    omega
  | _, _, .cons₂ c h => by
    have ih := sizes_sub h
    rw [sizes, sizes]
    omega
theorem kit_part {zs : List Str} {k : Bool} {ps : List Ci} {S D : Nat} (h : Nc zs (.node k ps) S D) : sizes ps ≤ S ∧ (∀ c ∈ ps, c.wf = true ∧ c.depth + 1 ≤ D ∧ ∀ x ∈ c.leaves, x ∈ zs) ∧ 2 ≤ ps.length := by
  have hw := wf_node.mp h.wf
  refine ⟨by have z := h.size; rw [Ci.size] at z; exact z, fun c hc => ⟨(hw.2.1 c hc).1, ?_, fun x hx => h.ov x (pleaves (c := .node k ps) hc hx)⟩, hw.1⟩
  have z1 := pdepth (c := .node k ps) hc
  have z2 := h.depth
  omega
/-! ### all circles within a circle -/
mutual
def subs : Ci → List Ci
  | .eye n => [.eye n]
  | .node k ps => .node k ps :: subss ps
def subss : List Ci → List Ci
  | [] => []
  | c :: cs => subs c ++ subss cs
end
theorem subs_self (c : Ci) : c ∈ subs c := by
  cases c with
  | eye n => rw [subs]; exact List.mem_cons_self
  | node k ps => rw [subs]; exact List.mem_cons_self
theorem subss_mem : ∀ {ps : List Ci} {x : Ci}, x ∈ subss ps ↔ ∃ c ∈ ps, x ∈ subs c
  | [], x => by simp [subss]
  | c :: cs, x => by
    rw [subss, List.mem_append, subss_mem]
    simp
mutual
theorem subs_part : ∀ {c x p : Ci}, x ∈ subs c → p ∈ x.parts → p ∈ subs c
  | .eye n, x, p, h, hp => by
    rw [subs] at h
    rw [List.mem_singleton.mp h] at hp
    cases hp
  | .node k ps, x, p, h, hp => by
    rw [subs] at h ⊢
    rcases List.mem_cons.mp h with e | e
    · subst e
      exact List.mem_cons_of_mem _ (subss_mem.mpr ⟨p, hp, subs_self p⟩)
    · exact List.mem_cons_of_mem _ (subss_part e hp)
theorem subss_part : ∀ {ps : List Ci} {x p : Ci}, x ∈ subss ps → p ∈ x.parts → p ∈ subss ps
  | [], x, p, h, hp => by rw [subss] at h; cases h
  | c :: cs, x, p, h, hp => by
    rw [subss] at h ⊢
    rcases List.mem_append.mp h with e | e
    · exact List.mem_append_left _ (subs_part e hp)
    · exact List.mem_append_right _ (subss_part e hp)
end
mutual
theorem subs_fit : ∀ {c x : Ci}, Fit c → x ∈ subs c → Fit x
  | .eye n, x, h, hx => by
    rw [subs] at hx
    rw [List.mem_singleton.mp hx]
    exact h
  | .node k ps, x, h, hx => by
    rw [subs] at hx
    rcases List.mem_cons.mp hx with e | e
    · rw [e]
      exact h
    · exact subss_fit (fun c hc => h.part (c := .node k ps) hc) e
theorem subss_fit : ∀ {ps : List Ci} {x : Ci}, (∀ c ∈ ps, Fit c) → x ∈ subss ps → Fit x
  | [], x, h, hx => by rw [subss] at hx; cases hx
  | c :: cs, x, h, hx => by
    rw [subss] at hx
    rcases List.mem_append.mp hx with e | e
    · exact subs_fit (h c List.mem_cons_self) e
    · exact subss_fit (fun d hd => h d (List.mem_cons_of_mem _ hd)) e
end
mutual
theorem subs_len : ∀ {c : Ci}, c.wf = true → (subs c).length + 1 ≤ 2 * c.size
  | .eye n, _ => by rw [subs, Ci.size]; exact Nat.le_refl 2
  | .node k ps, h => by
    have hw := wf_node.mp h
    have r := subss_len (ps := ps) fun c hc => (hw.2.1 c hc).1
    rw [subs, Ci.size, List.length_cons]
    omega
theorem subss_len : ∀ {ps : List Ci}, (∀ c ∈ ps, c.wf = true) → (subss ps).length + ps.length ≤ 2 * sizes ps
  | [], _ => by rw [subss, sizes]; exact Nat.le_refl 0
  | c :: cs, h => by
    have r1 := subs_len (h c List.mem_cons_self)
    have r2 := subss_len (ps := cs) fun d hd => h d (List.mem_cons_of_mem _ hd)
    rw [subss, sizes, List.length_append, List.length_cons]
    omega
end
/-! ### the law's own memory -/
structure Uni (U : List Ci) : Prop where
  part : ∀ c ∈ U, ∀ p ∈ c.parts, p ∈ U
  fit : ∀ c ∈ U, Fit c
  len : U.length ≤ 1000
theorem uni_subss {cs : List Ci} (hf : ∀ c ∈ cs, Fit c) (hs : sizes cs ≤ 400) : Uni (subss cs) :=
  ⟨fun c hc p hp => subss_part hc hp, fun c hc => subss_fit hf hc, by have z := subss_len fun c hc => (hf c hc).wf; omega⟩
def SeenS (H : Hp) (sd : Addr) (U : List Ci) : Prop := ∃ kvs : List (List Key × V), H sd = some (.dT kvs) ∧ (kvs.map (·.1)).Nodup ∧ ∀ kv ∈ kvs, ∃ c d, c ∈ U ∧ d ∈ U ∧ kv.1 = [.inr c.text, .inr d.text] ∧ kv.2 = .bl (leB c d)
theorem tkeys_len {ks : List (List Key)} (nd : ks.Nodup) {U : List Ci} (h : ∀ k ∈ ks, ∃ c d, c ∈ U ∧ d ∈ U ∧ k = [.inr c.text, .inr d.text]) : ks.length ≤ U.length * U.length := by
  have sub := nodup_len (m := U.flatMap fun c => U.map fun d => ([.inr c.text, .inr d.text] : List Key)) nd (fun k hk => by
    obtain ⟨c, d, hc, hd, e⟩ := h k hk
    rw [List.mem_flatMap]
    exact ⟨c, hc, List.mem_map.mpr ⟨d, hd, e.symm⟩⟩)
  refine Nat.le_trans sub (Nat.le_of_eq ?_)
  rw [List.length_flatMap]
  have e : ∀ l : List Ci, (l.map fun _ => U.length).sum = l.length * U.length := fun l => by
    induction l with
    | nil => simp
    | cons a l ih => rw [List.map_cons, List.sum_cons, ih, List.length_cons, Nat.succ_mul]; omega
  simp only [List.length_map]
  exact e U
theorem SeenS.at {H : Hp} {sd : Addr} {U : List Ci} (h : SeenS H sd U) (u : Uni U) : ∃ kvs, H sd = some (.dT kvs) ∧ kvs.length < sizeLine ∧ (∀ c d v, c ∈ U → d ∈ U → valV kvs [.inr c.text, .inr d.text] = some v → v = .bl (leB c d)) ∧
    ∀ c d, c ∈ U → d ∈ U → SeenS (L2.upd H sd (.dT (putK kvs [.inr c.text, .inr d.text] (.bl (leB c d))))) sd U := by
  obtain ⟨kvs, h1, h2, h3⟩ := h
  refine ⟨kvs, h1, ?_, fun c d v hc hd e => ?_, fun c d hc hd => ⟨_, upd_same, putK_keys h2, fun kv hkv => ?_⟩⟩
  · have z := tkeys_len h2 (U := U) (fun k hk => by
      obtain ⟨q, hq, e⟩ := List.mem_map.mp hk
      obtain ⟨c, d, hc, hd, e1, _⟩ := h3 q hq
      exact ⟨c, d, hc, hd, by rw [← e, e1]⟩)
    rw [List.length_map] at z
    have z2 : U.length * U.length ≤ 1000 * 1000 := Nat.mul_le_mul u.len u.len
    rw [sizeLine_eq]
    omega
  · obtain ⟨c', d', hc', hd', e1, e2⟩ := h3 _ (valV_mem e)
    have e3 : c.text = c'.text ∧ d.text = d'.text := by simpa using e1
    rw [text_inj (u.fit c hc) (u.fit c' hc') e3.1, text_inj (u.fit d hd) (u.fit d' hd') e3.2]
    exact e2
  · rcases mem_putK hkv with z | z
    · rw [z]
      exact ⟨c, d, hc, hd, rfl, rfl⟩
    · exact h3 kv z
theorem SeenS.same {H H' : Hp} {sd : Addr} {U : List Ci} (h : SeenS H sd U) (k : ∀ o, H sd = some o → H' sd = some o) : SeenS H' sd U := by
  obtain ⟨kvs, h1, h2⟩ := h
  exact ⟨kvs, k _ h1, h2⟩
theorem SeenS.kt {H H' : Hp} {sd : Addr} {U : List Ci} (h : SeenS H sd U) (b : But sd H H') : Kt H H' := by
  obtain ⟨kvs, h1, _⟩ := h
  intro a xs e
  refine b a _ (fun z => ?_) e
  rw [z, h1] at e
  cases e
theorem leB_com {c d : Ci} (h : isCom c = true) : leB c d = (c.parts.map fun p => leB p d).all id := by
  rw [Bool.eq_iff_iff, leB_iff, le_com h, List.all_map, List.all_eq_true]
  exact ⟨fun z p hp => leB_iff.mpr (z p hp), fun z p hp => leB_iff.mp (z p hp)⟩
theorem leB_pool {c d : Ci} (h : isPool d = true) : leB c d = (d.parts.map fun p => leB c p).all id := by
  rw [Bool.eq_iff_iff, leB_iff, le_pool h, List.all_map, List.all_eq_true]
  exact ⟨fun z p hp => leB_iff.mpr (z p hp), fun z p hp => leB_iff.mp (z p hp)⟩
theorem leB_eye (n m : Str) : leB (.eye n) (.eye m) = decide (n = m) := by
  rw [Bool.eq_iff_iff, leB_iff, decide_eq_true_eq]
  constructor
  · intro h
    cases h
    rfl
  · rintro rfl
    exact .eye n
theorem leB_rest {c d : Ci} (hc : isCom c = false) (hd : isPool d = false) (hne : c ≠ d) : leB c d = ((c.parts.map fun p => leB p d).any id || (d.parts.map fun p => leB c p).any id) := by
  rw [Bool.eq_iff_iff, leB_iff, le_rest hc hd hne, Bool.or_eq_true, List.any_map, List.any_map, List.any_eq_true, List.any_eq_true]
  refine or_congr ⟨fun ⟨p, hp, h⟩ => ⟨p, hp, leB_iff.mpr h⟩, fun ⟨p, hp, h⟩ => ⟨p, hp, leB_iff.mp h⟩⟩ ⟨fun ⟨p, hp, h⟩ => ⟨p, hp, leB_iff.mpr h⟩, fun ⟨p, hp, h⟩ => ⟨p, hp, leB_iff.mp h⟩⟩
end LN

/-! Own words: pools and commons in the order. -/
namespace LN
open PySem PySem.Spec PyProof.Rows L2 LL LC LR LD
theorem le_mkN_pool {c : Ci} {ps : List Ci} (h : ps ≠ []) : Le c (mkN true ps) ↔ ∀ p ∈ ps, Le c p := by
  match ps, h with
  | [p], _ => simp [mkN]
  | p :: q :: r, _ =>
    rw [mkN]
    · exact le_pool (d := .node true (p :: q :: r)) rfl
    · intro e z
      cases z
theorem le_mkN_com {d : Ci} {ps : List Ci} (h : ps ≠ []) : Le (mkN false ps) d ↔ ∀ p ∈ ps, Le p d := by
  match ps, h with
  | [p], _ => simp [mkN]
  | p :: q :: r, _ =>
    rw [mkN]
    · exact le_com (c := .node false (p :: q :: r)) rfl
    · intro e z
      cases z
theorem uniq_all {P : Ci → Prop} {l : List Ci} (hf : ∀ c ∈ l, Fit c) : (∀ p ∈ uniq l, P p) ↔ ∀ p ∈ l, P p := by
  refine ⟨fun h p hp => ?_, fun h p hp => h p (uniqG_mem hp)⟩
  obtain ⟨d, h1, h2⟩ := uniqG_text (cs := l) (seen := []) hp (by simp)
  have e := text_inj (hf d (uniqG_mem h1)) (hf p hp) h2
  rw [← e]
  exact h d h1
theorem flat_fit {k : Bool} {cs : List Ci} (hf : ∀ c ∈ cs, Fit c) : ∀ p ∈ flat k cs, Fit p := fun p hp => by
  obtain ⟨c, hc, rfl | h⟩ := flat_mem hp
  · exact hf _ hc
  · exact (hf c hc).part h
theorem flat_all {k : Bool} {cs : List Ci} {P : Ci → Prop} (h : ∀ c ∈ cs, c.isK k = true → (P c ↔ ∀ p ∈ c.parts, P p)) : (∀ p ∈ flat k cs, P p) ↔ ∀ c ∈ cs, P c := by
  unfold flat
  constructor
  · intro a c hc
    have a2 : ∀ p ∈ flat1 k c, P p := fun p hp => a p (List.mem_flatMap.mpr ⟨c, hc, hp⟩)
    unfold flat1 at a2
    cases e : c.isK k with
    | true =>
      rw [e, if_pos rfl] at a2
      exact (h c hc e).mpr a2
    | false =>
      rw [e, if_neg (by decide)] at a2
      exact a2 c (List.mem_singleton.mpr rfl)
  · intro a p hp
    obtain ⟨c, hc, hp⟩ := List.mem_flatMap.mp hp
    unfold flat1 at hp
    cases e : c.isK k with
    | true =>
      rw [e, if_pos rfl] at hp
      exact (h c hc e).mp (a c hc) p hp
    | false =>
      rw [e, if_neg (by decide)] at hp
      rw [List.mem_singleton.mp hp]
      exact a c hc
theorem isK_pool {c : Ci} (h : c.isK true = true) : isPool c = true := by
  match c, h with
  | .node true ps, _ => rfl
theorem isK_com {c : Ci} (h : c.isK false = true) : isCom c = true := by
  match c, h with
  | .node false ps, _ => rfl
theorem pool_iff {c : Ci} {cs : List Ci} (hf : ∀ x ∈ cs, Fit x) (hne : cs ≠ []) : Le c (mkC true cs) ↔ ∀ x ∈ cs, Le c x := by
  unfold mkC
  have hw : ∀ x ∈ cs, x.wf = true := fun x hx => (hf x hx).wf
  rw [le_mkN_pool (uniq_ne (flat_ne hw hne)), uniq_all (flat_fit hf)]
  exact flat_all fun x _ e => le_pool (isK_pool e)
theorem com_iff {d : Ci} {cs : List Ci} (hf : ∀ x ∈ cs, Fit x) (hne : cs ≠ []) : Le (mkC false cs) d ↔ ∀ x ∈ cs, Le x d := by
  unfold mkC
  have hw : ∀ x ∈ cs, x.wf = true := fun x hx => (hf x hx).wf
  rw [le_mkN_com (uniq_ne (flat_ne hw hne)), uniq_all (flat_fit hf)]
  exact flat_all fun x _ e => le_com (isK_com e)
theorem pool_le {x : Ci} {cs : List Ci} (hf : ∀ x ∈ cs, Fit x) (h : x ∈ cs) : Le (mkC true cs) x := (pool_iff hf (List.ne_nil_of_mem h)).mp (Le.refl _) x h
theorem com_ge {x : Ci} {cs : List Ci} (hf : ∀ x ∈ cs, Fit x) (h : x ∈ cs) : Le x (mkC false cs) := (com_iff hf (List.ne_nil_of_mem h)).mp (Le.refl _) x h
theorem eye_leaves {x : Str} {c e : Ci} (h : Le e c) : e = .eye x → c.wf = true → x ∈ c.leaves := by
  induction h with
  | eye n =>
    intro z _
    cases z
    rw [Ci.leaves]
    exact List.mem_singleton.mpr rfl
  | lc h ih => intro z; cases z
  | @rp c qs h ih =>
    intro z w
    have hw := wf_node.mp w
    match qs, hw, ih with
    | q :: r, hw, ih =>
      rw [Ci.leaves]
      exact leavess_mem.mpr ⟨q, List.mem_cons_self, ih q List.mem_cons_self z (hw.2.1 q List.mem_cons_self).1⟩
    | [], hw, _ => simp at hw
  | lp hp h ih => intro z; cases z
  | @rc qs c q hq h ih =>
    intro z w
    have hw := wf_node.mp w
    rw [Ci.leaves]
    exact leavess_mem.mpr ⟨q, hq, ih z (hw.2.1 q hq).1⟩
theorem leB_false {c d : Ci} (h : ¬ Le c d) : leB c d = false := by
  cases e : leB c d with
  | false => rfl
  | true => exact absurd (leB_iff.mp e) h
theorem two_fit {a b : Ci} (ha : Fit a) (hb : Fit b) : ∀ x ∈ [a, b], Fit x := fun x hx => by
  rcases List.mem_cons.mp hx with e | e
  · rw [e]
    exact ha
  · rw [List.mem_singleton.mp e]
    exact hb
/-- small enough to be put together -/
structure Sm (S D : Nat) (c : Ci) : Prop where
  wf : c.wf = true
  size : c.size ≤ S
  depth : c.depth ≤ D
theorem Sm.fit {c : Ci} {S D : Nat} (h : Sm S D c) (h1 : S ≤ 60 := by decide) (h2 : D ≤ 20 := by decide) : Fit c := ⟨h.wf, Nat.le_trans h.size h1, Nat.le_trans h.depth h2⟩
theorem Sm.two {k : Bool} {a b : Ci} {S S' D : Nat} (ha : Sm S D a) (hb : Sm S' D b) : Sm (S + S') (1 + D) (mkC k [a, b]) := by
  have z := mkC_nc (zs := a.leaves ++ b.leaves) (k := k) (cs := [a, b]) (S := S + S') (D := D) (by simp) (fun x hx => by
    rcases List.mem_cons.mp hx with e | e
    · rw [e]; exact ha.wf
    · rw [List.mem_singleton.mp e]; exact hb.wf) (by rw [sizes, sizes_one]; have := ha.size; have := hb.size; omega) (fun x hx => by
    rcases List.mem_cons.mp hx with e | e
    · rw [e]; exact ha.depth
    · rw [List.mem_singleton.mp e]; exact hb.depth) (fun x hx => by
    rcases List.mem_cons.mp hx with e | e
    · rw [e]; exact fun y hy => List.mem_append_left _ hy
    · rw [List.mem_singleton.mp e]; exact fun y hy => List.mem_append_right _ hy)
  exact ⟨z.wf, z.size, z.depth⟩
theorem Sm.mono {c : Ci} {S D S' D' : Nat} (h : Sm S D c) (h1 : S ≤ S') (h2 : D ≤ D') : Sm S' D' c := ⟨h.wf, Nat.le_trans h.size h1, Nat.le_trans h.depth h2⟩
theorem leB_pool2 {c a b : Ci} (ha : Fit a) (hb : Fit b) : leB c (mkC true [a, b]) = (leB c a && leB c b) := by
  rw [Bool.eq_iff_iff, Bool.and_eq_true, leB_iff, leB_iff, leB_iff, pool_iff (two_fit ha hb) (by simp)]
  simp
theorem leB_com2 {d a b : Ci} (ha : Fit a) (hb : Fit b) : leB (mkC false [a, b]) d = (leB a d && leB b d) := by
  rw [Bool.eq_iff_iff, Bool.and_eq_true, leB_iff, leB_iff, leB_iff, com_iff (two_fit ha hb) (by simp)]
  simp
theorem leB_pa {a b : Ci} (ha : Fit a) (hb : Fit b) : leB (mkC true [a, b]) a = true := leB_iff.mpr (pool_le (two_fit ha hb) (by simp))
theorem leB_pb {a b : Ci} (ha : Fit a) (hb : Fit b) : leB (mkC true [a, b]) b = true := leB_iff.mpr (pool_le (two_fit ha hb) (by simp))
theorem leB_ac {a b : Ci} (ha : Fit a) (hb : Fit b) : leB a (mkC false [a, b]) = true := leB_iff.mpr (com_ge (two_fit ha hb) (by simp))
theorem leB_bc {a b : Ci} (ha : Fit a) (hb : Fit b) : leB b (mkC false [a, b]) = true := leB_iff.mpr (com_ge (two_fit ha hb) (by simp))
theorem leB_tr {a b c : Ci} (h : leB a b = true) (k : leB b c = true) : leB a c = true := leB_iff.mpr ((leB_iff.mp h).trans (leB_iff.mp k))
end LN

/-! Own rule: sorted(list of own instances, key=str). -/
namespace LK
open PySem PySem.Spec PyProof.Rows L2
open C8 (Cal Mak Met CalAt)
def addrOf : Value → Addr
  | .ref a => a
  | _ => 0
theorem str_keys {keys : Array Value} {vs : List Value} {kz : List Str} (hk : StrsAre keys.toList kz) : KeysOf strKind (keys.zip vs.toArray) := by
  intro p hp
  rw [ksk_zip] at hp
  obtain ⟨x, y⟩ := p
  obtain ⟨z, t, e⟩ := hk.all _ (List.of_mem_zip hp).1
  exact ⟨z.cps.toList, by show strKind.keyOf x = _; rw [e]⟩
theorem str_kind {keys : Array Value} {kz : List Str} (hk : StrsAre keys.toList kz) (h2 : 2 ≤ keys.size) : keyKind' keys = pure oneType' := by
  obtain ⟨v₁, v₂, rest, e⟩ : ∃ v₁ v₂ rest, keys.toList = v₁ :: v₂ :: rest := by
    have hl : 2 ≤ keys.toList.length := by rw [Array.length_toList]; exact h2
    cases q : keys.toList with
    | nil => rw [q] at hl; simp at hl
    | cons v₁ r =>
      cases r with
      | nil => rw [q] at hl; simp at hl
      | cons v₂ rest => exact ⟨v₁, v₂, rest, rfl⟩
  have ek : keys = (v₁ :: v₂ :: rest).toArray := by rw [← e, Array.toArray_toList]
  rw [e] at hk
  rw [ek]
  exact keyKind_strs hk
theorem str_out {keys : Array Value} {rows : List Addr} {kz : List Str} (hk : StrsAre keys.toList kz) {xs : Array Keyed} (hp : xs.Perm (keys.zip (rows.map Value.ref).toArray)) (hs : SortedToK strKind xs xs.size) :
    ∃ ps : List (Str × Addr), ps.Perm (kz.zip rows) ∧ (xs.map (·.2)).toList = ps.map (fun p => Value.ref p.2) ∧ ps.Pairwise fun p q => ltCps q.1.cps.toList p.1.cps.toList = false := by
  have hl : xs.toList.Perm (keys.toList.zip (rows.map Value.ref)) := by rw [← ksk_zip]; exact Array.perm_iff_toList_perm.mp hp
  have hmem : ∀ p ∈ xs.toList, (∃ x t, p.1 = Value.str x t) ∧ p.2 = Value.ref (addrOf p.2) := fun p hp' => by
    obtain ⟨x, y⟩ := p
    have q := List.of_mem_zip (hl.mem_iff.mp hp')
    refine ⟨hk.all _ q.1, ?_⟩
    obtain ⟨b, _, e⟩ := List.mem_map.mp q.2
    show y = _
    rw [← e]
    rfl
  refine ⟨xs.toList.map (fun p => (strOf p.1, addrOf p.2)), ?_, ?_, ?_⟩
  · have h1 := hl.map (fun p : Keyed => (strOf p.1, addrOf p.2))
    have e2 : (keys.toList.zip (rows.map Value.ref)).map (fun p : Keyed => (strOf p.1, addrOf p.2)) = kz.zip rows := by
      rw [← hk.strs, List.zip_map_right, List.map_map, List.zip_map_left]
      exact List.map_congr_left fun ⟨x, y⟩ _ => rfl
    rw [e2] at h1
    exact h1
  · rw [Array.toList_map, List.map_map]
    exact List.map_congr_left fun p hp' => (hmem p hp').2
  · rw [List.pairwise_iff_getElem]
    intro i j hi hj hij
    have hi' : i < xs.size := by simpa using hi
    have hj' : j < xs.size := by simpa using hj
    have h1 := hs i j (Nat.le_of_lt hij) hj'
    obtain ⟨x, t, ex⟩ := (hmem xs[i] (by simp)).1
    obtain ⟨y, u, ey⟩ := (hmem xs[j] (by simp)).1
    rw [KK_str hi' (x := x) (t := t) (q := xs[i].2) (Prod.ext ex rfl), KK_str hj' (x := y) (t := u) (q := xs[j].2) (Prod.ext ey rfl)] at h1
    change decide (y.cps.toList < x.cps.toList) = false at h1
    simp only [List.getElem_map, Array.getElem_toList]
    rw [show strOf xs[i].1 = x by rw [ex]; rfl, show strOf xs[j].1 = y by rw [ey]; rfl, ltCps_eq]
    exact h1
theorem strs_snoc {n : Str} {t : Tok} : ∀ {vs : List Value} {ns : List Str}, StrsAre vs ns → StrsAre (vs ++ [.str n t]) (ns ++ [n])
  | _, _, .nil => .cons n t .nil
  | _, _, .cons n' t' h => .cons n' t' (strs_snoc h)
theorem strs_len : ∀ {vs : List Value} {ns : List Str}, StrsAre vs ns → vs.length = ns.length
  | _, _, .nil => rfl
  | _, _, .cons _ _ h => by rw [List.length_cons, List.length_cons, strs_len h]
/-- while the list sorts: its own two lists are no one's -/
structure SJ (X : Cx) (pins : List (Addr × Obj)) (σ : L2.St) (H : Hp) (kS a : Addr) (e1 : Nat) (kA : Array Value) (s : Shared) : Prop where
  I : Inv X pins σ H s
  k : ∃ e, s.heap.get? kS = some (seqObj "list" kA e)
  a : s.heap.get? a = some (seqObj "list" #[] e1)
section
variable {X : Cx} {pins : List (Addr × Obj)} {σ : L2.St} {H : Hp} {s : Shared} {A : Around} {E : Value → Shared → Prop} {kS a : Addr} {e1 : Nat} {keys : Array Value} {kz : List Str} {rows : List Addr} {P : PySem.Fin → Shared → Prop}
theorem vals_refs : ∀ {rows : List Addr}, Vals (rows.map V.ref) (rows.map Value.ref)
  | [] => .nil
  | _ :: rows => .cons rfl (vals_refs (rows := rows))
theorem SJ.push {kA : Array Value} {v : Value} (J : SJ X pins σ H kS a e1 kA s) (fk : FpOk X pins H kS) (hka : kS ≠ a) :
    SJ X pins σ H kS a e1 (kA.push v) { s with heap := s.heap.update kS (Obj.mapSeq (·.push v)) } := by
  obtain ⟨e, hk⟩ := J.k
  have s1 := Heap.SameBut.update s.heap kS (Obj.mapSeq (·.push v))
  obtain ⟨f0, f1, f2, f3, f4, f5⟩ := fk
  refine ⟨J.I.turned (t' := s.toks) (it := kS) (fun b o hb q => (s1.2 b hb).trans q) f0 f1 f3 f4 f5, ⟨_, get?_update_seq hk (·.push v)⟩, (s1.2 a hka.symm).trans J.a⟩
theorem tail_ {st : SortSt} (J : SJ X pins σ H kS a e1 keys s) (fk : FpOk X pins H kS) (fa : FpOk X pins H a) (hka : kS ≠ a)
    (hz : rows.length ≤ sizeLine) (hk : StrsAre keys.toList kz) (hlen : kz.length = rows.length)
    (hp : (arrOf st).Perm (keys.zip (rows.map Value.ref).toArray)) (hs : SortedToK strKind (arrOf st) (arrOf st).size) (hfl : failedOf st = none)
    (h : ∀ (ps : List (Str × Addr)) (s' : Shared), ps.Perm (kz.zip rows) → ps.Pairwise (fun p q => ltCps q.1.cps.toList p.1.cps.toList = false) → Inv X pins σ (upd H a (.lst (ps.map fun p => V.ref p.2))) s' → P (.done (.ret .none)) s') :
    wpAny (model X.prog X.w) A (ksk_tail a false e1 (.ref kS) st) P E s := by
  obtain ⟨e, nk⟩ := J.k
  have na := J.a
  have hsz : keys.size = rows.length := by
    have h1 := strs_len hk
    rw [Array.length_toList] at h1
    omega
  have hsz2 : (arrOf st).size = rows.length := by rw [hp.size_eq, Array.size_zip, hsz, List.size_toArray, List.length_map, Nat.min_self]
  have hout : ((arrOf st).map (·.2)).size = rows.length := by
    rw [Array.size_map]; exact hsz2
  obtain ⟨ps, p1, p2, p3⟩ := str_out hk hp hs
  have s1 := Heap.SameBut.update s.heap kS (Obj.mapSeq fun _ => (#[] : Array Value))
  have na1 : (s.heap.update kS (Obj.mapSeq fun _ => (#[] : Array Value))).get? a = some (seqObj "list" #[] e1) := (s1.2 a hka.symm).trans na
  have s2 := Heap.SameBut.update (s.heap.update kS (Obj.mapSeq fun _ => (#[] : Array Value))) a (Obj.mapSeq fun _ => (arrOf st).map (·.2))
  obtain ⟨c2, hc2⟩ : ∃ c2, ((s.heap.update kS (Obj.mapSeq fun _ => (#[] : Array Value))).update a (Obj.mapSeq fun _ => (arrOf st).map (·.2))).get? a = some (seqObj "list" ((arrOf st).map (·.2)) c2) :=
    ⟨_, get?_update_seq na1 fun _ => (arrOf st).map (·.2)⟩
  obtain ⟨f0, f1, f2, f3, f4, f5⟩ := fk
  have I1 := J.I.turned (t' := s.toks) (it := kS) (fun b o hb q => (s1.2 b hb).trans q) f0 f1 f3 f4 f5
  have epl : ps.length = rows.length := by rw [p1.length_eq, List.length_zip, hlen, Nat.min_self]
  have I2 := Inv.take (t' := s.toks) (o := .lst (ps.map fun p => V.ref p.2)) I1 (fun b o hb q => (s2.2 b hb).trans q) fa
    ⟨by rw [List.length_map, epl]; exact hz, ps.map (fun p => Value.ref p.2), c2, by
      have z := vals_refs (rows := ps.map Prod.snd)
      rw [List.map_map, List.map_map] at z
      exact z, by
      have z : ((arrOf st).map (·.2)) = (ps.map (fun p => Value.ref p.2)).toArray := by
        rw [← p2, Array.toArray_toList]
      show _ = some (seqObj "list" (ps.map (fun p => Value.ref p.2)).toArray c2)
      rw [← z]
      exact hc2⟩
  unfold ksk_tail
  try dsimp only
  refine wpAny_bind (listUpdate_at nk rfl ?_ (by rw [hsz]; exact hz) (Nat.zero_le _))
  refine wpAny_bind (wpAny_letGo ?_)
  refine wpAny_bind (seqEpoch_at na1 rfl ?_)
  refine wpAny_bind (listUpdate_at na1 rfl ?_ (Nat.zero_le _) (Nat.le_trans (Nat.le_of_eq hout) (by omega)))
  rw [hfl]
  simp only [bne_self_eq_false, Bool.false_eq_true, if_false]
  exact wpAny_pure (h ps _ p1 p3 I2)
theorem end_ (J : SJ X pins σ H kS a e1 keys s) (fk : FpOk X pins H kS) (fa : FpOk X pins H a) (hka : kS ≠ a)
    (hz : rows.length ≤ sizeLine) (hk : StrsAre keys.toList kz) (hlen : kz.length = rows.length)
    (h : ∀ (ps : List (Str × Addr)) (s' : Shared), ps.Perm (kz.zip rows) → ps.Pairwise (fun p q => ltCps q.1.cps.toList p.1.cps.toList = false) → Inv X pins σ (upd H a (.lst (ps.map fun p => V.ref p.2))) s' → P (.done (.ret .none)) s') :
    wpAny (model X.prog X.w) A (ksk_end a false (rows.map Value.ref).toArray e1 (.ref kS) keys) P E s := by
  have hsz : keys.size = rows.length := by
    have h1 := strs_len hk
    rw [Array.length_toList] at h1
    omega
  have hzs : (keys.zip (rows.map Value.ref).toArray).size = rows.length := by rw [Array.size_zip, hsz, List.size_toArray, List.length_map, Nat.min_self]
  unfold ksk_end
  simp only [Bool.false_eq_true, if_false]
  by_cases h2 : (rows.map Value.ref).toArray.size < 2
  · rw [if_pos h2, if_pos h2]
    refine wpAny_bind (wpAny_pure ?_)
    rw [StateT.run_pure]
    refine wpAny_bind (wpAny_pure ?_)
    try dsimp only
    refine tail_ (st := SortSt.mk' general' (keys.zip (rows.map Value.ref).toArray) #[] 7 none) J fk fa hka hz hk hlen (Array.Perm.refl _) ?_ rfl h
    intro i j hij hj
    have hj2 : j < (keys.zip (rows.map Value.ref).toArray).size := hj
    rw [hzs] at hj2
    rw [List.size_toArray, List.length_map] at h2
    have : i = j := by omega
    subst this
    exact strKind.irrefl _
  · rw [if_neg h2, if_neg h2]
    rw [List.size_toArray, List.length_map] at h2
    rw [str_kind hk (by rw [hsz]; omega)]
    refine wpAny_bind (wpAny_pure ?_)
    refine wpAny_bind (wpAny_mono (wpS_sortRunsAny (κ := strKind) (a₀ := keys.zip (rows.map Value.ref).toArray) (st := SortSt.mk' oneType' (keys.zip (rows.map Value.ref).toArray) #[] 7 none)
      (Q := fun _ st' => (arrOf st').Perm (keys.zip (rows.map Value.ref).toArray) ∧ failedOf st' = none ∧ SortedToK strKind (arrOf st') (keys.zip (rows.map Value.ref).toArray).size)
      strKind_oneLt (str_keys hk) ⟨Array.Perm.refl _, rfl, rfl⟩ rfl (by rw [hzs]; omega) fun st' a1 a2 a3 => ⟨a1, a2, a3⟩) ?_ fun _ _ e => e)
    rintro ⟨⟨⟩, st'⟩ s' ⟨rfl, hp, hf, hs⟩
    try dsimp only
    exact tail_ J fk fa hka hz hk hlen hp (by rw [hp.size_eq]; exact hs) hf h
theorem rest_ {f : Value} (J : SJ X pins σ H kS a e1 #[] s) (fk : FpOk X pins H kS) (fa : FpOk X pins H a) (hka : kS ≠ a)
    (hz : rows.length ≤ sizeLine) (hlen : kz.length = rows.length)
    (turn : ∀ (i : Nat) (v : Addr) (y : Str), rows[i]? = some v → kz[i]? = some y → ∀ (pins' : List (Addr × Obj)) (s' : Shared), Inv X pins' σ H s' →
      wpAny (model X.prog X.w) A (call f [.ref v]) (fun u s'' => (∃ t, u = Value.str y t) ∧ Inv X pins' σ H s'') (fun _ _ => False) s')
    (h : ∀ (ps : List (Str × Addr)) (s' : Shared), ps.Perm (kz.zip rows) → ps.Pairwise (fun p q => ltCps q.1.cps.toList p.1.cps.toList = false) → Inv X pins σ (upd H a (.lst (ps.map fun p => V.ref p.2))) s' → P (.done (.ret .none)) s') :
    wpAny (model X.prog X.w) A (ksk_rest a f false (rows.map Value.ref).toArray e1 (.ref kS)) P E s := by
  unfold ksk_rest
  refine wpAny_bind (wpAny_rule ?_)
  first
    | rw [List.forIn_toArray]
    | (rw [← Array.forIn_toList]; simp only [List.toList_toArray])
    | rw [← Array.forIn_toList]
  refine wpAny_bind (ksk_fold (fun i s' => ∃ kA, SJ X pins σ H kS a e1 kA s' ∧ StrsAre kA.toList (kz.take i)) (rows.map Value.ref) 0 s ⟨#[], J, by simpa using StrsAre.nil⟩ ?step ?done)
  case step =>
    rintro j x s' hx ⟨kA, J', hk⟩
    simp only [Nat.zero_add] at hk ⊢
    obtain ⟨v, hv, rfl⟩ : ∃ v, rows[j]? = some v ∧ x = Value.ref v := by
      rw [List.getElem?_map] at hx
      cases q : rows[j]? with
      | none => rw [q] at hx; cases hx
      | some v => rw [q] at hx; exact ⟨v, rfl, by cases hx; rfl⟩
    have hj : j < rows.length := (List.getElem?_eq_some_iff.mp hv).1
    obtain ⟨y, hy⟩ : ∃ y, kz[j]? = some y := ⟨_, List.getElem?_eq_getElem (by omega)⟩
    have hsz : kA.size ≤ rows.length := by
      have h1 := strs_len hk
      rw [Array.length_toList, List.length_take] at h1
      omega
    obtain ⟨e, ek⟩ := J'.k
    have Ip := J'.I.pinned (fp := [kS, a]) (fun b hb => by
      rcases List.mem_cons.mp hb with z | z
      · rw [z]; exact fk
      · rw [List.mem_singleton.mp z]; exact fa) (fun b hb => by
      rcases List.mem_cons.mp hb with z | z
      · rw [z]; exact ⟨_, ek, fun v => by intro q; cases q⟩
      · rw [List.mem_singleton.mp z]; exact ⟨_, J'.a, fun v => by intro q; cases q⟩)
    refine wpAny_bind (wpAny_attempt (wpAny_mono (turn j v y hv hy _ s' Ip) (fun u s'' he => ?_) fun _ _ hF => hF.elim))
    obtain ⟨⟨t2, rfl⟩, I2⟩ := he
    try dsimp only
    have nk : s''.heap.get? kS = some (seqObj "list" kA e) := (I2.pin (kS, _) (List.mem_append_right _ (List.mem_append_right _ (mem_pinsAt List.mem_cons_self ek)))).1
    have na : s''.heap.get? a = some (seqObj "list" #[] e1) := (I2.pin (a, _) (List.mem_append_right _ (List.mem_append_right _ (mem_pinsAt (List.mem_cons_of_mem _ List.mem_cons_self) J'.a)))).1
    have J2 : SJ X pins σ H kS a e1 kA s'' := ⟨I2.unpinned, ⟨e, nk⟩, na⟩
    have e3 : kz.take (j + 1) = kz.take j ++ [y] := by rw [List.take_add_one, hy]; simp
    have ea : (kA.push (Value.str y t2)).toList = kA.toList ++ [Value.str y t2] := by simp
    refine wpAny_bind (listUpdate_at nk rfl ?_ (by omega) (Nat.le_trans (Nat.le_of_eq (Array.size_push ..)) (by omega)))
    exact wpAny_pure ⟨rfl, kA.push (.str y t2), J2.push fk hka, by rw [ea, e3]; exact strs_snoc hk⟩
  case done =>
    rintro s' ⟨kA, J', hk⟩
    have hk' : StrsAre kA.toList kz := by
      have e3 : kz.take (0 + (rows.map Value.ref).length) = kz := List.take_of_length_le (by rw [List.length_map]; omega)
      rw [e3] at hk
      exact hk
    obtain ⟨e, nk⟩ := J'.k
    try dsimp only
    refine wpAny_bind (listItems_at nk rfl ?_)
    exact end_ J' fk fa hka hz hk' hlen h
end
section
variable {X : Cx} {k j : Nat} {C : Addr} {sp : Sp}
theorem refs_vals : ∀ {rows : List Addr} {its : List Value}, Vals (rows.map V.ref) its → its = rows.map Value.ref
  | [], _, .nil => rfl
  | _ :: _, _, .cons r t => by
    cases (show _ = Value.ref _ from r)
    rw [refs_vals t]
    rfl
/-- sorted(l, key=str), l a list of own instances of C, whose __str__ gives a text and leaves all as it is -/
def rSortStr (K : PySem.W.Frag) (C : Addr) (sp : Sp) : List V → List V → Hp → VK → Prop := fun vs zs H Q =>
  ∃ (l : Addr) (rows : List Addr) (kz : List Str), vs = [.ref l] ∧ zs = [.ty "str"] ∧ SqL K H l (rows.map V.ref) ∧ kz.length = rows.length ∧
    (∀ (i : Nat) (a : Addr) (y : Str), rows[i]? = some a → kz[i]? = some y → (∃ dx fs, H a = some (.ins C dx fs)) ∧ sp [.ref a] H (fun v H' => v = .str y ∧ H' = H) C8.E0) ∧
    ∀ (ps : List (Str × Addr)) (p : Addr), ps.Perm (kz.zip rows) → ps.Pairwise (fun p q => ltCps q.1.cps.toList p.1.cps.toList = false) → H p = none → Q (.ref p) (upd H p (.lst (ps.map fun p => V.ref p.2)))
theorem str_turn {y : Str} {a : Addr} {pins : List (Addr × Obj)} {σ : L2.St} {H : Hp} {s : Shared} {A : Around} (c : Met X.prog X.w X.K X.mg X.base k C "__str__" sp []) (sb : Sub X k A.in1.in1) (I : Inv X pins σ H s)
    (h : (∃ dx fs, H a = some (.ins C dx fs)) ∧ sp [.ref a] H (fun v H' => v = .str y ∧ H' = H) C8.E0) :
    wpAny (model X.prog X.w) A (call (.type "str") [.ref a]) (fun u s'' => (∃ t, u = Value.str y t) ∧ Inv X pins σ H s'') (fun _ _ => False) s := by
  obtain ⟨⟨dx, fs, ha⟩, q⟩ := h
  have rv : Vals [V.ref a] [Value.ref a] := .cons rfl .nil
  obtain ⟨f, fd, ps, ds, cl, me, F, b, d⟩ := c.ex
  cases d
  obtain ⟨mA, J, _⟩ := ins_get I.hok ha
  obtain ⟨od, J, _⟩ := J.look
  refine PySem.W.kso_call sb.room.units0 I.kIn J me.at_ me.fn ?_
  have sb' : Sub (X.wish fun _ _ => False) k A.in1.in1 := ⟨sb.room, sb.fr⟩
  refine wpAny_mono (LO.run_below (X := X.wish fun _ _ => False) F b sb' (I.wish fun _ _ => False) rv q) (fun u s' z => ?_) fun _ _ z => z
  obtain ⟨v, H', I2, r, e, e2⟩ := z
  subst e
  subst e2
  obtain ⟨t, rfl⟩ := r
  exact ⟨⟨t, rfl⟩, I2.unwish⟩
theorem cr_sortStr (c : Met X.prog X.w X.K X.mg X.base k C "__str__" sp []) (hr : Room j X.A) (hk : k + 4 ≤ j) : CallRK X (.builtin "sorted") [Str.ofString "key"] (rSortStr X.K C sp) := by
  intro pins s σ H xs zs us ws Q I rx rz h
  obtain ⟨l, rows, kz, rfl, rfl, hs, hlen, hst, q⟩ := h
  obtain ⟨its, rv, hl, hz⟩ := I.list hs
  rw [Vals.ref1 rx]
  have ez : ws = [Value.type "str"] := by
    cases rz with
    | cons r t =>
      cases t
      cases (show _ = Value.type "str" from r)
      rfl
  subst ez
  have ei := refs_vals rv
  subst ei
  rw [List.length_map] at hz
  have hz' : (rows.map Value.ref).length ≤ sizeLine := by rw [List.length_map]; exact hz
  show wpAny (model X.prog X.w) X.A (call (.builtin "sorted") [.ref l] [(Str.ofString "key", Value.type "str")]) (EP X pins σ Q) X.xe s
  refine call_function_entry_kw kind_sorted plain_sorted entry_sorted (ksk_s1 _ _) ?_
  unfold Builtin.«sorted»
  refine wpAny_bind (m := checkCount "sorted" 1 1 _) (wpAny_pure ?_)
  refine wpAny_bind (collect_list hl.isList ?_ hz')
  refine wpAny_bind (wpAny_newList ?_ hz')
  have hsz : ((s.heap.push (seqObj "list" #[] 0)).update s.heap.objs.size (Obj.mapSeq (· ++ (rows.map Value.ref).toArray))).objs.size = s.heap.objs.size + 1 := by
    rw [Heap.size_update, size_push']
  have hoL : (((s.heap.push (seqObj "list" #[] 0)).update s.heap.objs.size (Obj.mapSeq (· ++ (rows.map Value.ref).toArray))).push (seqObj "list" (rows.map Value.ref).toArray 0)).get? (s.heap.objs.size + 1) = some (seqObj "list" (rows.map Value.ref).toArray 0) := by
    rw [← hsz]; exact Heap.get?_push_size _ rfl
  have keep : ∀ b o, s.heap.get? b = some o → b ≠ s.heap.objs.size + 1 ∧ (((s.heap.push (seqObj "list" #[] 0)).update s.heap.objs.size (Obj.mapSeq (· ++ (rows.map Value.ref).toArray))).push (seqObj "list" (rows.map Value.ref).toArray 0)).get? b = some o := fun b o q => by
    have hlt : b < s.heap.objs.size := Heap.lt_size q
    refine ⟨Nat.ne_of_lt (Nat.lt_succ_of_lt hlt), Heap.get?_push_of_some _ ?_⟩
    rw [Heap.get?_update_ne _ _ _ _ (Nat.ne_of_lt hlt)]
    exact Heap.get?_push_of_some _ q
  have hs1 : (((s.heap.push (seqObj "list" #[] 0)).update s.heap.objs.size (Obj.mapSeq (· ++ (rows.map Value.ref).toArray))).push (seqObj "list" (rows.map Value.ref).toArray 0)).objs.size = s.heap.objs.size + 2 := by
    rw [size_push', hsz]
  show wpAny _ _ _ _ _ { s with heap := ((s.heap.push (seqObj "list" #[] 0)).update s.heap.objs.size (Obj.mapSeq (· ++ (rows.map Value.ref).toArray))).push (seqObj "list" (rows.map Value.ref).toArray 0) }
  rw [hsz]
  generalize hG : ((s.heap.push (seqObj "list" #[] 0)).update s.heap.objs.size (Obj.mapSeq (· ++ (rows.map Value.ref).toArray))).push (seqObj "list" (rows.map Value.ref).toArray 0) = G at hoL keep hs1 ⊢
  refine wpAny_bind (wpAny_holding (wpAny_call_entry_kw slot_list_sort ⟨_, hoL, rfl⟩ entry_list_sort ?body (ksk_l1 _ _)))
  case body =>
    show wpAny (model X.prog X.w) X.A.in1.in1 (ksk_tree (s.heap.objs.size + 1) (.type "str") false) _ _ _
    obtain ⟨e1, ho1⟩ : ∃ e1, (G.update (s.heap.objs.size + 1) (Obj.mapSeq fun _ => (#[] : Array Value))).get? (s.heap.objs.size + 1) = some (seqObj "list" #[] e1) := ⟨_, get?_update_seq hoL fun _ => #[]⟩
    have hkS : ((G.update (s.heap.objs.size + 1) (Obj.mapSeq fun _ => (#[] : Array Value))).push (seqObj "tuple" (rows.map Value.ref).toArray 0)).objs.size = s.heap.objs.size + 3 := by
      rw [size_push', Heap.size_update, hs1]
    have keep2 : ∀ b o, s.heap.get? b = some o → (((G.update (s.heap.objs.size + 1) (Obj.mapSeq fun _ => (#[] : Array Value))).push (seqObj "tuple" (rows.map Value.ref).toArray 0)).push (seqObj "list" #[] 0)).get? b = some o := fun b o z => by
      refine Heap.get?_push_of_some _ (Heap.get?_push_of_some _ ?_)
      rw [Heap.get?_update_ne _ _ _ _ (keep b o z).1]
      exact (keep b o z).2
    have na : H (s.heap.objs.size + 1) = none := I.hok.fresh (Nat.le_succ _)
    have nk : H (s.heap.objs.size + 3) = none := I.hok.fresh (by omega)
    unfold ksk_tree
    refine wpAny_bind (listItems_at hoL rfl ?_)
    refine wpAny_bind (listUpdate_at hoL rfl ?_ (by rw [List.size_toArray]; exact hz') (Nat.zero_le _))
    refine wpAny_bind (seqEpoch_at ho1 rfl ?_)
    refine wpAny_bind (wpAny_newTuple ?_ (by show (rows.map Value.ref).length ≤ _; exact hz'))
    refine wpAny_bind (wpAny_newList ?_ (Nat.zero_le _))
    refine wpAny_holding ?_
    have rm := hr.mono hk
    have hka : ((G.update (s.heap.objs.size + 1) (Obj.mapSeq fun _ => (#[] : Array Value))).push (seqObj "tuple" (rows.map Value.ref).toArray 0)).objs.size ≠ s.heap.objs.size + 1 := by
      rw [hkS]
      exact Nat.ne_of_gt (by omega)
    have J : SJ X pins σ H ((G.update (s.heap.objs.size + 1) (Obj.mapSeq fun _ => (#[] : Array Value))).push (seqObj "tuple" (rows.map Value.ref).toArray 0)).objs.size (s.heap.objs.size + 1) e1 #[]
        { s with heap := ((G.update (s.heap.objs.size + 1) (Obj.mapSeq fun _ => (#[] : Array Value))).push (seqObj "tuple" (rows.map Value.ref).toArray 0)).push (seqObj "list" #[] 0) } :=
      ⟨I.kept (t' := s.toks) keep2, ⟨0, Heap.get?_push_size _ rfl⟩, Heap.get?_push_of_some _ (Heap.get?_push_of_some _ ho1)⟩
    refine rest_ J (by rw [hkS]; exact I.fpOk (by omega) nk) (I.fpOk (Nat.le_succ _) na) hka hz hlen (fun i v y hv hy pins' s' I' => ?_) fun ps s' p1 p2 I' => ⟨_, rfl, ?_⟩
    · exact str_turn (A := X.A.in1.in1) c ⟨rm.in1.in1.in1.in1, rfl⟩ I' (hst i v y hv hy)
    · exact wpAny_pure ⟨_, rfl, V.ref (s.heap.objs.size + 1), _, I', rfl, q ps _ p1 p2 na⟩
end
end LK

/-! Own words: what the key of a circle keeps. -/
namespace LY
open PySem PySem.Spec PyProof.Rows L2 LL LC LD LN
/-- x adds nothing beside (a pool) or within (a common) y -/
noncomputable def gb (k : Bool) (x y : Ci) : Bool := if k = true then leB y x else leB x y
theorem gb_t {x y : Ci} : gb true x y = true ↔ Le y x := leB_iff
theorem gb_f {x y : Ci} : gb false x y = true ↔ Le x y := leB_iff
theorem gb_refl (k : Bool) (x : Ci) : gb k x x = true := by cases k <;> exact leB_self x
theorem gb_trans {k : Bool} {x y z : Ci} (h : gb k x y = true) (h' : gb k y z = true) : gb k x z = true := by
  cases k
  · exact gb_f.mpr ((gb_f.mp h).trans (gb_f.mp h'))
  · exact gb_t.mpr ((gb_t.mp h').trans (gb_t.mp h))
structure Alike (c d : Ci) : Prop where
  to : Le c d
  back : Le d c
theorem Alike.refl (c : Ci) : Alike c c := ⟨.refl c, .refl c⟩
theorem Alike.symm {c d : Ci} (h : Alike c d) : Alike d c := ⟨h.back, h.to⟩
theorem Alike.trans {c d e : Ci} (h : Alike c d) (k : Alike d e) : Alike c e := ⟨h.to.trans k.to, k.back.trans h.back⟩
/-- parts that stand for the parts of a node -/
theorem cover_alike {k : Bool} {ps qs : List Ci} (hps : ∀ p ∈ ps, Fit p) (hqs : ∀ q ∈ qs, Fit q) (hp0 : ps ≠ []) (hq0 : qs ≠ []) (h1 : ∀ q ∈ qs, ∃ p ∈ ps, gb k q p = true) (h2 : ∀ p ∈ ps, ∃ q ∈ qs, gb k p q = true) : Alike (mkC k qs) (mkC k ps) := by
  have one : ∀ {ps qs : List Ci}, (∀ p ∈ ps, Fit p) → (∀ q ∈ qs, Fit q) → ps ≠ [] → qs ≠ [] → (∀ p ∈ ps, ∃ q ∈ qs, gb k p q = true) → gb k (mkC k ps) (mkC k qs) = true := by
    intro ps qs fp fq np nq h
    cases k with
    | true =>
      refine gb_t.mpr ((pool_iff fp np).mpr fun p hp => ?_)
      obtain ⟨q, hq, e⟩ := h p hp
      exact (pool_le fq hq).trans (gb_t.mp e)
    | false =>
      refine gb_f.mpr ((com_iff fp np).mpr fun p hp => ?_)
      obtain ⟨q, hq, e⟩ := h p hp
      exact (gb_f.mp e).trans (com_ge fq hq)
  have a := one hps hqs hp0 hq0 h2
  have b := one hqs hps hq0 hp0 h1
  cases k with
  | true => exact ⟨gb_t.mp a, gb_t.mp b⟩
  | false => exact ⟨gb_f.mp b, gb_f.mp a⟩
/-- alike parts make alike wholes -/
theorem parts_alike {k : Bool} {ps qs : List Ci} (hps : ∀ p ∈ ps, Fit p) (hqs : ∀ q ∈ qs, Fit q) (hl : qs.length = ps.length) (h0 : ps ≠ []) (h : ∀ (i : Nat) (p q : Ci), ps[i]? = some p → qs[i]? = some q → Alike q p) : Alike (mkC k qs) (mkC k ps) := by
  have q0 : qs ≠ [] := by
    intro e
    rw [e] at hl
    exact h0 (List.eq_nil_of_length_eq_zero hl.symm)
  refine cover_alike hps hqs h0 q0 (fun q hq => ?_) fun p hp => ?_
  · obtain ⟨i, hi⟩ := List.getElem?_of_mem hq
    have z : i < ps.length := by rw [← hl]; exact (List.getElem?_eq_some_iff.mp hi).1
    have a := h i _ q (List.getElem?_eq_getElem z) hi
    exact ⟨_, List.getElem_mem z, by cases k; exact gb_f.mpr a.to; exact gb_t.mpr a.back⟩
  · obtain ⟨i, hi⟩ := List.getElem?_of_mem hp
    have z : i < qs.length := by rw [hl]; exact (List.getElem?_eq_some_iff.mp hi).1
    have a := h i p _ hi (List.getElem?_eq_getElem z)
    exact ⟨_, List.getElem_mem z, by cases k; exact gb_f.mpr a.back; exact gb_t.mpr a.to⟩
/-! ### a part replaced by a part of it -/
noncomputable def replTo (k : Bool) (w : Ci) (p : Ci) : List Ci → Ci
  | [] => p
  | q :: r => if gb k q w = true then q else replTo k w p r
/-- what stands for the part p in the whole w -/
noncomputable def repl (k : Bool) (w p : Ci) : Ci := replTo k w p p.parts
theorem replTo_or {k : Bool} {w p : Ci} : ∀ {l : List Ci}, replTo k w p l = p ∨ (replTo k w p l ∈ l ∧ gb k (replTo k w p l) w = true)
  | [] => .inl rfl
  | q :: r => by
    unfold replTo
    by_cases h : gb k q w = true
    · rw [if_pos h]
      exact .inr ⟨List.mem_cons_self, h⟩
    · rw [if_neg h]
      rcases replTo_or (l := r) with z | ⟨z, z2⟩
      · exact .inl z
      · exact .inr ⟨List.mem_cons_of_mem _ z, z2⟩
theorem repl_or (k : Bool) (w p : Ci) : repl k w p = p ∨ (repl k w p ∈ p.parts ∧ gb k (repl k w p) w = true) := replTo_or
theorem mem_size {p q : Ci} (h : q ∈ p.parts) (hw : p.wf = true) : q.size < p.size := by
  cases p with
  | eye n => cases h
  | node k ps =>
    have w := wf_node.mp hw
    have h : q ∈ ps := h
    obtain ⟨i, hi⟩ := List.getElem?_of_mem h
    have z := sizes_set (q := q) hi
    rw [Ci.size]
    obtain ⟨a, b, e⟩ := List.append_of_mem h
    rw [e, sizes_app, sizes]
    have l : 2 ≤ a.length + (b.length + 1) := by
      have := w.1
      rw [e, List.length_append, List.length_cons] at this
      exact this
    have sa := sizes_len (ps := a) fun c hc => (w.2.1 c (by rw [e]; exact List.mem_append_left _ hc)).1
    have sb := sizes_len (ps := b) fun c hc => (w.2.1 c (by rw [e]; exact List.mem_append_right _ (List.mem_cons_of_mem _ hc))).1
    omega
theorem repl_fit {k : Bool} {w p : Ci} (h : Fit p) : Fit (repl k w p) := by
  rcases repl_or k w p with e | ⟨e, _⟩
  · rw [e]; exact h
  · exact h.part e
theorem repl_size {k : Bool} {w p : Ci} (h : Fit p) : (repl k w p).size ≤ p.size ∧ (repl k w p ≠ p → (repl k w p).size < p.size) := by
  rcases repl_or k w p with e | ⟨e, _⟩
  · rw [e]
    exact ⟨Nat.le_refl _, fun z => absurd rfl z⟩
  · have z := mem_size e h.wf
    exact ⟨Nat.le_of_lt z, fun _ => z⟩
theorem repl_depth {k : Bool} {w p : Ci} : (repl k w p).depth ≤ p.depth := by
  rcases repl_or k w p with e | ⟨e, _⟩
  · rw [e]; exact Nat.le_refl _
  · exact Nat.le_of_lt (pdepth e)
theorem repl_leaves {k : Bool} {w p : Ci} {x : Str} (h : x ∈ (repl k w p).leaves) : x ∈ p.leaves := by
  rcases repl_or k w p with e | ⟨e, _⟩
  · rw [e] at h; exact h
  · exact pleaves e h
/-- the parts replaced: still alike to the whole -/
theorem repl_alike {k : Bool} {w : Ci} {ps : List Ci} (hf : Fit (.node k ps)) (a : Alike (.node k ps) w) : Alike (mkC k (ps.map (repl k w))) w := by
  have wf := wf_node.mp hf.wf
  have fp : ∀ p ∈ ps, Fit p := fun p hp => hf.part hp
  have np : ps ≠ [] := by
    intro e
    rw [e] at wf
    simp at wf
  have fq : ∀ q ∈ ps.map (repl k w), Fit q := fun q hq => by
    obtain ⟨p, hp, rfl⟩ := List.mem_map.mp hq
    exact repl_fit (fp p hp)
  have nq : ps.map (repl k w) ≠ [] := fun e => np (List.map_eq_nil_iff.mp e)
  have gp : ∀ p ∈ ps, gb k p (repl k w p) = true := fun p hp => by
    rcases repl_or k w p with e | ⟨e, _⟩
    · rw [e]; exact gb_refl k p
    · have z := (wf.2.1 p hp).2
      cases p with
      | eye n => cases e
      | node j rs =>
        have jk : j ≠ k := by
          intro h
          rw [h] at z
          simp [Ci.isK] at z
        cases k with
        | true =>
          have : j = false := by cases j; rfl; exact absurd rfl jk
          subst this
          exact gb_t.mpr (.rc e (.refl _))
        | false =>
          have : j = true := by cases j; exact absurd rfl jk; rfl
          subst this
          exact gb_f.mpr (.lp e (.refl _))
  cases k with
  | true =>
    refine ⟨Le.trans ((le_pool rfl).mpr fun p hp => ?_) a.to, (pool_iff fq nq).mpr fun q hq => ?_⟩
    · exact (pool_le fq (List.mem_map.mpr ⟨p, hp, rfl⟩)).trans (gb_t.mp (gp p hp))
    · obtain ⟨p, hp, rfl⟩ := List.mem_map.mp hq
      rcases repl_or true w p with e | ⟨_, e⟩
      · rw [e]
        exact a.back.trans (.lp hp (.refl _))
      · exact gb_t.mp e
  | false =>
    refine ⟨(com_iff fq nq).mpr fun q hq => ?_, Le.trans a.back ((le_com rfl).mpr fun p hp => ?_)⟩
    · obtain ⟨p, hp, rfl⟩ := List.mem_map.mp hq
      rcases repl_or false w p with e | ⟨_, e⟩
      · rw [e]
        exact Le.trans (.rc hp (.refl _)) a.to
      · exact gb_f.mp e
    · exact (gb_f.mp (gp p hp)).trans (com_ge fq (List.mem_map.mpr ⟨p, hp, rfl⟩))
/-! ### the needed parts -/
/-- the part at j makes the part at i needless -/
noncomputable def beats (k : Bool) (ps : List Ci) (i j : Nat) : Bool := decide (j ≠ i) && (gb k (ps.getD i default) (ps.getD j default) && (decide (j < i) || !gb k (ps.getD j default) (ps.getD i default)))
noncomputable def neededB (k : Bool) (ps : List Ci) (i : Nat) : Bool := (List.range ps.length).all fun j => !beats k ps i j
noncomputable def keptTo (k : Bool) (ps : List Ci) (n : Nat) : List Ci := ((List.range n).filter (neededB k ps)).map fun i => ps.getD i default
theorem beats_iff {k : Bool} {ps : List Ci} {i j : Nat} : beats k ps i j = true ↔ j ≠ i ∧ gb k (ps.getD i default) (ps.getD j default) = true ∧ (j < i ∨ gb k (ps.getD j default) (ps.getD i default) = false) := by
  unfold beats
  simp only [Bool.and_eq_true, decide_eq_true_eq, Bool.or_eq_true, Bool.not_eq_true']
theorem beats_trans {k : Bool} {ps : List Ci} {i j l : Nat} (h : beats k ps i j = true) (h' : beats k ps j l = true) : beats k ps i l = true := by
  obtain ⟨a1, a2, a3⟩ := beats_iff.mp h
  obtain ⟨b1, b2, b3⟩ := beats_iff.mp h'
  have t := gb_trans a2 b2
  cases e : gb k (ps.getD l default) (ps.getD i default) with
  | false =>
    refine beats_iff.mpr ⟨fun z => ?_, t, .inr e⟩
    rw [z] at e
    rw [gb_refl] at e
    cases e
  | true =>
    have c1 := gb_trans b2 e
    have c2 := gb_trans e a2
    rw [c1] at a3
    rw [c2] at b3
    have d1 : j < i := a3.resolve_right (by simp)
    have d2 : l < j := b3.resolve_right (by simp)
    exact beats_iff.mpr ⟨by omega, t, .inl (by omega)⟩
theorem beats_irrefl {k : Bool} {ps : List Ci} {i : Nat} : beats k ps i i = false := by
  cases e : beats k ps i i with
  | false => rfl
  | true => exact absurd rfl (beats_iff.mp e).1
theorem countP_lt {α : Type} {p q : α → Bool} : ∀ {l : List α}, (∀ x ∈ l, p x = true → q x = true) → (∃ x ∈ l, q x = true ∧ p x = false) → l.countP p < l.countP q
  | [], _, h => by obtain ⟨_, h, _⟩ := h; cases h
  | x :: l, h, h' => by
    have mono : l.countP p ≤ l.countP q := List.countP_mono_left fun y hy => h y (List.mem_cons_of_mem _ hy)
    obtain ⟨y, hy, e1, e2⟩ := h'
    rw [List.countP_cons, List.countP_cons]
    rcases List.mem_cons.mp hy with z | z
    · rw [← z, e1, e2]
      simp
      omega
    · have r := countP_lt (l := l) (fun a ha => h a (List.mem_cons_of_mem _ ha)) ⟨y, z, e1, e2⟩
      have hx := h x List.mem_cons_self
      cases a : p x with
      | true => rw [hx a]; simp; omega
      | false => cases q x <;> simp <;> omega
theorem kept_cover {k : Bool} {ps : List Ci} : ∀ (n i : Nat), i < ps.length → (List.range ps.length).countP (beats k ps i) ≤ n → ∃ j, j < ps.length ∧ neededB k ps j = true ∧ gb k (ps.getD i default) (ps.getD j default) = true := by
  intro n
  induction n with
  | zero =>
    intro i hi h
    refine ⟨i, hi, List.all_eq_true.mpr fun j hj => ?_, gb_refl k _⟩
    have z := List.countP_eq_zero.mp (Nat.le_zero.mp h) j hj
    simpa using z
  | succ n ih =>
    intro i hi h
    by_cases e : neededB k ps i = true
    · exact ⟨i, hi, e, gb_refl k _⟩
    · obtain ⟨j, hj, hb⟩ : ∃ j, j ∈ List.range ps.length ∧ beats k ps i j = true := by
        unfold neededB at e
        rw [List.all_eq_true] at e
        simp only [Classical.not_forall] at e
        obtain ⟨j, hj, e⟩ := e
        exact ⟨j, hj, by simpa using e⟩
      have lt := countP_lt (p := beats k ps j) (q := beats k ps i) (l := List.range ps.length) (fun x _ hx => beats_trans hb hx) ⟨j, hj, hb, beats_irrefl⟩
      obtain ⟨l, hl, h1, h2⟩ := ih j (List.mem_range.mp hj) (by omega)
      exact ⟨l, hl, h1, gb_trans (beats_iff.mp hb).2.1 h2⟩
theorem kept_sub {k : Bool} {ps : List Ci} {x : Ci} (h : x ∈ keptTo k ps ps.length) : x ∈ ps := by
  obtain ⟨i, hi, rfl⟩ := List.mem_map.mp h
  have z := List.mem_range.mp (List.mem_filter.mp hi).1
  rw [List.getD_eq_getElem?_getD, List.getElem?_eq_getElem z]
  exact List.getElem_mem z
theorem kept_all {k : Bool} {ps : List Ci} {p : Ci} (h : p ∈ ps) : ∃ q ∈ keptTo k ps ps.length, gb k p q = true := by
  obtain ⟨i, hi⟩ := List.getElem?_of_mem h
  obtain ⟨z, e⟩ := List.getElem?_eq_some_iff.mp hi
  obtain ⟨j, hj, h1, h2⟩ := kept_cover (k := k) _ i z (Nat.le_refl _)
  refine ⟨ps.getD j default, List.mem_map.mpr ⟨j, List.mem_filter.mpr ⟨List.mem_range.mpr hj, h1⟩, rfl⟩, ?_⟩
  rw [List.getD_eq_getElem?_getD, hi] at h2
  exact h2
theorem sublist_get {α : Type} [Inhabited α] (f : Nat → Bool) : ∀ (l : List α), (((List.range l.length).filter f).map fun i => l.getD i default).Sublist l := by
  intro l
  have e : (List.range l.length).map (fun i => l.getD i default) = l := by
    apply List.ext_getElem?
    intro i
    rw [List.getElem?_map]
    by_cases h : i < l.length
    · rw [List.getElem?_range h]
      show some (l.getD i default) = _
      rw [List.getD_eq_getElem?_getD, List.getElem?_eq_getElem h]
      rfl
    · rw [List.getElem?_eq_none (by rw [List.length_range]; omega), List.getElem?_eq_none (by omega)]
      rfl
  have z := (List.filter_sublist (p := f) (l := List.range l.length)).map fun i => l.getD i default
  rw [e] at z
  exact z
theorem kept_sizes {k : Bool} {ps : List Ci} : sizes (keptTo k ps ps.length) ≤ sizes ps := sizes_sub (sublist_get (neededB k ps) ps)
theorem keptTo_succ {k : Bool} {ps : List Ci} {n : Nat} : keptTo k ps (n + 1) = if neededB k ps n = true then keptTo k ps n ++ [ps.getD n default] else keptTo k ps n := by
  unfold keptTo
  rw [List.range_succ, List.filter_append, List.map_append]
  cases e : neededB k ps n <;> simp [e]
theorem sizes_perm {a b : List Ci} (h : a.Perm b) : sizes a = sizes b := by
  induction h with
  | nil => rfl
  | cons x _ ih => rw [sizes, sizes, ih]
  | swap x y l => rw [sizes, sizes, sizes, sizes]; omega
  | trans _ _ a b => rw [a, b]
theorem mkC_node {k : Bool} {ps : List Ci} (hw : (Ci.node k ps).wf = true) : mkC k ps = .node k ps := by
  have w := wf_node.mp hw
  have hf : ∀ l : List Ci, (∀ c ∈ l, c.isK k = false) → flat k l = l := by
    intro l
    induction l with
    | nil => intro _; rfl
    | cons c cs ih =>
      intro h
      unfold flat at ih ⊢
      rw [List.flatMap_cons, ih fun e he => h e (List.mem_cons_of_mem _ he)]
      unfold flat1
      rw [h c List.mem_cons_self]
      rfl
  have hu : ∀ (l : List Ci) (seen : List Str), (l.map Ci.text).Nodup → (∀ c ∈ l, c.text ∉ seen) → uniqG seen l = l := by
    intro l
    induction l with
    | nil => intro _ _ _; rfl
    | cons c cs ih =>
      intro seen nd hs
      rw [List.map_cons, List.nodup_cons] at nd
      rw [uniqG, if_neg (hs c List.mem_cons_self)]
      congr 1
      refine ih _ nd.2 fun e he => ?_
      intro z
      rcases List.mem_append.mp z with z | z
      · exact hs e (List.mem_cons_of_mem _ he) z
      · have z := List.mem_singleton.mp z
        exact nd.1 (List.mem_map.mpr ⟨e, he, z⟩)
  unfold mkC
  rw [hf ps fun c hc => (w.2.1 c hc).2]
  unfold uniq
  rw [hu ps [] w.2.2 fun _ _ => by simp]
  match ps, w.1 with
  | a :: b :: r, _ => rfl
/-- the needed parts, in any order: alike to the node -/
theorem needed_alike {k : Bool} {ps out : List Ci} (hf : Fit (.node k ps)) (h : out.Perm (keptTo k ps ps.length)) : out ≠ [] ∧ sizes out ≤ sizes ps ∧ (∀ x ∈ out, x ∈ ps) ∧ Alike (mkC k out) (.node k ps) := by
  have wf := wf_node.mp hf.wf
  have sub : ∀ x ∈ out, x ∈ ps := fun x hx => kept_sub (h.mem_iff.mp hx)
  have all : ∀ p ∈ ps, ∃ q ∈ out, gb k p q = true := fun p hp => by
    obtain ⟨q, hq, e⟩ := kept_all (k := k) hp
    exact ⟨q, h.mem_iff.mpr hq, e⟩
  have np : ps ≠ [] := by
    intro e
    rw [e] at wf
    simp at wf
  have nq : out ≠ [] := by
    intro e
    obtain ⟨p, hp⟩ := List.exists_mem_of_ne_nil ps np
    obtain ⟨q, hq, _⟩ := all p hp
    rw [e] at hq
    cases hq
  have a := cover_alike (k := k) (fun p hp => hf.part hp) (fun q hq => hf.part (sub q hq)) np nq (fun q hq => ⟨q, sub q hq, gb_refl k q⟩) all
  have a : Alike (mkC k out) (mkC k ps) := a
  rw [mkC_node hf.wf] at a
  exact ⟨nq, by rw [sizes_perm h]; exact kept_sizes, sub, a⟩
/-! ### either or: an eye and the others -/
mutual
/-- whether the eye x tells the circle -/
def tb (x : Str) : Ci → Bool
  | .eye n => decide (n = x)
  | .node k ps => if k = true then (tbs x ps).all id else (tbs x ps).any id
def tbs (x : Str) : List Ci → List Bool
  | [] => []
  | c :: cs => tb x c :: tbs x cs
end
mutual
/-- whether the circle tells the eye x -/
def tl (x : Str) : Ci → Bool
  | .eye n => decide (n = x)
  | .node k ps => if k = true then (tls x ps).any id else (tls x ps).all id
def tls (x : Str) : List Ci → List Bool
  | [] => []
  | c :: cs => tl x c :: tls x cs
end
theorem tbs_eq (x : Str) : ∀ ps : List Ci, tbs x ps = ps.map (tb x)
  | [] => rfl
  | c :: cs => by rw [tbs, tbs_eq x cs]; rfl
theorem tls_eq (x : Str) : ∀ ps : List Ci, tls x ps = ps.map (tl x)
  | [] => rfl
  | c :: cs => by rw [tls, tls_eq x cs]; rfl
theorem tb_pool {x : Str} {ps : List Ci} : tb x (.node true ps) = true ↔ ∀ p ∈ ps, tb x p = true := by
  rw [tb, if_pos rfl, tbs_eq, List.all_map, List.all_eq_true]; rfl
theorem tb_com {x : Str} {ps : List Ci} : tb x (.node false ps) = true ↔ ∃ p ∈ ps, tb x p = true := by
  rw [tb, if_neg (by decide), tbs_eq, List.any_map, List.any_eq_true]; rfl
theorem tl_pool {x : Str} {ps : List Ci} : tl x (.node true ps) = true ↔ ∃ p ∈ ps, tl x p = true := by
  rw [tl, if_pos rfl, tls_eq, List.any_map, List.any_eq_true]; rfl
theorem tl_com {x : Str} {ps : List Ci} : tl x (.node false ps) = true ↔ ∀ p ∈ ps, tl x p = true := by
  rw [tl, if_neg (by decide), tls_eq, List.all_map, List.all_eq_true]; rfl
theorem le_eyes {n m : Str} : Le (.eye n) (.eye m) ↔ n = m := by
  rw [← leB_iff, leB_eye, decide_eq_true_iff]
theorem eye_le {x : Str} : ∀ c : Ci, Le (.eye x) c ↔ tb x c = true
  | .eye n => by
    rw [le_eyes, tb, decide_eq_true_iff]
    exact eq_comm
  | .node true ps => by
    rw [tb_pool, le_pool rfl]
    exact ⟨fun h p hp => (eye_le p).mp (h p hp), fun h p hp => (eye_le p).mpr (h p hp)⟩
  | .node false ps => by
    rw [tb_com, le_rest rfl rfl (by intro e; cases e)]
    constructor
    · rintro (⟨p, hp, _⟩ | ⟨q, hq, h⟩)
      · cases hp
      · exact ⟨q, hq, (eye_le q).mp h⟩
    · rintro ⟨p, hp, h⟩
      exact .inr ⟨p, hp, (eye_le p).mpr h⟩
termination_by c => sizeOf c
decreasing_by
  all_goals
    simp only [Ci.node.sizeOf_spec]
    first
      | (have := List.sizeOf_lt_of_mem ‹_ ∈ ps›; omega)
      | (have := List.sizeOf_lt_of_mem (as := ps) ‹_›; omega)
theorem le_eye {x : Str} : ∀ c : Ci, Le c (.eye x) ↔ tl x c = true
  | .eye n => by
    rw [le_eyes, tl, decide_eq_true_iff]
  | .node false ps => by
    rw [tl_com, le_com rfl]
    exact ⟨fun h p hp => (le_eye p).mp (h p hp), fun h p hp => (le_eye p).mpr (h p hp)⟩
  | .node true ps => by
    rw [tl_pool, le_rest rfl rfl (by intro e; cases e)]
    constructor
    · rintro (⟨q, hq, h⟩ | ⟨p, hp, _⟩)
      · exact ⟨q, hq, (le_eye q).mp h⟩
      · cases hp
    · rintro ⟨p, hp, h⟩
      exact .inl ⟨p, hp, (le_eye p).mpr h⟩
termination_by c => sizeOf c
decreasing_by
  all_goals
    simp only [Ci.node.sizeOf_spec]
    first
      | (have := List.sizeOf_lt_of_mem ‹_ ∈ ps›; omega)
      | (have := List.sizeOf_lt_of_mem (as := ps) ‹_›; omega)
/-- the eyes of some names -/
def eyes (zs : List Str) : List Ci := zs.map Ci.eye
theorem eyes_fit {zs : List Str} (h : ∀ z ∈ zs, isName z = true) : ∀ c ∈ eyes zs, Fit c := fun c hc => by
  obtain ⟨z, hz, rfl⟩ := List.mem_map.mp hc
  exact ⟨by rw [Ci.wf]; exact h z hz, by rw [Ci.size]; decide, by rw [Ci.depth]; decide⟩
theorem eyes_leaf {zs : List Str} {y : Str} {k : Bool} (h : ∀ z ∈ zs, isName z = true) (h0 : zs ≠ []) (hy : y ∈ (mkC k (eyes zs)).leaves) : y ∈ zs := by
  have n : Nc zs (mkC k (eyes zs)) (sizes (eyes zs)) (1 + 0) := mkC_nc (fun e => h0 (List.map_eq_nil_iff.mp e)) (fun c hc => (eyes_fit h c hc).wf) (Nat.le_refl _) (fun c hc => by
    obtain ⟨z, _, rfl⟩ := List.mem_map.mp hc
    rw [Ci.depth]
    exact Nat.le_refl _) fun c hc x hx => by
    obtain ⟨z, hz, rfl⟩ := List.mem_map.mp hc
    rw [Ci.leaves] at hx
    rw [List.mem_singleton.mp hx]
    exact hz
  exact n.ov y hy
theorem mkN_isK {k : Bool} {ps : List Ci} (h : ∀ c ∈ ps, c.isEye = true) : (mkN k ps).isK (!k) = false := by
  match ps, h with
  | [], _ => cases k <;> rfl
  | [c], h =>
    have z := h c List.mem_cons_self
    cases c with
    | eye n => rfl
    | node j rs => cases z
  | a :: b :: r, _ => cases k <;> rfl
theorem eyes_isK {k : Bool} {zs : List Str} : (mkC k (eyes zs)).isK (!k) = false ∧ ∀ p ∈ (mkC k (eyes zs)).parts, ∃ z ∈ zs, p = .eye z := by
  have fl : flat k (eyes zs) = eyes zs := by
    unfold flat eyes
    induction zs with
    | nil => rfl
    | cons z zs ih => rw [List.map_cons, List.flatMap_cons, ih]; rfl
  have me : ∀ c ∈ uniq (flat k (eyes zs)), ∃ z ∈ zs, c = .eye z := fun c hc => by
    rw [fl] at hc
    obtain ⟨z, hz, e⟩ := List.mem_map.mp (uniqG_mem hc)
    exact ⟨z, hz, e.symm⟩
  refine ⟨mkN_isK fun c hc => ?_, fun p hp => ?_⟩
  · obtain ⟨z, _, rfl⟩ := me c hc
    rfl
  · unfold mkC at hp
    have sub : ∀ l : List Ci, (∀ c ∈ l, ∃ z ∈ zs, c = .eye z) → p ∈ (mkN k l).parts → p ∈ l := by
      intro l hl hp
      match l, hl, hp with
      | [], _, hp => exact hp
      | [c], hl, hp =>
        obtain ⟨z, _, e⟩ := hl c List.mem_cons_self
        have hp : p ∈ c.parts := hp
        rw [e] at hp
        cases hp
      | a :: b :: r, _, hp => exact hp
    exact me p (sub _ me hp)
/-- a circle tells the common of the other eyes exactly if the eye does not tell it -/
theorem or_wide {x : Str} {zs : List Str} (hz : ∀ z ∈ zs, isName z = true) (h0 : zs ≠ []) (hx : x ∉ zs) : ∀ c : Ci, c.wf = true → (∀ y ∈ c.leaves, y = x ∨ y ∈ zs) → (Le c (mkC false (eyes zs)) ↔ tb x c = false)
  | .eye n, _, hl => by
    rw [tb, decide_eq_false_iff_not]
    constructor
    · intro h e
      exact hx (eyes_leaf hz h0 (eye_leaves h (by rw [e]) (mkC_wf (fun c hc => (eyes_fit hz c hc).wf) fun e => h0 (List.map_eq_nil_iff.mp e))))
    · intro h
      have : n ∈ zs := (hl n (by rw [Ci.leaves]; exact List.mem_singleton.mpr rfl)).resolve_left h
      exact com_ge (eyes_fit hz) (List.mem_map.mpr ⟨n, this, rfl⟩)
  | .node false ps, hw, hl => by
    have w := wf_node.mp hw
    rw [le_com rfl]
    have ih := fun p (hp : p ∈ ps) => or_wide hz h0 hx p (w.2.1 p hp).1 fun y hy => hl y (pleaves (c := .node false ps) hp hy)
    constructor
    · intro h
      cases e : tb x (.node false ps) with
      | false => rfl
      | true =>
        obtain ⟨p, hp, e⟩ := tb_com.mp e
        have z := (ih p hp).mp (h p hp)
        rw [z] at e
        cases e
    · intro h p hp
      refine (ih p hp).mpr ?_
      cases e : tb x p with
      | false => rfl
      | true =>
        have z : tb x (.node false ps) = true := tb_com.mpr ⟨p, hp, e⟩
        rw [z] at h
        cases h
  | .node true ps, hw, hl => by
    have w := wf_node.mp hw
    have ih := fun p (hp : p ∈ ps) => or_wide hz h0 hx p (w.2.1 p hp).1 fun y hy => hl y (pleaves (c := .node true ps) hp hy)
    have k1 := (eyes_isK (k := false) (zs := zs)).1
    have k2 := (eyes_isK (k := false) (zs := zs)).2
    have hd : isPool (mkC false (eyes zs)) = false := by
      cases q : mkC false (eyes zs) with
      | eye n => rfl
      | node j rs =>
        rw [q] at k1
        cases j with
        | true => cases k1
        | false => rfl
    have ne : Ci.node true ps ≠ mkC false (eyes zs) := by
      intro e
      rw [← e] at hd
      cases hd
    have hex : Le (.node true ps) (mkC false (eyes zs)) ↔ ∃ p ∈ ps, Le p (mkC false (eyes zs)) := by
      rw [le_rest rfl hd ne]
      constructor
      · rintro (h | ⟨q, hq, h⟩)
        · exact h
        · obtain ⟨z, hz', rfl⟩ := k2 q hq
          rcases (le_rest rfl rfl (by intro e; cases e)).mp h with ⟨p, hp, h⟩ | ⟨r, hr, _⟩
          · exact ⟨p, hp, h.trans (com_ge (eyes_fit hz) (List.mem_map.mpr ⟨z, hz', rfl⟩))⟩
          · cases hr
      · exact .inl
    rw [hex]
    constructor
    · rintro ⟨p, hp, h⟩
      cases e : tb x (.node true ps) with
      | false => rfl
      | true =>
        have z := (ih p hp).mp h
        rw [tb_pool.mp e p hp] at z
        cases z
    · intro h
      have : ¬ ∀ p ∈ ps, tb x p = true := fun z => by
        rw [tb_pool.mpr z] at h
        cases h
      simp only [Classical.not_forall] at this
      obtain ⟨p, hp, e⟩ := this
      exact ⟨p, hp, (ih p hp).mpr (by simpa using e)⟩
termination_by c => sizeOf c
decreasing_by
  all_goals
    simp only [Ci.node.sizeOf_spec]
    first
      | (have := List.sizeOf_lt_of_mem ‹_ ∈ ps›; omega)
      | (have := List.sizeOf_lt_of_mem (as := ps) ‹_›; omega)
/-- the pool of the other eyes tells a circle exactly if the circle does not tell the eye -/
theorem or_deep {x : Str} {zs : List Str} (hz : ∀ z ∈ zs, isName z = true) (h0 : zs ≠ []) (hx : x ∉ zs) : ∀ c : Ci, c.wf = true → (∀ y ∈ c.leaves, y = x ∨ y ∈ zs) → (Le (mkC true (eyes zs)) c ↔ tl x c = false)
  | .eye n, _, hl => by
    rw [tl, decide_eq_false_iff_not]
    constructor
    · intro h e
      have z := (le_eye _).mp h
      have k2 := (eyes_isK (k := true) (zs := zs)).2
      cases q : mkC true (eyes zs) with
      | eye m =>
        rw [q, tl, decide_eq_true_iff] at z
        have : m ∈ zs := eyes_leaf (k := true) hz h0 (by rw [q, Ci.leaves]; exact List.mem_singleton.mpr rfl)
        rw [z, e] at this
        exact hx this
      | node j rs =>
        have k1 := (eyes_isK (k := true) (zs := zs)).1
        rw [q] at k1 z k2
        cases j with
        | false => cases k1
        | true =>
          obtain ⟨p, hp, e2⟩ := tl_pool.mp z
          obtain ⟨y, hy, rfl⟩ := k2 p hp
          rw [tl, decide_eq_true_iff] at e2
          rw [e2, e] at hy
          exact hx hy
    · intro h
      have : n ∈ zs := (hl n (by rw [Ci.leaves]; exact List.mem_singleton.mpr rfl)).resolve_left h
      exact pool_le (eyes_fit hz) (List.mem_map.mpr ⟨n, this, rfl⟩)
  | .node true ps, hw, hl => by
    have w := wf_node.mp hw
    rw [le_pool rfl]
    have ih := fun p (hp : p ∈ ps) => or_deep hz h0 hx p (w.2.1 p hp).1 fun y hy => hl y (pleaves (c := .node true ps) hp hy)
    constructor
    · intro h
      cases e : tl x (.node true ps) with
      | false => rfl
      | true =>
        obtain ⟨p, hp, e⟩ := tl_pool.mp e
        have z := (ih p hp).mp (h p hp)
        rw [z] at e
        cases e
    · intro h p hp
      refine (ih p hp).mpr ?_
      cases e : tl x p with
      | false => rfl
      | true =>
        have z : tl x (.node true ps) = true := tl_pool.mpr ⟨p, hp, e⟩
        rw [z] at h
        cases h
  | .node false ps, hw, hl => by
    have w := wf_node.mp hw
    have ih := fun p (hp : p ∈ ps) => or_deep hz h0 hx p (w.2.1 p hp).1 fun y hy => hl y (pleaves (c := .node false ps) hp hy)
    have k1 := (eyes_isK (k := true) (zs := zs)).1
    have k2 := (eyes_isK (k := true) (zs := zs)).2
    have hd : isCom (mkC true (eyes zs)) = false := by
      cases q : mkC true (eyes zs) with
      | eye n => rfl
      | node j rs =>
        rw [q] at k1
        cases j with
        | false => cases k1
        | true => rfl
    have ne : mkC true (eyes zs) ≠ Ci.node false ps := by
      intro e
      rw [e] at hd
      cases hd
    have hex : Le (mkC true (eyes zs)) (.node false ps) ↔ ∃ p ∈ ps, Le (mkC true (eyes zs)) p := by
      rw [le_rest hd rfl ne]
      constructor
      · rintro (⟨q, hq, h⟩ | h)
        · obtain ⟨z, hz', rfl⟩ := k2 q hq
          rcases (le_rest rfl rfl (by intro e; cases e)).mp h with ⟨r, hr, _⟩ | ⟨p, hp, h⟩
          · cases hr
          · exact ⟨p, hp, (pool_le (eyes_fit hz) (List.mem_map.mpr ⟨z, hz', rfl⟩)).trans h⟩
        · exact h
      · exact .inr
    rw [hex]
    constructor
    · rintro ⟨p, hp, h⟩
      cases e : tl x (.node false ps) with
      | false => rfl
      | true =>
        have z := (ih p hp).mp h
        rw [tl_com.mp e p hp] at z
        cases z
    · intro h
      have : ¬ ∀ p ∈ ps, tl x p = true := fun z => by
        rw [tl_com.mpr z] at h
        cases h
      simp only [Classical.not_forall] at this
      obtain ⟨p, hp, e⟩ := this
      exact ⟨p, hp, (ih p hp).mpr (by simpa using e)⟩
termination_by c => sizeOf c
decreasing_by
  all_goals
    simp only [Ci.node.sizeOf_spec]
    first
      | (have := List.sizeOf_lt_of_mem ‹_ ∈ ps›; omega)
      | (have := List.sizeOf_lt_of_mem (as := ps) ‹_›; omega)
end LY

/-! Own words: settled circles; alike settled circles are the same. -/
namespace LY
open PySem PySem.Spec PyProof.Rows L2 LL LC LD LN LR
/-- the text of x stands ahead of that of y -/
def lt (x y : Ci) : Prop := x.text.cps.toList < y.text.cps.toList
theorem lt_irr (x : Ci) : ¬ lt x x := List.lt_irrefl _
theorem lt_as {x y : Ci} (h : lt x y) (k : lt y x) : False := List.lt_asymm h k
theorem lt_of {x y : Ci} (h : ltCps y.text.cps.toList x.text.cps.toList = false) (n : x.text ≠ y.text) : lt x y := by
  rw [ltCps_eq, decide_eq_false_iff_not] at h
  unfold lt
  refine Classical.byContradiction fun z => n ?_
  have e : x.text.cps.toList = y.text.cps.toList := List.le_antisymm (List.not_lt.mp h) (List.not_lt.mp z)
  have e2 : x.text.cps = y.text.cps := Array.toList_inj.mp e
  cases hx : x.text
  cases hy : y.text
  rw [hx, hy] at e2
  exact congrArg Str.mk e2
inductive Settled : Ci → Prop
  | eye (n : Str) : Settled (.eye n)
  | node {k : Bool} {ps : List Ci} (parts : ∀ p ∈ ps, Settled p) (ord : ps.Pairwise lt) (irr : ∀ p ∈ ps, ∀ q ∈ ps, gb k p q = true → p = q) (rep : ∀ p ∈ ps, ∀ r ∈ p.parts, gb k r (.node k ps) = false) : Settled (.node k ps)
theorem Settled.part {c p : Ci} (h : Settled c) (hp : p ∈ c.parts) : Settled p := by
  cases h with
  | eye n => cases hp
  | node parts _ _ _ => exact parts p hp
theorem asc_same {α : Type} {R : α → α → Prop} (irr : ∀ x, ¬ R x x) (as : ∀ x y, R x y → R y x → False) : ∀ {l m : List α}, l.Pairwise R → m.Pairwise R → (∀ x, x ∈ l ↔ x ∈ m) → l = m
  | [], [], _, _, _ => rfl
  | [], b :: m, _, _, h => by cases (h b).mpr List.mem_cons_self
  | a :: l, [], _, _, h => by cases (h a).mp List.mem_cons_self
  | a :: l, b :: m, hl, hm, h => by
    rw [List.pairwise_cons] at hl hm
    have e : a = b := by
      rcases List.mem_cons.mp ((h a).mp List.mem_cons_self) with z | z
      · exact z
      · rcases List.mem_cons.mp ((h b).mpr List.mem_cons_self) with y | y
        · exact y.symm
        · exact (as _ _ (hm.1 a z) (hl.1 b y)).elim
    subst e
    congr 1
    refine asc_same irr as hl.2 hm.2 fun x => ⟨fun hx => ?_, fun hx => ?_⟩
    · rcases List.mem_cons.mp ((h x).mp (List.mem_cons_of_mem _ hx)) with z | z
      · exact absurd (hl.1 x hx) (by rw [z]; exact irr _)
      · exact z
    · rcases List.mem_cons.mp ((h x).mpr (List.mem_cons_of_mem _ hx)) with z | z
      · exact absurd (hm.1 x hx) (by rw [z]; exact irr _)
      · exact z
theorem two_diff {k : Bool} {ps : List Ci} {p : Ci} (hw : (Ci.node k ps).wf = true) (h : ∀ q ∈ ps, q = p) : False := by
  have w := wf_node.mp hw
  match ps, w.1, w.2.2, h with
  | a :: b :: r, _, nd, h =>
    have e1 := h a List.mem_cons_self
    have e2 := h b (List.mem_cons_of_mem _ List.mem_cons_self)
    rw [e1, e2, List.map_cons, List.map_cons, List.nodup_cons] at nd
    exact nd.1 List.mem_cons_self
theorem ne_pool {ps : List Ci} {d : Ci} (h : isPool d = false) : Ci.node true ps ≠ d := by
  intro e
  rw [← e] at h
  cases h
theorem ne_com {ps : List Ci} {d : Ci} (h : isCom d = false) : d ≠ Ci.node false ps := by
  intro e
  rw [e] at h
  cases h
/-- a settled pool is alike to no eye and no common -/
theorem pool_not {ps : List Ci} {d : Ci} (hw : (Ci.node true ps).wf = true) (wd : d.wf = true) (sc : Settled (.node true ps)) (sd : Settled d) (hd : isPool d = false) (a : Alike (.node true ps) d) : False := by
  have up : ∀ p ∈ ps, Le d p := fun p hp => (le_pool rfl).mp a.back p hp
  rcases (le_rest rfl hd (ne_pool hd)).mp a.to with ⟨p, hp, h⟩ | ⟨q, hq, h⟩
  · have hp : p ∈ ps := hp
    cases sc with
    | node _ _ irr _ => exact two_diff hw fun q hq => irr q hq p hp (gb_t.mpr (h.trans (up q hq)))
  · cases sd with
    | eye n => cases hq
    | @node k qs _ _ irr _ =>
      have hq : q ∈ qs := hq
      cases k with
      | true => cases hd
      | false => exact two_diff wd fun r hr => irr r hr q hq (gb_f.mpr (((le_com rfl).mp a.back r hr).trans h))
theorem com_not {qs : List Ci} {d : Ci} (hw : (Ci.node false qs).wf = true) (wd : d.wf = true) (sc : Settled (.node false qs)) (sd : Settled d) (hd : isCom d = false) (a : Alike (.node false qs) d) : False := by
  have up : ∀ p ∈ qs, Le p d := fun p hp => (le_com rfl).mp a.to p hp
  rcases (le_rest hd rfl (ne_com hd)).mp a.back with ⟨p, hp, h⟩ | ⟨q, hq, h⟩
  · cases sd with
    | eye n => cases hp
    | @node k ps _ _ irr _ =>
      have hp : p ∈ ps := hp
      cases k with
      | false => cases hd
      | true => exact two_diff wd fun r hr => irr r hr p hp (gb_t.mpr (h.trans ((le_pool rfl).mp a.to r hr)))
  · have hq : q ∈ qs := hq
    cases sc with
    | node _ _ irr _ => exact two_diff hw fun r hr => irr r hr q hq (gb_f.mpr ((up r hr).trans h))
theorem isPool_eq (c : Ci) : isPool c = c.isK true := by
  cases c with
  | eye n => rfl
  | node k ps => cases k <;> rfl
theorem isCom_eq (c : Ci) : isCom c = c.isK false := by
  cases c with
  | eye n => rfl
  | node k ps => cases k <;> rfl
/-- each part of a settled node has one of an alike node beyond it -/
theorem part_to {k : Bool} {ps qs : List Ci} (hw : (Ci.node k ps).wf = true) (sc : Settled (.node k ps)) (a : Alike (.node k ps) (.node k qs)) {p : Ci} (hp : p ∈ ps) : ∃ q ∈ qs, gb k p q = true := by
  have w := ((wf_node.mp hw).2.1 p hp).2
  cases sc with
  | node _ _ _ rep =>
    cases k with
    | true =>
      have hi : isPool p = false := by rw [isPool_eq]; exact w
      have h : Le (.node true qs) p := a.back.trans ((le_pool rfl).mp (Le.refl (.node true ps)) p hp)
      rcases (le_rest rfl hi (ne_pool hi)).mp h with ⟨q, hq, h⟩ | ⟨r, hr, h⟩
      · exact ⟨q, hq, gb_t.mpr h⟩
      · have z := gb_t.mpr (a.to.trans h)
        rw [rep p hp r hr] at z
        cases z
    | false =>
      have hi : isCom p = false := by rw [isCom_eq]; exact w
      have h : Le p (.node false qs) := Le.trans ((le_com rfl).mp (Le.refl (.node false ps)) p hp) a.to
      rcases (le_rest hi rfl (ne_com hi)).mp h with ⟨r, hr, h⟩ | ⟨q, hq, h⟩
      · have z := gb_f.mpr (h.trans a.back)
        rw [rep p hp r hr] at z
        cases z
      · exact ⟨q, hq, gb_f.mpr h⟩
theorem gb_alike {k : Bool} {x y : Ci} (h : gb k x y = true) (h' : gb k y x = true) : Alike x y := by
  cases k with
  | true => exact ⟨gb_t.mp h', gb_t.mp h⟩
  | false => exact ⟨gb_f.mp h, gb_f.mp h'⟩
/-- settled circles that are alike are the same -/
theorem canon : ∀ (n : Nat) {c d : Ci}, c.size + d.size ≤ n → c.wf = true → d.wf = true → Settled c → Settled d → Alike c d → c = d := by
  intro n
  induction n with
  | zero =>
    intro c d h wc _ _ _ _
    have := size_pos wc
    omega
  | succ n ih =>
    intro c d hn wc wd sc sd a
    have node : ∀ {k : Bool} {ps qs : List Ci}, Ci.node k ps = c → Ci.node k qs = d → ∀ p ∈ ps, p ∈ qs ∧ True := by
      intro k ps qs e1 e2 p hp
      subst e1
      subst e2
      obtain ⟨q, hq, h1⟩ := part_to wc sc a hp
      obtain ⟨p', hp', h2⟩ := part_to wd sd a.symm hq
      have irr : ∀ p ∈ ps, ∀ q ∈ ps, gb k p q = true → p = q := by
        cases sc with
        | node _ _ irr _ => exact irr
      have e := irr p hp p' hp' (gb_trans h1 h2)
      subst e
      have s1 := mem_size (p := .node k ps) hp wc
      have s2 := mem_size (p := .node k qs) hq wd
      have z := ih (c := p) (d := q) (by omega) (wf_part (c := .node k ps) wc hp) (wf_part (c := .node k qs) wd hq) (sc.part hp) (sd.part hq) (gb_alike h1 h2)
      rw [z]
      exact ⟨hq, trivial⟩
    have node' : ∀ {k : Bool} {ps qs : List Ci}, Ci.node k ps = c → Ci.node k qs = d → ∀ q ∈ qs, q ∈ ps ∧ True := by
      intro k ps qs e1 e2 p hp
      subst e1
      subst e2
      obtain ⟨q, hq, h1⟩ := part_to wd sd a.symm hp
      obtain ⟨p', hp', h2⟩ := part_to wc sc a hq
      have irr : ∀ p ∈ qs, ∀ q ∈ qs, gb k p q = true → p = q := by
        cases sd with
        | node _ _ irr _ => exact irr
      have e := irr p hp p' hp' (gb_trans h1 h2)
      subst e
      have s1 := mem_size (p := .node k qs) hp wd
      have s2 := mem_size (p := .node k ps) hq wc
      have z := ih (c := q) (d := p) (by omega) (wf_part (c := .node k ps) wc hq) (wf_part (c := .node k qs) wd hp) (sc.part hq) (sd.part hp) (gb_alike h2 h1)
      rw [← z]
      exact ⟨hq, trivial⟩
    cases c with
    | eye m =>
      cases d with
      | eye m' => rw [le_eyes.mp a.to]
      | node j qs =>
        cases j with
        | true => exact (pool_not wd wc sd sc rfl a.symm).elim
        | false => exact (com_not wd wc sd sc rfl a.symm).elim
    | node k ps =>
      cases d with
      | eye m' =>
        cases k with
        | true => exact (pool_not wc wd sc sd rfl a).elim
        | false => exact (com_not wc wd sc sd rfl a).elim
      | node j qs =>
        by_cases e : j = k
        · subst e
          have m : ∀ x, x ∈ ps ↔ x ∈ qs := fun x => ⟨fun h => (node rfl rfl x h).1, fun h => (node' rfl rfl x h).1⟩
          have o1 : ps.Pairwise lt := by
            cases sc with
            | node _ ord _ _ => exact ord
          have o2 : qs.Pairwise lt := by
            cases sd with
            | node _ ord _ _ => exact ord
          rw [asc_same lt_irr (fun _ _ => lt_as) o1 o2 m]
        · cases k with
          | true =>
            have : j = false := by cases j; rfl; exact absurd rfl e
            subst this
            exact (pool_not wc wd sc sd rfl a).elim
          | false =>
            have : j = true := by cases j; exact absurd rfl e; rfl
            subst this
            exact (com_not wc wd sc sd rfl a).elim
/-! ### how a circle settles -/
theorem repl_settled {k : Bool} {w p : Ci} (h : Settled p) : Settled (repl k w p) := by
  rcases repl_or k w p with e | ⟨e, _⟩
  · rw [e]; exact h
  · exact h.part e
theorem mkN_parts {k : Bool} : ∀ {l : List Ci}, l ≠ [] → (∀ c ∈ l, Settled c) → ((mkN k l).isK k = false → Settled (mkN k l)) ∧ ∀ p ∈ (mkN k l).parts, Settled p
  | [c], _, h => ⟨fun _ => h c List.mem_cons_self, fun p hp => (h c List.mem_cons_self).part hp⟩
  | a :: b :: r, _, h => by
    refine ⟨fun e => ?_, fun p hp => h p hp⟩
    have e : (Ci.node k (a :: b :: r)).isK k = false := e
    simp [Ci.isK] at e
theorem mkC_parts {k : Bool} {cs : List Ci} (hw : ∀ c ∈ cs, c.wf = true) (h0 : cs ≠ []) (h : ∀ c ∈ cs, Settled c) : ((mkC k cs).isK k = false → Settled (mkC k cs)) ∧ ∀ p ∈ (mkC k cs).parts, Settled p := by
  refine mkN_parts (uniq_ne (flat_ne hw h0)) fun x hx => ?_
  obtain ⟨c, hc, e | hp⟩ := flat_mem (uniqG_mem hx)
  · rw [e]; exact h c hc
  · exact (h c hc).part hp
theorem replTo_id {k : Bool} {w p : Ci} : ∀ {l : List Ci}, (∀ q ∈ l, q ≠ p) → replTo k w p l = p → ∀ r ∈ l, gb k r w = false
  | [], _, _, _, h => nomatch h
  | q :: l, hq, h, r, hr => by
    unfold replTo at h
    by_cases e : gb k q w = true
    · rw [if_pos e] at h
      exact absurd h (hq q List.mem_cons_self)
    · rw [if_neg e] at h
      rcases List.mem_cons.mp hr with z | z
      · rw [z]
        cases x : gb k q w with
        | false => rfl
        | true => exact absurd x e
      · exact replTo_id (fun q hq' => hq q (List.mem_cons_of_mem _ hq')) h r z
theorem repl_id {k : Bool} {w p : Ci} (hw : p.wf = true) (h : repl k w p = p) : ∀ r ∈ p.parts, gb k r w = false :=
  replTo_id (fun q hq e => by
    have := mem_size hq hw
    rw [e] at this
    omega) h
theorem kept_irr {k : Bool} {ps : List Ci} {x y : Ci} (hx : x ∈ keptTo k ps ps.length) (hy : y ∈ keptTo k ps ps.length) (h : gb k x y = true) : x = y := by
  obtain ⟨i, hi, rfl⟩ := List.mem_map.mp hx
  obtain ⟨j, hj, rfl⟩ := List.mem_map.mp hy
  obtain ⟨i1, i2⟩ := List.mem_filter.mp hi
  obtain ⟨j1, j2⟩ := List.mem_filter.mp hj
  by_cases e : i = j
  · rw [e]
  · have a := List.all_eq_true.mp i2 j j1
    have b := List.all_eq_true.mp j2 i i1
    have a : beats k ps i j = false := by simpa using a
    have b : beats k ps j i = false := by simpa using b
    exfalso
    cases g : gb k (ps.getD j default) (ps.getD i default) with
    | false =>
      rw [beats_iff.mpr ⟨fun z => e z.symm, h, .inr g⟩] at a
      cases a
    | true =>
      by_cases l : j < i
      · rw [beats_iff.mpr ⟨fun z => e z.symm, h, .inl l⟩] at a
        cases a
      · rw [beats_iff.mpr ⟨e, g, .inl (by omega)⟩] at b
        cases b
theorem mkC_one {k : Bool} {x : Ci} (h : x.isK k = false) : mkC k [x] = x := by
  unfold mkC flat
  rw [List.flatMap_cons, List.flatMap_nil, List.append_nil]
  unfold flat1
  rw [h]
  rfl
theorem kept_nd {k : Bool} {ps : List Ci} (h : (ps.map Ci.text).Nodup) : ((keptTo k ps ps.length).map Ci.text).Nodup := List.Sublist.nodup ((sublist_get (neededB k ps) ps).map Ci.text) h
/-- the needed parts of an irreplaceable node in order: settled -/
theorem needed_settled {k : Bool} {ps out : List Ci} {w : Ci} (hf : Fit (.node k ps)) (hs : ∀ p ∈ ps, Settled p) (hr : ∀ p ∈ ps, repl k w p = p) (a : Alike (.node k ps) w) (h : out.Perm (keptTo k ps ps.length)) (ho : out.Pairwise fun p q => ltCps q.text.cps.toList p.text.cps.toList = false) : Settled (mkC k out) := by
  have wf := wf_node.mp hf.wf
  obtain ⟨g1, g2, g3, g4⟩ := needed_alike hf h
  have nd : (out.map Ci.text).Nodup := (h.map Ci.text).nodup_iff.mpr (kept_nd wf.2.2)
  match out, g1, h, ho, g2, g3, g4, nd with
  | [x], _, _, _, _, g3, _, _ =>
    rw [mkC_one (wf.2.1 x (g3 x List.mem_cons_self)).2]
    exact hs x (g3 x List.mem_cons_self)
  | x :: y :: r, _, h, ho, _, g3, g4, nd =>
    have hw : (Ci.node k (x :: y :: r)).wf = true := wf_node.mpr ⟨by simp, fun c hc => wf.2.1 c (g3 c hc), nd⟩
    rw [mkC_node hw] at g4 ⊢
    refine .node (fun p hp => hs p (g3 p hp)) ?_ (fun p hp q hq e => kept_irr (h.mem_iff.mp hp) (h.mem_iff.mp hq) e) fun p hp r' hr' => ?_
    · rw [List.Nodup, List.pairwise_map] at nd
      exact (ho.and nd).imp fun z => lt_of z.1 z.2
    · have z := repl_id (wf.2.1 p (g3 p hp)).1 (hr p (g3 p hp)) r' hr'
      cases e : gb k r' (.node k (x :: y :: r)) with
      | false => rfl
      | true =>
        have aw := g4.trans a
        have e2 : gb k (.node k (x :: y :: r)) w = true := by
          cases k with
          | true => exact gb_t.mpr aw.back
          | false => exact gb_f.mpr aw.to
        rw [gb_trans e e2] at z
        cases z
end LY
namespace LD
open PySem PySem.Spec PyProof.Rows L2 LL LC
/-! ### a comprehension with a filter, whose element may make new objects -/
section
variable {J : It} {n : Nat} {G : Hp → Prop} {Y : Nat → Hp → V → Hp → Prop} {g : TG} {tt : TT} {te : TE} {vs : List Nat} {σ : L2.St} {H1 : Hp} {D : Addr} {Qd : Hp → Prop}
theorem lc_stf (w : Walk J n G Y) (R : Nat → List V → Hp → Prop) (hn : n ≤ 1000000) (hG : ∀ i acc H, H D = some (.lst acc) → R i acc H → G H) (r0 : R 0 [] (upd H1 D (.lst [])))
    (hs : ∀ (i : Nat) (x : V) (H H' : Hp) (acc : List V) (Nx : VK) (No : Hp → Prop), i < n → H D = some (.lst acc) → acc.length ≤ i → R i acc H → Y i H x H' → (∀ y H4, H4 D = some (.lst acc) → R (i + 1) (acc ++ [y]) (upd H4 D (.lst (acc ++ [y]))) → Nx y H4) → (∀ H4, H4 D = some (.lst acc) → R (i + 1) acc H4 → No H4) →
      g x (wipe σ vs) H' fun σ2 H2 => wipe σ2 vs = wipe σ vs ∧ tt σ2 H2 fun b H3 => if b = true then te σ2 H3 Nx else No H3)
    (hd : ∀ H acc, H D = some (.lst acc) → acc.length ≤ n → R n acc H → Qd H) :
    ∃ W : Nat → Nat → Hp → Prop, (∃ m, W 0 m (upd H1 D (.lst []))) ∧ ∀ i m H, W i m H →
      (J.stop i H ∧ Qd H) ∨ (J.go i H ∧ ∃ Nx : Hp → Prop, (∀ H', Nx H' → ∃ m', m' < m ∧ W (i + 1) m' H') ∧ ∀ x H', J.yld i H x H' → g x (wipe σ vs) H' fun σ2 H2 => wipe σ2 vs = wipe σ vs ∧ tt σ2 H2 fun b H3 =>
        if b = true then te σ2 H3 fun y H4 => ∃ acc, H4 D = some (.lst acc) ∧ acc.length < sizeLine ∧ Nx (upd H4 D (.lst (acc ++ [y]))) else Nx H3) := by
  refine lc_it w (fun i H => ∃ acc, H D = some (.lst acc) ∧ acc.length ≤ i ∧ R i acc H) ⟨[], upd_same, Nat.le_refl _, r0⟩ (fun i H _ p => ?_) ?_ (fun H p => ?_)
  · obtain ⟨acc, h1, _, h3⟩ := p
    exact hG i acc H h1 h3
  · rintro i x H H' hi ⟨acc, h1, h2, h3⟩ hy
    refine hs i x H H' acc _ _ hi h1 h2 h3 hy (fun y H4 h4 r4 => ⟨acc, h4, ?_, acc ++ [y], upd_same, ?_, r4⟩) fun H4 h4 r4 => ⟨acc, h4, Nat.le_succ_of_le h2, r4⟩
    · exact Nat.lt_of_le_of_lt h2 (Nat.lt_of_lt_of_le (Nat.lt_of_lt_of_le hi hn) (by decide))
    · rw [List.length_append]
      exact Nat.succ_le_succ h2
  · obtain ⟨acc, h1, h2, h3⟩ := p
    exact hd H acc h1 h2 h3
end
end LD
namespace LY
open PySem PySem.Spec PyProof.Rows L2 LL LC LD LN LR
/-! ### the names of a circle in order: one list -/
theorem ltc_le {a b : List Nat} (h : ltCps b a = false) : a ≤ b := by
  rw [ltCps_eq, decide_eq_false_iff_not] at h
  exact List.not_lt.mp h
theorem le_ltc {a b : List Nat} (h : a ≤ b) : ltCps b a = false := by
  rw [ltCps_eq, decide_eq_false_iff_not]
  exact List.not_lt.mpr h
theorem rising_pairs : ∀ {l : List Str} {p : Str}, risingS p l = true → (p :: l).Pairwise fun a b => a.cps.toList ≤ b.cps.toList
  | [], p, _ => List.pairwise_singleton _ p
  | x :: r, p, h => by
    rw [risingS, Bool.and_eq_true, Bool.not_eq_true'] at h
    have h1 := ltc_le h.1
    have ih := rising_pairs h.2
    refine List.pairwise_cons.mpr ⟨fun y hy => ?_, ih⟩
    rcases List.mem_cons.mp hy with z | z
    · rw [z]; exact h1
    · exact List.le_trans h1 ((List.pairwise_cons.mp ih).1 y z)
theorem str_ext {x y : Str} (h : x.cps.toList = y.cps.toList) : x = y := by
  have e2 : x.cps = y.cps := Array.toList_inj.mp h
  cases x
  cases y
  exact congrArg Str.mk e2
theorem sorted_lt {l : List Str} (h : PyProof.Rows.sortedS l = true) (nd : l.Nodup) : l.Pairwise fun a b => a.cps.toList < b.cps.toList := by
  match l, h with
  | [], _ => exact .nil
  | x :: r, h =>
    refine ((rising_pairs h).and nd).imp fun z => ?_
    refine Classical.byContradiction fun k => z.2 (str_ext (List.le_antisymm z.1 (List.not_lt.mp k)))
theorem sorted_same {l m : List Str} (h : PyProof.Rows.sortedS l = true) (nd : l.Nodup) (h' : PyProof.Rows.sortedS m = true) (nd' : m.Nodup) (e : ∀ x, x ∈ l ↔ x ∈ m) : l = m :=
  asc_same (R := fun a b : Str => a.cps.toList < b.cps.toList) (fun _ => List.lt_irrefl _) (fun _ _ a b => List.lt_asymm a b) (sorted_lt h nd) (sorted_lt h' nd') e
theorem nms_same {c : Ci} {ns ms : List Str} (h : Nms ns c) (k : Nms ms c) : ns = ms :=
  sorted_same h.srt h.nd k.srt k.nd fun x => (h.mem x).trans (k.mem x).symm
/-- the keys of two circles are the same exactly if both are alike -/
theorem key_same {c d e f : Ci} (we : e.wf = true) (wf : f.wf = true) (se : Settled e) (sf : Settled f) (ae : Alike e c) (af : Alike f d) : e = f ↔ (leB c d && leB d c) = true := by
  rw [Bool.and_eq_true, leB_iff, leB_iff]
  constructor
  · intro z
    subst z
    have a := ae.symm.trans af
    exact ⟨a.to, a.back⟩
  · rintro ⟨h1, h2⟩
    exact canon _ (Nat.le_refl _) we wf se sf (ae.trans ((Alike.mk h1 h2).trans af.symm))
end LY

/-! Own words: how a text falls into pieces at the signs outside of all parentheses. -/
namespace LP
open PySem PySem.Spec PyProof.Rows L2 LL LC
open SX (S S_cat S_tl S_len)
structure PS where
  ps : List (List Nat)
  sg : List Nat
  h : Int
  q : List Nat
def hold (h : Int) (c : Nat) : Int := h + (if c = 40 then 1 else 0) - (if c = 41 then 1 else 0)
def step (s : PS) (c : Nat) : Option PS :=
  if hold s.h c < 0 then none
  else if hold s.h c = 0 ∧ (c = 38 ∨ c = 124) then some ⟨s.ps ++ [s.q], s.sg ++ [c], hold s.h c, []⟩
  else some ⟨s.ps, s.sg, hold s.h c, s.q ++ [c]⟩
def run (s : PS) : List Nat → Option PS
  | [] => some s
  | c :: l => (step s c).bind fun s' => run s' l
theorem run_app (s : PS) : ∀ (a b : List Nat), run s (a ++ b) = (run s a).bind fun s' => run s' b
  | [], b => rfl
  | c :: a, b => by
    rw [List.cons_append, run, run]
    cases h : step s c with
    | none => rfl
    | some s' => exact run_app s' a b
theorem run_pre {s s2 : PS} {a b : List Nat} (h : run s (a ++ b) = some s2) : ∃ s1, run s a = some s1 ∧ run s1 b = some s2 := by
  rw [run_app] at h
  cases e : run s a with
  | none => rw [e] at h; cases h
  | some s1 => rw [e] at h; exact ⟨s1, rfl, h⟩
/-- the state behind the next sign -/
theorem run_next {s s1 s2 : PS} {l : List Nat} {i c : Nat} (h : run s l = some s2) (h1 : run s (l.take i) = some s1) (hc : l[i]? = some c) : ∃ s3, step s1 c = some s3 ∧ run s (l.take (i + 1)) = some s3 := by
  have e : l.take (i + 1) = l.take i ++ [c] := by rw [List.take_add_one, hc]; rfl
  rw [← List.take_append_drop (i + 1) l] at h
  obtain ⟨s3, h3, _⟩ := run_pre h
  have h4 := h3
  rw [e, run_app, h1] at h4
  refine ⟨s3, ?_, h3⟩
  have h5 : run s1 [c] = some s3 := h4
  rw [run] at h5
  cases q : step s1 c with
  | none => rw [q] at h5; cases h5
  | some s4 => rw [q] at h5; exact h5
/-- a text that stays within its piece -/
def Stays (h : Int) (l : List Nat) : Prop := ∀ P G q, run ⟨P, G, h, q⟩ l = some ⟨P, G, h, q ++ l⟩
theorem Stays.nil (h : Int) : Stays h [] := fun P G q => by rw [run, List.append_nil]
theorem Stays.app {h : Int} {a b : List Nat} (ha : Stays h a) (hb : Stays h b) : Stays h (a ++ b) := fun P G q => by
  rw [run_app, ha P G q]
  show run _ b = _
  rw [hb, List.append_assoc]
theorem Stays.one {h : Int} {c : Nat} (h0 : 0 ≤ h) (c1 : c ≠ 40) (c2 : c ≠ 41) (c3 : 1 ≤ h ∨ c ≠ 38 ∧ c ≠ 124) : Stays h [c] := fun P G q => by
  have e : hold h c = h := by
    unfold hold
    rw [if_neg c1, if_neg c2]
    omega
  rw [run]
  unfold step
  simp only [e]
  rw [if_neg (by omega), if_neg (by omega)]
  rfl
theorem Stays.all {h : Int} (h0 : 0 ≤ h) : ∀ {l : List Nat}, (∀ c ∈ l, c ≠ 40 ∧ c ≠ 41 ∧ (1 ≤ h ∨ c ≠ 38 ∧ c ≠ 124)) → Stays h l
  | [], _ => .nil h
  | c :: l, k => by
    obtain ⟨a, b, d⟩ := k c List.mem_cons_self
    exact Stays.app (Stays.one h0 a b d) (Stays.all h0 fun x hx => k x (List.mem_cons_of_mem _ hx))
theorem Stays.paren {h : Int} {l : List Nat} (h0 : 0 ≤ h) (k : Stays (h + 1) l) : Stays h ([40] ++ l ++ [41]) := fun P G q => by
  rw [List.append_assoc, run_app]
  have e1 : run ⟨P, G, h, q⟩ [40] = some ⟨P, G, h + 1, q ++ [40]⟩ := by
    rw [run]
    unfold step hold
    simp only [if_true]
    rw [if_neg (by simp; omega), if_neg (by simp)]
    simp [run]
  rw [e1]
  show run ⟨P, G, h + 1, q ++ [40]⟩ (l ++ [41]) = _
  rw [run_app, k]
  show run ⟨P, G, h + 1, q ++ [40] ++ l⟩ [41] = _
  rw [run]
  unfold step hold
  simp only [if_true]
  rw [if_neg (by simp; omega), if_neg (by simp)]
  simp only [run, Option.bind_some, Option.some.injEq, PS.mk.injEq, true_and]
  refine ⟨by simp, by simp [List.append_assoc]⟩
def sc (k : Bool) : Nat := if k = true then 38 else 124
theorem tl_sgn (k : Bool) : TL.tl (sgn k) = [32, sc k, 32] := by cases k <;> decide +kernel
theorem wrap_tl (c : Ci) : TL.tl (wrap c.isEye c.text) = if c.isEye = true then TL.tl c.text else [40] ++ TL.tl c.text ++ [41] := by
  unfold wrap
  cases c.isEye with
  | true => rfl
  | false =>
    rw [if_neg (by decide), if_neg (by decide), TL.tl_append, TL.tl_append]
    rfl
theorem name_stays {n : Str} (h : isName n = true) {k : Int} (h0 : 0 ≤ k) : Stays k (TL.tl n) := by
  refine Stays.all h0 fun c hc => ?_
  have z : c ∈ LET.cps.toList := by
    unfold isName at h
    rw [Bool.and_eq_true] at h
    exact of_decide_eq_true (List.all_eq_true.mp h.2 c hc)
  have e : LET.cps.toList = [97, 98, 99, 100, 101, 102, 103, 104, 105, 106, 107, 108, 109, 110, 111, 112, 113, 114, 115, 116, 117, 118, 119, 120, 121, 122] := by decide +kernel
  rw [e] at z
  simp only [List.mem_cons, List.not_mem_nil, or_false] at z
  omega
mutual
theorem text_stays : ∀ {c : Ci} {h : Int}, c.wf = true → 1 ≤ h → Stays h (TL.tl c.text)
  | .eye n, h, w, h1 => by
    rw [Ci.wf] at w
    rw [Ci.text]
    exact name_stays w (by omega)
  | .node k ps, h, w, h1 => by
    rw [Ci.text, TL.join_eq, TL.tl_join]
    exact texts_stay (fun c hc => ((wf_node.mp w).2.1 c hc).1) h1
theorem texts_stay : ∀ {ps : List Ci} {k : Bool} {h : Int}, (∀ c ∈ ps, c.wf = true) → 1 ≤ h → Stays h (TL.joinL (TL.tl (sgn k)) ((wtexts ps).map TL.tl))
  | [], k, h, _, _ => .nil h
  | [c], k, h, w, h1 => by
    have z : Stays h (TL.tl (wrap c.isEye c.text)) := by
      rw [wrap_tl]
      cases e : c.isEye with
      | true => exact text_stays (w c List.mem_cons_self) h1
      | false =>
        rw [if_neg (by decide)]
        exact Stays.paren (by omega) (text_stays (w c List.mem_cons_self) (by omega))
    exact z
  | c :: d :: ps, k, h, w, h1 => by
    have z : Stays h (TL.tl (wrap c.isEye c.text)) := by
      rw [wrap_tl]
      cases e : c.isEye with
      | true => exact text_stays (w c List.mem_cons_self) h1
      | false =>
        rw [if_neg (by decide)]
        exact Stays.paren (by omega) (text_stays (w c List.mem_cons_self) (by omega))
    have y := texts_stay (ps := d :: ps) (k := k) (h := h) (fun x hx => w x (List.mem_cons_of_mem _ hx)) h1
    rw [wtexts, wtexts, List.map_cons, List.map_cons]
    rw [wtexts, List.map_cons] at y
    show Stays h (TL.tl (wrap c.isEye c.text) ++ (TL.tl (sgn k) ++ TL.joinL (TL.tl (sgn k)) (TL.tl (wrap d.isEye d.text) :: (wtexts ps).map TL.tl)))
    refine z.app (Stays.app ?_ y)
    rw [tl_sgn]
    refine Stays.all (by omega) fun c hc => ?_
    have : c = 32 ∨ c = 38 ∨ c = 124 := by
      simp only [List.mem_cons, List.not_mem_nil, or_false] at hc
      rcases hc with e | e | e
      · exact .inl e
      · cases k
        · exact .inr (.inr e)
        · exact .inr (.inl e)
      · exact .inl e
    omega
end
theorem item_stays {c : Ci} (w : c.wf = true) {h : Int} (h0 : 0 ≤ h) : Stays h (TL.tl (wrap c.isEye c.text)) := by
  rw [wrap_tl]
  cases c with
  | eye n =>
    rw [Ci.wf] at w
    rw [Ci.text]
    exact name_stays w h0
  | node k ps => exact Stays.paren h0 (text_stays w (by omega))
/-- the pieces of items, the first one behind q -/
def pcs (q : List Nat) : List (List Nat) → List (List Nat)
  | [] => [q]
  | [w] => [q ++ w]
  | w :: w2 :: r => (q ++ w ++ [32]) :: pcs [32] (w2 :: r)
theorem run_items {k : Bool} : ∀ {ws : List (List Nat)} (P : List (List Nat)) (G q : List Nat), ws ≠ [] → (∀ w ∈ ws, Stays 0 w) →
    ∃ s, run ⟨P, G, 0, q⟩ (TL.joinL [32, sc k, 32] ws) = some s ∧ s.ps ++ [s.q] = P ++ pcs q ws ∧ s.sg = G ++ List.replicate (ws.length - 1) (sc k) ∧ s.h = 0
  | [w], P, G, q, _, h => ⟨_, h w List.mem_cons_self P G q, by simp [pcs], by simp, rfl⟩
  | w :: w2 :: r, P, G, q, _, h => by
    obtain ⟨s, e, e1, e2, e3⟩ := run_items (k := k) (ws := w2 :: r) (P ++ [q ++ w ++ [32]]) (G ++ [sc k]) [32] (by simp) fun x hx => h x (List.mem_cons_of_mem _ hx)
    refine ⟨s, ?_, ?_, ?_, e3⟩
    · show run ⟨P, G, 0, q⟩ (w ++ ([32, sc k, 32] ++ TL.joinL [32, sc k, 32] (w2 :: r))) = some s
      rw [run_app, h w List.mem_cons_self]
      show run ⟨P, G, 0, q ++ w⟩ ([32, sc k, 32] ++ _) = _
      rw [run_app]
      have z : run ⟨P, G, 0, q ++ w⟩ [32, sc k, 32] = some ⟨P ++ [q ++ w ++ [32]], G ++ [sc k], 0, [32]⟩ := by cases k <;> simp [run, step, hold, sc]
      rw [z]
      exact e
    · rw [e1, pcs, List.append_assoc]
      rfl
    · rw [e2, List.append_assoc]
      congr 1
theorem pcs_at : ∀ {ws : List (List Nat)} {q : List Nat} {i : Nat} {w : List Nat}, ws[i]? = some w → (pcs q ws)[i]? = some ((if i = 0 then q else [32]) ++ w ++ if i + 1 < ws.length then [32] else [])
  | [w], q, 0, w', h => by
    cases h
    simp [pcs]
  | [w], q, i + 1, w', h => by simp at h
  | w :: w2 :: r, q, 0, w', h => by
    cases h
    simp [pcs]
  | w :: w2 :: r, q, i + 1, w', h => by
    rw [pcs, List.getElem?_cons_succ, pcs_at (ws := w2 :: r) (by simpa using h)]
    simp
theorem pcs_len : ∀ {ws : List (List Nat)} {q : List Nat}, ws ≠ [] → (pcs q ws).length = ws.length
  | [w], q, _ => rfl
  | w :: w2 :: r, q, _ => by rw [pcs, List.length_cons, pcs_len (by simp)]; rfl
/-- the pieces and the signs of the text of a node -/
theorem node_pieces {k : Bool} {ps : List Ci} (hw : (Ci.node k ps).wf = true) : ∃ s, run ⟨[], [], 0, []⟩ (TL.tl (Ci.node k ps).text) = some s ∧ s.ps ++ [s.q] = pcs [] ((wtexts ps).map TL.tl) ∧ s.sg = List.replicate (ps.length - 1) (sc k) ∧ s.h = 0 := by
  have w := wf_node.mp hw
  have l : (wtexts ps).length = ps.length := by rw [wtexts_eq, List.length_map]
  obtain ⟨s, e, e1, e2, e3⟩ := run_items (k := k) (ws := (wtexts ps).map TL.tl) [] [] [] (fun z => by
    have z := congrArg List.length z
    rw [List.length_map, l, List.length_nil] at z
    omega) fun x hx => by
    rw [wtexts_eq, List.map_map] at hx
    obtain ⟨c, hc, rfl⟩ := List.mem_map.mp hx
    exact item_stays (w.2.1 c hc).1 (Int.le_refl 0)
  refine ⟨s, ?_, by simpa using e1, by rw [e2, List.length_map, l]; rfl, e3⟩
  rw [Ci.text, TL.join_eq, TL.tl_join, tl_sgn]
  exact e
theorem eye_pieces {n : Str} (h : isName n = true) : run ⟨[], [], 0, []⟩ (TL.tl n) = some ⟨[], [], 0, TL.tl n⟩ := name_stays h (Int.le_refl 0) [] [] []
/-! ### cuts -/
theorem cut_to (l : List Nat) (n : Nat) : cutS (S l) none (some (n : Int)) = S (l.take n) := by
  unfold cutS
  rw [HT.sIx_none, HT.sIx_nat, S_len]
  show (⟨((l.toArray.toList.drop 0).take (min n l.length - 0)).toArray⟩ : Str) = _
  congr 2
  rw [List.drop_zero, Nat.sub_zero, List.toList_toArray]
  by_cases h : n ≤ l.length
  · rw [Nat.min_eq_left h]
  · rw [Nat.min_eq_right (by omega), List.take_of_length_le (Nat.le_refl _), List.take_of_length_le (by omega)]
theorem cut_from (l : List Nat) (n : Nat) : cutS (S l) (some (n : Int)) none = S (l.drop n) := by
  unfold cutS
  rw [HT.sIx_none, HT.sIx_nat, S_len]
  show (⟨((l.toArray.toList.drop (min n l.length)).take (l.length - min n l.length)).toArray⟩ : Str) = _
  congr 2
  rw [List.toList_toArray]
  by_cases h : n ≤ l.length
  · rw [Nat.min_eq_left h, List.take_of_length_le (by rw [List.length_drop]; omega)]
  · rw [Nat.min_eq_right (by omega), List.drop_of_length_le (Nat.le_refl _), List.drop_of_length_le (by omega)]
    simp
theorem sIx_neg (n d : Nat) : HT.sIx n d (some (-1)) = n - 1 := by
  have e : HT.sIx n d (some (-1)) = if (-1 : Int) < 0 then ((-1 : Int) + (n : Int)).toNat else min ((-1 : Int)).toNat n := rfl
  rw [e, if_pos (by decide)]
  omega
theorem cut_last (l : List Nat) : cutS (S l) (some (-1)) none = S (l.drop (l.length - 1)) := by
  unfold cutS
  rw [HT.sIx_none, sIx_neg, S_len]
  show (⟨((l.toArray.toList.drop (l.length - 1)).take (l.length - (l.length - 1))).toArray⟩ : Str) = _
  congr 2
  rw [List.toList_toArray, List.take_of_length_le (by rw [List.length_drop]; omega)]
theorem cut_init (l : List Nat) : cutS (S l) none (some (-1)) = S (l.take (l.length - 1)) := by
  unfold cutS
  rw [HT.sIx_none, sIx_neg, S_len]
  show (⟨((l.toArray.toList.drop 0).take (l.length - 1 - 0)).toArray⟩ : Str) = _
  congr 2
theorem cut_mid (a b : Nat) (l : List Nat) : cutS (S ([a] ++ l ++ [b])) (some 1) (some (-1)) = S l := by
  unfold cutS
  have e1 : ∀ m : Nat, HT.sIx m 0 (some (1 : Int)) = min 1 m := fun m => HT.sIx_nat m 0 1
  rw [e1, sIx_neg, S_len]
  show (⟨((([a] ++ l ++ [b]).toArray.toList.drop (min 1 ([a] ++ l ++ [b]).length)).take (([a] ++ l ++ [b]).length - 1 - min 1 ([a] ++ l ++ [b]).length)).toArray⟩ : Str) = _
  congr 2
  rw [List.toList_toArray]
  have e : ([a] ++ l ++ [b]).length = l.length + 2 := by simp
  rw [e, Nat.min_eq_left (by omega)]
  simp
end LP

/-! Own words: a circle with eyes put out, above or beneath. -/
namespace LQ
open PySem PySem.Spec PyProof.Rows L2 LL LC LD LN LR LY
mutual
/-- the circle without the eyes of g: above (up), beneath (not up); none: nothing is left -/
def putO (g : List Str) (up : Bool) : Ci → Option Ci
  | .eye n => if n ∈ g then none else some (.eye n)
  | .node k ps => if (putOs g up ps).filterMap id = [] then none else if k ≠ up ∧ ((putOs g up ps).filterMap id).length < ps.length then none else some (mkC k ((putOs g up ps).filterMap id))
def putOs (g : List Str) (up : Bool) : List Ci → List (Option Ci)
  | [] => []
  | c :: cs => putO g up c :: putOs g up cs
end
theorem putOs_eq (g : List Str) (up : Bool) : ∀ ps : List Ci, putOs g up ps = ps.map (putO g up)
  | [] => rfl
  | c :: cs => by rw [putOs, putOs_eq g up cs]; rfl
/-- what is left of the parts -/
def left (g : List Str) (up : Bool) (ps : List Ci) : List Ci := ps.filterMap (putO g up)
theorem left_eq (g : List Str) (up : Bool) (ps : List Ci) : (putOs g up ps).filterMap id = left g up ps := by
  rw [putOs_eq, List.filterMap_map]
  rfl
open Classical in
theorem putO_node {g : List Str} {up k : Bool} {ps : List Ci} : putO g up (.node k ps) = if left g up ps = [] then none else if k ≠ up ∧ (left g up ps).length < ps.length then none else some (mkC k (left g up ps)) := by
  rw [putO, left_eq]
theorem left_len (g : List Str) (up : Bool) (ps : List Ci) : (left g up ps).length ≤ ps.length := List.length_filterMap_le _ _
theorem mem_left {g : List Str} {up : Bool} {ps : List Ci} {w : Ci} : w ∈ left g up ps ↔ ∃ p ∈ ps, putO g up p = some w := List.mem_filterMap
theorem left_all {g : List Str} {up : Bool} : ∀ {ps : List Ci}, (∀ p ∈ ps, ∃ w, putO g up p = some w) → (left g up ps).length = ps.length
  | [], _ => rfl
  | p :: ps, h => by
    obtain ⟨w, e⟩ := h p List.mem_cons_self
    have ih := left_all (g := g) (up := up) (ps := ps) fun q hq => h q (List.mem_cons_of_mem _ hq)
    unfold left at ih ⊢
    rw [List.filterMap_cons, e, List.length_cons, List.length_cons, ih]
theorem left_same {g : List Str} {up : Bool} : ∀ {ps : List Ci}, (left g up ps).length = ps.length → ∀ p ∈ ps, ∃ w, putO g up p = some w
  | [], _, p, hp => nomatch hp
  | p :: ps, h, q, hq => by
    unfold left at h
    have le : (ps.filterMap (putO g up)).length ≤ ps.length := List.length_filterMap_le _ _
    rw [List.filterMap_cons] at h
    cases e : putO g up p with
    | none =>
      rw [e, List.length_cons] at h
      simp only at h
      omega
    | some w =>
      rw [e, List.length_cons, List.length_cons] at h
      simp only [Nat.add_right_cancel_iff] at h
      rcases List.mem_cons.mp hq with z | z
      · exact ⟨w, by rw [z]; exact e⟩
      · exact left_same (ps := ps) h q z
/-- the names matter, not their order -/
theorem putO_ext {g h : List Str} {up : Bool} (e : ∀ x, x ∈ g ↔ x ∈ h) : ∀ c : Ci, putO g up c = putO h up c
  | .eye n => by
    rw [putO, putO]
    by_cases z : n ∈ g
    · rw [if_pos z, if_pos ((e n).mp z)]
    · rw [if_neg z, if_neg fun y => z ((e n).mpr y)]
  | .node k ps => by
    have z : putOs g up ps = putOs h up ps := by
      rw [putOs_eq, putOs_eq]
      exact List.map_congr_left fun p hp => putO_ext e p
    rw [putO, putO, z]
termination_by c => sizeOf c
decreasing_by
  simp only [Ci.node.sizeOf_spec]
  have := List.sizeOf_lt_of_mem hp
  omega
/-- sizes, depths and names of what is left -/
structure Lf (g : List Str) (c w : Ci) : Prop where
  wf : w.wf = true
  size : w.size ≤ c.size
  depth : w.depth ≤ c.depth
  ov : ∀ x ∈ w.leaves, x ∈ c.leaves ∧ x ∉ g
theorem Lf.fit {g : List Str} {c w : Ci} (h : Lf g c w) (f : Fit c) : Fit w := ⟨h.wf, Nat.le_trans h.size f.size, Nat.le_trans h.depth f.depth⟩
theorem lefts {g : List Str} {up : Bool} : ∀ {ps : List Ci}, (∀ p ∈ ps, ∀ w, putO g up p = some w → Lf g p w) → sizes (left g up ps) ≤ sizes ps ∧ ∀ w ∈ left g up ps, ∃ p ∈ ps, Lf g p w
  | [], _ => ⟨Nat.le_refl _, fun w hw => nomatch hw⟩
  | p :: ps, h => by
    obtain ⟨h1, h2⟩ := lefts (g := g) (up := up) (ps := ps) fun q hq => h q (List.mem_cons_of_mem _ hq)
    unfold left at h1 h2 ⊢
    rw [List.filterMap_cons]
    cases e : putO g up p with
    | none =>
      refine ⟨?_, fun w hw => ?_⟩
      · rw [sizes]
        exact Nat.le_trans h1 (Nat.le_add_left _ _)
      · obtain ⟨q, hq, l⟩ := h2 w hw
        exact ⟨q, List.mem_cons_of_mem _ hq, l⟩
    | some w0 =>
      have l0 := h p List.mem_cons_self w0 e
      refine ⟨?_, fun w hw => ?_⟩
      · show sizes (w0 :: ps.filterMap (putO g up)) ≤ _
        rw [sizes, sizes]
        have := l0.size
        omega
      · rcases List.mem_cons.mp hw with z | z
        · exact ⟨p, List.mem_cons_self, by rw [z]; exact l0⟩
        · obtain ⟨q, hq, l⟩ := h2 w z
          exact ⟨q, List.mem_cons_of_mem _ hq, l⟩
theorem putO_lf {g : List Str} {up : Bool} : ∀ {c : Ci}, c.wf = true → ∀ w, putO g up c = some w → Lf g c w
  | .eye n, hw, w, h => by
    rw [putO] at h
    by_cases z : n ∈ g
    · rw [if_pos z] at h; cases h
    · rw [if_neg z] at h
      cases h
      refine ⟨hw, Nat.le_refl _, Nat.le_refl _, fun x hx => ⟨hx, ?_⟩⟩
      rw [Ci.leaves] at hx
      rw [List.mem_singleton.mp hx]
      exact z
  | .node k ps, hw, w, h => by
    rw [putO_node] at h
    have wf := wf_node.mp hw
    obtain ⟨h1, h2⟩ := lefts (g := g) (up := up) (ps := ps) fun p hp w' e => putO_lf (wf.2.1 p hp).1 w' e
    by_cases z : left g up ps = []
    · rw [if_pos z] at h; cases h
    · rw [if_neg z] at h
      by_cases z2 : k ≠ up ∧ (left g up ps).length < ps.length
      · rw [if_pos z2] at h; cases h
      · rw [if_neg z2] at h
        cases h
        have wfl : ∀ c ∈ left g up ps, c.wf = true := fun c hc => by
          obtain ⟨p, hp, l⟩ := h2 c hc
          exact l.wf
        have dl : ∀ c ∈ left g up ps, c.depth ≤ depths ps := fun c hc => by
          obtain ⟨p, hp, l⟩ := h2 c hc
          exact Nat.le_trans l.depth (depths_mem hp)
        have n := mkC_nc (zs := (leavess ps).filter fun x => !decide (x ∈ g)) (k := k) z wfl h1 dl fun c hc x hx => by
          obtain ⟨p, hp, l⟩ := h2 c hc
          obtain ⟨a, b⟩ := l.ov x hx
          exact List.mem_filter.mpr ⟨leavess_mem.mpr ⟨p, hp, a⟩, by simp [b]⟩
        refine ⟨n.wf, by rw [Ci.size]; exact n.size, by rw [Ci.depth]; exact n.depth, fun x hx => ?_⟩
        obtain ⟨a, b⟩ := List.mem_filter.mp (n.ov x hx)
        exact ⟨by rw [Ci.leaves]; exact a, by simpa using b⟩
termination_by c => sizeOf c
decreasing_by
  simp only [Ci.node.sizeOf_spec]
  have := List.sizeOf_lt_of_mem hp
  omega
theorem left_fit {g : List Str} {up k : Bool} {ps : List Ci} (hf : Fit (.node k ps)) : ∀ w ∈ left g up ps, Fit w := fun w hw => by
  obtain ⟨p, hp, e⟩ := mem_left.mp hw
  have fp := hf.part (c := .node k ps) hp
  exact (putO_lf fp.wf w e).fit fp
/-- above: the circle tells what is left; beneath: what is left tells the circle -/
theorem putO_le {g : List Str} {up : Bool} : ∀ {c : Ci}, Fit c → ∀ w, putO g up c = some w → if up = true then Le c w else Le w c
  | .eye n, hf, w, h => by
    rw [putO] at h
    by_cases z : n ∈ g
    · rw [if_pos z] at h; cases h
    · rw [if_neg z] at h
      cases h
      cases up with
      | true => exact .refl _
      | false => exact .refl _
  | .node k ps, hf, w, h => by
    rw [putO_node] at h
    have fl := left_fit (g := g) (up := up) hf
    by_cases z : left g up ps = []
    · rw [if_pos z] at h; cases h
    · rw [if_neg z] at h
      by_cases z2 : k ≠ up ∧ (left g up ps).length < ps.length
      · rw [if_pos z2] at h; cases h
      · rw [if_neg z2] at h
        cases h
        have one : ∀ p ∈ ps, ∀ w', putO g up p = some w' → if up = true then Le p w' else Le w' p := fun p hp w' e => putO_le (hf.part (c := .node k ps) hp) w' e
        have all : k ≠ up → ∀ p ∈ ps, ∃ w, putO g up p = some w := fun ne => left_same (by
          have := left_len g up ps
          have : ¬ (left g up ps).length < ps.length := fun y => z2 ⟨ne, y⟩
          omega)
        cases up with
        | true =>
          rw [if_pos rfl]
          cases k with
          | true =>
            refine (pool_iff fl z).mpr fun x hx => ?_
            obtain ⟨p, hp, e⟩ := mem_left.mp hx
            exact .lp hp (one p hp x e)
          | false =>
            refine (le_com rfl).mpr fun p hp => ?_
            obtain ⟨x, e⟩ := all (by decide) p hp
            exact Le.trans (one p hp x e) (com_ge fl (mem_left.mpr ⟨p, hp, e⟩))
        | false =>
          rw [if_neg (by decide)]
          cases k with
          | false =>
            refine (com_iff fl z).mpr fun x hx => ?_
            obtain ⟨p, hp, e⟩ := mem_left.mp hx
            exact .rc hp (one p hp x e)
          | true =>
            refine (le_pool rfl).mpr fun p hp => ?_
            obtain ⟨x, e⟩ := all (by decide) p hp
            exact (pool_le fl (mem_left.mpr ⟨p, hp, e⟩)).trans (one p hp x e)
termination_by c => sizeOf c
decreasing_by
  simp only [Ci.node.sizeOf_spec]
  have := List.sizeOf_lt_of_mem hp
  omega
/-- above: what the circle tells, without the eyes, is told by what is left -/
theorem putO_up {g : List Str} {c s : Ci} (h : Le c s) : Fit c → s.wf = true → (∀ x ∈ s.leaves, x ∉ g) → ∃ w, putO g true c = some w ∧ Le w s := by
  induction h with
  | eye n =>
    intro fc ws hx
    refine ⟨.eye n, ?_, .refl _⟩
    rw [putO, if_neg (hx n (by rw [Ci.leaves]; exact List.mem_singleton.mpr rfl))]
  | @lc ps d h ih =>
    intro fc ws hx
    have wf := wf_node.mp fc.wf
    have np : ps ≠ [] := fun e => by rw [e] at wf; simp at wf
    have all : ∀ p ∈ ps, ∃ w, putO g true p = some w ∧ Le w d := fun p hp => ih p hp (fc.part (c := .node false ps) hp) ws hx
    have len := left_all fun p hp => (let ⟨w, e, _⟩ := all p hp; ⟨w, e⟩ : ∃ w, putO g true p = some w)
    have ne : left g true ps ≠ [] := fun e => by
      rw [e] at len
      exact np (List.eq_nil_of_length_eq_zero len.symm)
    refine ⟨mkC false (left g true ps), ?_, (com_iff (left_fit fc) ne).mpr fun x hx' => ?_⟩
    · rw [putO_node, if_neg ne, if_neg (by omega)]
    · obtain ⟨p, hp, e⟩ := mem_left.mp hx'
      obtain ⟨w, e2, l⟩ := all p hp
      rw [e] at e2
      cases e2
      exact l
  | @rp c qs h ih =>
    intro fc ws hx
    have wf := wf_node.mp ws
    have one : ∀ q ∈ qs, ∃ w, putO g true c = some w ∧ Le w q := fun q hq => ih q hq fc (wf.2.1 q hq).1 fun x hx' => hx x (by rw [Ci.leaves]; exact leavess_mem.mpr ⟨q, hq, hx'⟩)
    obtain ⟨q0, hq0⟩ : ∃ q, q ∈ qs := by
      match qs, wf.1 with
      | a :: _, _ => exact ⟨a, List.mem_cons_self⟩
    obtain ⟨w, e, _⟩ := one q0 hq0
    refine ⟨w, e, .rp fun q hq => ?_⟩
    obtain ⟨w2, e2, l⟩ := one q hq
    rw [e] at e2
    cases e2
    exact l
  | @lp ps p d hp h ih =>
    intro fc ws hx
    obtain ⟨w, e, l⟩ := ih (fc.part (c := .node true ps) hp) ws hx
    have m : w ∈ left g true ps := mem_left.mpr ⟨p, hp, e⟩
    have ne := List.ne_nil_of_mem m
    refine ⟨mkC true (left g true ps), ?_, (pool_le (left_fit fc) m).trans l⟩
    rw [putO_node, if_neg ne, if_neg fun z => z.1 rfl]
  | @rc qs c q hq h ih =>
    intro fc ws hx
    have wf := wf_node.mp ws
    obtain ⟨w, e, l⟩ := ih fc (wf.2.1 q hq).1 fun x hx' => hx x (by rw [Ci.leaves]; exact leavess_mem.mpr ⟨q, hq, hx'⟩)
    exact ⟨w, e, .rc hq l⟩
/-- beneath: what tells the circle, without the eyes, tells what is left -/
theorem putO_down {g : List Str} {c s : Ci} (h : Le s c) : Fit c → s.wf = true → (∀ x ∈ s.leaves, x ∉ g) → ∃ w, putO g false c = some w ∧ Le s w := by
  induction h with
  | eye n =>
    intro fc ws hx
    refine ⟨.eye n, ?_, .refl _⟩
    rw [putO, if_neg (hx n (by rw [Ci.leaves]; exact List.mem_singleton.mpr rfl))]
  | @rp d ps h ih =>
    intro fc ws hx
    have wf := wf_node.mp fc.wf
    have np : ps ≠ [] := fun e => by rw [e] at wf; simp at wf
    have all : ∀ p ∈ ps, ∃ w, putO g false p = some w ∧ Le d w := fun p hp => ih p hp (fc.part (c := .node true ps) hp) ws hx
    have len := left_all fun p hp => (let ⟨w, e, _⟩ := all p hp; ⟨w, e⟩ : ∃ w, putO g false p = some w)
    have ne : left g false ps ≠ [] := fun e => by
      rw [e] at len
      exact np (List.eq_nil_of_length_eq_zero len.symm)
    refine ⟨mkC true (left g false ps), ?_, (pool_iff (left_fit fc) ne).mpr fun x hx' => ?_⟩
    · rw [putO_node, if_neg ne, if_neg (by omega)]
    · obtain ⟨p, hp, e⟩ := mem_left.mp hx'
      obtain ⟨w, e2, l⟩ := all p hp
      rw [e] at e2
      cases e2
      exact l
  | @lc qs c h ih =>
    intro fc ws hx
    have wf := wf_node.mp ws
    have one : ∀ q ∈ qs, ∃ w, putO g false c = some w ∧ Le q w := fun q hq => ih q hq fc (wf.2.1 q hq).1 fun x hx' => hx x (by rw [Ci.leaves]; exact leavess_mem.mpr ⟨q, hq, hx'⟩)
    obtain ⟨q0, hq0⟩ : ∃ q, q ∈ qs := by
      match qs, wf.1 with
      | a :: _, _ => exact ⟨a, List.mem_cons_self⟩
    obtain ⟨w, e, _⟩ := one q0 hq0
    refine ⟨w, e, .lc fun q hq => ?_⟩
    obtain ⟨w2, e2, l⟩ := one q hq
    rw [e] at e2
    cases e2
    exact l
  | @rc ps d p hp h ih =>
    intro fc ws hx
    obtain ⟨w, e, l⟩ := ih (fc.part (c := .node false ps) hp) ws hx
    have m : w ∈ left g false ps := mem_left.mpr ⟨p, hp, e⟩
    have ne := List.ne_nil_of_mem m
    refine ⟨mkC false (left g false ps), ?_, l.trans (com_ge (left_fit fc) m)⟩
    rw [putO_node, if_neg ne, if_neg fun z => z.1 rfl]
  | @lp qs q c hq h ih =>
    intro fc ws hx
    have wf := wf_node.mp ws
    obtain ⟨w, e, l⟩ := ih fc (wf.2.1 q hq).1 fun x hx' => hx x (by rw [Ci.leaves]; exact leavess_mem.mpr ⟨q, hq, hx'⟩)
    exact ⟨w, e, .lp hq l⟩
/-- the circle between t and s -/
def betw (t s : Ci) : Option Ci := putO (t.leaves.filter fun x => !decide (x ∈ s.leaves)) true t
theorem betw_some {t s : Ci} (ft : Fit t) (fs : Fit s) (h : Le t s) : ∃ w, betw t s = some w ∧ Le t w ∧ Le w s ∧ w.wf = true ∧ w.size ≤ t.size ∧ w.depth ≤ t.depth ∧ ∀ x ∈ w.leaves, x ∈ t.leaves ∧ x ∈ s.leaves := by
  obtain ⟨w, e, l⟩ := putO_up (g := t.leaves.filter fun x => !decide (x ∈ s.leaves)) h ft fs.wf fun x hx z => by
    obtain ⟨_, b⟩ := List.mem_filter.mp z
    simp [hx] at b
  have lf := putO_lf ft.wf w e
  refine ⟨w, e, putO_le ft w e, l, lf.wf, lf.size, lf.depth, fun x hx => ?_⟩
  obtain ⟨a, b⟩ := lf.ov x hx
  refine ⟨a, Classical.byContradiction fun z => b (List.mem_filter.mpr ⟨a, by simp [z]⟩)⟩
end LQ

/-! Own rule: a def f(a, *rest, k=default), called with any number of values, with k or without. -/
namespace LO
open PySem PySem.Spec PyProof.Rows L2
open C8 (Cal Mak Met CalAt)
section
variable {P : Program} {w : World} {K : PySem.W.Frag} {mg : Str → Option Value} {base : Heap} {x qual p1 pk pv : Str} {params : Arguments} {body : List Stmt} {scope : Scope} {f : Addr} {fd : FuncData} {N : List Str} {k : Nat} {sp : Sp} {dv : V}
/-- what a caller says: the values, the keyword's value or none -/
def spSK (sp : Sp) (z : V) : Sp := fun vs H Q E => ∃ c rest, vs = c :: rest ∧ rest.length ≤ sizeLine ∧ ∀ p, H p = none → sp [c, z, .ref p] (upd H p (.tup rest)) Q E
/-- the same, called with the keyword: the keyword's value first -/
def FnRK (P : Program) (w : World) (K : PySem.W.Frag) (mg : Str → Option Value) (base : Heap) (k : Nat) (f : Addr) (pk : Str) (sp : Sp) : Prop :=
  ∀ (A : Around) (outer : List Env) (s : Shared) (H : Hp) (us : List Value) (vs : List V) (wv : Value) (zv : V) (Q : VK) (E : XK), Room k A → Env0 P w K mg base A outer s H → Vals vs us → RelV zv wv → spSK sp zv vs H Q E →
    codeAny (model P w) A (.call (.ref f) ⟨us, [(pk, wv)]⟩) (CR C8.CX0 outer P w H s Q E) s
theorem sk_run0 (F : FunD K x qual params body scope [] [(pk, dv)] f fd) (S : FnScope N [p1, pk, pv] scope)
    (h0 : ∀ (D : Addr) (doc pm : Value) (an : Option Addr) (cdv ct : Value) (u d : Value) (us : List Value), ∃ (β γ : Type) (k1 : Option Value → Sem β) (k2 : β → Sem γ) (k3 : γ → Sem (List (Str × Value))) (a : β),
      bindArgs (PySem.W.fnOf x qual params body scope .none (.ref D) doc pm an cdv ct) ⟨u :: us, []⟩ = ((nsGet D pk >>= k1) >>= k2) >>= k3 ∧ k1 (some d) = pure a ∧ (k2 a >>= k3) = (newTuple us >>= fun t => pure [(p1, u), (pk, d), (pv, t)]))
    (hbody : ∀ (cdv : Value) (A : Around) (outer : List Env) (s : Shared) (H : Hp) (vs : List V) (Q : VK) (E : XK), Room k (A.deeper (envOfC qual scope s.heap.objs.size f cdv)) → sp vs H Q E →
      ∃ t, PSs (cxOf C8.CX0 P w K mg base N qual scope f cdv A outer s H E).nox body t ∧ t { nx := fun _ H' => Q .non H', rt := Q } (start N vs) H) : FnR P w K mg base C8.CX0 (k + 1) f (spSK sp dv) := by
  obtain ⟨oc, od, dV, kV, doc, pm, an, cdv, ct, osl, rfl, lk, hcd, hD, hK⟩ := F.ex
  rcases hD with ⟨_, rfl⟩ | ⟨e, _⟩
  rotate_left
  · exact absurd rfl e
  rcases hK with e | ⟨D, rfl, hkd⟩
  · cases e
  obtain ⟨d, ed, rd⟩ := hkd (pk, dv) List.mem_cons_self
  intro A outer s H us vs Q E hr e0 r hsp
  obtain ⟨c, rest, ev, hz, hq⟩ := hsp
  subst ev
  cases r with
  | @cons _ u _ us' ra r2 =>
  have hn : H s.heap.objs.size = Option.none := e0.hok.fresh (Nat.le_refl _)
  have hl2 : us'.length ≤ sizeLine := by rw [← r2.length]; exact hz
  have KX : K.In s.heap := e0.mod.kin.keeps fun b o e => (e0.bs b o e).1
  refine StX.run_bnd lk hcd S hr e0 (G := fun xs H2 => ∃ p, H p = Option.none ∧ xs = [c, dv, V.ref p] ∧ H2 = upd H p (.tup rest)) (fun A' Ex Q' h => ?_) fun s2 H2 xs ⟨p, hp, ex, eH⟩ hr' => ?_
  · obtain ⟨β, γ, k1, k2, k3, a, e1, e2, e3⟩ := h0 D doc pm an cdv ct u d us'
    rw [e1, bind_assoc]
    have l1 : PySem.W.Looks (model P w) s.heap (nsGet D pk >>= k1) a := (PySem.W.looks_nsIn KX ed).andThen (PySem.W.Looks.of_pure e2)
    refine wpAny_bind (l1.here ?_)
    rw [e3]
    refine wpAny_bind (wpAny_newTuple (wpAny_pure ?_) hl2)
    have new : ObjOk P w (upd H s.heap.objs.size (.tup rest)) (s.heap.push ({ cls := .type "tuple", data := .seq us'.toArray } : Obj)) s.heap.objs.size (.tup rest) := ⟨hz, us', r2, ⟨_, Heap.get?_push_size _ rfl, rfl, _, rfl⟩⟩
    have un := StX.un_laid (fs := frs outer) (s := s) (o := ({ cls := .type "tuple", data := .seq us'.toArray } : Obj)) (u := .tup rest) hn
    exact h _ _ [c, dv, V.ref s.heap.objs.size] [u, d, Value.ref s.heap.objs.size] (StX.env0_laid e0 new) un rfl (fun e s' z => z) (.cons ra (.cons rd (.cons rfl .nil))) rfl ⟨_, hn, rfl, rfl⟩
  · subst ex eH
    obtain ⟨t, h1, h2⟩ := hbody cdv A outer s2 _ _ Q E hr' (hq p hp)
    exact ⟨t, h1.nox, h2⟩
theorem sk_runK (F : FunD K x qual params body scope [] [(pk, dv)] f fd) (S : FnScope N [p1, pk, pv] scope)
    (h1 : ∀ (kV doc pm : Value) (an : Option Addr) (cdv ct : Value) (u d : Value) (us : List Value), bindArgs (PySem.W.fnOf x qual params body scope .none kV doc pm an cdv ct) ⟨u :: us, [(pk, d)]⟩ = (newTuple us >>= fun t => pure [(p1, u), (pk, d), (pv, t)]))
    (hbody : ∀ (cdv : Value) (A : Around) (outer : List Env) (s : Shared) (H : Hp) (vs : List V) (Q : VK) (E : XK), Room k (A.deeper (envOfC qual scope s.heap.objs.size f cdv)) → sp vs H Q E →
      ∃ t, PSs (cxOf C8.CX0 P w K mg base N qual scope f cdv A outer s H E).nox body t ∧ t { nx := fun _ H' => Q .non H', rt := Q } (start N vs) H) : FnRK P w K mg base (k + 1) f pk sp := by
  obtain ⟨oc, od, dV, kV, doc, pm, an, cdv, ct, osl, rfl, lk, hcd, hD, hK⟩ := F.ex
  rcases hD with ⟨_, rfl⟩ | ⟨e, _⟩
  rotate_left
  · exact absurd rfl e
  intro A outer s H us vs d zv Q E hr e0 r rd hsp
  obtain ⟨c, rest, ev, hz, hq⟩ := hsp
  subst ev
  cases r with
  | @cons _ u _ us' ra r2 =>
  have hn : H s.heap.objs.size = Option.none := e0.hok.fresh (Nat.le_refl _)
  have hl2 : us'.length ≤ sizeLine := by rw [← r2.length]; exact hz
  refine StX.run_bnd lk hcd S hr e0 (G := fun xs H2 => ∃ p, H p = Option.none ∧ xs = [c, zv, V.ref p] ∧ H2 = upd H p (.tup rest)) (fun A' Ex Q' h => ?_) fun s2 H2 xs ⟨p, hp, ex, eH⟩ hr' => ?_
  · rw [h1]
    refine wpAny_bind (wpAny_newTuple (wpAny_pure ?_) hl2)
    have new : ObjOk P w (upd H s.heap.objs.size (.tup rest)) (s.heap.push ({ cls := .type "tuple", data := .seq us'.toArray } : Obj)) s.heap.objs.size (.tup rest) := ⟨hz, us', r2, ⟨_, Heap.get?_push_size _ rfl, rfl, _, rfl⟩⟩
    have un := StX.un_laid (fs := frs outer) (s := s) (o := ({ cls := .type "tuple", data := .seq us'.toArray } : Obj)) (u := .tup rest) hn
    exact h _ _ [c, zv, V.ref s.heap.objs.size] [u, d, Value.ref s.heap.objs.size] (StX.env0_laid e0 new) un rfl (fun e s' z => z) (.cons ra (.cons rd (.cons rfl .nil))) rfl ⟨_, hn, rfl, rfl⟩
  · subst ex eH
    obtain ⟨t, h1, h2⟩ := hbody cdv A outer s2 _ _ Q E hr' (hq p hp)
    exact ⟨t, h1.nox, h2⟩
structure CalRK (P : Program) (w : World) (K : PySem.W.Frag) (mg : Str → Option Value) (base : Heap) (k : Nat) (x pk : Str) (sp : Sp) : Prop where
  ex : ∃ f, FnRK P w K mg base k f pk sp ∧ mg x = some (.ref f) ∧ PySem.W.keepIn K (.ref f) = true
end
section
variable {X : Cx} {k j : Nat} {x pk : Str} {sp : Sp} {p pos : Pos} {e : Expr} {es : List Expr} {kws : List Keyword} {t tk : TA}
/-- f(e, .., k = v) -/
theorem pe_skK (c : CalRK X.prog X.w X.K X.mg X.base k x pk sp) (hr : Room j X.A) (hk : k ≤ j) (hg : Gl X x) (ha : PA X (e :: es) t) (hkw : PK X kws tk)
    (hall : (backToKw pos (keywordEach kws X.env)).all (·.1.isSome) = true := by rfl) (hks : (backToKw pos (keywordEach kws X.env)).filterMap (·.1) = [pk] := by rfl)
    (hdb : (x == ("__debug__" : Str)) = false := by decide) (he : starEach (e :: es) X.env = (false, eval e X.env) :: starEach es X.env := by rfl)
    (hpl : ((backTo pos (starEach (e :: es) X.env)).any (·.1) || (backToKw pos (keywordEach kws X.env)).any (·.1.isNone)) = false := by rfl) :
    PE X (.Call (.Name x p) (e :: es) kws pos) (fun σ H Q => t σ H fun vs H1 => tk σ H1 fun zs H2 => ∃ z, zs = [z] ∧ spSK sp z vs H2 Q C8.E0) := by
  obtain ⟨f, F, hm, kp⟩ := c.ex
  refine ⟨fun pins s σ H Q I h => ?_⟩
  refine wpAny_Call_Name_kw (ld_glob I hg hm ?_ hdb)
  refine PySem.W.callWith_KW (h₀ := X.base) I.ok.mod.kin kp hall (thn (ha.run pos pins s σ H _ I h) fun us s1 ⟨vs, H1, I1, r, q⟩ => ?_) hpl he
  refine thn (hkw.run pos pins s1 σ H1 _ I1 q) fun ws s2 ⟨zs, H2, I2, rz, z, ez, q2⟩ => ⟨I2.kIn, ?_⟩
  rw [hks]
  subst ez
  cases rz with
  | @cons _ wv _ ws' ra r2 =>
  cases r2
  refine wpAny_call (codeAny_mono (F X.A X.stack s2 H2 us vs wv z Q C8.E0 (hr.mono hk) I2.env0 r ra q2) fun r' s' hq => ?_)
  cases r' with
  | error e => exact hq.elim
  | ok fl =>
    cases fl with
    | ret u => exact I2.after hq
    | next => exact False.elim hq
    | brk => exact False.elim hq
    | cont => exact False.elim hq
end
end LO

/-! Own rule: a method of an own class, called by keywords alone. -/
namespace LMk
open PySem PySem.Spec PyProof.Rows L2 LL
open C8 (Cal Mak Met CalAt pe_c pe_mk pe_mt pe_mt0 pe_gc)
/-- a method that is called by keywords too -/
structure MetK (P : Program) (w : World) (K : PySem.W.Frag) (mg : Str → Option Value) (base : Heap) (k : Nat) (C : Addr) (m : Str) (sp : Sp) (ks : List Str) (g : List Value → List Value → List Value) (gV : List V → List V → List V) : Prop where
  ex : ∃ (f : Addr) (fd : FuncData) (ps : List Str), Cls K C ∧ Meth K C m f ∧ FnOk P w K mg base CX0 k f fd ps sp ∧ KBinds K fd ps ks g gV
def tMethK (C : Addr) (m : Str) (sp : Sp) (gV : List V → List V → List V) (E : XK) (ta : TE) (tk : TA) : TE := fun σ H Q => ta σ H fun x H1 => ∃ a dx fs, x = .ref a ∧ H1 a = some (.ins C dx fs) ∧ fs.lookup m = none ∧ tk σ H1 fun zs H2 => sp (gV [.ref a] zs) H2 Q E
section
variable {X : Cx} {k j : Nat} {C : Addr} {ks : List Str} {sp : Sp} {m : Str} {pos apos : Pos} {o : Expr} {kws : List Keyword} {ta : TE} {tk : TA} {g : List Value → List Value → List Value} {gV : List V → List V → List V}
theorem pe_mtK0 {pl : Sem Bool} (c : MetK X.prog X.w X.K X.mg X.base k C m sp ks g gV) (hr : Room j X.A) (hk : k ≤ j) (he : PE X o ta) (hkw : PK X kws tk)
    (hall : (backToKw pos (keywordEach kws X.env)).all (·.1.isSome) = true := by rfl) (hks : (backToKw pos (keywordEach kws X.env)).filterMap (·.1) = ks := by rfl)
    (hpl : ((backTo pos (starEach [] X.env)).any (·.1) || (backToKw pos (keywordEach kws X.env)).any (·.1.isNone)) = false := by rfl)
    (ht : eval (.Call (.Attribute o m apos) [] kws pos) X.env = (do
      let ov ← eval o X.env
      standAt apos.atName
      let (f, first) ← holding [ov] (getMethod ov m pl)
      callWith pos f first (backTo pos (starEach [] X.env)) (backToKw pos (keywordEach kws X.env))) := by rfl) :
    PE X (.Call (.Attribute o m apos) [] kws pos) (tMethK C m sp gV E0 ta tk) := by
  obtain ⟨f, fd, ps, cl, hm, F, b⟩ := c.ex
  refine ⟨fun pins s σ H Q I h => ?_⟩
  refine PySem.W.methodCall_KW (pl := pl) (thn (he.run pins s σ H _ I h) fun u s1 ⟨x, H1, I1, rx, a, dx, fs, ex, ea, l, q⟩ => ?_) ht
  subst ex
  obtain rfl : u = Value.ref a := rx
  refine getmeth_ok I1 ea cl hm l ?_
  refine PySem.W.callWith_KW0 (first := [.ref a]) (h₀ := X.base) I.ok.mod.kin hm.kp hall (thn (hkw.run pos pins s1 σ H1 _ I1 q) fun ws s2 ⟨zs, H2, I2, rz, q2⟩ => ⟨I2.kIn, ?_⟩) hpl
  rw [hks]
  exact run_fnk (us := [.ref a]) (vs := [.ref a]) F (hr.mono hk) b pass0 I2 (.cons rfl .nil) rz q2
end
/-- a class that is made with keywords too, n values by place -/
structure MakK (P : Program) (w : World) (K : PySem.W.Frag) (mg : Str → Option Value) (base : Heap) (k : Nat) (x : Str) (C : Addr) (sp : Sp) (n : Nat) (ks : List Str) (gV : List V → List V → List V) : Prop where
  ex : ∃ (f : Addr) (fd : FuncData) (ps : List Str) (g : List Value → List Value → List Value), Mk K C f ∧ FnOk P w K mg base CX0 k f fd ps sp ∧ mg x = some (.ref C) ∧ KBn K fd ps (n + 1) ks g gV
section
variable {X : Cx} {k j n : Nat} {C : Addr} {ks : List Str} {sp : Sp} {x : Str} {p pos : Pos} {e : Expr} {es : List Expr} {kws : List Keyword} {t tk : TA} {g : List Value → List Value → List Value} {gV : List V → List V → List V}
theorem pe_mkK (c : MakK X.prog X.w X.K X.mg X.base k x C sp n ks gV) (hr : Room j X.A) (hk : k + 1 ≤ j) (hg : Gl X x) (ha : PA X (e :: es) t) (hkw : PK X kws tk)
    (hall : (backToKw pos (keywordEach kws X.env)).all (·.1.isSome) = true := by rfl) (hks : (backToKw pos (keywordEach kws X.env)).filterMap (·.1) = ks := by rfl) (hdb : (x == ("__debug__" : Str)) = false := by decide)
    (he : starEach (e :: es) X.env = (false, eval e X.env) :: starEach es X.env := by rfl) (hpl : ((backTo pos (starEach (e :: es) X.env)).any (·.1) || (backToKw pos (keywordEach kws X.env)).any (·.1.isNone)) = false := by rfl) :
    PE X (.Call (.Name x p) (e :: es) kws pos) (tMakeK C n ks.length sp gV E0 t tk) := by
  obtain ⟨f, fd, ps, g, M, F, hm, b⟩ := c.ex
  exact pe_makeK M F (hr.mono hk) hg hm b pass0 ha hkw hall hks hdb he hpl
end
end LMk

/-! Own rule: try with several except clauses, each with a name or without; clauses that are never reached may be of any form. -/
namespace LTy
open PySem PySem.Spec PyProof.Rows L2 LL
/-- a clause: its class, its name's slot, what its suite asks -/
inductive Hd where
  | pl (c : Value) (ts : Addr → Value → Option Addr → TS)
  | nm (c : Value) (i : Nat) (ts : Addr → Value → Option Addr → TS)
  | nv
def goneD (D : Ends) (i : Nat) : Ends := { nx := fun σ' H' => D.nx (σ'.set i none) H', rt := D.rt, bk := fun σ' H' => D.bk (σ'.set i none) H', ct := fun σ' H' => D.ct (σ'.set i none) H' }
/-- what the clauses wish of an exception of the body, one after the other -/
def wHs (K : PySem.W.Frag) (Wout : WX) (D : Ends) : List Hd → WX
  | [] => Wout
  | .pl c ts :: r => fun cls d σ H => ∃ b, PySem.W.exmOne K cls c = some b ∧ (b = true → ∀ a, H a = none → ts a cls d D σ H) ∧ (b = false → wHs K Wout D r cls d σ H)
  | .nm c i ts :: r => fun cls d σ H => ∃ b, PySem.W.exmOne K cls c = some b ∧ (b = true → ∀ a, H a = none → ts a cls d (goneD D i) (σ.set i (some (.ref a))) H) ∧ (b = false → wHs K Wout D r cls d σ H)
  | .nv :: _ => fun _ _ _ _ => False
inductive HsOk (X : Cx) : List ExceptHandler → List Hd → Prop
  | nil : HsOk X [] []
  | pl {x : Str} {c : Value} {ts : Addr → Value → Option Addr → TS} {b₀ : Stmt} {suite : List Stmt} {np pos' : Pos} {hds : List ExceptHandler} {l : List Hd} (hc : Names X x c)
      (hsu : ∀ (a : Addr) (oe : Obj) (cls : Value) (d : Option Addr) (pn : List (Addr × Obj)), Zc cls d oe → (∃ vs, oe.data = .fields vs) → PSs (X.suite a ((a, oe) :: pn)) (b₀ :: suite) (ts a cls d)) (r : HsOk X hds l) :
      HsOk X (.ExceptHandler (some (.Name x np)) none (b₀ :: suite) pos' :: hds) (.pl c ts :: l)
  | nm {x n : Str} {i : Nat} {c : Value} {ts : Addr → Value → Option Addr → TS} {b₀ : Stmt} {suite : List Stmt} {np pos' : Pos} {hds : List ExceptHandler} {l : List Hd} (hi : X.N[i]? = some n) (hln : X.env.kindOf n = some .local) (hc : Names X x c)
      (hsu : ∀ (a : Addr) (oe : Obj) (cls : Value) (d : Option Addr) (pn : List (Addr × Obj)), Zc cls d oe → (∃ vs, oe.data = .fields vs) → PSs (X.suite a ((a, oe) :: pn)) (b₀ :: suite) (ts a cls d)) (r : HsOk X hds l) :
      HsOk X (.ExceptHandler (some (.Name x np)) (some n) (b₀ :: suite) pos' :: hds) (.nm c i ts :: l)
  | nv {h : ExceptHandler} {hds : List ExceptHandler} {l : List Hd} : HsOk X (h :: hds) (.nv :: l)
section
variable {X : Cx} {body : List Stmt} {h₀ : ExceptHandler} {hds : List ExceptHandler} {l : List Hd} {pos : Pos} {tb : WX → TS} {Wout : WX}
theorem ps_try_hs (hs : X.stack = X.env :: X.outer) (hf : X.env.frame = some X.env.locals) (hN : X.N.Nodup) (tk : Takes X Wout)
    (hb : ∀ (W : WX) (pn : List (Addr × Obj)) (xe : Value → Shared → Prop), Takes (X.tr pn xe) W → PassesOwn (model X.prog X.w) X.A X.env xe → PSs (X.tr pn xe) body (tb W))
    (hh : HsOk X (h₀ :: hds) l) : PS X (.Try body (h₀ :: hds) [] [] pos) (fun D σ H => tb (wHs X.K Wout D l) D σ H) := by
  refine ⟨fun pins s σ H D I h => ?_⟩
  have ok := I.ok
  have hfr : X.A.frames = some (X.env :: X.outer) := by rw [ok.frames, hs]
  refine wpAny_Try_except ?_
  refine wpAny_mono ((hb (wHs X.K Wout D l) (X.pn ++ pins) (fun e s₁ => wpAny (model X.prog X.w) X.A (noteFrame e X.env) (fun _ s₂ => wpAny (model X.prog X.w) X.A (setFlight e none) (fun _ s₃ =>
    wpAny (model X.prog X.w) X.A (handleBy e X.env (h₀ :: hds)) (SP X pins D) X.xe s₃) X.xe s₂) X.xe s₁) (fun u s' xx => ?_) PassesOwn.looking).run [] s σ H D (I.toTry _) h) (fun f s1 hsp => ?_) (fun e s1 he => he)
  · -- the catch
    obtain ⟨a, B, sI, pins', σ', H', cls, d, rfl, J', nb, up, sky, na, os, ag, w⟩ := xx
    have J : Inv X pins σ' H' sI := J'.ofTry ok
    have sky' : Sky B (X.env :: X.outer) a (Zc cls d) X.env.locals s'.heap := by rw [← hs]; exact sky
    show wpAny (model X.prog X.w) X.A (noteFrame (.ref a) X.env) _ _ _
    refine Sky.land Zc.steady hfr hf sky' fun h3 fl3 up3 => ?_
    have J3 : Inv X pins σ' H' { s' with heap := h3 } := J.landed nb fl3.1 (up.trans up3) os ag
    obtain ⟨oe3, vs3, he3, hz3, hd3⟩ := fl3.there
    have notFr : ∀ {h : Heap} {o : Obj} {vs : Array Value}, h.FunFrames B (X.env :: X.outer) → h.get? a = some o → o.data = .fields vs → a ∉ frs (X.env :: X.outer) := fun {h o vs} ff e dd hm => by
      obtain ⟨_, o', e', hnf⟩ := ff.mem hm
      rw [e] at e'; cases e'
      exact hnf _ dd
    have nfr := notFr fl3.2.2.1 he3 hd3
    have nL : a ≠ X.env.locals := fun z => nfr (List.mem_filterMap.mpr ⟨X.env, List.mem_cons_self, by rw [hf, z]⟩)
    have nF : a ∉ X.fs := fun hm => by
      obtain ⟨e, he, q⟩ := List.mem_filterMap.mp hm
      exact nfr (List.mem_filterMap.mpr ⟨e, List.mem_cons_of_mem _ he, q⟩)
    have S3 := J3.suite he3 hd3 na nL nF
    have LT : PySem.W.Looks (model X.prog X.w) h3 (typeOf (.ref a)) cls := fun A Q E s k q => wpAny_typeOf_ref (k _ _ he3) (by rw [hz3.1]; exact q)
    have test : ∀ {x : Str} {c : Value} {np : Pos} {Q : Value → Shared → Prop} {E : Value → Shared → Prop}, Names X x c → Q c { s' with heap := h3 } → wpAny (model X.prog X.w) (X.A.mark (some (.ref a))) (eval (.Name x np) X.env) Q E { s' with heap := h3 } := fun {x c np Q E} hc q => by
      obtain ⟨hg, hdbg, hm | ⟨hm, hv, hnn⟩⟩ := hc
      · exact ld_glob (X := X.suite a ((a, oe3) :: (X.pn ++ pins))) S3 hg hm q hdbg
      · exact ld_blt (X := X.suite a ((a, oe3) :: (X.pn ++ pins))) S3 hg hm hv q hnn hdbg
    have go : ∀ {hds' : List ExceptHandler} {l' : List Hd}, HsOk X hds' l' → wHs X.K Wout D l' cls d σ' H' →
        wpAny (model X.prog X.w) X.A (handleBy (.ref a) X.env hds') (SP X pins D) X.xe { s' with heap := h3 } := by
      intro hds' l' hk
      induction hk with
      | nil =>
        intro w
        refine wpAny_handleBy_nil ?_
        obtain ⟨k1, k2, k3, oe, vs, T, oT, ts', he, hz, hd, h1, hr⟩ := id fl3
        unfold PySem.passOn
        refine wpAny_bind (wpAny_field he hd h1 ?_)
        rw [if_neg (show ¬ ((Value.ref T == Value.none) = true) from by simp)]
        have fin : wpAny (model X.prog X.w) X.A (setFlight (.ref a) X.env.frame) (fun _ s4 => wpAny (model X.prog X.w) X.A (throw (.ref a) : Sem Flow) (SP X pins D) X.xe s4) X.xe { s' with heap := h3 } := by
          rw [hf]
          refine HandSPX.setFlight_upZ fl3 fun h4 hh4 up4 => wpAny_throw (tk _ _ ?_)
          exact ⟨a, B, sI, pins, σ', H', cls, d, rfl, J, nb, (up.trans up3).trans up4, .inr (.inr (by rw [hs]; exact hh4)), na, os, ag, w⟩
        first
          | exact wpAny_bind (wpAny_pure (wpAny_bind fin))
          | exact wpAny_bind fin
      | @pl x c ts b₀ suite np pos' hds2 l2 hc hsu r ih =>
        intro w
        obtain ⟨b, hb1, hyes, hno⟩ := w
        refine wpAny_handleBy_cons (codeAny_handlers_test ?_) (by intro q; cases q)
        have LM := PySem.W.exm_one (M := model X.prog X.w) (J3.kIn) LT hb1
        refine test hc (LM.here ?_)
        cases b with
        | true =>
          refine codeAny_handlers_suite ?_
          refine HandSPX.lands_againZ fl3 fun h4 fl4 up4 => ?_
          have J4 : Inv X pins σ' H' { s' with heap := h4 } := J.landed nb fl4.1 ((up.trans up3).trans up4) os ag
          obtain ⟨oe4, vs4, he4, hz4, hd4⟩ := fl4.there
          have S4 := J4.suite he4 hd4 na nL nF
          refine wpAny_mono ((hsu a oe4 cls d (X.pn ++ pins) hz4 ⟨_, hd4⟩).run [] _ _ H' _ S4 (hyes rfl a na)) (fun f s6 hsp => ?_) (fun _ _ z => False.elim z)
          cases f with
          | next =>
            obtain ⟨σ6, H6, S6, q6⟩ := hsp
            exact ⟨_, _, S6.unsuite ok, q6⟩
          | brk =>
            obtain ⟨σ6, H6, S6, q6⟩ := hsp
            exact ⟨_, _, S6.unsuite ok, q6⟩
          | cont =>
            obtain ⟨σ6, H6, S6, q6⟩ := hsp
            exact ⟨_, _, S6.unsuite ok, q6⟩
          | ret u =>
            obtain ⟨v6, σ6, H6, S6, r6, q6⟩ := hsp
            exact ⟨_, _, _, S6.unsuite ok, r6, q6⟩
        | false =>
          show wpAny _ X.A (handleBy (.ref a) X.env hds2) _ _ _
          exact ih (hno rfl)
      | @nm x n i c ts b₀ suite np pos' hds2 l2 hi hln hc hsu r ih =>
        intro w
        obtain ⟨b, hb1, hyes, hno⟩ := w
        have hloc : Loc X.env.scope n := .inl hln
        refine wpAny_handleBy_cons (codeAny_handlers_test ?_) (by intro q; cases q)
        have LM := PySem.W.exm_one (M := model X.prog X.w) (J3.kIn) LT hb1
        refine test hc (LM.here ?_)
        cases b with
        | true =>
          refine codeAny_handlers_suite_as ?_
          refine HandSPX.lands_againZ fl3 fun h4 fl4 up4 => ?_
          have J4 : Inv X pins σ' H' { s' with heap := h4 } := J.landed nb fl4.1 ((up.trans up3).trans up4) os ag
          obtain ⟨oe4, vs4, he4, hz4, hd4⟩ := fl4.there
          have S4 := J4.suite he4 hd4 na nL nF
          refine store_ok (X := X.suite a ((a, oe4) :: (X.pn ++ pins))) (v := .ref a) S4 hN hi hloc rfl (fun s5 S5 => ?_) (.inr hln)
          refine wpAny_mono ((hsu a oe4 cls d (X.pn ++ pins) hz4 ⟨_, hd4⟩).run [] s5 _ H' _ S5 (hyes rfl a na)) (fun f s6 hsp => ?_) (fun _ _ z => False.elim z)
          have end_ : ∀ {σ6 : L2.St} {H6 : Hp} {Q : Shared → Prop}, Inv (X.suite a ((a, oe4) :: (X.pn ++ pins))) [] σ6 H6 s6 → (∀ s7, Inv X pins (σ6.set i none) H6 s7 → Q s7) →
              wpAny (model X.prog X.w) X.A (do bindName X.env n .none; unbindBehindTheSuite X.env n pos') (fun _ s7 => Q s7) X.xe s6 := fun {σ6 H6 Q} S6 hq => gone_ok (S6.unsuite ok) hN hi hln hq
          cases f with
          | next =>
            obtain ⟨σ6, H6, S6, q6⟩ := hsp
            exact end_ S6 fun s7 J7 => ⟨_, _, J7, q6⟩
          | brk =>
            obtain ⟨σ6, H6, S6, q6⟩ := hsp
            exact end_ S6 fun s7 J7 => ⟨_, _, J7, q6⟩
          | cont =>
            obtain ⟨σ6, H6, S6, q6⟩ := hsp
            exact end_ S6 fun s7 J7 => ⟨_, _, J7, q6⟩
          | ret u =>
            obtain ⟨v6, σ6, H6, S6, r6, q6⟩ := hsp
            exact end_ S6 fun s7 J7 => ⟨_, _, _, J7, r6, q6⟩
        | false =>
          show wpAny _ X.A (handleBy (.ref a) X.env hds2) _ _ _
          exact ih (hno rfl)
      | nv => exact fun w => w.elim
    exact go hh w
  · cases f with
    | next =>
      obtain ⟨σ', H', J', q⟩ := hsp
      exact wpAny_execs_nil ⟨σ', H', J'.ofTry ok, q⟩
    | brk =>
      obtain ⟨σ', H', J', q⟩ := hsp
      exact ⟨σ', H', J'.ofTry ok, q⟩
    | cont =>
      obtain ⟨σ', H', J', q⟩ := hsp
      exact ⟨σ', H', J'.ofTry ok, q⟩
    | ret u =>
      obtain ⟨v, σ', H', J', r, q⟩ := hsp
      exact ⟨v, σ', H', J'.ofTry ok, r, q⟩
end
end LTy

/-! Own rules: a def f(a, *rest, k=default) that may let errors out. -/
namespace LO
open PySem PySem.Spec PyProof.Rows L2
open C8 (Cal Mak Met CalAt)
section
variable {CX : CXT} {P : Program} {w : World} {K : PySem.W.Frag} {mg : Str → Option Value} {base : Heap} {x qual p1 pk pv : Str} {params : Arguments} {body : List Stmt} {scope : Scope} {f : Addr} {fd : FuncData} {N : List Str} {k : Nat} {sp : Sp} {dv : V}
/-- the same, called with the keyword: the keyword's value first -/
def FnRKX (CX : CXT) (P : Program) (w : World) (K : PySem.W.Frag) (mg : Str → Option Value) (base : Heap) (k : Nat) (f : Addr) (pk : Str) (sp : Sp) : Prop :=
  ∀ (A : Around) (outer : List Env) (s : Shared) (H : Hp) (us : List Value) (vs : List V) (wv : Value) (zv : V) (Q : VK) (E : XK), Room k A → Env0 P w K mg base A outer s H → Vals vs us → RelV zv wv → spSK sp zv vs H Q E →
    codeAny (model P w) A (.call (.ref f) ⟨us, [(pk, wv)]⟩) (CR CX outer P w H s Q E) s
theorem skx_run0 (hCX : StX.CXUp CX) (F : FunD K x qual params body scope [] [(pk, dv)] f fd) (S : FnScope N [p1, pk, pv] scope)
    (h0 : ∀ (D : Addr) (doc pm : Value) (an : Option Addr) (cdv ct : Value) (u d : Value) (us : List Value), ∃ (β γ : Type) (k1 : Option Value → Sem β) (k2 : β → Sem γ) (k3 : γ → Sem (List (Str × Value))) (a : β),
      bindArgs (PySem.W.fnOf x qual params body scope .none (.ref D) doc pm an cdv ct) ⟨u :: us, []⟩ = ((nsGet D pk >>= k1) >>= k2) >>= k3 ∧ k1 (some d) = pure a ∧ (k2 a >>= k3) = (newTuple us >>= fun t => pure [(p1, u), (pk, d), (pv, t)]))
    (hbody : ∀ (cdv : Value) (A : Around) (outer : List Env) (s : Shared) (H : Hp) (vs : List V) (Q : VK) (E : XK), Room k (A.deeper (envOfC qual scope s.heap.objs.size f cdv)) → sp vs H Q E →
      ∃ t, PSs (cxOf CX P w K mg base N qual scope f cdv A outer s H E) body t ∧ t { nx := fun _ H' => Q .non H', rt := Q } (start N vs) H) : FnR P w K mg base CX (k + 1) f (spSK sp dv) := by
  obtain ⟨oc, od, dV, kV, doc, pm, an, cdv, ct, osl, rfl, lk, hcd, hD, hK⟩ := F.ex
  rcases hD with ⟨_, rfl⟩ | ⟨e, _⟩
  rotate_left
  · exact absurd rfl e
  rcases hK with e | ⟨D, rfl, hkd⟩
  · cases e
  obtain ⟨d, ed, rd⟩ := hkd (pk, dv) List.mem_cons_self
  intro A outer s H us vs Q E hr e0 r hsp
  obtain ⟨c, rest, ev, hz, hq⟩ := hsp
  subst ev
  cases r with
  | @cons _ u _ us' ra r2 =>
  have hn : H s.heap.objs.size = Option.none := e0.hok.fresh (Nat.le_refl _)
  have hl2 : us'.length ≤ sizeLine := by rw [← r2.length]; exact hz
  have KX : K.In s.heap := e0.mod.kin.keeps fun b o e => (e0.bs b o e).1
  refine StX.run_bnd lk hcd S hr e0 (G := fun xs H2 => ∃ p, H p = Option.none ∧ xs = [c, dv, V.ref p] ∧ H2 = upd H p (.tup rest)) (fun A' Ex Q' h => ?_) fun s2 H2 xs ⟨p, hp, ex, eH⟩ hr' => ?_
  · obtain ⟨β, γ, k1, k2, k3, a, e1, e2, e3⟩ := h0 D doc pm an cdv ct u d us'
    rw [e1, bind_assoc]
    have l1 : PySem.W.Looks (model P w) s.heap (nsGet D pk >>= k1) a := (PySem.W.looks_nsIn KX ed).andThen (PySem.W.Looks.of_pure e2)
    refine wpAny_bind (l1.here ?_)
    rw [e3]
    refine wpAny_bind (wpAny_newTuple (wpAny_pure ?_) hl2)
    have new : ObjOk P w (upd H s.heap.objs.size (.tup rest)) (s.heap.push ({ cls := .type "tuple", data := .seq us'.toArray } : Obj)) s.heap.objs.size (.tup rest) := ⟨hz, us', r2, ⟨_, Heap.get?_push_size _ rfl, rfl, _, rfl⟩⟩
    have un := StX.un_laid (fs := frs outer) (s := s) (o := ({ cls := .type "tuple", data := .seq us'.toArray } : Obj)) (u := .tup rest) hn
    exact h _ _ [c, dv, V.ref s.heap.objs.size] [u, d, Value.ref s.heap.objs.size] (StX.env0_laid e0 new) un rfl (fun e s' => hCX outer s H _ _ E e s' un (fun b o q => Heap.get?_push_of_some _ q) rfl) (.cons ra (.cons rd (.cons rfl .nil))) rfl ⟨_, hn, rfl, rfl⟩
  · subst ex eH
    obtain ⟨t, h1, h2⟩ := hbody cdv A outer s2 _ _ Q E hr' (hq p hp)
    exact ⟨t, h1, h2⟩
theorem skx_runK (hCX : StX.CXUp CX) (F : FunD K x qual params body scope [] [(pk, dv)] f fd) (S : FnScope N [p1, pk, pv] scope)
    (h1 : ∀ (kV doc pm : Value) (an : Option Addr) (cdv ct : Value) (u d : Value) (us : List Value), bindArgs (PySem.W.fnOf x qual params body scope .none kV doc pm an cdv ct) ⟨u :: us, [(pk, d)]⟩ = (newTuple us >>= fun t => pure [(p1, u), (pk, d), (pv, t)]))
    (hbody : ∀ (cdv : Value) (A : Around) (outer : List Env) (s : Shared) (H : Hp) (vs : List V) (Q : VK) (E : XK), Room k (A.deeper (envOfC qual scope s.heap.objs.size f cdv)) → sp vs H Q E →
      ∃ t, PSs (cxOf CX P w K mg base N qual scope f cdv A outer s H E) body t ∧ t { nx := fun _ H' => Q .non H', rt := Q } (start N vs) H) : FnRKX CX P w K mg base (k + 1) f pk sp := by
  obtain ⟨oc, od, dV, kV, doc, pm, an, cdv, ct, osl, rfl, lk, hcd, hD, hK⟩ := F.ex
  rcases hD with ⟨_, rfl⟩ | ⟨e, _⟩
  rotate_left
  · exact absurd rfl e
  intro A outer s H us vs d zv Q E hr e0 r rd hsp
  obtain ⟨c, rest, ev, hz, hq⟩ := hsp
  subst ev
  cases r with
  | @cons _ u _ us' ra r2 =>
  have hn : H s.heap.objs.size = Option.none := e0.hok.fresh (Nat.le_refl _)
  have hl2 : us'.length ≤ sizeLine := by rw [← r2.length]; exact hz
  refine StX.run_bnd lk hcd S hr e0 (G := fun xs H2 => ∃ p, H p = Option.none ∧ xs = [c, zv, V.ref p] ∧ H2 = upd H p (.tup rest)) (fun A' Ex Q' h => ?_) fun s2 H2 xs ⟨p, hp, ex, eH⟩ hr' => ?_
  · rw [h1]
    refine wpAny_bind (wpAny_newTuple (wpAny_pure ?_) hl2)
    have new : ObjOk P w (upd H s.heap.objs.size (.tup rest)) (s.heap.push ({ cls := .type "tuple", data := .seq us'.toArray } : Obj)) s.heap.objs.size (.tup rest) := ⟨hz, us', r2, ⟨_, Heap.get?_push_size _ rfl, rfl, _, rfl⟩⟩
    have un := StX.un_laid (fs := frs outer) (s := s) (o := ({ cls := .type "tuple", data := .seq us'.toArray } : Obj)) (u := .tup rest) hn
    exact h _ _ [c, zv, V.ref s.heap.objs.size] [u, d, Value.ref s.heap.objs.size] (StX.env0_laid e0 new) un rfl (fun e s' => hCX outer s H _ _ E e s' un (fun b o q => Heap.get?_push_of_some _ q) rfl) (.cons ra (.cons rd (.cons rfl .nil))) rfl ⟨_, hn, rfl, rfl⟩
  · subst ex eH
    obtain ⟨t, h1, h2⟩ := hbody cdv A outer s2 _ _ Q E hr' (hq p hp)
    exact ⟨t, h1, h2⟩
/-- a def with a star (and a keyword) that may let errors out -/
structure CalRX (P : Program) (w : World) (K : PySem.W.Frag) (mg : Str → Option Value) (base : Heap) (k : Nat) (x : Str) (sp : Sp) : Prop where
  ex : ∃ f, FnR P w K mg base (L2.CX P w) k f sp ∧ mg x = some (.ref f) ∧ PySem.W.keepIn K (.ref f) = true
structure CalRKX (P : Program) (w : World) (K : PySem.W.Frag) (mg : Str → Option Value) (base : Heap) (k : Nat) (x pk : Str) (sp : Sp) : Prop where
  ex : ∃ f, FnRKX (L2.CX P w) P w K mg base k f pk sp ∧ mg x = some (.ref f) ∧ PySem.W.keepIn K (.ref f) = true
end
section
variable {X : Cx} {k j : Nat} {x pk : Str} {sp : Sp} {p pos : Pos} {e : Expr} {es : List Expr} {kws : List Keyword} {t tk : TA} {E : XK}
theorem pe_cRX (c : CalRX X.prog X.w X.K X.mg X.base k x sp) (hr : Room j X.A) (hk : k ≤ j) (hg : Gl X x) (hx : Passes (L2.CX X.prog X.w) X E) (ha : PA X (e :: es) t)
    (hdb : (x == ("__debug__" : Str)) = false := by decide) (he : starEach (e :: es) X.env = (false, eval e X.env) :: starEach es X.env := by rfl) (hpl : (backTo pos (starEach es X.env)).any (·.1) = false := by rfl) :
    PE X (.Call (.Name x p) (e :: es) [] pos) (fun σ H Q => t σ H fun vs H1 => sp vs H1 Q E) := by
  obtain ⟨f, F, hm, kp⟩ := c.ex
  refine ⟨fun pins s σ H Q I h => ?_⟩
  refine wpAny_Call_Name_kw (ld_glob I hg hm ?_ hdb)
  refine PySem.W.callWith_K (h₀ := X.base) I.ok.mod.kin kp (thn (ha.run pos pins s σ H _ I h) fun us s1 ⟨vs, H1, I1, r, q⟩ => ⟨I1.kIn, ?_⟩) he hpl
  exact wpAny_call (run_fnR F (hr.mono hk) hx I1 r q)
theorem pe_skKX (c : CalRKX X.prog X.w X.K X.mg X.base k x pk sp) (hr : Room j X.A) (hk : k ≤ j) (hg : Gl X x) (hx : Passes (L2.CX X.prog X.w) X E) (ha : PA X (e :: es) t) (hkw : PK X kws tk)
    (hall : (backToKw pos (keywordEach kws X.env)).all (·.1.isSome) = true := by rfl) (hks : (backToKw pos (keywordEach kws X.env)).filterMap (·.1) = [pk] := by rfl)
    (hdb : (x == ("__debug__" : Str)) = false := by decide) (he : starEach (e :: es) X.env = (false, eval e X.env) :: starEach es X.env := by rfl)
    (hpl : ((backTo pos (starEach (e :: es) X.env)).any (·.1) || (backToKw pos (keywordEach kws X.env)).any (·.1.isNone)) = false := by rfl) :
    PE X (.Call (.Name x p) (e :: es) kws pos) (fun σ H Q => t σ H fun vs H1 => tk σ H1 fun zs H2 => ∃ z, zs = [z] ∧ spSK sp z vs H2 Q E) := by
  obtain ⟨f, F, hm, kp⟩ := c.ex
  refine ⟨fun pins s σ H Q I h => ?_⟩
  refine wpAny_Call_Name_kw (ld_glob I hg hm ?_ hdb)
  refine PySem.W.callWith_KW (h₀ := X.base) I.ok.mod.kin kp hall (thn (ha.run pos pins s σ H _ I h) fun us s1 ⟨vs, H1, I1, r, q⟩ => ?_) hpl he
  refine thn (hkw.run pos pins s1 σ H1 _ I1 q) fun ws s2 ⟨zs, H2, I2, rz, z, ez, q2⟩ => ⟨I2.kIn, ?_⟩
  rw [hks]
  subst ez
  cases rz with
  | @cons _ wv _ ws' ra r2 =>
  cases r2
  refine wpAny_call (codeAny_mono (F X.A X.stack s2 H2 us vs wv z Q E (hr.mono hk) I2.env0 r ra q2) fun r' s' hq => ?_)
  cases r' with
  | error er => exact hx pins σ H2 s2 er s' I2 hq
  | ok fl =>
    cases fl with
    | ret u => exact I2.after hq
    | next => exact False.elim hq
    | brk => exact False.elim hq
    | cont => exact False.elim hq
end
end LO

/-! Own words: what the putting out of eyes is, told by the order alone; circles mirrored. -/
namespace LOr
open PySem PySem.Spec PyProof.Rows L2 LL LC LD LN LR LY LQ
def Off (g : List Str) (s : Ci) : Prop := ∀ x ∈ s.leaves, x ∉ g
/-- a ≤ b, above; b ≤ a, beneath -/
def Dir (up : Bool) (a b : Ci) : Prop := if up = true then Le a b else Le b a
theorem Dir.trans {up : Bool} {a b c : Ci} (h : Dir up a b) (k : Dir up b c) : Dir up a c := by
  cases up with
  | true => exact Le.trans h k
  | false => exact Le.trans k h
theorem Dir.refl (up : Bool) (a : Ci) : Dir up a a := by
  cases up with
  | true => exact Le.refl a
  | false => exact Le.refl a
/-- o is c with the eyes g put out -/
def IsO (g : List Str) (up : Bool) (c : Ci) : Option Ci → Prop
  | none => ∀ s, Fit s → Off g s → ¬ Dir up c s
  | some w => Fit w ∧ Off g w ∧ Dir up c w ∧ ∀ s, Fit s → Off g s → Dir up c s → Dir up w s
def Al (a b : Ci) : Prop := Le a b ∧ Le b a
theorem Al.dir {a b : Ci} (h : Al a b) (up : Bool) : Dir up a b := by
  cases up with
  | true => exact h.1
  | false => exact h.2
theorem Al.symm {a b : Ci} (h : Al a b) : Al b a := ⟨h.2, h.1⟩
theorem Al.trans {a b c : Ci} (h : Al a b) (k : Al b c) : Al a c := ⟨h.1.trans k.1, k.2.trans h.2⟩
theorem al_of {a b : Ci} {up : Bool} (h : Dir up a b) (k : Dir up b a) : Al a b := by
  cases up with
  | true => exact ⟨h, k⟩
  | false => exact ⟨k, h⟩
theorem putO_is {g : List Str} {up : Bool} {c : Ci} (hf : Fit c) : IsO g up c (putO g up c) := by
  cases e : putO g up c with
  | none =>
    intro s ws os d
    cases up with
    | true =>
      obtain ⟨w, e2, _⟩ := putO_up d hf ws.wf os
      rw [e] at e2
      cases e2
    | false =>
      obtain ⟨w, e2, _⟩ := putO_down d hf ws.wf os
      rw [e] at e2
      cases e2
  | some w =>
    have lf := putO_lf hf.wf w e
    refine ⟨lf.fit hf, fun x hx => (lf.ov x hx).2, putO_le hf w e, fun s ws os d => ?_⟩
    cases up with
    | true =>
      obtain ⟨w2, e2, h⟩ := putO_up d hf ws.wf os
      rw [e] at e2
      cases e2
      exact h
    | false =>
      obtain ⟨w2, e2, h⟩ := putO_down d hf ws.wf os
      rw [e] at e2
      cases e2
      exact h
/-- the same but for what is always alike -/
def Like : Option Ci → Option Ci → Prop
  | none, none => True
  | some a, some b => Al a b
  | _, _ => False
theorem isO_one {g : List Str} {up : Bool} {c c' : Ci} {o o' : Option Ci} (a : Al c c') (h : IsO g up c o) (h' : IsO g up c' o') : Like o o' := by
  match o, o', h, h' with
  | none, none, _, _ => exact True.intro
  | none, some w', h, ⟨w1, w2, w3, w4⟩ => exact h w' w1 w2 ((a.dir up).trans w3)
  | some w, none, ⟨w1, w2, w3, w4⟩, h' => exact h' w w1 w2 ((a.symm.dir up).trans w3)
  | some w, some w', ⟨w1, w2, w3, w4⟩, ⟨v1, v2, v3, v4⟩ => exact al_of (w4 w' v1 v2 ((a.dir up).trans v3)) (v4 w w1 w2 ((a.symm.dir up).trans w3))
theorem isO_like {g : List Str} {up : Bool} {c : Ci} {w e : Ci} (h : IsO g up c (some w)) (a : Al e w) (we : Fit e) (oe : Off g e) : IsO g up c (some e) :=
  ⟨we, oe, h.2.2.1.trans (a.symm.dir up), fun s ws os d => (a.dir up).trans (h.2.2.2 s ws os d)⟩
/-- one more eye put out behind the others -/
theorem isO_step {g : List Str} {n : Str} {up : Bool} {c e : Ci} {o : Option Ci} (h : IsO g up c (some e)) (k : IsO [n] up e o) (hl : ∀ w, o = some w → ∀ x ∈ w.leaves, x ∈ e.leaves) : IsO (n :: g) up c o := by
  obtain ⟨h1, h2, h3, h4⟩ := h
  have off : ∀ {s : Ci}, Off (n :: g) s → Off [n] s ∧ Off g s := fun {s} z => ⟨fun x hx m => z x hx (by rw [List.mem_singleton.mp m]; exact List.mem_cons_self), fun x hx m => z x hx (List.mem_cons_of_mem _ m)⟩
  match o, k with
  | none, k => exact fun s ws os d => k s ws (off os).1 (h4 s ws (off os).2 d)
  | some w, ⟨w1, w2, w3, w4⟩ =>
    refine ⟨w1, fun x hx m => ?_, h3.trans w3, fun s ws os d => w4 s ws (off os).1 (h4 s ws (off os).2 d)⟩
    rcases List.mem_cons.mp m with e1 | e1
    · exact w2 x hx (by rw [e1]; exact List.mem_cons_self)
    · exact h2 x (hl w rfl x hx) e1
theorem isO_none {g h : List Str} {up : Bool} {c : Ci} (k : IsO g up c none) (s : ∀ x ∈ g, x ∈ h) : IsO h up c none := fun d wd od => k d wd fun x hx m => od x hx (s x m)
theorem isO_ext {g h : List Str} {up : Bool} {c : Ci} {o : Option Ci} (s : ∀ x, x ∈ g ↔ x ∈ h) (k : IsO g up c o) : IsO h up c o := by
  have off : ∀ {d : Ci}, Off h d → Off g d := fun {d} z x hx m => z x hx ((s x).mp m)
  match o, k with
  | none, k => exact fun d wd od => k d wd (off od)
  | some w, ⟨w1, w2, w3, w4⟩ => exact ⟨w1, fun x hx m => w2 x hx ((s x).mpr m), w3, fun d wd od z => w4 d wd (off od) z⟩
/-- nothing to be put out -/
theorem isO_self {g : List Str} {up : Bool} {c : Ci} (hw : Fit c) (h : Off g c) : IsO g up c (some c) := ⟨hw, h, Dir.refl up c, fun _ _ _ d => d⟩
/-! ### mirrored -/
mutual
def mir : Ci → Ci
  | .eye n => .eye n
  | .node k ps => .node (!k) (mirs ps)
def mirs : List Ci → List Ci
  | [] => []
  | c :: cs => mir c :: mirs cs
end
theorem mirs_eq : ∀ ps : List Ci, mirs ps = ps.map mir
  | [] => rfl
  | c :: cs => by rw [mirs, mirs_eq cs]; rfl
mutual
theorem mir_mir : ∀ c : Ci, mir (mir c) = c
  | .eye n => rfl
  | .node k ps => by
    rw [mir, mir, mirs_mirs ps, Bool.not_not]
theorem mirs_mirs : ∀ ps : List Ci, mirs (mirs ps) = ps
  | [] => rfl
  | c :: cs => by rw [mirs, mirs, mir_mir c, mirs_mirs cs]
end
mutual
theorem mir_size : ∀ c : Ci, (mir c).size = c.size
  | .eye n => rfl
  | .node k ps => by rw [mir, Ci.size, Ci.size, mirs_size ps]
theorem mirs_size : ∀ ps : List Ci, sizes (mirs ps) = sizes ps
  | [] => rfl
  | c :: cs => by rw [mirs, sizes, sizes, mir_size c, mirs_size cs]
end
mutual
theorem mir_depth : ∀ c : Ci, (mir c).depth = c.depth
  | .eye n => rfl
  | .node k ps => by rw [mir, Ci.depth, Ci.depth, mirs_depth ps]
theorem mirs_depth : ∀ ps : List Ci, depths (mirs ps) = depths ps
  | [] => rfl
  | c :: cs => by rw [mirs, depths, depths, mir_depth c, mirs_depth cs]
end
mutual
theorem mir_leaves : ∀ c : Ci, (mir c).leaves = c.leaves
  | .eye n => rfl
  | .node k ps => by rw [mir, Ci.leaves, Ci.leaves, mirs_leaves ps]
theorem mirs_leaves : ∀ ps : List Ci, leavess (mirs ps) = leavess ps
  | [] => rfl
  | c :: cs => by rw [mirs, leavess, leavess, mir_leaves c, mirs_leaves cs]
end
theorem mir_isK {k : Bool} {c : Ci} : (mir c).isK (!k) = c.isK k := by
  cases c with
  | eye n => rfl
  | node j ps =>
    rw [mir]
    show ((!j) == (!k)) = (j == k)
    cases j <;> cases k <;> rfl
theorem mir_le {c d : Ci} (h : Le c d) : Le (mir d) (mir c) := by
  induction h with
  | eye n => exact .eye n
  | @lc ps d h ih =>
    rw [mir.eq_2]
    exact .rp fun q hq => by
      rw [mirs_eq] at hq
      obtain ⟨p, hp, rfl⟩ := List.mem_map.mp hq
      exact ih p hp
  | @rp c qs h ih =>
    rw [mir.eq_2]
    exact .lc fun q hq => by
      rw [mirs_eq] at hq
      obtain ⟨p, hp, rfl⟩ := List.mem_map.mp hq
      exact ih p hp
  | @lp ps p d hp h ih =>
    rw [mir.eq_2]
    exact .rc (by rw [mirs_eq]; exact List.mem_map.mpr ⟨p, hp, rfl⟩) ih
  | @rc qs c q hq h ih =>
    rw [mir.eq_2]
    exact .lp (by rw [mirs_eq]; exact List.mem_map.mpr ⟨q, hq, rfl⟩) ih
theorem mir_dir {up : Bool} {c d : Ci} (h : Dir up c d) : Dir (!up) (mir c) (mir d) := by
  cases up with
  | true => exact mir_le h
  | false => exact mir_le h
theorem mir_fit : ∀ (n : Nat) {c : Ci}, c.size + c.depth ≤ n → Fit c → Fit (mir c)
  | n, .eye m, _, h => h
  | 0, .node k ps, hn, h => by
    have w := wf_node.mp h.wf
    have z := sizes_len fun c hc => (w.2.1 c hc).1
    rw [Ci.size] at hn
    omega
  | n + 1, .node k ps, hn, h => by
    have w := wf_node.mp h.wf
    have part : ∀ p ∈ ps, Fit (mir p) := fun p hp => by
      have f := h.part (c := .node k ps) hp
      have z1 := sizes_mem hp
      have z2 := depths_mem hp
      rw [Ci.size, Ci.depth] at hn
      exact mir_fit n (by omega) f
    refine ⟨?_, by rw [mir_size]; exact h.size, by rw [mir_depth]; exact h.depth⟩
    rw [mir, mirs_eq]
    refine wf_node.mpr ⟨by rw [List.length_map]; exact w.1, fun c hc => ?_, ?_⟩
    · obtain ⟨p, hp, rfl⟩ := List.mem_map.mp hc
      exact ⟨(part p hp).wf, by rw [mir_isK]; exact (w.2.1 p hp).2⟩
    · rw [List.map_map]
      have nd : (ps.map Ci.text).Nodup := w.2.2
      have inj : ∀ a ∈ ps, ∀ b ∈ ps, (Ci.text ∘ mir) a = (Ci.text ∘ mir) b → a = b := fun a ha b hb e => by
        have z := text_inj (part a ha) (part b hb) e
        have z2 := congrArg mir z
        rw [mir_mir, mir_mir] at z2
        exact z2
      clear hn h w part
      induction ps with
      | nil => exact List.nodup_nil
      | cons a r ih =>
        rw [List.map_cons, List.nodup_cons] at nd
        rw [List.map_cons, List.nodup_cons]
        refine ⟨fun m => ?_, ih nd.2 fun x hx y hy => inj x (List.mem_cons_of_mem _ hx) y (List.mem_cons_of_mem _ hy)⟩
        obtain ⟨b, hb, e⟩ := List.mem_map.mp m
        have z := inj b (List.mem_cons_of_mem _ hb) a List.mem_cons_self e
        exact nd.1 (List.mem_map.mpr ⟨b, hb, by rw [z]⟩)
theorem isO_mir {g : List Str} {up : Bool} {c : Ci} {o : Option Ci} (h : IsO g up (mir c) o) : IsO g (!up) c (o.map mir) := by
  have hw : ∀ s : Ci, Fit s → Fit (mir s) := fun s hs => mir_fit _ (Nat.le_refl _) hs
  have off : ∀ {s : Ci}, Off g s → Off g (mir s) := fun {s} z x hx => z x (by rw [mir_leaves] at hx; exact hx)
  have back : ∀ {s : Ci}, Dir (!up) c s → Dir up (mir c) (mir s) := fun {s} d => by
    have z := mir_dir d
    rw [Bool.not_not] at z
    exact z
  match o, h with
  | none, h => exact fun s ws os d => h (mir s) (hw s ws) (off os) (back d)
  | some w, ⟨w1, w2, w3, w4⟩ =>
    refine ⟨hw w w1, off w2, ?_, fun s ws os d => ?_⟩
    · have z := mir_dir w3
      rw [mir_mir] at z
      exact z
    · have z := mir_dir (w4 (mir s) (hw s ws) (off os) (back d))
      rw [mir_mir] at z
      exact z
end LOr
namespace LOr
open PySem PySem.Spec PyProof.Rows L2 LL LC LD LN LR LY LQ
/-- put out further -/
theorem isO_comp {g h : List Str} {up : Bool} {c e : Ci} {o : Option Ci} (k : IsO g up c (some e)) (s : ∀ x ∈ g, x ∈ h) (l : IsO h up e o) : IsO h up c o := by
  obtain ⟨_, _, k3, k4⟩ := k
  match o, l with
  | none, l => exact fun d wd od z => l d wd od (k4 d wd (fun x hx m => od x hx (s x m)) z)
  | some w, ⟨w1, w2, w3, w4⟩ => exact ⟨w1, w2, k3.trans w3, fun d wd od z => w4 d wd od (k4 d wd (fun x hx m => od x hx (s x m)) z)⟩
/-- what is answered when g is put out of c -/
structure Res (g : List Str) (up : Bool) (c : Ci) (o : Option Ci) : Prop where
  is : IsO g up c o
  st : ∀ e, o = some e → Settled e
  sz : ∀ e, o = some e → e.size ≤ c.size
  ov : ∀ e, o = some e → ∀ x ∈ e.leaves, x ∈ c.leaves
theorem Res.one {g : List Str} {up : Bool} {c : Ci} {o o' : Option Ci} (h : Res g up c o) (k : Res g up c o') : o = o' := by
  have l := isO_one ⟨Le.refl c, Le.refl c⟩ h.is k.is
  match o, o', h, k, l with
  | none, none, _, _, _ => rfl
  | some a, some b, h, k, l => rw [canon _ (Nat.le_refl _) h.is.1.wf k.is.1.wf (h.st a rfl) (k.st b rfl) ⟨l.1, l.2⟩]
theorem Res.fit {g : List Str} {up : Bool} {c e : Ci} (h : Res g up c (some e)) : Fit e := h.is.1
theorem Res.ext {g h : List Str} {up : Bool} {c : Ci} {o : Option Ci} (r : Res g up c o) (s : ∀ x, x ∈ g ↔ x ∈ h) : Res h up c o := ⟨isO_ext s r.is, r.st, r.sz, r.ov⟩
/-- the key of c answers where no eye of c is put out -/
theorem res_key {g : List Str} {up : Bool} {c e : Ci} (fc : Fit c) (o : Off g c) (n : Nc c.leaves e c.size c.depth) (a : Alike e c) (s : Settled e) : Res g up c (some e) :=
  ⟨isO_like (isO_self fc o) ⟨a.to, a.back⟩ (n.fit fc.size fc.depth) fun x hx => o x (n.ov x hx), fun _ h => by cases h; exact s, fun _ h => by cases h; exact n.size, fun _ h x hx => by cases h; exact n.ov x hx⟩
/-- what out says -/
theorem res_out {g : List Str} {up : Bool} {c w e : Ci} (fc : Fit c) (h : putO g up c = some w) (n : Nc w.leaves e w.size w.depth) (a : Alike e w) (s : Settled e) : Res g up c (some e) := by
  have z := putO_is (g := g) (up := up) fc
  rw [h] at z
  have lf := putO_lf fc.wf w h
  exact ⟨isO_like z ⟨a.to, a.back⟩ (n.fit (lf.fit fc).size (lf.fit fc).depth) fun x hx => z.2.1 x (n.ov x hx), fun _ q => by cases q; exact s, fun _ q => by cases q; exact Nat.le_trans n.size lf.size, fun _ q x hx => by cases q; exact (lf.ov x (n.ov x hx)).1⟩
theorem res_non {g : List Str} {up : Bool} {c : Ci} (fc : Fit c) (h : putO g up c = none) : Res g up c none := by
  have z := putO_is (g := g) (up := up) fc
  rw [h] at z
  exact ⟨z, fun _ q => (by cases q), fun _ q => (by cases q), fun _ q => (by cases q)⟩
/-- half of it first -/
theorem Res.comp {g h : List Str} {up : Bool} {c e : Ci} {o : Option Ci} (k : Res g up c (some e)) (s : ∀ x ∈ g, x ∈ h) (l : Res h up e o) : Res h up c o :=
  ⟨isO_comp k.is s l.is, l.st, fun a q => Nat.le_trans (l.sz a q) (k.sz e rfl), fun a q x hx => k.ov e rfl x (l.ov a q x hx)⟩
/-- where something is left of all, something is left of some -/
theorem Res.some_of {g h : List Str} {up : Bool} {c e : Ci} {o : Option Ci} (k : Res g up c o) (s : ∀ x ∈ g, x ∈ h) (l : Res h up c (some e)) : ∃ w, o = some w := by
  match o, k with
  | some w, _ => exact ⟨w, rfl⟩
  | none, k => exact absurd l.is.2.2.1 (k.is e l.is.1 fun x hx m => l.is.2.1 x hx (s x m))
/-- beneath is above mirrored -/
theorem res_mir {g : List Str} {c e k : Ci} (r : Res g true (mir c) (some e)) (fc : Fit c) (n : Nc (mir e).leaves k (mir e).size (mir e).depth) (a : Alike k (mir e)) (s : Settled k) : Res g false c (some k) := by
  have z := isO_mir r.is
  have fe := mir_fit _ (Nat.le_refl _) r.fit
  refine ⟨isO_like z ⟨a.to, a.back⟩ (n.fit fe.size fe.depth) fun x hx => z.2.1 x (n.ov x hx), fun _ q => by cases q; exact s, fun _ q => ?_, fun _ q x hx => ?_⟩
  · cases q
    have q1 := n.size
    have q2 := r.sz e rfl
    rw [mir_size] at q1 q2
    omega
  · cases q
    have q1 := n.ov x hx
    rw [mir_leaves] at q1
    have q2 := r.ov e rfl x q1
    rw [mir_leaves] at q2
    exact q2
theorem res_mirn {g : List Str} {c : Ci} (r : Res g true (mir c) none) : Res g false c none := ⟨isO_mir r.is, fun _ q => (by cases q), fun _ q => (by cases q), fun _ q => (by cases q)⟩
/-- one name after the other -/
structure Way (g : List Str) (up : Bool) (c : Ci) (o : Option Ci) : Prop where
  is : IsO g up c o
  sz : ∀ e, o = some e → e.size ≤ c.size
  ov : ∀ e, o = some e → ∀ x ∈ e.leaves, x ∈ c.leaves
  st : g ≠ [] → ∀ e, o = some e → Settled e
theorem Way.start {up : Bool} {c : Ci} (fc : Fit c) : Way [] up c (some c) := ⟨isO_self fc fun _ _ => List.not_mem_nil, fun _ q => by cases q; exact Nat.le_refl _, fun _ q x hx => by cases q; exact hx, fun h => absurd rfl h⟩
theorem Way.gone {g : List Str} {n : Str} {up : Bool} {c : Ci} (h : Way g up c none) : Way (g ++ [n]) up c none := ⟨isO_none h.is fun x hx => List.mem_append_left _ hx, fun _ q => (by cases q), fun _ q => (by cases q), fun _ _ q => (by cases q)⟩
theorem Way.step {g : List Str} {n : Str} {up : Bool} {c e : Ci} {o : Option Ci} (h : Way g up c (some e)) (r : Res [n] up e o) : Way (g ++ [n]) up c o := by
  refine ⟨isO_ext (g := n :: g) (fun x => ?_) (isO_step h.is r.is fun w q x hx => r.ov w q x hx), fun w q => Nat.le_trans (r.sz w q) (h.sz e rfl), fun w q x hx => h.ov e rfl x (r.ov w q x hx), fun _ => r.st⟩
  rw [List.mem_cons, List.mem_append, List.mem_singleton]
  exact Or.comm
theorem Way.res {g : List Str} {up : Bool} {c : Ci} {o : Option Ci} (h : Way g up c o) (n : g ≠ []) : Res g up c o := ⟨h.is, h.st n, h.sz, h.ov⟩
end LOr
namespace K34
open PySem PySem.Spec PyProof.Rows L2 RZ LL LC LS LR LD LN LY LOr
open C8 (Cal Mak Met CalAt pe_c pe_mk pe_mt pe_mt0 pe_gc)
section
variable {P : Program} {w : World} {K : PySem.W.Frag} {mg : Str → Option Value} {base : Heap}
/-! ### names and numbers -/
def spIsName (K : PySem.W.Frag) : Sp := fun vs H Q _ => ∃ (x : V) (nm : Bool), vs = [x] ∧ NameJ K H x nm ∧ ∀ H', Same H H' → Q (.bl nm) H'
theorem O_is_name (T : Txt K mg) : ∃ fd, FunD K d_is_name.name d_is_name.qual d_is_name.params d_is_name.body d_is_name.scope (d_is_name.dvs K) (d_is_name.kws K) (He.fAd K d_is_name.at_) fd ∧ FnOk P w K mg base CX0 1 (He.fAd K d_is_name.at_) fd ["value"] (spIsName K) := by
  obtain ⟨fd, F⟩ := T.F_is_name
  refine ⟨fd, F, fnD F sc_is_name (fun vs H Q E h => ?_) (fun cdv A outer s H vs Q E hr h => ?_)⟩
  · obtain ⟨x, nm, rfl, _⟩ := h
    rfl
  · obtain ⟨x, nm, rfl, hj, k⟩ := h
    refine ⟨_, (pss_cons (ps_if (pt_not (pt_val (pe_callB call_isi (by rfl) T.z_isinstance (by decide +kernel) (pa_cons (pv 0) (pa_cons (pe_bltn (v := .ty "str") rfl T.z_str (by decide +kernel) rfl) pa_nil)))))
    (pss_one (ps_ret pe_bl))
    pss_nil)
  (pss_cons (ps_if (pt_not (pt_chain op_le op_le pe_int (pe_callB call_len_str (by rfl) T.z_len PySem.boot_len (pa_cons (pv 0) pa_nil)) (pe_gc rfl T.v_LONGEST)))
    (pss_one (ps_ret pe_bl))
    pss_nil)
  (pss_one (ps_ret (pe_callB (cr_all rfl) (by rfl) T.z_all (by decide +kernel) (pa_cons (pe_lc (own := [("letter", 1)]) (g := gName 1) (tt := tYes) rfl sc_is_name.nd (pi_str (pv 0)) (blkOk_by (N := N_is_name) (sc := defScope s_is_name) (by decide +kernel)) (fun _ _ _ _ _ => pg_name (i := 1) sc_is_name.nd rfl (Or.inl rfl)) (fun _ _ _ _ _ => pts_nil) (fun _ _ _ _ _ => (pe_cmpR op_in_sign (pv 1) (pe_gc rfl T.v_LETTERS) (by rfl)))) pa_nil)))))), ?_⟩
    rcases hj with ⟨z, rfl, hz, _, rfl⟩ | ⟨⟨t, ty, e⟩, rfl⟩
    · refine ⟨_, rfl, _, _, _, _, true, rfl, .ty _, .base (.str z), kit_ty (by decide +kernel), _, rfl, iteF ?_⟩
      have hz1 : z.length ≤ sizeLine := Nat.le_trans hz (by decide)
      refine ⟨_, rfl, z, rfl, hz1, _, _, rfl, rfl, _, rfl, ?_⟩
      by_cases h1 : (1 : Int) ≤ (z.length : Int)
      · rw [decide_eq_true h1]
        refine iteT ?_
        by_cases h2 : (z.length : Int) ≤ 6
        · refine ⟨_, _, rfl, rfl, _, rfl, ?_⟩
          rw [decide_eq_true h2]
          refine iteF ?_
          refine ⟨_, rfl, z, rfl, fun D hD => ?_⟩
          refine lc_map walk_str (fun i => .bl ((z.cps[i]?.map fun c => decide (c ∈ LET.cps.toList)).getD false)) (by have q : z.cps.size = z.length := rfl; omega) hD (fun _ _ => True.intro) ?_ ?_
          · rintro i x H2 H3 Nx hi s2 ⟨rfl, c, hc, rfl⟩ hN
            refine ⟨rfl, _, rfl, c, LET, rfl, rfl, ?_⟩
            have q := hN H3 (Same.refl _)
            simp only [hc, Option.map_some, Option.getD_some] at q
            exact q
          · intro H2 s2 hL
            refine ⟨D, _, rfl, sqL_of (by rw [hL, map_bl]), ?_⟩
            rw [all_cps z fun c => decide (c ∈ LET.cps.toList)]
            have e : isName z = z.cps.toList.all fun c => decide (c ∈ LET.cps.toList) := by
              unfold isName
              rw [decide_eq_true (by omega : 1 ≤ z.length), decide_eq_true (by omega : z.length ≤ 6)]
              rfl
            rw [← e]
            exact k H2 s2
        · refine ⟨_, _, rfl, rfl, _, rfl, ?_⟩
          rw [decide_eq_false h2]
          refine iteT ?_
          have e : isName z = false := by
            unfold isName
            rw [decide_eq_false (by omega : ¬ z.length ≤ 6), Bool.and_false, Bool.false_and]
          rw [e] at k
          exact k H (Same.refl H)
      · rw [decide_eq_false h1]
        refine iteF ?_
        refine ⟨_, rfl, iteT ?_⟩
        have e : isName z = false := by
          unfold isName
          rw [decide_eq_false (by omega : ¬ 1 ≤ z.length), Bool.false_and, Bool.false_and]
        rw [e] at k
        exact k H (Same.refl H)
    · refine ⟨_, rfl, _, _, _, _, false, rfl, .ty _, ty, e, _, rfl, iteT ?_⟩
      exact k H (Same.refl H)
theorem C_is_name (T : Txt K mg) : Cal P w K mg base 1 "is_name" (spIsName K) [] := by
  obtain ⟨fd, F, G⟩ := O_is_name (P := P) (w := w) (base := base) T
  exact ⟨_, fd, _, [], G, T.g_is_name, F.kp, FunD.bindsN F fun _ _ _ _ _ _ us hl => match us, hl with | [_], _ => rfl, .nil⟩

end
end K34
namespace K34
open PySem PySem.Spec PyProof.Rows L2 RZ LL LC LS LR LD LN LY LOr
open C8 (Cal Mak Met CalAt pe_c pe_mk pe_mt pe_mt0 pe_gc)
section
variable {P : Program} {w : World} {K : PySem.W.Frag} {mg : Str → Option Value} {base : Heap}
/-! ### circles: the class -/
abbrev cC (K : PySem.W.Frag) : Addr := He.ga K "Circle"
theorem T_cls (T : Txt K mg) : Cls K (cC K) := He.cls_ok T.f_cls_Circle
theorem T_no (T : Txt K mg) {f : Str} (h : (He.Fa.noat "Circle" f).ok K = true) : NoAttr K (cC K) f := He.noat_ok h
theorem T_fmt (T : Txt K mg) : PySem.W.findIn K (.ref (cC K)) "__format__" = some (some (.builtin "object.__format__")) := of_decide_eq_true T.x_fmt
theorem T_obj (T : Txt K mg) : PySem.W.mroIn K (cC K) (.type "object") = some true := by
  obtain ⟨_, h⟩ := Bool.and_eq_true_iff.mp T.x_ins
  obtain ⟨_, h⟩ := Bool.and_eq_true_iff.mp h
  obtain ⟨_, h⟩ := Bool.and_eq_true_iff.mp h
  exact of_decide_eq_true h
theorem T_self (T : Txt K mg) : PySem.W.selfFirst K (cC K) = true := T.x_self
theorem sign_at (T : TxtW w K mg) (k : Bool) : KDct K w (He.ga K "SIGNS") (kS k) (.str (sgn k)) := by
  obtain ⟨es, n, D⟩ := T.tab 0
  cases k with
  | true =>
    obtain ⟨u, e, r⟩ := He.valsB_ok T.x_sp (q := ("pool", .str " & ")) (by simp)
    exact ⟨es, n, u, D.at_, D.lit, e, r⟩
  | false =>
    obtain ⟨u, e, r⟩ := He.valsB_ok T.x_sc (q := ("common", .str " | ")) (by simp)
    exact ⟨es, n, u, D.at_, D.lit, e, r⟩
def spStr (K : PySem.W.Frag) : Sp := fun vs H Q _ => ∃ (v : V) (c : Ci), vs = [v] ∧ CO (cC K) H v c ∧ Q (.str c.text) H
theorem M_Circle___str__ (T : Txt K mg) : Met P w K mg base 1 (cC K) "__str__" (spStr K) [] := by
  obtain ⟨fd, F⟩ := T.F_Circle___str__
  have b : Binds K fd ["self"] [] := FunD.bindsN F fun _ _ _ _ _ _ us hl => match us, hl with | [_], _ => rfl
  refine ⟨_, fd, _, [], He.cls_ok T.f_cls_Circle, He.meth_ok T.f_meth_Circle___str__, fnD F sc_Circle___str__ (fun vs H Q E h => ?_) (fun cdv A outer s H vs Q E hr h => ?_), b, .nil⟩
  · obtain ⟨v, c, rfl, _⟩ := h
    rfl
  · obtain ⟨v, c, rfl, hc, q⟩ := h
    cases hc with
    | mk h1 h2 h3 h4 h5 =>
    refine ⟨_, (pss_one (ps_ret (pe_callTy SkE.call_str_str (by rfl) T.z_str (by decide +kernel) (pa_cons (pe_fld (pv 0) (by rfl)) pa_nil)))), ?_⟩
    exact ⟨_, rfl, ⟨_, _, _, _, _, rfl, h1, T_cls T, T_no T T.f_no_Circle__text, rfl, _, rfl, q⟩⟩
def spParts (K : PySem.W.Frag) : Sp := fun vs H Q _ => ∃ (v : V) (c : Ci), vs = [v] ∧ CO (cC K) H v c ∧ ∀ (p : Addr) (rows : List V), H p = none → COs (cC K) H rows c.parts → Q (.ref p) (upd H p (.lst rows))
theorem M_Circle_parts (T : Txt K mg) : Met P w K mg base 1 (cC K) "parts" (spParts K) [] := by
  obtain ⟨fd, F⟩ := T.F_Circle_parts
  have b : Binds K fd ["self"] [] := FunD.bindsN F fun _ _ _ _ _ _ us hl => match us, hl with | [_], _ => rfl
  refine ⟨_, fd, _, [], He.cls_ok T.f_cls_Circle, He.meth_ok T.f_meth_Circle_parts, fnD F sc_Circle_parts (fun vs H Q E h => ?_) (fun cdv A outer s H vs Q E hr h => ?_), b, .nil⟩
  · obtain ⟨v, c, rfl, _⟩ := h
    rfl
  · obtain ⟨v, c, rfl, hc, q⟩ := h
    cases hc with
    | mk h1 h2 h3 h4 h5 =>
    refine ⟨_, (pss_one (ps_ret (pe_callTy call_list_of (by rfl) T.z_list (by decide +kernel) (pa_cons (pe_fld (pv 0) (by rfl)) pa_nil)))), ?_⟩
    exact ⟨_, rfl, ⟨_, _, _, _, _, rfl, h1, T_cls T, T_no T T.f_no_Circle__rows, rfl, _, _, rfl, .inr (sqT_of h2), fun l hl => q l _ hl h4⟩⟩
def spEyes (K : PySem.W.Frag) : Sp := fun vs H Q _ => ∃ (v : V) (c : Ci), vs = [v] ∧ CO (cC K) H v c ∧ ∀ (p : Addr) (ns : List Str), H p = none → Nms ns c → Q (.ref p) (upd H p (.lst (ns.map V.str)))
theorem M_Circle_eyes (T : Txt K mg) : Met P w K mg base 1 (cC K) "eyes" (spEyes K) [] := by
  obtain ⟨fd, F⟩ := T.F_Circle_eyes
  have b : Binds K fd ["self"] [] := FunD.bindsN F fun _ _ _ _ _ _ us hl => match us, hl with | [_], _ => rfl
  refine ⟨_, fd, _, [], He.cls_ok T.f_cls_Circle, He.meth_ok T.f_meth_Circle_eyes, fnD F sc_Circle_eyes (fun vs H Q E h => ?_) (fun cdv A outer s H vs Q E hr h => ?_), b, .nil⟩
  · obtain ⟨v, c, rfl, _⟩ := h
    rfl
  · obtain ⟨v, c, rfl, hc, q⟩ := h
    cases hc with
    | mk h1 h2 h3 h4 h5 =>
    refine ⟨_, (pss_one (ps_ret (pe_callTy call_list_of (by rfl) T.z_list (by decide +kernel) (pa_cons (pe_fld (pv 0) (by rfl)) pa_nil)))), ?_⟩
    exact ⟨_, rfl, ⟨_, _, _, _, _, rfl, h1, T_cls T, T_no T T.f_no_Circle__names, rfl, _, _, rfl, .inr (sqT_of h3), fun l hl => q l _ hl h5⟩⟩
def spWp (K : PySem.W.Frag) : Sp := fun vs H Q _ => ∃ (v : V) (c : Ci), vs = [v] ∧ CO (cC K) H v c ∧ Fit c ∧ Q (.str (wrap c.isEye c.text)) H
theorem C_written_part (T : Txt K mg) : Cal P w K mg base 4 "written_part" (spWp K) [] := by
  have M_Circle___str__ : Met P w K mg base 1 (cC K) "__str__" (spStr K) [] := M_Circle___str__ T
  obtain ⟨fd, F⟩ := T.F_written_part
  have b : Binds K fd ["circle"] [] := FunD.bindsN F fun _ _ _ _ _ _ us hl => match us, hl with | [_], _ => rfl
  refine calD F T.g_written_part b sc_written_part (fun vs H Q E h => ?_) (fun cdv A outer s H vs Q E hr h => ?_)
  · obtain ⟨v, c, rfl, _⟩ := h
    rfl
  · obtain ⟨v, c, rfl, hc, hf, q⟩ := h
    have hc0 := hc
    cases hc with
    | mk h1 h2 h3 h4 h5 =>
    refine ⟨_, (pss_cons (ps_if (pt_cmpR op_eq (pe_fld (pv 0) (by rfl)) pe_str (nomark _))
    (pss_one (ps_ret (pe_callTy (LO.cr_strO M_Circle___str__ hr (by omega)) (by rfl) T.z_str (by decide +kernel) (pa_cons (pv 0) pa_nil))))
    pss_nil)
  (pss_one (ps_ret (pe_joined (PJ.cons pe_str (PJ.cons (LO.pe_fmtO M_Circle___str__ hr (by omega) (T_fmt T) (T_obj T) (pv 0)) (PJ.cons pe_str PJ.nil))))))), ?_⟩
    refine ⟨_, rfl, ⟨_, _, _, _, _, rfl, h1, T_cls T, T_no T T.f_no_Circle_kind, rfl, rfl, _, rfl, ?_⟩⟩
    cases c with
    | eye n =>
      refine iteT ⟨_, rfl, _, _, _, rfl, h1, _, _, rfl, hc0, _, rfl, q⟩
    | node k ps =>
      have e : decide (V.str (Ci.node k ps).kind = V.str "eye") = false := by
        show decide (V.str (kS k) = V.str "eye") = false
        cases k <;> decide +kernel
      rw [e]
      have z : (Ci.node k ps).text.length ≤ 6360 := hf.text
      have l1 : (Str.empty ++ ("(" : Str) ++ (Ci.node k ps).text).length ≤ 6361 := by
        rw [len_app]
        show 1 + _ ≤ _
        omega
      refine iteF ⟨_, rfl, by decide, _, rfl, _, _, _, rfl, h1, _, _, rfl, hc0, _, rfl, _, rfl, Nat.le_trans l1 (by decide), _, rfl, ?_, ?_⟩
      · rw [len_app]
        exact Nat.le_trans (Nat.add_le_add_right l1 _) (by decide)
      · have e2 : Str.empty ++ ("(" : Str) ++ (Ci.node k ps).text ++ (")" : Str) = wrap (Ci.node k ps).isEye (Ci.node k ps).text := by
          rw [PySem.Str.empty_append] <;> rfl
        rw [e2]
        exact q
/-- what __init__ makes of a new thing -/
def spInit (K : PySem.W.Frag) : Sp := fun vs H Q _ => ∃ (p dx q : Addr) (c : Ci) (rows : List V), vs = [.ref p, .str c.kind, .str c.name, .ref q] ∧ H p = some (.ins (cC K) dx []) ∧ (SqL K H q rows ∨ H q = some (.tup rows)) ∧ COs (cC K) H rows c.parts ∧ Fit c ∧
  ∀ H', But p H H' → CO (cC K) H' (.ref p) c → Q .non H'
def cfg (c : Ci) (r : Addr) (x1 x2 : Int) (x3 : V) (t : Addr) : List (Str × V) := [("kind", .str c.kind), ("name", .str c.name), ("_rows", .ref r), ("size", .int x1), ("depth", .int x2), ("_text", x3), ("_names", .ref t)]
theorem M_Circle (T : TxtW w K mg) : Mak P w K mg base 5 "Circle" (cC K) (spInit K) [] := by
  have C_written_part : Cal P w K mg base 4 "written_part" (spWp K) [] := C_written_part T.toTxt
  have M_Circle_eyes : Met P w K mg base 1 (cC K) "eyes" (spEyes K) [] := M_Circle_eyes T.toTxt
  obtain ⟨fd, F⟩ := T.F_Circle___init__
  have b : Binds K fd ["self", "kind", "name", "rows"] [] := FunD.bindsN F fun _ _ _ _ _ _ us hl => match us, hl with | [_, _, _, _], _ => rfl
  refine ⟨_, fd, _, [], He.mkr_ok T.f_mkr_Circle, fnD F sc_Circle___init__ (fun vs H Q E h => ?_) (fun cdv A outer s H vs Q E hr h => ?_), T.g_Circle, b, .nil⟩
  · obtain ⟨p, dx, q, c, rows, rfl, _⟩ := h
    rfl
  · obtain ⟨p, dx, q, c, rows, rfl, hp, hq, hrows, hf, k⟩ := h
    have cl := T_cls T.toTxt
    have no : ∀ {f : Str}, (He.Fa.noat "Circle" f).ok K = true → NoAttr K (cC K) f := fun h => T_no T.toTxt h
    refine ⟨_, (pss_cons (ps_fld (pv 0) (pv 1) rfl)
  (pss_cons (ps_fld (pv 0) (pv 2) rfl)
  (C8.pss_cut (ps_fld (pv 0) (pe_callTy call_tuple_of (by rfl) T.z_tuple (by decide +kernel) (pa_cons (pv 3) pa_nil)) rfl)
  (pss_cons (ps_fld (pv 0) pe_int rfl)
  (pss_cons (ps_fld (pv 0) pe_int rfl)
  (pss_cons (ps_fld (pv 0) (pv 2) rfl)
  (pss_cons (ps_fld (pv 0) (pe_tup (pa_cons (pv 2) pa_nil)) rfl)
  (pss_one (ps_if (pt_cmpR op_ne (pv 1) pe_str (nomark _))
    (pss_cons (ps_fld (pv 0) (pe_callB (cr_sum rfl) (by rfl) T.z_sum (by decide +kernel) (pa_cons (pe_lc (own := [("part", 4)]) (g := gName 4) (tt := tYes) (te := (tFld K (tVar 4) "size")) rfl sc_Circle___init__.nd (pi_tup (pe_fld (pv 0) (by rfl))) (blkOk_by (N := N_Circle___init__) (sc := defScope s_Circle___init__) (by decide +kernel)) (fun _ _ _ _ _ => pg_name (i := 4) sc_Circle___init__.nd rfl (Or.inl rfl)) (fun _ _ _ _ _ => pts_nil) (fun _ _ _ _ _ => (pe_fld (pv 4) (by rfl)))) pa_nil)) rfl)
    (pss_cons (ps_fld (pv 0) (pe_op op_add pe_int (pe_callB (cr_max rfl) (by rfl) T.z_max (by decide +kernel) (pa_cons (pe_lc (own := [("part", 4)]) (g := gName 4) (tt := tYes) (te := (tFld K (tVar 4) "depth")) rfl sc_Circle___init__.nd (pi_tup (pe_fld (pv 0) (by rfl))) (blkOk_by (N := N_Circle___init__) (sc := defScope s_Circle___init__) (by decide +kernel)) (fun _ _ _ _ _ => pg_name (i := 4) sc_Circle___init__.nd rfl (Or.inl rfl)) (fun _ _ _ _ _ => pts_nil) (fun _ _ _ _ _ => (pe_fld (pv 4) (by rfl)))) pa_nil))) rfl)
    (pss_cons (ps_fld (pv 0) (pe_join (pe_ix ix_kdict (pe_gc rfl T.v_SIGNS) (pv 1) (fun _ _ => rfl)) (pe_lc (own := [("part", 4)]) (g := gName 4) (tt := tYes) rfl sc_Circle___init__.nd (pi_tup (pe_fld (pv 0) (by rfl))) (blkOk_by (N := N_Circle___init__) (sc := defScope s_Circle___init__) (by decide +kernel)) (fun _ _ _ _ _ => pg_name (i := 4) sc_Circle___init__.nd rfl (Or.inl rfl)) (fun _ _ _ _ _ => pts_nil) (fun _ _ _ _ _ => (pe_c C_written_part hr (by omega) rfl (pa_cons (pv 4) pa_nil))))) rfl)
    (pss_cons (ps_setLc2 (i := 5) (own := [("part", 4), ("each", 6)]) (vs1 := [6]) (g := gName 4) (g1 := gName 6) (tt := tYes) (tt1 := tYes) (wi1 := iList K (tMeth (cC K) "eyes" (spEyes K) [] C8.E0 (tVar 4) tNil)) rfl sc_Circle___init__.nd rfl rfl (sw_true rfl rfl rfl (by decide +kernel)) (pi_tup (pe_fld (pv 0) (by rfl))) (blkOk_by (N := N_Circle___init__) (sc := defScope s_Circle___init__) (by decide +kernel)) (by decide) (fun _ _ _ _ _ => pg_name (i := 4) sc_Circle___init__.nd rfl (Or.inl rfl)) (fun _ _ _ _ _ => pts_nil) (fun _ _ _ _ _ => (pi_list (pe_mt0 M_Circle_eyes hr (by omega) (pv 4)))) (fun _ _ _ _ _ => pg_name (i := 6) sc_Circle___init__.nd rfl (Or.inl rfl)) (fun _ _ _ _ _ => pts_nil) (fun _ _ _ _ _ => (pv 6)))
    (pss_one (ps_fld (pv 0) (pe_callTy call_tuple_of (by rfl) T.z_tuple (by decide +kernel) (pa_cons (pe_callB (LT.cr_sortX rfl) (by rfl) T.z_sorted (by decide +kernel) (pa_cons (pe_callTy (LT.cr_setX rfl) (by rfl) T.z_set (by decide +kernel) (pa_cons (pv 5) pa_nil)) pa_nil)) pa_nil)) rfl))))))
    pss_nil))))))))), ?_⟩
    refine ⟨_, rfl, _, rfl, p, _, dx, _, rfl, hp, cl, no T.f_no_Circle_kind, fl_lt fl0, ?_⟩
    refine ⟨_, rfl, _, rfl, p, _, dx, _, rfl, upd_same, cl, no T.f_no_Circle_name, fl_lt (flS fl0), ?_⟩
    have b2 : But p H (upd (upd H p (.ins (cC K) dx (putF "kind" (.str c.kind) []))) p (.ins (cC K) dx (putF "name" (.str c.name) (putF "kind" (.str c.kind) [])))) := (But.refl p H).upd.upd
    generalize e2 : putF "name" (.str c.name) (putF "kind" (.str c.kind) []) = f2 at b2 ⊢
    have l2 : f2.length ≤ 2 := by rw [← e2]; exact flS (flS fl0)
    generalize h2 : upd (upd H p (.ins (cC K) dx (putF "kind" (.str c.kind) []))) p (.ins (cC K) dx f2) = H2 at b2 ⊢
    have p2 : H2 p = some (.ins (cC K) dx f2) := by rw [← h2]; exact upd_same
    refine ⟨fun σ' H3 => σ' = start N_Circle___init__ [.ref p, .str c.kind, .str c.name, .ref q] ∧ ∃ r, H3 r = some (.tup rows) ∧ H3 p = some (.ins (cC K) dx (putF "_rows" (.ref r) f2)) ∧ But p H H3, ?_, ?_⟩
    · have qp : ∀ {o : HO}, H q = some o → (∀ d f, o ≠ .ins (cC K) d f) → H2 q = some o := fun e n => b2 q _ (fun z => by
        rw [z, hp] at e
        exact n _ _ (Option.some.inj e).symm) e
      have fin : ∀ (r : Addr) (H3 : Hp), H3 r = some (.tup rows) → r ≠ p → H3 p = some (.ins (cC K) dx f2) → But p H H3 →
          sFld K (tVar 0) (tC (.ref r)) "_rows" { nx := fun σ' H3 => σ' = start N_Circle___init__ [.ref p, .str c.kind, .str c.name, .ref q] ∧ ∃ r, H3 r = some (.tup rows) ∧ H3 p = some (.ins (cC K) dx (putF "_rows" (.ref r) f2)) ∧ But p H H3, rt := Q } (start N_Circle___init__ [.ref p, .str c.kind, .str c.name, .ref q]) H3 := fun r H3 hr nr h3 b3 =>
        ⟨_, rfl, p, _, dx, _, rfl, h3, cl, no T.f_no_Circle__rows, fl_lt l2, rfl, r, by rw [upd_ne nr]; exact hr, upd_same, b3.upd⟩
      rcases hq with hq | hq
      · refine ⟨_, rfl, q, rows, rfl, .inl ⟨?_, fun l hl => ?_⟩⟩
        · rcases hq with (e | ⟨o, e⟩) | e
          · exact .inl (.inl (qp e (by simp)))
          · exact .inl (.inr ⟨o, qp e (by simp)⟩)
          · exact .inr e
        · have nl : l ≠ p := fun z => by
            rw [z, p2] at hl
            cases hl
          exact fin l _ upd_same nl (by rw [upd_ne (Ne.symm nl)]; exact p2) (b2.new hl)
      · refine ⟨_, rfl, q, rows, rfl, .inr ⟨sqT_of (qp hq (by simp)), ?_⟩⟩
        have nq : q ≠ p := fun z => by
          rw [z, hp] at hq
          cases hq
        exact fin q _ (qp hq (by simp)) nq p2 b2
    · rintro σ' H3 ⟨rfl, r, hr3, hp3, b3⟩
      have nrp : r ≠ p := ne_of hr3 hp3 (by simp)
      have e3 : putF "_rows" (.ref r) f2 = ([("kind", .str c.kind), ("name", .str c.name), ("_rows", .ref r)] : List (Str × V)) := by rw [← e2]; rfl
      rw [e3] at hp3
      refine ⟨_, rfl, p, _, dx, _, rfl, hp3, cl, no T.f_no_Circle_size, (show 3 < 1000 by decide), ?_⟩
      refine ⟨_, rfl, p, _, dx, _, rfl, upd_same, cl, no T.f_no_Circle_depth, (show 4 < 1000 by decide), ?_⟩
      refine ⟨_, rfl, _, rfl, p, _, dx, _, rfl, upd_same, cl, no T.f_no_Circle__text, (show 5 < 1000 by decide), ?_⟩
      generalize eH : upd (upd (upd H3 p _) p _) p _ = H4
      have hp4 : H4 p = some (.ins (cC K) dx ([("kind", .str c.kind), ("name", .str c.name), ("_rows", .ref r), ("size", .int 1), ("depth", .int 0), ("_text", .str c.name)] : List (Str × V))) := by rw [← eH]; exact upd_same
      have hr4 : H4 r = some (.tup rows) := by rw [← eH, upd_ne nrp, upd_ne nrp, upd_ne nrp]; exact hr3
      have b4 : But p H H4 := by rw [← eH]; exact b3.upd.upd.upd
      refine ⟨_, rfl, (show 1 ≤ sizeLine by decide), fun t nt => ?_⟩
      have ntp : p ≠ t := fun z => by
        rw [← z, hp4] at nt
        cases nt
      have nrt : r ≠ t := ne_of_none hr4 nt
      refine ⟨_, rfl, p, _, dx, _, rfl, by rw [upd_ne ntp]; exact hp4, cl, no T.f_no_Circle__names, by exact (show 6 < 1000 by decide), ?_⟩
      generalize eH5 : upd (upd H4 t _) p _ = H5
      have hp5 : H5 p = some (.ins (cC K) dx (cfg c r 1 0 (.str c.name) t)) := by rw [← eH5]; exact upd_same
      have hr5 : H5 r = some (.tup rows) := by rw [← eH5, upd_ne nrp, upd_ne nrt]; exact hr4
      have ht5 : H5 t = some (.tup [.str c.name]) := by rw [← eH5, upd_ne (Ne.symm ntp), upd_same]
      have b5 : But p H H5 := by rw [← eH5]; exact (b4.new nt).upd
      clear eH5 eH hp4 hr4 b4 hp3 hr3 b3 e3 nt
      have hc5 := cos_mono (Kc.but hp b5) hrows
      refine ⟨_, rfl, rfl, _, rfl, ?_⟩
      cases c with
      | eye n =>
        refine iteF ?_
        refine k H5 b5 ?_
        cases hc5
        refine .mk (ns := [n]) hp5 hr5 ht5 .nil ⟨fun x => ?_, by simp, rfl⟩
        rw [Ci.leaves]
      | node kk ps =>
        have e : (!decide (V.str (Ci.node kk ps).kind = V.str "eye")) = true := by
          show (!decide (V.str (kS kk) = V.str "eye")) = true
          cases kk <;> decide +kernel
        rw [e]
        refine iteT ?_
        have lr : rows.length = ps.length := cos_len hrows
        have hw := wf_node.mp hf.wf
        have l60 : ps.length ≤ 60 := by
          have z := hf.size
          have z2 := sizes_len (ps := ps) fun c hc => (hw.2.1 c hc).1
          rw [Ci.size] at z
          omega
        have hfp : ∀ p ∈ ps, Fit p := fun p hp => hf.part hp
        /- size -/
        refine ⟨_, rfl, p, _, dx, _, _, rfl, hp5, cl, no T.f_no_Circle__rows, rfl, r, rfl, ⟨rows, sqT_of hr5⟩, fun D nD => ?_⟩
        have lm : rows.length ≤ 1000000 := by omega
        refine lc_co walk_tup (fun c => .int ((c.size : Nat) : Int)) hc5 lm nD (fun _ s => sqT_of (s _ _ hr5)) ?_ ?_
        · intro v c H6 Nx hc s6 h6 hN
          cases h6 with
          | mk a1 a2 a3 a4 a5 =>
          exact ⟨rfl, _, rfl, _, _, _, _, _, rfl, a1, cl, no T.f_no_Circle_size, rfl, hN _ (Same.refl _)⟩
        · intro H6 s6 hL
          refine ⟨D, ps.map fun c => ((c.size : Nat) : Int), rfl, sqL_of (by rw [hL, List.map_map]; rfl), ?_⟩
          rw [sizes_sum]
          have hp6 := s6 _ _ hp5
          refine ⟨_, rfl, p, _, dx, _, rfl, hp6, cl, no T.f_no_Circle_size, by exact (show 7 < 1000 by decide), ?_⟩
          generalize eH : upd H6 p _ = H7
          have hp7 : H7 p = some (.ins (cC K) dx (cfg (.node kk ps) r (sizes ps : Nat) 0 (.str (Ci.node kk ps).name) t)) := by rw [← eH]; exact upd_same
          have hr7 : H7 r = some (.tup rows) := by rw [← eH, upd_ne nrp]; exact s6 _ _ hr5
          have ht7 : H7 t = some (.tup [.str (Ci.node kk ps).name]) := by rw [← eH, upd_ne (Ne.symm ntp)]; exact s6 _ _ ht5
          have b7 : But p H H7 := by rw [← eH]; exact (b5.same s6).upd
          clear eH hp6 hL s6 hp5 hr5 ht5 b5 hc5 nD
          have hc7 := cos_mono (Kc.but hp b7) hrows
          /- depth -/
          refine ⟨_, rfl, p, _, dx, _, _, rfl, hp7, cl, no T.f_no_Circle__rows, rfl, r, rfl, ⟨rows, sqT_of hr7⟩, fun D2 nD => ?_⟩
          refine lc_co walk_tup (fun c => .int ((c.depth : Nat) : Int)) hc7 lm nD (fun _ s => sqT_of (s _ _ hr7)) ?_ ?_
          · intro v c H6 Nx hc s6 h6 hN
            cases h6 with
            | mk a1 a2 a3 a4 a5 =>
            exact ⟨rfl, _, rfl, _, _, _, _, _, rfl, a1, cl, no T.f_no_Circle_depth, rfl, hN _ (Same.refl _)⟩
          · intro H8 s8 hL
            have ne : 0 < (ps.map fun c => ((c.depth : Nat) : Int)).length := by
              rw [List.length_map]
              omega
            refine ⟨D2, ps.map fun c => ((c.depth : Nat) : Int), rfl, sqL_of (by rw [hL, List.map_map]; rfl), ne, fun m hm1 hm2 => ?_⟩
            rw [depths_max hm1 hm2]
            have hp8 := s8 _ _ hp7
            refine ⟨_, _, rfl, rfl, _, rfl, p, _, dx, _, rfl, hp8, cl, no T.f_no_Circle_depth, by exact (show 7 < 1000 by decide), ?_⟩
            generalize eH : upd H8 p _ = H9
            have e9 : (1 : Int) + ((depths ps : Nat) : Int) = (((Ci.node kk ps).depth : Nat) : Int) := by
              rw [Ci.depth]
              omega
            have hp9 : H9 p = some (.ins (cC K) dx (cfg (.node kk ps) r (sizes ps : Nat) (1 + ((depths ps : Nat) : Int)) (.str (Ci.node kk ps).name) t)) := by rw [← eH]; exact upd_same
            rw [e9] at hp9
            have hr9 : H9 r = some (.tup rows) := by rw [← eH, upd_ne nrp]; exact s8 _ _ hr7
            have ht9 : H9 t = some (.tup [.str (Ci.node kk ps).name]) := by rw [← eH, upd_ne (Ne.symm ntp)]; exact s8 _ _ ht7
            have b9 : But p H H9 := by rw [← eH]; exact (b7.same s8).upd
            clear eH e9 hp8 hL s8 hp7 hr7 ht7 b7 hc7 nD
            have hc9 := cos_mono (Kc.but hp b9) hrows
            /- text -/
            refine ⟨_, rfl, He.ga K "SIGNS", kS kk, .str (sgn kk), rfl, rfl, sign_at T kk, ⟨_, rfl⟩, ?_⟩
            refine ⟨_, rfl, p, _, dx, _, _, rfl, hp9, cl, no T.f_no_Circle__rows, rfl, r, rfl, ⟨rows, sqT_of hr9⟩, fun D3 nD => ?_⟩
            refine lc_co walk_tup (fun c => .str (wrap c.isEye c.text)) hc9 lm nD (fun _ s => sqT_of (s _ _ hr9)) ?_ ?_
            · intro v c H6 Nx hc s6 h6 hN
              exact ⟨rfl, _, rfl, v, c, rfl, h6, hfp c hc, hN _ (Same.refl _)⟩
            · intro H10 s10 hL
              have ew : wtexts ps = ps.map fun c => wrap c.isEye c.text := wtexts_eq ps
              refine ⟨_, D3, wtexts ps, rfl, rfl, .inl (sqL_of (by rw [hL, ew, List.map_map]; rfl)), ?_, ?_⟩
              · have z1 := wlens_len (ps := ps) 20 (fun c hc => (hw.2.1 c hc).1) fun c hc => (hfp c hc).depth
                unfold wlens at z1
                have z2 : (wtexts ps).length = ps.length := by rw [ew, List.length_map]
                have z3 := hf.size
                rw [Ci.size] at z3
                rw [z2, len_sgn]
                omega
              have hp10 := s10 _ _ hp9
              refine ⟨_, rfl, p, _, dx, _, rfl, hp10, cl, no T.f_no_Circle__text, by exact (show 7 < 1000 by decide), ?_⟩
              generalize eH : upd H10 p _ = H11
              have et : Txt.join (sgn kk) (wtexts ps) = (Ci.node kk ps).text := by rw [Ci.text]
              rw [et] at eH
              have hp11 : H11 p = some (.ins (cC K) dx (cfg (.node kk ps) r (sizes ps : Nat) ((Ci.node kk ps).depth : Nat) (.str (Ci.node kk ps).text) t)) := by rw [← eH]; exact upd_same
              have hr11 : H11 r = some (.tup rows) := by rw [← eH, upd_ne nrp]; exact s10 _ _ hr9
              have b11 : But p H H11 := by rw [← eH]; exact (b9.same s10).upd
              clear eH et hp10 hL s10 hp9 hr9 ht9 b9 hc9 nD
              have hc11 := cos_mono (Kc.but hp b11) hrows
              have es : (Ci.node kk ps).size = sizes ps := by rw [Ci.size]
              have sz := hf.size
              rw [es] at sz
              /- names -/
              refine ⟨_, rfl, p, _, dx, _, _, rfl, hp11, cl, no T.f_no_Circle__rows, rfl, r, rfl, ⟨rows, sqT_of hr11⟩, fun D4 nD => ?_⟩
              refine lc2_list walk_tup (fun i acc _ => ∃ ns : List Str, acc = ns.map V.str ∧ (∀ x, x ∈ ns ↔ x ∈ leavess (ps.take i)) ∧ ns.length ≤ sizes (ps.take i)) nD (fun _ s => sqT_of (s _ _ hr11)) ?_ ?_ ?_ ?_ ?_
              · exact ⟨[], rfl, fun x => by simp [leavess], Nat.zero_le _⟩
              · intro i acc H6 H7 _ _ z
                exact z
              · rintro i x H6 H7 acc Nx hi s6 hD6 ⟨ns, rfl, hm, hl⟩ ⟨rfl, hx⟩ hN
                obtain ⟨c, g1, g2⟩ := cos_get hc11 hx
                have g3 := co_mono (Kc.of s6) g2
                have g4 : ps.take (i + 1) = ps.take i ++ [c] := take_one g1
                obtain ⟨a, ax, ar, at', rfl, ha⟩ := co_ref g3
                refine ⟨rfl, _, rfl, a, ax, _, rfl, ha, rfl, _, c, rfl, g3, fun l ns2 nl hns => ?_⟩
                have nlD : l ≠ D4 := fun z => by
                  rw [z, hD6] at nl
                  cases nl
                refine hN _ l _ _ (by rfl) (same_upd nl) nlD (sqL_of upd_same) ?_ ⟨ns ++ ns2, by rw [List.map_append], ?_, ?_⟩
                · have z1 := hns.len
                  have z2 := (hfp c (List.mem_of_getElem? g1)).size
                  have z3 := sizes_take ps i
                  rw [List.length_append, List.length_map, List.length_map]
                  omega
                · intro y
                  rw [g4, leavess_app, leavess_one, List.mem_append, List.mem_append, hm, hns.mem]
                · have z1 := hns.len
                  rw [g4, sizes_app, sizes_one, List.length_append]
                  omega
              · intro x σ2 H6 Nx h2 hN
                exact ⟨by simp [wipe], _, wipe1_set (by rw [h2]; exact (show 6 < 7 by decide)), hN⟩
              · rintro H12 acc s12 hL ⟨ns, rfl, hm, hl⟩
                have et : ps.take rows.length = ps := by rw [lr, List.take_length]
                rw [et] at hm hl
                refine ⟨_, rfl, D4, ns, rfl, sqL_of hL, Nat.lt_of_le_of_lt (Nat.add_le_add_right (Nat.le_trans hl sz) 1) (by unfold scanBound; omega), fun e1 ne1 => ?_⟩
                have li : (LT.insAll ns []).length ≤ ns.length := by
                  have z := LT.len_insAll ns []
                  simpa using z
                refine ⟨_, _, rfl, upd_same, by omega, fun ys e2 pe so nd ne2 => ?_⟩
                have b13 : But p H (upd (upd H12 e1 _) e2 _) := ((b11.same s12).new (o := LT.SXO P w e1 (LT.insAll ns [])) ne1).new (o := .lst (ys.map V.str)) ne2
                refine ⟨e2, _, rfl, .inl ⟨sqL_of upd_same, fun e3 ne3 => ?_⟩⟩
                have hp12 := s12 _ _ hp11
                have hr12 := s12 _ _ hr11
                have n1 : p ≠ e1 := ne_of_none hp12 ne1
                have hp13 : upd H12 e1 (LT.SXO P w e1 (LT.insAll ns [])) p = _ := (upd_ne n1).trans hp12
                have n2 : p ≠ e2 := ne_of_none hp13 ne2
                have hp14 := (upd_ne (o := .lst (ys.map V.str)) n2).trans hp13
                have n3 : p ≠ e3 := ne_of_none hp14 ne3
                have hp15 := (upd_ne (o := .tup (ys.map V.str)) n3).trans hp14
                have r1 : r ≠ e1 := ne_of_none hr12 ne1
                have hr13 : upd H12 e1 (LT.SXO P w e1 (LT.insAll ns [])) r = _ := (upd_ne r1).trans hr12
                have r2 : r ≠ e2 := ne_of_none hr13 ne2
                have hr14 := (upd_ne (o := .lst (ys.map V.str)) r2).trans hr13
                have r3 : r ≠ e3 := ne_of_none hr14 ne3
                have hr15 := (upd_ne (o := .tup (ys.map V.str)) r3).trans hr14
                refine ⟨_, rfl, p, _, dx, _, rfl, hp15, cl, no T.f_no_Circle__names, by exact (show 7 < 1000 by decide), ?_⟩
                have b16 := (b13.new (o := .tup (ys.map V.str)) ne3).upd (o := .ins (cC K) dx (cfs (.node kk ps) r e3))
                refine k _ b16 ?_
                refine .mk (ns := ys) upd_same ?_ ?_ (cos_mono (Kc.but hp b16) hrows) ⟨fun x => ?_, (pe.nodup_iff).mpr nd, so⟩
                · rw [upd_ne nrp]
                  exact hr15
                · rw [upd_ne (Ne.symm n3), upd_same]
                · rw [pe.mem_iff, LT.mem_insAll, Ci.leaves, hm]
                  simp
def spFlat (K : PySem.W.Frag) : Sp := fun vs H Q _ => ∃ (k : Bool) (v : V) (c : Ci), vs = [.str (kS k), v] ∧ CO (cC K) H v c ∧ ∀ (p : Addr) (rows : List V), H p = none → COs (cC K) H rows (flat1 k c) → Q (.ref p) (upd H p (.lst rows))
theorem kS_eq (k : Bool) (c : Ci) : decide (V.str c.kind = V.str (kS k)) = c.isK k := by
  cases c with
  | eye n =>
    show decide (V.str "eye" = V.str (kS k)) = false
    cases k <;> decide +kernel
  | node j ps =>
    show decide (V.str (kS j) = V.str (kS k)) = (j == k)
    cases j <;> cases k <;> decide +kernel
theorem C_flat_parts (T : Txt K mg) : Cal P w K mg base 2 "flat_parts" (spFlat K) [] := by
  have M_Circle_parts : Met P w K mg base 1 (cC K) "parts" (spParts K) [] := M_Circle_parts T
  obtain ⟨fd, F⟩ := T.F_flat_parts
  have b : Binds K fd ["kind", "circle"] [] := FunD.bindsN F fun _ _ _ _ _ _ us hl => match us, hl with | [_, _], _ => rfl
  refine calD F T.g_flat_parts b sc_flat_parts (fun vs H Q E h => ?_) (fun cdv A outer s H vs Q E hr h => ?_)
  · obtain ⟨k, v, c, rfl, _⟩ := h
    rfl
  · obtain ⟨k, v, c, rfl, hc, q⟩ := h
    have hc0 := hc
    cases hc with
    | mk h1 h2 h3 h4 h5 =>
    refine ⟨_, (pss_cons (ps_if (pt_cmpR op_eq (pe_fld (pv 1) (by rfl)) (pv 0) (nomark _))
    (pss_one (ps_ret (pe_mt0 M_Circle_parts hr (by omega) (pv 1))))
    pss_nil)
  (pss_one (ps_ret (pe_lst (pa_cons (pv 1) pa_nil))))), ?_⟩
    refine ⟨_, rfl, _, _, _, _, _, rfl, h1, T_cls T, T_no T T.f_no_Circle_kind, rfl, _, rfl, rfl, _, rfl, ?_⟩
    rw [kS_eq]
    cases e : c.isK k with
    | true =>
      refine iteT ⟨_, rfl, _, _, _, rfl, h1, rfl, _, c, rfl, hc0, fun p rows hp hr => ?_⟩
      exact q p rows hp (by unfold flat1; rw [if_pos e]; exact hr)
    | false =>
      refine iteF ⟨_, rfl, (show 1 ≤ sizeLine by decide), fun p hp => ?_⟩
      exact q p _ hp (by unfold flat1; rw [if_neg (by rw [e]; decide)]; exact cos_one hc0)
/-- the rows of a list, each text once -/
def spUnlike (K : PySem.W.Frag) : Sp := fun vs H Q _ => ∃ (l : Addr) (rows : List V) (cs : List Ci), vs = [.ref l] ∧ SqL K H l rows ∧ COs (cC K) H rows cs ∧ rows.length ≤ 1000 ∧ ∀ (H' : Hp) (p : Addr) (out : List V), Same H H' → H p = none → H' p = some (.lst out) → COs (cC K) H' out (uniq cs) → Q (.ref p) H'
theorem C_unlike_rows (T : Txt K mg) : Cal P w K mg base 4 "unlike_rows" (spUnlike K) [] := by
  have M_Circle___str__ : Met P w K mg base 1 (cC K) "__str__" (spStr K) [] := M_Circle___str__ T
  obtain ⟨fd, F⟩ := T.F_unlike_rows
  have b : Binds K fd ["circles"] [] := FunD.bindsN F fun _ _ _ _ _ _ us hl => match us, hl with | [_], _ => rfl
  refine calD F T.g_unlike_rows b sc_unlike_rows (fun vs H Q E h => ?_) (fun cdv A outer s H vs Q E hr h => ?_)
  · obtain ⟨l, rows, cs, rfl, _⟩ := h
    rfl
  · obtain ⟨l, rows, cs, rfl, hl, hc, hn, q⟩ := h
    have hu := hu_of hr
    refine ⟨_, (pss_cons (ps_set (i := 1) sc_unlike_rows.nd rfl (Or.inl rfl) pe_dnewK)
  (pss_cons (ps_set (i := 2) sc_unlike_rows.nd rfl (Or.inl rfl) (pe_lst pa_nil))
  (pss_cons (ps_for PassesOwn.never rfl (pi_list (pv 0)) (pg_name (i := 3) sc_unlike_rows.nd rfl (Or.inl rfl))
    (pss_cons (ps_set (i := 4) sc_unlike_rows.nd rfl (Or.inl rfl) (pe_callTy (LO.cr_strO M_Circle___str__ hr (by omega)) (by rfl) T.z_str (by decide +kernel) (pa_cons (pv 3) pa_nil)))
    (pss_one (ps_if (pt_cmp (pc_dnotin hu (pv 4) (pv 1)) (by rfl))
      (pss_cons (ps_dput hu (pv 1) (pv 4) pe_bl rfl)
      (pss_one (ps_expr (pe_bm PySem.F.plainAttrs_list PySem.F.slot_list_append PySem.F.type_list_append mt_append (pv 2) (pa_cons (pv 3) pa_nil)))))
      pss_nil))))
  (pss_one (ps_ret (pv 2)))))), ?_⟩
    intro d nd
    refine ⟨(show 0 ≤ sizeLine by decide), fun o no => ?_⟩
    have ndo : d ≠ o := fun z => by
      rw [z, upd_same] at no
      cases no
    have no0 : H o = none := (upd_ne (H := H) (o := .dK []) (Ne.symm ndo)).symm.trans no
    have s0 : Same H (upd (upd H d (.dK [])) o (.lst [])) := same_upd2 (same_upd nd) no
    have lc : rows.length = cs.length := cos_len hc
    have fin : ∀ {a : Addr} {x : HO}, H a = some x → a ≠ d ∧ a ≠ o := fun e => ⟨ne_of_none e nd, ne_of_none e no0⟩
    refine ⟨_, rfl, l, rfl, ⟨rows, hl.imp (fun e => e.imp (fun e => s0 _ _ e) fun ⟨z, e⟩ => ⟨z, s0 _ _ e⟩) id⟩, ?_⟩
    refine for_it (walk_list (K := K) (a := l) (xs := rows)) (fun i σ H2 => (∃ a3 a4, σ = [some (.ref l), some (.ref d), some (.ref o), a3, a4]) ∧ Same H H2 ∧ ∃ kvs out seen done, H2 d = some (.dK kvs) ∧ H2 o = some (.lst out) ∧
      (∀ j, (valV kvs (.inr j)).isSome = decide (j ∈ seen)) ∧ kvs.length ≤ i ∧ out.length ≤ i ∧ COs (cC K) H2 out done ∧ uniq cs = done ++ uniqG seen (cs.drop i)) ?_ ?_ ?_ ?_
    · refine ⟨⟨none, none, rfl⟩, s0, [], [], [], [], by rw [upd_ne ndo, upd_same], upd_same, fun j => rfl, Nat.le_refl _, Nat.le_refl _, .nil, rfl⟩
    · rintro i σ H2 _ ⟨_, s2, _⟩
      exact hl.imp (fun e => e.imp (fun e => s2 _ _ e) fun ⟨z, e⟩ => ⟨z, s2 _ _ e⟩) id
    · rintro i x σ H2 H3 hi ⟨⟨a3, a4, rfl⟩, s2, kvs, out, seen, done, hd, ho, hk, lk, lo, hco, hu2⟩ ⟨rfl, hx⟩
      obtain ⟨c, g1, g2⟩ := cos_get hc hx
      have g3 := co_mono (Kc.of s2) g2
      obtain ⟨a, ax, ar, at', rfl, ha⟩ := co_ref g3
      have ed : cs.drop i = c :: cs.drop (i + 1) := by
        have hi2 : i < cs.length := by rw [← lc]; exact hi
        rw [List.drop_eq_getElem_cons hi2]
        rw [List.getElem?_eq_getElem hi2] at g1
        rw [Option.some.inj g1]
      rw [ed, uniqG] at hu2
      refine ⟨_, rfl, a, ax, _, rfl, ha, _, c, rfl, g3, c.text, rfl, ?_⟩
      refine ⟨_, rfl, _, rfl, d, _, rfl, DGet.k (k := .inr c.text) hd, _, rfl, ?_⟩
      rw [hk]
      by_cases q2 : c.text ∈ seen
      · rw [decide_eq_true q2]
        rw [if_pos q2] at hu2
        refine iteF ?_
        exact ⟨⟨_, _, rfl⟩, s2, kvs, out, seen, done, hd, ho, hk, by omega, by omega, hco, hu2⟩
      · rw [decide_eq_false q2]
        rw [if_neg q2] at hu2
        refine iteT ?_
        have nk : valV kvs (.inr c.text) = none := by
          have z := hk c.text
          rw [decide_eq_false q2] at z
          cases e : valV kvs (.inr c.text) with
          | none => rfl
          | some v =>
            rw [e] at z
            cases z
        refine ⟨_, rfl, _, rfl, d, _, rfl, .inl ⟨kvs, .inr c.text, hd, rfl, by rw [sizeLine_eq]; omega, rfl⟩, ?_⟩
        have k1 : Kc (cC K) H3 (upd H3 d (.dK (putK kvs (.inr c.text) (.bl true)))) := Kc.put hd (by simp) (by simp)
        have ho1 : upd H3 d (.dK (putK kvs (.inr c.text) (.bl true))) o = some (.lst out) := by rw [upd_ne (Ne.symm ndo)]; exact ho
        have k2 : Kc (cC K) (upd H3 d (.dK (putK kvs (.inr c.text) (.bl true)))) (upd (upd H3 d (.dK (putK kvs (.inr c.text) (.bl true)))) o (.lst (out ++ [.ref a]))) := Kc.put ho1 (by simp) (by simp)
        refine ⟨_, rfl, .inl ⟨rfl, _, sqL_of ho1⟩, _, rfl, o, out, _, rfl, rfl, ho1, by rw [sizeLine_eq]; omega, ?_⟩
        refine ⟨⟨_, _, rfl⟩, fun b u e => ?_, putK kvs (.inr c.text) (.bl true), out ++ [.ref a], seen ++ [c.text], done ++ [c], ?_, upd_same, fun j => ?_, ?_, ?_, ?_, ?_⟩
        · obtain ⟨n1, n2⟩ := fin e
          rw [upd_ne n2, upd_ne n1]
          exact s2 _ _ e
        · rw [upd_ne ndo, upd_same]
        · rw [valV_put]
          by_cases e : j = c.text
          · rw [if_pos (by rw [e])]
            rw [decide_eq_true (by rw [e]; simp)]
            rfl
          · rw [if_neg (fun z => e (Sum.inr.inj z)), hk j]
            rw [Bool.eq_iff_iff]
            simp [e]
        · have z := length_putK kvs (.inr c.text) (.bl true)
          omega
        · rw [List.length_append]
          simp
          omega
        · exact cos_app (cos_mono (k1.trans k2) hco) (cos_one (co_mono (k1.trans k2) g3))
        · rw [hu2, List.append_assoc]
          rfl
    · rintro σ H2 ⟨⟨a3, a4, rfl⟩, s2, kvs, out, seen, done, hd, ho, hk, lk, lo, hco, hu2⟩
      rw [lc, List.drop_length, uniqG, List.append_nil] at hu2
      refine ⟨_, rfl, q H2 o out s2 no0 ho (by rw [hu2]; exact hco)⟩

end
end K34
namespace K34
open PySem PySem.Spec PyProof.Rows L2 RZ LL LC LS LR LD LN LY LOr
open C8 (Cal Mak Met CalAt pe_c pe_mk pe_mt pe_mt0 pe_gc)
section
variable {P : Program} {w : World} {K : PySem.W.Frag} {mg : Str → Option Value} {base : Heap}
/-! ### the bag and the draws -/
def spBag (K : PySem.W.Frag) : Sp := fun vs H Q _ => ∃ (a : Addr) (ns : List Int), vs = [.ref a] ∧ SqL K H a (ns.map V.int) ∧ ns.length ≤ 63 ∧ ∀ (b : Addr) (H' : Hp), Same H H' → H b = none → Bag H' b → Q (.ref b) H'
theorem C__law_bag (T : Txt K mg) : Cal P w K mg base 1 "_law_bag" (spBag K) [] := by
  obtain ⟨fd, F⟩ := T.F__law_bag
  have b : Binds K fd ["_law_script"] [] := FunD.bindsN F fun _ _ _ _ _ _ us hl => match us, hl with | [_], _ => rfl
  refine calD F T.g__law_bag b sc__law_bag (fun vs H Q E h => ?_) (fun cdv A outer s H vs Q E hr h => ?_)
  · obtain ⟨a, ns, rfl, _⟩ := h
    rfl
  · obtain ⟨a, ns, rfl, hS, hl, k⟩ := h
    have hl2 : (ns.map V.int).length ≤ 63 := by rw [List.length_map]; exact hl
    refine ⟨_, (pss_cons (ps_set (i := 1) sc__law_bag.nd rfl (Or.inl rfl) pe_int)
  (pss_cons (ps_for PassesOwn.never rfl (pi_list (pe_slice sl_list (pv 0) po_none (po_some pe_int))) (pg_name (i := 2) sc__law_bag.nd rfl (Or.inl rfl))
    (pss_one (ps_set (i := 1) sc__law_bag.nd rfl (Or.inl rfl) (pe_op op_modN (pe_callTy call_int1 (by rfl) T.z_int (by decide +kernel) (pa_cons (pe_op op_add (pe_op op_add (pe_op op_mul (pv 1) pe_int) (pe_op op_modN (pe_callTy call_int1 (by rfl) T.z_int (by decide +kernel) (pa_cons (pv 2) pa_nil)) pe_int)) pe_int) pa_nil)) pe_int))))
  (pss_one (ps_ret (pe_lst (pa_cons (pe_callTy call_list_of (by rfl) T.z_list (by decide +kernel) (pa_cons (pe_slice sl_list (pv 0) po_none (po_some pe_int)) pa_nil)) (pa_cons pe_int (pa_cons pe_int (pa_cons (pv 1) (pa_cons pe_int pa_nil)))))))))), ?_⟩
    refine ⟨_, rfl, 63, rfl, a, ns.map V.int, rfl, hS, fun p np => ?_⟩
    have ec : cutV (ns.map V.int) none (some 63) = ns.map V.int := cut_head _ 63 hl2
    rw [ec]
    have s1 : Same H (upd H p (.lst (ns.map V.int))) := same_upd np
    refine ⟨p, rfl, ⟨_, sqL_of upd_same⟩, for_list (K := K) (a := p) (xs := ns.map V.int) (fun i σ H' => ∃ (m : Int) (v : Option V), σ = [some (.ref a), some (.int m), v] ∧ 0 ≤ m ∧ m < 2147483563 ∧ H' = upd H p (.lst (ns.map V.int)))
      ⟨12043, none, rfl, by decide, by decide, rfl⟩ (fun i σ H' _ ⟨_, _, _, _, _, e⟩ => e ▸ sqL_of upd_same) ?_ ?_⟩
    · rintro i x σ H' hx ⟨m, v, rfl, m0, m1, rfl⟩
      obtain ⟨n, rfl⟩ : ∃ n, x = V.int n := by
        rw [List.getElem?_map] at hx
        cases q : ns[i]? with
        | none => rw [q] at hx; cases hx
        | some n => rw [q] at hx; exact ⟨n, (Option.some.inj hx).symm⟩
      refine ⟨_, rfl, _, _, rfl, rfl, .inr ⟨by decide, by decide⟩, ?_⟩
      refine ⟨_, rfl, .inl ⟨_, rfl, ?_⟩⟩
      refine ⟨_, _, rfl, rfl, (show (2147483629 : Int) ≠ 0 by decide), ?_⟩
      refine ⟨_, _, rfl, rfl, _, _, rfl, rfl, .inl ⟨_, rfl, ?_⟩⟩
      refine ⟨_, _, rfl, rfl, (show (2147483563 : Int) ≠ 0 by decide), ?_⟩
      exact ⟨_, _, rfl, fmod_lo _ (by decide), fmod_hi _ (by decide), rfl⟩
    · rintro σ H' ⟨m, v, rfl, m0, m1, rfl⟩
      -- return [list(script[:63]), 0, 0, mixed, 0]
      refine ⟨_, rfl, 63, rfl, a, ns.map V.int, rfl, s1.seq hS, fun q nq => ?_⟩
      rw [ec]
      have s2 : Same H (upd (upd H p (.lst (ns.map V.int))) q (.lst (ns.map V.int))) := same_upd2 s1 nq
      refine ⟨q, _, rfl, .inl (sqL_of upd_same), fun l nl => ?_⟩
      refine ⟨_, rfl, ?_⟩
      refine ⟨(show 5 ≤ sizeLine by decide), fun b nb => ?_⟩
      have s3 : Same H (upd (upd (upd H p (.lst (ns.map V.int))) q (.lst (ns.map V.int))) l (.lst (ns.map V.int))) := same_upd2 s2 nl
      have nlb : l ≠ b := by
        intro e
        rw [e, upd_same] at nb
        cases nb
      refine k b _ (same_upd2 s3 nb) (s3.free nb) ⟨l, ns, 0, 0, m, 0, upd_same, by rw [upd_ne nlb, upd_same], by decide, m0, by omega⟩
/-- a draw below n: nothing but the bag changes -/
def spDraw : Sp := fun vs H Q _ => ∃ (b : Addr) (n : Int), vs = [.ref b, .int n] ∧ Bag H b ∧ 0 < n ∧ n < 1073741824 ∧ ∀ (d : Int) (o : HO), 0 ≤ d → d < n → Kp b H (upd H b o) → Q (.int d) (upd H b o)
theorem C__law_draw (T : Txt K mg) : Cal P w K mg base 1 "_law_draw" spDraw [] := by
  obtain ⟨fd, F⟩ := T.F__law_draw
  have b : Binds K fd ["_law_bag_here", "_law_sides"] [] := FunD.bindsN F fun _ _ _ _ _ _ us hl => match us, hl with | [_, _], _ => rfl
  refine calD F T.g__law_draw b sc__law_draw (fun vs H Q E h => ?_) (fun cdv A outer s H vs Q E hr h => ?_)
  · obtain ⟨b, n, rfl, _⟩ := h
    rfl
  · obtain ⟨b, n, rfl, ⟨l, ns, i, r, m, c, B⟩, n0, n1, k⟩ := h
    refine ⟨_, (pss_cons (ps_asg (pe_op op_add (pe_ix ix_list (pv 0) pe_int (fun _ _ => rfl)) pe_int) (pg_sub (pv 0) pe_int set_list))
  (C8.pss_cut (ps_if (PW.pt (pw_and (pt_cmpR op_eq (pe_ix ix_list (pv 0) pe_int (fun _ _ => rfl)) pe_int (nomark _)) (pw_and1 (pt_cmpR op_lt (pe_ix ix_list (pv 0) pe_int (fun _ _ => rfl)) (pe_callB call_len_seq (by rfl) T.z_len PySem.boot_len (pa_cons (pe_ix ix_list (pv 0) pe_int (fun _ _ => rfl)) pa_nil)) (nomark _)))))
    (pss_cons (ps_set (i := 2) sc__law_draw.nd rfl (Or.inl rfl) (pe_callTy call_int1 (by rfl) T.z_int (by decide +kernel) (pa_cons (pe_ix ix_list (pe_ix ix_list (pv 0) pe_int (fun _ _ => rfl)) (pe_ix ix_list (pv 0) pe_int (fun _ _ => rfl)) (fun _ _ => rfl)) pa_nil)))
    (pss_cons (ps_asg (pe_op op_add (pe_ix ix_list (pv 0) pe_int (fun _ _ => rfl)) pe_int) (pg_sub (pv 0) pe_int set_list))
    (pss_one (ps_if (pt_cmpR op_ge (pv 2) (pe_op op_pow pe_int pe_int) (nomark _))
      (pss_one (ps_asg (pv 2) (pg_sub (pv 0) pe_int set_list)))
      (pss_one (ps_asg (pe_op op_modN (pe_callTy call_int1 (by rfl) T.z_int (by decide +kernel) (pa_cons (pe_op op_add (pe_op op_add (pe_op op_mul (pe_ix ix_list (pv 0) pe_int (fun _ _ => rfl)) pe_int) (pe_op op_mul (pe_op op_modN (pv 2) pe_int) pe_int)) pe_int) pa_nil)) pe_int) (pg_sub (pv 0) pe_int set_list)))))))
    pss_nil)
  (pss_cons (ps_if (pt_cmpR op_gt (pe_ix ix_list (pv 0) pe_int (fun _ _ => rfl)) pe_int (nomark _))
    (pss_cons (ps_set (i := 3) sc__law_draw.nd rfl (Or.inl rfl) (pe_op op_modN (pe_callTy call_int1 (by rfl) T.z_int (by decide +kernel) (pa_cons (pe_ix ix_list (pv 0) pe_int (fun _ _ => rfl)) pa_nil)) (pv 1)))
    (pss_cons (ps_asg (pe_op op_fdivN (pe_ix ix_list (pv 0) pe_int (fun _ _ => rfl)) (pv 1)) (pg_sub (pv 0) pe_int set_list))
    (pss_one (ps_ret (pv 3)))))
    pss_nil)
  (pss_cons (ps_set (i := 4) sc__law_draw.nd rfl (Or.inl rfl) (pe_callTy call_int1 (by rfl) T.z_int (by decide +kernel) (pa_cons (pe_ix ix_list (pv 0) pe_int (fun _ _ => rfl)) pa_nil)))
  (pss_cons (ps_asg (pe_op op_modN (pe_callTy call_int1 (by rfl) T.z_int (by decide +kernel) (pa_cons (pe_op op_add (pe_op op_add (pe_op op_add (pe_op op_mul (pe_op op_mul (pv 4) (pv 4)) pe_int) (pe_op op_mul (pv 4) pe_int)) (pe_op op_mul (pe_ix ix_list (pv 0) pe_int (fun _ _ => rfl)) pe_int)) pe_int) pa_nil)) pe_int) (pg_sub (pv 0) pe_int set_list))
  (pss_one (ps_ret (pe_op op_modN (pe_callTy call_int1 (by rfl) T.z_int (by decide +kernel) (pa_cons (pe_op op_add (pe_op op_fdivN (pe_ix ix_list (pv 0) pe_int (fun _ _ => rfl)) pe_int) (pe_op op_mul (pe_op op_modN (pe_ix ix_list (pv 0) pe_int (fun _ _ => rfl)) pe_int) pe_int)) pa_nil)) (pv 1))))))))), ?_⟩
    have fin : ∀ (d : Int) (i' : Nat) (r' m' c' : Int), 0 ≤ d → d < n → 0 ≤ r' → 0 ≤ m' → m' < 2147483648 → Q (.int d) (upd H b (bagX l i' r' m' c')) := fun d i' r' m' c' h0 h1 h2 h3 h4 => k d _ h0 h1 (Kp.set B (B.put h2 h3 h4))
    clear k
    rw [← upd_self B.1]
    obtain ⟨Bb, Bl, r0, m0, m1⟩ := id B
    have nlb := B.ne
    have hL : ∀ o, SqL K (upd H b o) l (ns.map V.int) := fun o => sqL_of (by rw [upd_ne nlb]; exact Bl)
    have nn : n ≠ 0 := by omega
    -- one draw more
    refine ixB4 rfl ?_
    refine ⟨_, _, rfl, rfl, stB4 rfl ?_⟩
    refine ⟨fun σ' H' => ∃ (i : Nat) (r m : Int) (v : Option V), σ' = [some (.ref b), some (.int n), v, none, none] ∧ H' = upd H b (bagX l i r m (c + 1)) ∧ 0 ≤ r ∧ 0 ≤ m ∧ m < 2147483648, ?_, ?_⟩
    · -- the next cell, if there is one and no great one is left
      refine ixB2 rfl ?_
      refine ⟨rfl, _, rfl, ite2 (fun e1 => ?_) (fun _ => ?_)⟩
      · refine ixB1 rfl (ixB0 rfl ?_)
        refine ⟨_, _, rfl, .inl (hL _), ?_⟩
        refine ⟨_, _, rfl, rfl, _, rfl, ite2 (fun e2 => ?_) (fun _ => ?_)⟩
        · have hi : i < ns.length := by
            have q := of_decide_eq_true e2
            rw [List.length_map] at q
            omega
          refine ixB0 rfl (ixB1 rfl ?_)
          refine ⟨l, _, _, .int ns[i], rfl, rfl, hL _, atI_nat (by rw [List.getElem?_map, List.getElem?_eq_getElem hi] <;> rfl), ?_⟩
          refine .inl ⟨_, rfl, ?_⟩
          refine ixB1 rfl ?_
          refine ⟨_, _, rfl, rfl, stB1 rfl ?_⟩
          refine ⟨_, rfl, _, _, rfl, rfl, ⟨by decide, by decide, by decide⟩, _, _, rfl, rfl, _, rfl, ite2 (fun e3 => ?_) (fun _ => ?_)⟩
          · refine ⟨_, rfl, stB2 rfl ?_⟩
            have z3 := of_decide_eq_true e3
            refine ⟨i + 1, _, m, _, rfl, rfl, Int.le_trans (by decide) z3, m0, m1⟩
          · refine ixB3 rfl ?_
            refine ⟨_, _, rfl, rfl, .inr ⟨by decide, by decide⟩, ?_⟩
            refine ⟨_, rfl, _, _, rfl, rfl, (show (2147483423 : Int) ≠ 0 by decide), ?_⟩
            refine ⟨_, _, rfl, rfl, .inr ⟨by decide, by decide⟩, ?_⟩
            refine ⟨_, _, rfl, rfl, _, _, rfl, rfl, .inl ⟨_, rfl, ?_⟩⟩
            refine ⟨_, _, rfl, rfl, (show (2147483563 : Int) ≠ 0 by decide), stB3 rfl ?_⟩
            refine ⟨i + 1, r, _, _, rfl, rfl, r0, fmod_lo _ (by decide), ?_⟩
            have q := fmod_hi (m * 39373 + ns[i].fmod 2147483423 * 30011 + 71) (j := 2147483563) (by decide)
            omega
        · exact ⟨i, r, m, none, rfl, rfl, r0, m0, m1⟩
      · exact ⟨i, r, m, none, rfl, rfl, r0, m0, m1⟩
    · rintro σ' H' ⟨i, r, m, v, rfl, rfl, r0, m0, m1⟩
      refine ixB2 rfl ?_
      refine ⟨_, _, rfl, rfl, _, rfl, ite2 (fun _ => ?_) (fun _ => ?_)⟩
      · -- a digit of the great cell
        refine ixB2 rfl ?_
        refine .inl ⟨_, rfl, _, rfl, _, _, rfl, rfl, nn, ?_⟩
        refine ixB2 rfl ?_
        refine ⟨_, rfl, _, _, rfl, rfl, ⟨nn, by omega⟩, stB2 rfl ?_⟩
        refine ⟨_, rfl, ?_⟩
        exact fin _ _ _ _ _ (fmod_lo _ n0) (fmod_hi _ n0) (fdiv_lo r0 n0) m0 m1
      · -- a mixed number
        refine ixB3 rfl ?_
        refine .inl ⟨_, rfl, ?_⟩
        refine ⟨_, rfl, _, rfl, _, _, rfl, rfl, .inl ⟨by omega, by omega⟩, ?_⟩
        refine ⟨_, _, rfl, rfl, .inr ⟨by decide, by decide⟩, ?_⟩
        refine ⟨_, rfl, _, _, rfl, rfl, .inr ⟨by decide, by decide⟩, ?_⟩
        refine ⟨_, _, rfl, rfl, ixB4 rfl ?_⟩
        refine ⟨_, _, rfl, rfl, .inr ⟨by decide, by decide⟩, ?_⟩
        refine ⟨_, _, rfl, rfl, _, _, rfl, rfl, .inl ⟨_, rfl, ?_⟩⟩
        refine ⟨_, _, rfl, rfl, (show (2147483563 : Int) ≠ 0 by decide), stB3 rfl ?_⟩
        refine ixB3 rfl ?_
        refine ⟨_, _, rfl, rfl, ⟨by decide, by decide⟩, ?_⟩
        refine ixB3 rfl ?_
        refine ⟨_, _, rfl, rfl, (show (7907 : Int) ≠ 0 by decide), ?_⟩
        refine ⟨_, _, rfl, rfl, .inr ⟨by decide, by decide⟩, ?_⟩
        refine ⟨_, _, rfl, rfl, .inl ⟨_, rfl, ?_⟩⟩
        refine ⟨_, rfl, _, _, rfl, rfl, nn, ?_⟩
        have q := fmod_hi (m * m * 13 + m * 42013 + (c + 1) * 1299721 + 50021) (j := 2147483563) (by decide)
        exact fin _ _ _ _ _ (fmod_lo _ n0) (fmod_hi _ n0) r0 (fmod_lo _ (by decide)) (by omega)
/-- an item of a list or a sign of a text, drawn -/
def spOf (K : PySem.W.Frag) : Sp := fun vs H Q _ => ∃ (b : Addr) (t : V), vs = [.ref b, t] ∧ Bag H b ∧
  ((∃ (a : Addr) (xs : List V), t = .ref a ∧ a ≠ b ∧ SqL K H a xs ∧ 0 < xs.length ∧ xs.length ≤ 1000000 ∧ ∀ (j : Nat) (v : V) (o : HO), xs[j]? = some v → Kp b H (upd H b o) → Q v (upd H b o)) ∨
   (∃ (a : Addr) (xs : List V), t = .ref a ∧ a ≠ b ∧ SqT K H a xs ∧ 0 < xs.length ∧ xs.length ≤ 1000000 ∧ ∀ (j : Nat) (v : V) (o : HO), xs[j]? = some v → Kp b H (upd H b o) → Q v (upd H b o)) ∨
   (∃ z : Str, t = .str z ∧ 0 < z.length ∧ z.length ≤ 1000000 ∧ ∀ (j c : Nat) (o : HO), z.cps.toList[j]? = some c → Kp b H (upd H b o) → Q (.str ⟨#[c]⟩) (upd H b o)))
theorem C__law_of (T : Txt K mg) : Cal P w K mg base 2 "_law_of" (spOf K) [] := by
  have C__law_draw : Cal P w K mg base 1 "_law_draw" spDraw [] := C__law_draw T
  obtain ⟨fd, F⟩ := T.F__law_of
  have b : Binds K fd ["_law_bag_here", "_law_things"] [] := FunD.bindsN F fun _ _ _ _ _ _ us hl => match us, hl with | [_, _], _ => rfl
  refine calD F T.g__law_of b sc__law_of (fun vs H Q E h => ?_) (fun cdv A outer s H vs Q E hr h => ?_)
  · obtain ⟨b, t, rfl, _⟩ := h
    rfl
  · obtain ⟨b, t, rfl, B, h⟩ := h
    refine ⟨_, (pss_one (ps_ret (pe_ix ix_seq (pv 1) (pe_c C__law_draw hr (by omega) rfl (pa_cons (pv 0) (pa_cons (pe_callB call_len (by rfl) T.z_len PySem.boot_len (pa_cons (pv 1) pa_nil)) pa_nil))) (fun _ _ => rfl)))), ?_⟩
    rcases h with ⟨a, xs, rfl, na, hS, l0, l1, k⟩ | ⟨a, xs, rfl, na, hS, l0, l1, k⟩ | ⟨z, rfl, l0, l1, k⟩
    · refine ⟨_, rfl, _, rfl, _, rfl, _, _, rfl, .inl ⟨_, hS, rfl⟩, ?_⟩
      refine ⟨b, _, rfl, B, by omega, by omega, fun d o d0 d1 B1 => ?_⟩
      obtain ⟨j, rfl⟩ := Int.eq_ofNat_of_zero_le d0
      have hj : j < xs.length := by omega
      exact .inl ⟨a, xs, _, xs[j], rfl, rfl, sqL_kp B1 na hS, atI_nat (List.getElem?_eq_getElem hj), k j _ o (List.getElem?_eq_getElem hj) B1⟩
    · refine ⟨_, rfl, _, rfl, _, rfl, _, _, rfl, .inr ⟨_, hS, rfl⟩, ?_⟩
      refine ⟨b, _, rfl, B, by omega, by omega, fun d o d0 d1 B1 => ?_⟩
      obtain ⟨j, rfl⟩ := Int.eq_ofNat_of_zero_le d0
      have hj : j < xs.length := by omega
      exact .inr (.inl ⟨a, xs, _, xs[j], rfl, rfl, sqT_kp B1 na hS, atI_nat (List.getElem?_eq_getElem hj), k j _ o (List.getElem?_eq_getElem hj) B1⟩)
    · refine ⟨_, rfl, _, rfl, _, rfl, _, _, rfl, ⟨Nat.le_trans l1 (by decide), rfl⟩, ?_⟩
      refine ⟨b, _, rfl, B, by omega, by omega, fun d o d0 d1 B1 => ?_⟩
      obtain ⟨j, rfl⟩ := Int.eq_ofNat_of_zero_le d0
      have hj : j < z.cps.toList.length := by
        have q : z.cps.toList.length = z.length := by simp [Str.length]
        omega
      exact .inr (.inr ⟨z, _, z.cps.toList[j], rfl, rfl, Nat.le_trans l1 (by decide), atI_nat (List.getElem?_eq_getElem hj), k j _ o (List.getElem?_eq_getElem hj) B1⟩)

end
end K34
namespace K34
open PySem PySem.Spec PyProof.Rows L2 RZ LL LC LS LR LD LN LY LOr
open C8 (Cal Mak Met CalAt pe_c pe_mk pe_mt pe_mt0 pe_gc)
section
variable {P : Program} {w : World} {K : PySem.W.Frag} {mg : Str → Option Value} {base : Heap}
/-! ### the look at equal values: asked of equal data it tells True -/
def spSame (K : PySem.W.Frag) : Nat → Sp
  | 0 => spNo
  | n + 1 => fun vs H Q _ => ∃ (x y : V) (d : PyData), vs = [x, y] ∧ Dp K H x d ∧ Dp K H y d ∧ LL.Fit n d = true ∧ ∀ H', Same H H' → Q (.bl true) H'
theorem C__law_same (T : Txt K mg) : ∀ n : Nat, Cal P w K mg base n "_law_same" (spSame K n) [] := by
  intro n
  induction n with
  | zero =>
    obtain ⟨fd, F⟩ := T.F__law_same
    have b : Binds K fd ["_law_found", "_law_due"] [] := FunD.bindsN F fun _ _ _ _ _ _ us hl => match us, hl with | [_, _], _ => rfl
    exact cal_no F T.g__law_same b
  | succ n ih =>
    obtain ⟨fd, F⟩ := T.F__law_same
    have b : Binds K fd ["_law_found", "_law_due"] [] := FunD.bindsN F fun _ _ _ _ _ _ us hl => match us, hl with | [_, _], _ => rfl
    refine calD F T.g__law_same b sc__law_same (fun vs H Q E h => ?_) (fun cdv A outer s H vs Q E hr h => ?_)
    · obtain ⟨x, y, d, rfl, _⟩ := h
      rfl
    · obtain ⟨x, y, d, rfl, hx, hy, hf, k⟩ := h
      refine ⟨_, (pss_cons (ps_if (pt_val (pe_callB call_isiT (by rfl) T.z_isinstance (by decide +kernel) (pa_cons (pv 1) (pa_cons (pe_tup (pa_cons (pe_bltn (v := .ty "list") rfl T.z_list (by decide +kernel) rfl) (pa_cons (pe_bltn (v := .ty "tuple") rfl T.z_tuple (by decide +kernel) rfl) pa_nil))) pa_nil))))
    (pss_cons (ps_if (PW.pt (pw_or (pt_cmpR op_ne (pe_callB call_isi (by rfl) T.z_isinstance (by decide +kernel) (pa_cons (pv 0) (pa_cons (pe_bltn (v := .ty "list") rfl T.z_list (by decide +kernel) rfl) pa_nil))) (pe_callB call_isi (by rfl) T.z_isinstance (by decide +kernel) (pa_cons (pv 1) (pa_cons (pe_bltn (v := .ty "list") rfl T.z_list (by decide +kernel) rfl) pa_nil))) (nomark _)) (pw_or1 (pt_cmpR op_ne (pe_callB call_isi (by rfl) T.z_isinstance (by decide +kernel) (pa_cons (pv 0) (pa_cons (pe_bltn (v := .ty "tuple") rfl T.z_tuple (by decide +kernel) rfl) pa_nil))) (pe_callB call_isi (by rfl) T.z_isinstance (by decide +kernel) (pa_cons (pv 1) (pa_cons (pe_bltn (v := .ty "tuple") rfl T.z_tuple (by decide +kernel) rfl) pa_nil))) (nomark _)))))
      (pss_one (ps_ret pe_bl))
      pss_nil)
    (pss_one (ps_ret (pe_and (pe_cmpR op_eq (pe_callB call_len (by rfl) T.z_len PySem.boot_len (pa_cons (pv 0) pa_nil)) (pe_callB call_len (by rfl) T.z_len PySem.boot_len (pa_cons (pv 1) pa_nil)) (nomark _)) (pe_one (pe_callB (cr_all rfl) (by rfl) T.z_all (by decide +kernel) (pa_cons (pe_lc (own := [("_law_one", 2), ("_law_other", 3)]) (g := (gTup K 2 (gCons (gName 2) (gCons (gName 3) gNil)))) (tt := tYes) rfl sc__law_same.nd (pi_zipA (by rfl) T.z_zip (pa_cons (pv 0) (pa_cons (pv 1) pa_nil))) (blkOk_by (N := N__law_same) (sc := defScope s__law_same) (by decide +kernel)) (fun _ _ _ _ _ => (pg_tup rfl (pgs_cons (pg_name (i := 2) sc__law_same.nd rfl (Or.inl rfl)) (pgs_cons (pg_name (i := 3) sc__law_same.nd rfl (Or.inl rfl)) pgs_nil)))) (fun _ _ _ _ _ => pts_nil) (fun _ _ _ _ _ => (pe_c ih hr (Nat.le_refl _) rfl (pa_cons (pv 2) (pa_cons (pv 3) pa_nil))))) pa_nil)))))))
    pss_nil)
  (pss_cons (ps_if (PW.pt (pw_or (pt_cmpR op_isN (pv 1) pe_non (nomark _)) (pw_or1 (pt_cmpR op_isN (pv 0) pe_non (nomark _)))))
    (pss_one (ps_ret (pe_and (pe_cmpR op_isN (pv 1) pe_non (nomark _)) (pe_one (pe_cmpR op_isN (pv 0) pe_non (nomark _))))))
    pss_nil)
  (pss_cons (ps_if (PW.pt (pw_or (pt_val (pe_callB call_isiT (by rfl) T.z_isinstance (by decide +kernel) (pa_cons (pv 0) (pa_cons (pe_tup (pa_cons (pe_bltn (v := .ty "list") rfl T.z_list (by decide +kernel) rfl) (pa_cons (pe_bltn (v := .ty "tuple") rfl T.z_tuple (by decide +kernel) rfl) pa_nil))) pa_nil)))) (pw_or1 (pt_cmpR op_ne (pe_callB call_isi (by rfl) T.z_isinstance (by decide +kernel) (pa_cons (pv 0) (pa_cons (pe_bltn (v := .ty "bool") rfl T.z_bool (by decide +kernel) rfl) pa_nil))) (pe_callB call_isi (by rfl) T.z_isinstance (by decide +kernel) (pa_cons (pv 1) (pa_cons (pe_bltn (v := .ty "bool") rfl T.z_bool (by decide +kernel) rfl) pa_nil))) (nomark _)))))
    (pss_one (ps_ret pe_bl))
    pss_nil)
  (pss_cons (ps_if (PW.pt (pw_or (pt_cmpR op_ne (pe_callB call_isi (by rfl) T.z_isinstance (by decide +kernel) (pa_cons (pv 0) (pa_cons (pe_bltn (v := .ty "str") rfl T.z_str (by decide +kernel) rfl) pa_nil))) (pe_callB call_isi (by rfl) T.z_isinstance (by decide +kernel) (pa_cons (pv 1) (pa_cons (pe_bltn (v := .ty "str") rfl T.z_str (by decide +kernel) rfl) pa_nil))) (nomark _)) (pw_or1 (pt_cmpR op_ne (pe_callB call_isi (by rfl) T.z_isinstance (by decide +kernel) (pa_cons (pv 0) (pa_cons (pe_bltn (v := .ty "int") rfl T.z_int (by decide +kernel) rfl) pa_nil))) (pe_callB call_isi (by rfl) T.z_isinstance (by decide +kernel) (pa_cons (pv 1) (pa_cons (pe_bltn (v := .ty "int") rfl T.z_int (by decide +kernel) rfl) pa_nil))) (nomark _)))))
    (pss_one (ps_ret pe_bl))
    pss_nil)
  (pss_one (ps_ret (pe_cmpR op_eq (pv 0) (pv 1) (nomark _)))))))), ?_⟩
      have tx := dp_ty hx
      have ty := dp_ty hy
      -- isinstance(due, (list, tuple))
      refine ⟨_, rfl, (show 2 ≤ sizeLine by decide), fun p np => ?_⟩
      have s1 : Same H (upd H p (.tup [.ty "list", .ty "tuple"])) := same_upd np
      refine ⟨_, _, _, _, _, _, rfl, upd_same, .cons (.ty _) (.cons (.ty _) .nil), tyx_same s1 ty, kitAny_seq d, ?_⟩
      refine ⟨_, rfl, ?_⟩
      have tx1 := tyx_same s1 tx
      have ty1 := tyx_same s1 ty
      have hx1 := dp_same s1 hx
      have hy1 := dp_same s1 hy
      generalize upd H p (.tup [.ty "list", .ty "tuple"]) = H1 at *
      cases hq : isSeq d with
      | true =>
        refine iteT ?_
        refine ⟨_, rfl, ⟨_, _, _, _, _, rfl, .ty _, tx1, kit_ty (kitD_ok d (by decide)), ?_⟩⟩
        refine ⟨_, rfl, ⟨_, _, _, _, _, rfl, .ty _, ty1, kit_ty (kitD_ok d (by decide)), ?_⟩⟩
        refine ⟨rfl, _, rfl, iteNS rfl ?_⟩
        refine ⟨_, rfl, ⟨_, _, _, _, _, rfl, .ty _, tx1, kit_ty (kitD_ok d (by decide)), ?_⟩⟩
        refine ⟨_, rfl, ⟨_, _, _, _, _, rfl, .ty _, ty1, kit_ty (kitD_ok d (by decide)), ?_⟩⟩
        refine ⟨rfl, _, rfl, iteNS rfl ?_⟩
        cases n with
        | zero => exact (fit_zero hq hf).elim
        | succ m =>
          -- the items one by one
          have turn : ∀ (ds : List PyData) (xs ys : List V), ds.all (LL.Fit m) = true → DpAll K H1 xs ds → DpAll K H1 ys ds → ∀ (i : Nat) (x1 x2 : V) (H2 : Hp) (Nx : VK), Same H1 H2 → xs[i]? = some x1 → ys[i]? = some x2 →
              (∀ H4, Same H2 H4 → Nx (.bl true) H4) → spSame K (m + 1) [x1, x2] H2 Nx E0 := by
            intro ds xs ys hall ax ay i x1 x2 H2 Nx s2 e1 e2 hN
            obtain ⟨d1, g1, q1⟩ := dpAll_get ax e1
            obtain ⟨d2, g2, q2⟩ := dpAll_get ay e2
            have e : d1 = d2 := Option.some.inj (g1.symm.trans g2)
            subst e
            exact ⟨x1, x2, d1, rfl, dp_same s2 q1, dp_same s2 q2, List.all_eq_true.mp hall d1 (List.mem_of_getElem? g1), hN⟩
          cases d with
          | list ds =>
            obtain ⟨hl, hall⟩ := Bool.and_eq_true_iff.mp hf
            have hl := of_decide_eq_true hl
            cases hx1 with
            | @lst a xs _ qx ax =>
              cases hy1 with
              | @lst c ys _ qy ay =>
                have lx := dpAll_len ax
                have ly := dpAll_len ay
                refine ⟨_, rfl, _, _, rfl, .inl ⟨_, qx, rfl⟩, ?_⟩
                refine ⟨_, rfl, _, _, rfl, .inl ⟨_, qy, rfl⟩, ?_⟩
                refine ⟨rfl, true, by rw [lx, ly, decide_eq_true rfl], iteT ?_⟩
                refine ⟨_, rfl, _, rfl, a, c, xs, ys, rfl, .inl ⟨qx, qy, fun D hD => ?_⟩⟩
                refine lc_map (walk_zip (n := ds.length) (by omega)) (fun _ => .bl true) hl hD (fun H2 s2 => ⟨s2.seq qx, s2.seq qy⟩) ?_ ?_
                · rintro i x H2 H3 Nx hi s2 ⟨T, x1, x2, rfl, nT, rfl, e1, e2⟩ hN
                  have s3 : Same H2 (upd H2 T (.tup [x1, x2])) := same_upd nT
                  exact ⟨T, [x1, x2], rfl, sqT_of upd_same, rfl, x1, [x2], rfl, x2, [], rfl, rfl, rfl, _, rfl, _, rfl, turn ds xs ys hall ax ay i x1 x2 _ Nx (s2.trans s3) e1 e2 fun H4 s4 => hN H4 (s3.trans s4)⟩
                · intro H2 s2 hL
                  refine ⟨D, (List.range ds.length).map fun _ => true, rfl, sqL_of (by rw [hL, map_bl _ (fun _ => true)]), ?_⟩
                  rw [all_true]
                  exact k H2 (s1.trans s2)
          | tuple ds =>
            obtain ⟨hl, hall⟩ := Bool.and_eq_true_iff.mp hf
            have hl := of_decide_eq_true hl
            cases hx1 with
            | @tup a xs _ qx ax =>
              cases hy1 with
              | @tup c ys _ qy ay =>
                have lx := dpAll_len ax
                have ly := dpAll_len ay
                refine ⟨_, rfl, _, _, rfl, .inr ⟨_, qx, rfl⟩, ?_⟩
                refine ⟨_, rfl, _, _, rfl, .inr ⟨_, qy, rfl⟩, ?_⟩
                refine ⟨rfl, true, by rw [lx, ly, decide_eq_true rfl], iteT ?_⟩
                refine ⟨_, rfl, _, rfl, a, c, xs, ys, rfl, .inr ⟨qx, qy, fun D hD => ?_⟩⟩
                refine lc_map (walk_zipT (n := ds.length) (by omega)) (fun _ => .bl true) hl hD (fun H2 s2 => ⟨sqT_same s2 qx, sqT_same s2 qy⟩) ?_ ?_
                · rintro i x H2 H3 Nx hi s2 ⟨T, x1, x2, rfl, nT, rfl, e1, e2⟩ hN
                  have s3 : Same H2 (upd H2 T (.tup [x1, x2])) := same_upd nT
                  exact ⟨T, [x1, x2], rfl, sqT_of upd_same, rfl, x1, [x2], rfl, x2, [], rfl, rfl, rfl, _, rfl, _, rfl, turn ds xs ys hall ax ay i x1 x2 _ Nx (s2.trans s3) e1 e2 fun H4 s4 => hN H4 (s3.trans s4)⟩
                · intro H2 s2 hL
                  refine ⟨D, (List.range ds.length).map fun _ => true, rfl, sqL_of (by rw [hL, map_bl _ (fun _ => true)]), ?_⟩
                  rw [all_true]
                  exact k H2 (s1.trans s2)
          | none => cases hq
          | bool _ => cases hq
          | int _ => cases hq
          | str _ => cases hq
          | dict _ => cases hq
      | false =>
        refine iteF ?_
        obtain ⟨exy, sc⟩ := dp_scal hx1 hy1 hq
        by_cases hn : d = .none
        · subst hn
          cases hx1
          cases hy1
          refine ⟨_, rfl, rfl, _, rfl, iteT (iteT ?_)⟩
          refine ⟨_, rfl, rfl, _, rfl, iteT ?_⟩
          exact ⟨_, rfl, rfl, k _ s1⟩
        · have nx : x ≠ .non := by
            rintro rfl
            cases hx
            exact hn rfl
          have ny : y ≠ .non := by
            rintro rfl
            cases hy
            exact hn rfl
          refine ⟨_, rfl, rfl, _, rfl, ?_⟩
          rw [decide_eq_false ny]
          refine iteF ⟨_, rfl, rfl, _, rfl, ?_⟩
          rw [decide_eq_false nx]
          refine iteF ?_
          refine ⟨_, rfl, (show 2 ≤ sizeLine by decide), fun p2 np2 => ?_⟩
          have s2 : Same H1 (upd H1 p2 (.tup [.ty "list", .ty "tuple"])) := same_upd np2
          refine ⟨_, _, _, _, _, _, rfl, upd_same, .cons (.ty _) (.cons (.ty _) .nil), tyx_same s2 tx1, kitAny_seq d, ?_⟩
          refine ⟨_, rfl, ?_⟩
          have tx2 := tyx_same s2 tx1
          have ty2 := tyx_same s2 ty1
          have s12 := s1.trans s2
          generalize upd H1 p2 (.tup [.ty "list", .ty "tuple"]) = H2 at *
          rw [hq]
          refine iteF ?_
          refine ⟨_, rfl, ⟨_, _, _, _, _, rfl, .ty _, tx2, kit_ty (kitD_ok d (by decide)), ?_⟩⟩
          refine ⟨_, rfl, ⟨_, _, _, _, _, rfl, .ty _, ty2, kit_ty (kitD_ok d (by decide)), ?_⟩⟩
          refine ⟨rfl, _, rfl, iteNS rfl ?_⟩
          refine ⟨_, rfl, ⟨_, _, _, _, _, rfl, .ty _, tx2, kit_ty (kitD_ok d (by decide)), ?_⟩⟩
          refine ⟨_, rfl, ⟨_, _, _, _, _, rfl, .ty _, ty2, kit_ty (kitD_ok d (by decide)), ?_⟩⟩
          refine ⟨rfl, _, rfl, iteNS rfl ?_⟩
          refine ⟨_, rfl, ⟨_, _, _, _, _, rfl, .ty _, tx2, kit_ty (kitD_ok d (by decide)), ?_⟩⟩
          refine ⟨_, rfl, ⟨_, _, _, _, _, rfl, .ty _, ty2, kit_ty (kitD_ok d (by decide)), ?_⟩⟩
          refine ⟨rfl, _, rfl, iteNS rfl ?_⟩
          refine ⟨_, rfl, _, rfl, sc, ?_⟩
          rw [exy, decide_eq_true rfl]
          exact k H2 s12

end
end K34
namespace K34
open PySem PySem.Spec PyProof.Rows L2 RZ LL LC LS LR LD LN LY LOr
open C8 (Cal Mak Met CalAt pe_c pe_mk pe_mt pe_mt0 pe_gc)
section
variable {P : Program} {w : World} {K : PySem.W.Frag} {mg : Str → Option Value} {base : Heap}
/-! ### a drawn order, drawn names -/
def spMixed (K : PySem.W.Frag) : Sp := fun vs H Q _ => ∃ (b : Addr) (t : V) (xs : List V), vs = [.ref b, t] ∧ Bag H b ∧ ((∃ a, t = .ref a ∧ a ≠ b ∧ SqL K H a xs) ∨ ∃ z : Str, t = .str z ∧ xs = z.cps.toList.map fun c => .str ⟨#[c]⟩) ∧ xs.length ≤ 100000 ∧
  ∀ (H' : Hp) (p : Addr) (out : List V), Kp b H H' → H p = none → H' p = some (.lst out) → out.Perm xs → Q (.ref p) H'
theorem perm_ins {α : Type} (l : List α) (i : Nat) (y : α) (xs : List α) (h : l.Perm xs) : (l.take i ++ [y] ++ l.drop i).Perm (xs ++ [y]) := by
  have h1 : (l.take i ++ [y] ++ l.drop i).Perm (y :: (l.take i ++ l.drop i)) := by
    rw [List.append_assoc]
    exact List.perm_middle
  rw [List.take_append_drop] at h1
  exact h1.trans ((List.Perm.cons y h).trans (List.perm_append_singleton y xs).symm)
theorem C__law_mixed (T : Txt K mg) : Cal P w K mg base 2 "_law_mixed" (spMixed K) [] := by
  have C__law_draw : Cal P w K mg base 1 "_law_draw" spDraw [] := C__law_draw T
  obtain ⟨fd, F⟩ := T.F__law_mixed
  have b : Binds K fd ["_law_bag_here", "_law_things"] [] := FunD.bindsN F fun _ _ _ _ _ _ us hl => match us, hl with | [_, _], _ => rfl
  refine calD F T.g__law_mixed b sc__law_mixed (fun vs H Q E h => ?_) (fun cdv A outer s H vs Q E hr h => ?_)
  · obtain ⟨b, t, xs, rfl, _⟩ := h
    rfl
  · obtain ⟨b, t, xs, rfl, B, ht, hn, k⟩ := h
    rcases ht with ⟨a, rfl, na, hS⟩ | ⟨z, rfl, rfl⟩
    · refine ⟨_, (pss_cons (ps_set (i := 2) sc__law_mixed.nd rfl (Or.inl rfl) (pe_lst pa_nil))
  (pss_cons (ps_for PassesOwn.never rfl (pi_list (pv 1)) (pg_name (i := 3) sc__law_mixed.nd rfl (Or.inl rfl))
    (pss_one (ps_expr (pe_bm PySem.F.plainAttrs_list PySem.F.slot_list_insert PySem.F.type_list_insert mt_insert (pv 2) (pa_cons (pe_c C__law_draw hr (by omega) rfl (pa_cons (pv 0) (pa_cons (pe_op op_add (pe_callB call_len_seq (by rfl) T.z_len PySem.boot_len (pa_cons (pv 2) pa_nil)) pe_int) pa_nil))) (pa_cons (pv 3) pa_nil))))))
  (pss_one (ps_ret (pv 2))))), ?_⟩
      refine ⟨(show 0 ≤ sizeLine by decide), fun o no => ?_⟩
      have k0 : Kp b H (L2.upd H o (.lst [])) := Kp.of (same_upd no)
      have no0 := no
      refine ⟨_, rfl, a, rfl, ⟨_, sqL_kp k0 na hS⟩, ?_⟩
      refine for_it (walk_list (K := K) (a := a) (xs := xs)) (fun i σ H2 => (∃ v, σ = [some (.ref b), some (.ref a), some (.ref o), v]) ∧ Kp b H H2 ∧ ∃ acc, H2 o = some (.lst acc) ∧ acc.Perm (xs.take i)) ⟨⟨none, rfl⟩, k0, [], upd_same, .nil⟩ (fun i σ H2 _ q => sqL_kp q.2.1 na hS) ?_ ?_
      · rintro i x σ H2 H3 hi ⟨⟨v, rfl⟩, k2, acc, hL, hp⟩ ⟨rfl, hx⟩
        have B2 := k2.bag B
        have la : acc.length ≤ 100000 := by
          have z := hp.length_eq
          rw [List.length_take] at z
          omega
        refine ⟨_, rfl, .inl ⟨rfl, _, sqL_of hL⟩, _, rfl, _, rfl, o, _, rfl, .inl (sqL_of hL), _, _, rfl, rfl, b, _, rfl, B2, by omega, by omega, fun d o4 d0 d1 k4 => ?_⟩
        have nob : o ≠ b := B.ne no
        refine ⟨_, rfl, o, acc, d, x, rfl, rfl, k4.1 _ _ nob hL, by rw [sizeLine_eq]; omega, d0, by omega, ?_⟩
        refine ⟨⟨_, rfl⟩, (k2.trans k4).mut B no0, _, upd_same, ?_⟩
        rw [List.take_add_one, hx]
        exact perm_ins _ _ _ _ hp
      · rintro σ H2 ⟨⟨v, rfl⟩, k2, acc, hL, hp⟩
        refine ⟨_, rfl, k H2 o acc k2 no0 hL ?_⟩
        rw [List.take_length] at hp
        exact hp
    · refine ⟨_, (pss_cons (ps_set (i := 2) sc__law_mixed.nd rfl (Or.inl rfl) (pe_lst pa_nil))
  (pss_cons (ps_for PassesOwn.never rfl (pi_str (pv 1)) (pg_name (i := 3) sc__law_mixed.nd rfl (Or.inl rfl))
    (pss_one (ps_expr (pe_bm PySem.F.plainAttrs_list PySem.F.slot_list_insert PySem.F.type_list_insert mt_insert (pv 2) (pa_cons (pe_c C__law_draw hr (by omega) rfl (pa_cons (pv 0) (pa_cons (pe_op op_add (pe_callB call_len_seq (by rfl) T.z_len PySem.boot_len (pa_cons (pv 2) pa_nil)) pe_int) pa_nil))) (pa_cons (pv 3) pa_nil))))))
  (pss_one (ps_ret (pv 2))))), ?_⟩
      refine ⟨(show 0 ≤ sizeLine by decide), fun o no => ?_⟩
      have k0 : Kp b H (L2.upd H o (.lst [])) := Kp.of (same_upd no)
      have no0 := no
      refine ⟨_, rfl, z, rfl, ?_⟩
      refine for_it (walk_str (z := z)) (fun i σ H2 => (∃ v, σ = [some (.ref b), some (.str z), some (.ref o), v]) ∧ Kp b H H2 ∧ ∃ acc, H2 o = some (.lst acc) ∧ acc.Perm ((z.cps.toList.map fun c => V.str ⟨#[c]⟩).take i)) ⟨⟨none, rfl⟩, k0, [], upd_same, .nil⟩ (fun _ _ _ _ _ => True.intro) ?_ ?_
      · rintro i x σ H2 H3 hi ⟨⟨v, rfl⟩, k2, acc, hL, hp⟩ ⟨rfl, c, hc, ex⟩
        have hx : (z.cps.toList.map fun c => V.str ⟨#[c]⟩)[i]? = some x := by rw [ex, List.getElem?_map, Array.getElem?_toList, hc]; rfl
        have B2 := k2.bag B
        have la : acc.length ≤ 100000 := by
          have z := hp.length_eq
          rw [List.length_take] at z
          omega
        refine ⟨_, rfl, .inl ⟨rfl, _, sqL_of hL⟩, _, rfl, _, rfl, o, _, rfl, .inl (sqL_of hL), _, _, rfl, rfl, b, _, rfl, B2, by omega, by omega, fun d o4 d0 d1 k4 => ?_⟩
        have nob : o ≠ b := B.ne no
        refine ⟨_, rfl, o, acc, d, x, rfl, rfl, k4.1 _ _ nob hL, by rw [sizeLine_eq]; omega, d0, by omega, ?_⟩
        refine ⟨⟨_, rfl⟩, (k2.trans k4).mut B no0, _, upd_same, ?_⟩
        rw [List.take_add_one, hx]
        exact perm_ins _ _ _ _ hp
      · rintro σ H2 ⟨⟨v, rfl⟩, k2, acc, hL, hp⟩
        refine ⟨_, rfl, k H2 o acc k2 no0 hL ?_⟩
        rw [List.take_of_length_le (by simp)] at hp
        exact hp

theorem perm_strs {out : List V} {zs : List Str} (h : out.Perm (zs.map V.str)) : ∃ ws : List Str, out = ws.map V.str ∧ ws.Perm zs := by
  have un : ∀ l : List V, (∀ v ∈ l, ∃ z, v = V.str z) → ∃ ws : List Str, l = ws.map V.str := fun l => by
    induction l with
    | nil => exact fun _ => ⟨[], rfl⟩
    | cons v l ih =>
      intro h
      obtain ⟨ws, e⟩ := ih fun u hu => h u (List.mem_cons_of_mem _ hu)
      obtain ⟨z, e2⟩ := h v List.mem_cons_self
      exact ⟨z :: ws, by rw [e, e2]; rfl⟩
  obtain ⟨ws, e⟩ := un out fun v hv => by
    obtain ⟨z, _, e⟩ := List.mem_map.mp (h.mem_iff.mp hv)
    exact ⟨z, e.symm⟩
  subst e
  refine ⟨ws, rfl, ?_⟩
  have g : ∀ l : List Str, (l.map V.str).map (fun v => match v with | .str z => z | _ => "") = l := fun l => by
    rw [List.map_map]
    exact List.map_id l
  have z := h.map (fun v => match v with | .str z => z | _ => "")
  rw [g, g] at z
  exact z
theorem tl_cut_to (a : Str) (n : Nat) : (cutS a none (some (n : Int))).cps.toList = a.cps.toList.take n := by
  unfold cutS
  rw [HT.sIx_none, HT.sIx_nat]
  simp
  have e : a.length = a.cps.size := rfl
  omega
theorem tl_cut_from (a : Str) (n : Nat) : (cutS a (some (n : Int)) none).cps.toList = a.cps.toList.drop n := by
  unfold cutS
  rw [HT.sIx_none, HT.sIx_nat]
  simp
  have e : a.length = a.cps.size := rfl
  rw [e]
  by_cases h : n ≤ a.cps.size
  · rw [Nat.min_eq_left h, List.take_of_length_le (by simp)]
  · rw [Nat.min_eq_right (by omega), List.drop_of_length_le (by simp), List.drop_of_length_le (by simp; omega)]
    simp
theorem isName_of {z : Str} (h1 : 1 ≤ z.cps.toList.length) (h2 : z.cps.toList.length ≤ 6) (h3 : Sg (fun c => c ∈ LET.cps.toList) z) : isName z = true := by
  unfold isName
  rw [str_len, decide_eq_true h1, decide_eq_true h2, Bool.true_and, Bool.true_and, List.all_eq_true]
  exact fun c hc => decide_eq_true (h3 c hc)
theorem LET_at (n : Nat) (h : n < 26) : LET.cps.toList[n]? = some (97 + n) := by
  have z : ((List.range 26).all fun n => decide (LET.cps.toList[n]? = some (97 + n))) = true := by decide +kernel
  exact of_decide_eq_true (List.all_eq_true.mp z n (List.mem_range.mpr h))
def spNames (K : PySem.W.Frag) : Sp := fun vs H Q _ => ∃ (b : Addr) (n : Nat), vs = [.ref b, .int ((n : Nat) : Int)] ∧ Bag H b ∧ n ≤ 6 ∧
  ∀ (H' : Hp) (p : Addr) (zs : List Str), Kp b H H' → H p = none → H' p = some (.lst (zs.map V.str)) → zs.length = n → (∀ z ∈ zs, isName z = true) → zs.Nodup → Q (.ref p) H'
theorem C__law_names (T : Txt K mg) : Cal P w K mg base 3 "_law_names" (spNames K) [] := by
  have C__law_draw : Cal P w K mg base 1 "_law_draw" spDraw [] := C__law_draw T
  have C__law_of : Cal P w K mg base 2 "_law_of" (spOf K) [] := C__law_of T
  have C__law_mixed : Cal P w K mg base 2 "_law_mixed" (spMixed K) [] := C__law_mixed T
  obtain ⟨fd, F⟩ := T.F__law_names
  have b : Binds K fd ["_law_bag_here", "_law_count"] [] := FunD.bindsN F fun _ _ _ _ _ _ us hl => match us, hl with | [_, _], _ => rfl
  refine calD F T.g__law_names b sc__law_names (fun vs H Q E h => ?_) (fun cdv A outer s H vs Q E hr h => ?_)
  · obtain ⟨b, n, rfl, _⟩ := h
    rfl
  · obtain ⟨b, n, rfl, B, hn, k⟩ := h
    refine ⟨_, (pss_cons (ps_set (i := 2) sc__law_names.nd rfl (Or.inr rfl) pe_str)
  (pss_cons (ps_set (i := 3) sc__law_names.nd rfl (Or.inl rfl) (pe_join pe_str (pe_lc (own := [("_law_k", 4)]) (g := gName 4) (tt := tYes) (te := (tCall (spOf K) [] C8.E0 (tCons (tVar 0) (tCons (tVar 2) tNil)))) rfl sc__law_names.nd (pi_range1 rfl T.z_range (pa_cons (pe_c C__law_draw hr (by omega) rfl (pa_cons (pv 0) (pa_cons pe_int pa_nil))) pa_nil)) (blkOk_by (N := N__law_names) (sc := defScope s__law_names) (by decide +kernel)) (fun _ _ _ _ _ => pg_name (i := 4) sc__law_names.nd rfl (Or.inl rfl)) (fun _ _ _ _ _ => pts_nil) (fun _ _ _ _ _ => (pe_c C__law_of hr (by omega) rfl (pa_cons (pv 0) (pa_cons (pv 2) pa_nil)))))))
  (pss_cons (ps_par3 (i := 5) (j := 6) (l := 7) (by rfl) sc__law_names.nd rfl rfl rfl (by decide) (by decide) (by decide) rfl rfl rfl (pa_cons (pe_c C__law_draw hr (by omega) rfl (pa_cons (pv 0) (pa_cons (pe_op op_add (pe_callB call_len_str (by rfl) T.z_len PySem.boot_len (pa_cons (pv 3) pa_nil)) pe_int) pa_nil))) (pa_cons (pe_c C__law_draw hr (by omega) rfl (pa_cons (pv 0) (pa_cons pe_int pa_nil))) (pa_cons (pe_c C__law_of hr (by omega) rfl (pa_cons (pv 0) (pa_cons (pe_lst (pa_cons pe_int (pa_cons pe_int (pa_cons pe_int (pa_cons pe_int (pa_cons pe_int (pa_cons pe_int (pa_cons pe_int pa_nil)))))))) pa_nil))) pa_nil))) (by rfl))
  (pss_cons (ps_if (pt_cmpR op_eq (pe_c C__law_draw hr (by omega) rfl (pa_cons (pv 0) (pa_cons pe_int pa_nil))) pe_int (nomark _))
    (pss_cons (ps_set (i := 8) sc__law_names.nd rfl (Or.inr rfl) (pe_slice sl_str (pe_op op_add_str (pv 3) pe_str) po_none (po_some pe_int)))
    (pss_one (ps_ret (pe_c C__law_mixed hr (by omega) rfl (pa_cons (pv 0) (pa_cons (pe_lc (own := [("_law_k", 4)]) (g := gName 4) (tt := tYes) rfl sc__law_names.nd (pi_range1 rfl T.z_range (pa_cons (pv 1) pa_nil)) (blkOk_by (N := N__law_names) (sc := defScope s__law_names) (by decide +kernel)) (fun _ _ _ _ _ => pg_name (i := 4) sc__law_names.nd rfl (Or.inl rfl)) (fun _ _ _ _ _ => pts_nil) (fun _ _ _ _ _ => (pe_slice sl_str (pv 8) po_none (po_some (pe_op op_add (pv 4) pe_int))))) pa_nil))))))
    pss_nil)
  (pss_cons (ps_set (i := 9) sc__law_names.nd rfl (Or.inl rfl) (pe_lst pa_nil))
  (pss_cons (ps_for PassesOwn.never rfl (pi_range1 rfl T.z_range (pa_cons (pv 1) pa_nil)) (pg_name (i := 4) sc__law_names.nd rfl (Or.inl rfl))
    (pss_cons (ps_set (i := 10) sc__law_names.nd rfl (Or.inl rfl) (pe_op op_add_str (pe_op op_add_str (pe_slice sl_str (pv 3) po_none (po_some (pv 5))) (pe_ix ix_str (pv 2) (pe_op op_modN (pe_callTy call_int1 (by rfl) T.z_int (by decide +kernel) (pa_cons (pe_op op_add (pv 6) (pe_op op_mul (pv 7) (pv 4))) pa_nil)) pe_int) (fun _ _ => rfl))) (pe_slice sl_str (pv 3) (po_some (pv 5)) po_none)))
    (pss_one (ps_expr (pe_bm PySem.F.plainAttrs_list PySem.F.slot_list_append PySem.F.type_list_append mt_append (pv 9) (pa_cons (pe_op op_add_str (pv 10) (pe_c C__law_of hr (by omega) rfl (pa_cons (pv 0) (pa_cons (pe_lst (pa_cons pe_str (pa_cons pe_str (pa_cons pe_str pa_nil)))) pa_nil)))) pa_nil))))))
  (pss_one (ps_ret (pv 9))))))))), ?_⟩
    refine ⟨⟨_, rfl⟩, _, rfl, b, 5, rfl, B, by decide, by decide, fun d o1 d0 d1 k1 => ?_⟩
    have B1 := k1.bag B
    generalize L2.upd H b o1 = H1 at *
    refine ⟨d, rfl, by omega, by omega, fun D hD => ?_⟩
    refine lc_bag (b := b) (walk_range (lo := 0) (n := d.toNat)) (fun y => ∃ c, y = V.str ⟨#[c]⟩ ∧ c ∈ LET.cps.toList) (by omega) hD B1 (fun _ _ => True.intro) ?_ ?_
    · rintro i x H3 H4 Nx hi k3 ⟨rfl, rfl⟩ hN
      refine ⟨rfl, _, rfl, _, rfl, b, _, rfl, (k3.bag B1), .inr (.inr ⟨LET, rfl, by decide +kernel, by decide +kernel, fun j c o hc k5 => ?_⟩)⟩
      exact hN _ _ k5 ⟨c, rfl, List.mem_of_getElem? hc⟩
    · intro H3 ys k3 hL hl hy
      obtain ⟨zs, rfl, e1, e2, e3⟩ := join_signs hy
      rw [List.length_map] at hl
      have hz : zs.length ≤ 4 := by omega
      refine ⟨_, D, zs, rfl, rfl, .inl (sqL_of hL), by rw [e1]; show zs.length + zs.length * 0 ≤ 16777216; omega, ?_⟩
      have ln : (Txt.join "" zs).length ≤ 4 := Nat.le_trans e2 hz
      have kk := k1.trans k3
      have B3 := k3.bag B1
      generalize Txt.join "" zs = stem at *
      have lst : stem.cps.toList.length ≤ 4 := by rw [← str_len]; exact ln
      refine ⟨_, rfl, _, rfl, stem, rfl, Nat.le_trans ln (by decide), _, _, rfl, rfl, b, _, rfl, B3, by omega, by omega, fun place o4 p0 p1 k4 => ?_⟩
      have B4 := k4.bag B3
      generalize L2.upd H3 b o4 = H4 at *
      refine ⟨_, rfl, b, 26, rfl, B4, by decide, by decide, fun bs o5 b0 b1 k5 => ?_⟩
      have B5 := k5.bag B4
      generalize L2.upd H4 b o5 = H5 at *
      refine ⟨_, rfl, (show 7 ≤ sizeLine by decide), fun p np => ?_⟩
      have npb := B5.ne np
      have k6 := Kp.of (b := b) (same_upd (o := .lst [.int 1, .int 3, .int 5, .int 7, .int 11, .int 15, .int 25]) np)
      refine ⟨b, _, rfl, k6.bag B5, .inl ⟨p, _, rfl, npb, sqL_of upd_same, (show 0 < 7 by decide), (show 7 ≤ 1000000 by decide), fun j v o7 hv k7 => ?_⟩⟩
      have hJ : ∃ J : Int, v = .int J ∧ (J = 1 ∨ J = 3 ∨ J = 5 ∨ J = 7 ∨ J = 11 ∨ J = 15 ∨ J = 25) := by
        have z := List.mem_of_getElem? hv
        simp only [List.mem_cons, List.not_mem_nil, or_false] at z
        rcases z with z | z | z | z | z | z | z <;> exact ⟨_, z, by simp⟩
      obtain ⟨J, rfl, hJ⟩ := hJ
      have k37 := ((k4.trans k5).trans k6).trans k7
      have kk7 := kk.trans k37
      have B7 := k37.bag B3
      generalize L2.upd (L2.upd H5 p _) b o7 = H7 at k7 k37 kk7 B7 ⊢
      refine ⟨_, _, _, rfl, ?_⟩
      obtain ⟨pl, rfl⟩ := Int.eq_ofNat_of_zero_le p0
      refine ⟨_, rfl, b, 5, rfl, B7, by decide, by decide, fun dd o8 _ _ k8 => ?_⟩
      have B8 := k8.bag B7
      have kk8 := kk7.trans k8
      generalize L2.upd H7 b o8 = H8 at *
      refine ⟨rfl, _, rfl, ite2 (fun _ => ?_) (fun _ => ?_)⟩
      · have e6 : ("cabbed" : Str).length = 6 := rfl
        have lsum : (stem ++ "cabbed").length = stem.length + 6 := by rw [len_append, e6]
        refine ⟨_, rfl, _, _, rfl, rfl, by rw [e6, sizeLine_eq]; omega, _, rfl, _, rfl, by rw [lsum, sizeLine_eq]; omega, ?_⟩
        have hw1 : (cutS (stem ++ "cabbed") none (some ((6 : Nat) : Int))).cps.toList.length = 6 := by
          rw [tl_cut_to, List.length_take, ← str_len, lsum]
          omega
        have hw2 : Sg (fun c => c ∈ LET.cps.toList) (cutS (stem ++ "cabbed") none (some ((6 : Nat) : Int))) := sg_cut (sg_append e3 (fun c hc => by
          have z : (("cabbed" : Str).cps.toList.all fun c => decide (c ∈ LET.cps.toList)) = true := by decide +kernel
          exact of_decide_eq_true (List.all_eq_true.mp z c hc))) _ _
        generalize cutS (stem ++ "cabbed") none (some ((6 : Nat) : Int)) = word at hw1 hw2 ⊢
        refine ⟨_, rfl, _, rfl, n, rfl, by omega, by omega, fun D2 hD2 => ?_⟩
        refine lc_map (walk_range (lo := 0) (n := ((n : Nat) : Int).toNat)) (fun i => .str (cutS word none (some (((i + 1 : Nat)) : Int)))) (by omega) hD2 (fun _ _ => True.intro) ?_ ?_
        · rintro i x H9 H10 Nx hi s9 ⟨rfl, rfl⟩ hN
          refine ⟨rfl, _, rfl, _, rfl, _, _, rfl, rfl, _, rfl, word, rfl, by rw [str_len, hw1]; decide, ?_⟩
          have e : (0 : Int) + (i : Nat) + 1 = ((i + 1 : Nat) : Int) := by omega
          rw [e]
          exact hN _ (Same.refl _)
        · intro H9 s9 hL9
          have kk9 := kk8.trans (Kp.of s9)
          have B9 := (Kp.of (b := b) s9).bag B8
          have nD2 : D2 ≠ b := B8.ne hD2
          have eN : ((n : Nat) : Int).toNat = n := by omega
          rw [eN] at hL9
          refine ⟨b, .ref D2, (List.range n).map (fun i => V.str (cutS word none (some ((i + 1 : Nat) : Int)))), rfl, B9, .inl ⟨D2, rfl, nD2, sqL_of hL9⟩, by rw [List.length_map, List.length_range]; omega, fun H10 q out k10 nq hq hp => ?_⟩
          have hp2 : out.Perm (((List.range n).map fun i => cutS word none (some ((i + 1 : Nat) : Int))).map V.str) := by rw [List.map_map]; exact hp
          obtain ⟨ws, rfl, hws⟩ := perm_strs hp2
          have lw : ∀ i, i < 6 → (cutS word none (some ((i + 1 : Nat) : Int))).cps.toList.length = i + 1 := fun i hi => by
            rw [tl_cut_to, List.length_take, hw1]
            omega
          refine k H10 q ws (kk9.trans k10) (kk9.none B nq) hq ?_ ?_ ?_
          · rw [hws.length_eq, List.length_map, List.length_range]
          · intro z hz
            obtain ⟨i, hi, e⟩ := List.mem_map.mp (hws.mem_iff.mp hz)
            have hi2 := List.mem_range.mp hi
            rw [← e]
            have l1 := lw i (by omega)
            exact isName_of (by omega) (by omega) (sg_cut hw2 _ _)
          · refine hws.nodup_iff.mpr ?_
            unfold List.Nodup
            rw [List.pairwise_map]
            refine List.Pairwise.imp_of_mem (fun {i j} hi hj ne e => ne ?_) List.nodup_range
            have hi2 := List.mem_range.mp hi
            have hj2 := List.mem_range.mp hj
            have l1 := lw i (by omega)
            have l2 := lw j (by omega)
            rw [e] at l1
            omega
      · refine ⟨(show 0 ≤ sizeLine by decide), fun o no => ?_⟩
        have nob : o ≠ b := B8.ne no
        have k9 := Kp.of (b := b) (same_upd (o := .lst []) no)
        refine ⟨_, rfl, n, rfl, by omega, by omega, ?_⟩
        have eN : ((n : Nat) : Int).toNat = n := by omega
        refine for_it (walk_range (lo := 0) (n := ((n : Nat) : Int).toNat)) (fun i σ H2 => (∃ a4 a10, σ = [some (.ref b), some (.int ((n : Nat) : Int)), some (.str LET), some (.str stem), a4, some (.int ((pl : Nat) : Int)), some (.int bs), some (.int J), none, some (.ref o), a10]) ∧ Kp b H8 H2 ∧
          ∃ zs : List Str, H2 o = some (.lst (zs.map V.str)) ∧ zs.length = i ∧ (∀ z ∈ zs, isName z = true) ∧ ∀ j z, zs[j]? = some z → z.cps.toList[pl]? = some (97 + ((bs + J * ((j : Nat) : Int)).fmod 26).toNat)) ⟨⟨_, _, rfl⟩, k9, [], upd_same, rfl, fun z hz => (nomatch hz), fun j z hz => (nomatch hz)⟩ (fun _ _ _ _ _ => True.intro) ?_ ?_
        · rintro i x σ H2 H3' hi ⟨⟨a4, a10, rfl⟩, k2, zs2, hL2, hl2, hn2, hc2⟩ ⟨rfl, rfl⟩
          have lnz : stem.length ≤ sizeLine := by rw [sizeLine_eq]; omega
          refine ⟨_, rfl, _, rfl, _, rfl, stem, rfl, lnz, ?_⟩
          have m0 := fmod_lo (bs + J * (0 + ((i : Nat) : Int))) (j := 26) (by decide)
          have m1 := fmod_hi (bs + J * (0 + ((i : Nat) : Int))) (j := 26) (by decide)
          have eIx : (bs + J * (0 + ((i : Nat) : Int))).fmod 26 = (((bs + J * (0 + ((i : Nat) : Int))).fmod 26).toNat : Int) := by omega
          have hat : atI (LET.cps.toList) ((bs + J * (0 + ((i : Nat) : Int))).fmod 26) = some (97 + ((bs + J * (0 + ((i : Nat) : Int))).fmod 26).toNat) := by
            rw [eIx]
            exact atI_nat (LET_at _ (by omega))
          refine ⟨_, rfl, _, rfl, _, rfl, _, rfl, _, _, rfl, rfl, .inl ⟨by rcases hJ with e | e | e | e | e | e | e <;> (rw [e]; decide), by rcases hJ with e | e | e | e | e | e | e <;> (rw [e]; decide)⟩, _, _, rfl, rfl, .inl ⟨_, rfl, ?_⟩⟩
          refine ⟨_, _, rfl, rfl, (show (26 : Int) ≠ 0 by decide), LET, _, _, rfl, rfl, by decide, hat, ?_⟩
          have c1 := len_cut stem none (some ((pl : Nat) : Int))
          have e1' : (⟨#[97 + ((bs + J * (0 + ((i : Nat) : Int))).fmod 26).toNat]⟩ : Str).length = 1 := rfl
          refine ⟨_, _, rfl, rfl, by rw [e1', sizeLine_eq]; omega, ?_⟩
          refine ⟨_, rfl, _, rfl, _, rfl, stem, rfl, lnz, ?_⟩
          have c2 := len_cut stem (some ((pl : Nat) : Int)) none
          refine ⟨_, _, rfl, rfl, by rw [len_append, e1', sizeLine_eq]; omega, ?_⟩
          have hnm : (cutS stem none (some ((pl : Nat) : Int)) ++ ⟨#[97 + ((bs + J * (0 + ((i : Nat) : Int))).fmod 26).toNat]⟩ ++ cutS stem (some ((pl : Nat) : Int)) none : Str).cps.toList = stem.cps.toList.take pl ++ [97 + ((bs + J * (0 + ((i : Nat) : Int))).fmod 26).toNat] ++ stem.cps.toList.drop pl := by
            have q1 := TL.tl_append (cutS stem none (some ((pl : Nat) : Int)) ++ ⟨#[97 + ((bs + J * (0 + ((i : Nat) : Int))).fmod 26).toNat]⟩) (cutS stem (some ((pl : Nat) : Int)) none)
            have q2 := TL.tl_append (cutS stem none (some ((pl : Nat) : Int))) ⟨#[97 + ((bs + J * (0 + ((i : Nat) : Int))).fmod 26).toNat]⟩
            unfold TL.tl at q1 q2
            rw [q1, q2, tl_cut_to, tl_cut_from]
          have hsg : Sg (fun c => c ∈ LET.cps.toList) (cutS stem none (some ((pl : Nat) : Int)) ++ ⟨#[97 + ((bs + J * (0 + ((i : Nat) : Int))).fmod 26).toNat]⟩ ++ cutS stem (some ((pl : Nat) : Int)) none : Str) := by
            refine sg_append (sg_append (sg_cut e3 _ _) fun c hc => ?_) (sg_cut e3 _ _)
            have z : c = 97 + ((bs + J * (0 + ((i : Nat) : Int))).fmod 26).toNat := by simpa using hc
            rw [z]
            exact List.mem_of_getElem? (LET_at _ (by omega))
          generalize (cutS stem none (some ((pl : Nat) : Int)) ++ ⟨#[97 + ((bs + J * (0 + ((i : Nat) : Int))).fmod 26).toNat]⟩ ++ cutS stem (some ((pl : Nat) : Int)) none : Str) = nm at hnm hsg ⊢
          have lnm : nm.cps.toList.length ≤ 5 := by
            rw [hnm, List.length_append, List.length_append, List.length_take, List.length_drop, List.length_singleton]
            omega
          have lnm1 : 1 ≤ nm.cps.toList.length := by
            rw [hnm, List.length_append, List.length_append, List.length_singleton]
            omega
          have spl : pl ≤ stem.cps.toList.length := by rw [← str_len]; omega
          have hat2 : nm.cps.toList[pl]? = some (97 + ((bs + J * (0 + ((i : Nat) : Int))).fmod 26).toNat) := by
            rw [hnm, List.append_assoc, List.getElem?_append_right (by rw [List.length_take]; omega), List.length_take, Nat.min_eq_left spl, Nat.sub_self]
            rfl
          refine ⟨_, rfl, .inl ⟨rfl, _, sqL_of hL2⟩, _, rfl, _, rfl, (show 3 ≤ sizeLine by decide), fun p3 np3 => ?_⟩
          have B2 := k2.bag B8
          have np3b := B2.ne np3
          have k3 := Kp.of (b := b) (same_upd (o := .lst [.str "", .str "a", .str "z"]) np3)
          refine ⟨b, _, rfl, k3.bag B2, .inl ⟨p3, _, rfl, np3b, sqL_of upd_same, (show 0 < 3 by decide), (show 3 ≤ 1000000 by decide), fun j4 v4 o9 hv4 k9' => ?_⟩⟩
          obtain ⟨y, hy4, rfl⟩ := get_str (ss := [_, _, _]) hv4
          have oy : y.cps.toList.length ≤ 1 ∧ Sg (fun c => c ∈ LET.cps.toList) y := by
            have h : ((["", "a", "z"] : List Str).all fun y => decide (y.cps.toList.length ≤ 1) && y.cps.toList.all fun c => decide (c ∈ LET.cps.toList)) = true := by decide +kernel
            obtain ⟨h1, h2⟩ := Bool.and_eq_true_iff.mp (List.all_eq_true.mp h y hy4)
            exact ⟨of_decide_eq_true h1, fun c hc => of_decide_eq_true (List.all_eq_true.mp h2 c hc)⟩
          have ly := oy.1
          refine ⟨_, _, rfl, rfl, by rw [str_len, str_len, sizeLine_eq]; omega, ?_⟩
          have k29 := k2.trans (k3.trans k9')
          have hL9 := (k3.trans k9').1 _ _ nob hL2
          refine ⟨o, _, _, rfl, rfl, hL9, by rw [List.length_map, hl2, sizeLine_eq]; omega, ?_⟩
          have htl : (nm ++ y).cps.toList = nm.cps.toList ++ y.cps.toList := TL.tl_append nm y
          refine ⟨⟨_, _, rfl⟩, k29.mut B8 no, zs2 ++ [nm ++ y], by rw [upd_same, List.map_append]; rfl, by rw [List.length_append, hl2]; rfl, fun z hz => ?_, fun j' z hz => ?_⟩
          · rcases List.mem_append.mp hz with hz | hz
            · exact hn2 z hz
            · rw [List.mem_singleton.mp hz]
              exact isName_of (by rw [htl, List.length_append]; omega) (by rw [htl, List.length_append]; omega) (sg_append hsg oy.2)
          · by_cases hj : j' < zs2.length
            · rw [List.getElem?_append_left hj] at hz
              exact hc2 j' z hz
            · have ej : j' = i := by
                have z1 := (List.getElem?_eq_some_iff.mp hz).1
                rw [List.length_append, List.length_singleton] at z1
                omega
              subst ej
              rw [← hl2, List.getElem?_concat_length] at hz
              cases hz
              have pln : pl < nm.cps.toList.length := (List.getElem?_eq_some_iff.mp hat2).1
              rw [htl, List.getElem?_append_left pln, hat2, Int.zero_add]
        · rintro σ H2 ⟨⟨a4, a10, rfl⟩, k2, zs2, hL2, hl2, hn2, hc2⟩
          rw [eN] at hl2
          refine ⟨_, rfl, k H2 o zs2 (kk8.trans k2) (kk8.none B no) hL2 hl2 hn2 ?_⟩
          unfold List.Nodup
          rw [List.pairwise_iff_getElem]
          intro i j hi1 hjl hij e
          have c1 := hc2 i _ (List.getElem?_eq_getElem hi1)
          have c2 := hc2 j _ (List.getElem?_eq_getElem hjl)
          rw [e] at c1
          have c3 := Option.some.inj (c1.symm.trans c2)
          have l1 := fmod_lo (bs + J * ((i : Nat) : Int)) (j := 26) (by decide)
          have l2 := fmod_lo (bs + J * ((j : Nat) : Int)) (j := 26) (by decide)
          rw [Int.fmod_eq_emod_of_nonneg _ (by decide)] at c3 l1
          rw [Int.fmod_eq_emod_of_nonneg _ (by decide)] at c3 l2
          rcases hJ with e | e | e | e | e | e | e <;> (subst e; omega)

end
end K34
namespace K34
open PySem PySem.Spec PyProof.Rows L2 RZ LL LC LS LR LD LN LY LOr
open C8 (Cal Mak Met CalAt pe_c pe_mk pe_mt pe_mt0 pe_gc)
section
variable {P : Program} {w : World} {K : PySem.W.Frag} {mg : Str → Option Value} {base : Heap}
/-! ### the law's own circles -/
def spLeaf : Sp := fun vs H Q _ => ∃ n : Str, vs = [.str n] ∧ ∀ (v : V) (H' : Hp), Same H H' → Nd H' v (.eye n) → Q v H'
theorem C__law_leaf (T : Txt K mg) : Cal P w K mg base 1 "_law_leaf" spLeaf [] := by
  obtain ⟨fd, F⟩ := T.F__law_leaf
  have b : Binds K fd ["_law_name"] [] := FunD.bindsN F fun _ _ _ _ _ _ us hl => match us, hl with | [_], _ => rfl
  refine calD F T.g__law_leaf b sc__law_leaf (fun vs H Q E h => ?_) (fun cdv A outer s H vs Q E hr h => ?_)
  · obtain ⟨n, rfl, _⟩ := h
    rfl
  · obtain ⟨n, rfl, q⟩ := h
    refine ⟨_, (pss_one (ps_ret (pe_tup (pa_cons pe_str (pa_cons (pv 0) (pa_cons (pv 0) pa_nil)))))), ?_⟩
    exact ⟨_, rfl, _, rfl, (show 3 ≤ sizeLine by decide), fun p np => q _ _ (same_upd np) (.eye upd_same)⟩
def spJoin (K : PySem.W.Frag) : Sp := fun vs H Q _ => ∃ (k : Bool) (l : Addr) (rows : List V) (cs : List Ci), vs = [.str (kS k), .ref l] ∧ SqL K H l rows ∧ Nds H rows cs ∧ cs ≠ [] ∧ sizes cs ≤ 60 ∧ (∀ c ∈ cs, Fit c) ∧
  ∀ (v : V) (H' : Hp), Same H H' → Nd H' v (mkC k cs) → Q v H'
theorem C__law_joined (T : Txt K mg) : Cal P w K mg base 1 "_law_joined" (spJoin K) [] := by
  obtain ⟨fd, F⟩ := T.F__law_joined
  have b : Binds K fd ["_law_kind_here", "_law_some"] [] := FunD.bindsN F fun _ _ _ _ _ _ us hl => match us, hl with | [_, _], _ => rfl
  refine calD F T.g__law_joined b sc__law_joined (fun vs H Q E h => ?_) (fun cdv A outer s H vs Q E hr h => ?_)
  · obtain ⟨k, l, rows, cs, rfl, _⟩ := h
    rfl
  · obtain ⟨k, l, rows, cs, rfl, hl, hc, hne, hsz, hf, q⟩ := h
    refine ⟨_, (pss_cons (ps_set (i := 2) sc__law_joined.nd rfl (Or.inl rfl) (pe_lst pa_nil))
  (pss_cons (ps_for PassesOwn.never rfl (pi_list (pv 1)) (pg_name (i := 3) sc__law_joined.nd rfl (Or.inl rfl))
    (pss_cons (ps_set (i := 4) sc__law_joined.nd rfl (Or.inl rfl) (pe_ifExp (pt_cmpR op_eq (pe_ix ix_tup (pv 3) pe_int (fun _ _ => rfl)) (pv 0) (nomark _)) (pe_callTy call_list_of (by rfl) T.z_list (by decide +kernel) (pa_cons (pe_ix ix_tup (pv 3) pe_int (fun _ _ => rfl)) pa_nil)) (pe_lst (pa_cons (pv 3) pa_nil))))
    (pss_one (ps_for PassesOwn.never rfl (pi_list (pv 4)) (pg_name (i := 5) sc__law_joined.nd rfl (Or.inl rfl))
      (pss_one (ps_if (pt_cmpR (op_notInD (hu65 hr)) (pv 5) (pv 2) (by rfl))
        (pss_one (ps_expr (pe_bm PySem.F.plainAttrs_list PySem.F.slot_list_append PySem.F.type_list_append mt_append (pv 2) (pa_cons (pv 5) pa_nil))))
        pss_nil))))))
  (pss_cons (ps_if (pt_cmpR op_eq (pe_callB call_len_seq (by rfl) T.z_len PySem.boot_len (pa_cons (pv 2) pa_nil)) pe_int (nomark _))
    (pss_one (ps_ret (pe_ix ix_list (pv 2) pe_int (fun _ _ => rfl))))
    pss_nil)
  (pss_cons (ps_set (i := 6) sc__law_joined.nd rfl (Or.inl rfl) (pe_ifExp (pt_cmpR op_eq (pv 0) pe_str (nomark _)) pe_str pe_str))
  (pss_one (ps_ret (pe_tup (pa_cons (pv 0) (pa_cons (pe_callTy call_tuple_of (by rfl) T.z_tuple (by decide +kernel) (pa_cons (pv 2) pa_nil)) (pa_cons (pe_join (pv 6) (pe_lc (own := [("_law_part", 5)]) (g := gName 5) (tt := tYes) (te := (tIf (tTest (tOp rEq (tOp (rIxT K) (tVar 5) (tC (.int 0))) (tC (.str "eye")))) (tOp (rIxT K) (tVar 5) (tC (.int 2))) (tOp (fun x y H Q => ∃ i j, x = V.str i ∧ y = V.str j ∧ i.length + j.length ≤ sizeLine ∧ Q (V.str (i ++ j)) H) (tOp (fun x y H Q => ∃ i j, x = V.str i ∧ y = V.str j ∧ i.length + j.length ≤ sizeLine ∧ Q (V.str (i ++ j)) H) (tC (.str "(")) (tOp (rIxT K) (tVar 5) (tC (.int 2)))) (tC (.str ")"))))) rfl sc__law_joined.nd (pi_list (pv 2)) (blkOk_by (N := N__law_joined) (sc := defScope s__law_joined) (by decide +kernel)) (fun _ _ _ _ _ => pg_name (i := 5) sc__law_joined.nd rfl (Or.inl rfl)) (fun _ _ _ _ _ => pts_nil) (fun _ _ _ _ _ => (pe_ifExp (pt_cmpR op_eq (pe_ix ix_tup (pv 5) pe_int (fun _ _ => rfl)) pe_str (nomark _)) (pe_ix ix_tup (pv 5) pe_int (fun _ _ => rfl)) (pe_op op_add_str (pe_op op_add_str pe_str (pe_ix ix_tup (pv 5) pe_int (fun _ _ => rfl))) pe_str))))) pa_nil)))))))))), ?_⟩
    have hwf : ∀ c ∈ cs, c.wf = true := fun c hc => (hf c hc).wf
    have ffit : ∀ p ∈ flat k cs, Fit p := fun p hp => by
      obtain ⟨c, hc, rfl | h⟩ := flat_mem hp
      · exact hf _ hc
      · exact (hf c hc).part h
    have ufit : ∀ p ∈ uniq (flat k cs), Fit p := fun p hp => ffit p (uniqG_mem hp)
    have lflat := flat_len (k := k) hwf
    have luniq : (uniq (flat k cs)).length ≤ (flat k cs).length := uniqG_len
    refine ⟨(show 0 ≤ sizeLine by decide), fun o no => ?_⟩
    have s0 : Same H (L2.upd H o (.lst [])) := same_upd no
    have lc : rows.length = cs.length := nds_len hc
    have sqs : ∀ {H2 : Hp}, Same H H2 → SqL K H2 l rows := fun s => s.seq hl
    refine ⟨_, rfl, l, rfl, ⟨rows, sqs s0⟩, ?_⟩
    refine for_it (walk_list (K := K) (a := l) (xs := rows)) (fun i σ H2 => (∃ a3 a4 a5, σ = [some (.str (kS k)), some (.ref l), some (.ref o), a3, a4, a5, none]) ∧ Same H H2 ∧ ∃ acc done, H2 o = some (.lst acc) ∧ Nds H2 acc done ∧ uniq (flat k cs) = done ++ uniqG (done.map Ci.text) (flat k (cs.drop i))) ?_ (fun i σ H2 _ z => sqs z.2.1) ?_ ?_
    · exact ⟨⟨none, none, none, rfl⟩, s0, [], [], upd_same, .nil, by rw [List.drop_zero]; rfl⟩
    · rintro i x σ H2 H3 hi ⟨⟨a3, a4, a5, rfl⟩, s2, acc, done, hL, hd, hu⟩ ⟨rfl, hx⟩
      obtain ⟨c, g1, g2⟩ := nds_get (nds_mono (Kt.of s2) hc) hx
      have hmem := List.mem_of_getElem? g1
      have ed : cs.drop i = c :: cs.drop (i + 1) := by
        have hi2 : i < cs.length := by rw [← lc]; exact hi
        rw [List.drop_eq_getElem_cons hi2]
        rw [List.getElem?_eq_getElem hi2] at g1
        rw [Option.some.inj g1]
      have ef : flat k (cs.drop i) = flat1 k c ++ flat k (cs.drop (i + 1)) := by
        rw [ed]
        unfold flat
        rw [List.flatMap_cons]
      rw [ef] at hu
      -- the parts
      have parts : ∀ (Nx : V → Hp → Prop), (∀ (p : Addr) (prows : List V) (H4 : Hp), Same H3 H4 → H3 p = none → H4 p = some (.lst prows) → Nds H4 prows (flat1 k c) → Nx (.ref p) H4) →
          tIf (tTest (tOp rEq (tOp (rIxT K) (tVar 3) (tC (.int 0))) (tVar 0))) (tCB (fun xs H Q => ∃ p ys, xs = [V.ref p] ∧ (SqL K H p ys ∨ SqT K H p ys) ∧ ∀ l, H l = none → Q (.ref l) (L2.upd H l (.lst ys))) (tCons (tOp (rIxT K) (tVar 3) (tC (.int 1))) tNil)) (tLst (tCons (tVar 3) tNil)) [some (.str (kS k)), some (.ref l), some (.ref o), some x, a4, a5, none] H3 Nx := by
        intro Nx hN
        obtain ⟨a, y, rfl, ha⟩ := nd_three g2
        refine ⟨_, rfl, a, _, 0, _, rfl, rfl, sqT_of ha, rfl, _, rfl, rfl, _, rfl, ?_⟩
        rw [kS_eq]
        cases e : c.isK k with
        | true =>
          refine iteT ?_
          obtain ⟨a', ea, h | ⟨b, prows, _, hb, hpr, hps⟩⟩ := nd_ref g2
          · obtain ⟨n, e2, _⟩ := h
            rw [e2] at e
            cases e
          · cases ea
            refine ⟨_, rfl, a, _, 1, _, rfl, rfl, sqT_of hb, rfl, b, prows, rfl, .inr (sqT_of hpr), fun p np => ?_⟩
            refine hN p prows _ (same_upd np) np upd_same ?_
            unfold flat1
            rw [if_pos e]
            exact nds_mono (Kt.new np) hps
        | false =>
          refine iteF ⟨_, rfl, (show 1 ≤ sizeLine by decide), fun p np => ?_⟩
          refine hN p _ _ (same_upd np) np upd_same ?_
          unfold flat1
          rw [if_neg (by rw [e]; decide)]
          exact nds_one (nd_mono (Kt.new np) g2)
      refine parts _ fun p prows H4 s4 np hp4 hps => ?_
      have npo : p ≠ o := fun e => by
        rw [e, hL] at np
        cases np
      have lp : prows.length = (flat1 k c).length := nds_len hps
      refine ⟨_, rfl, p, rfl, ⟨prows, sqL_of hp4⟩, ?_⟩
      refine for_it (walk_list (K := K) (a := p) (xs := prows)) (fun j σ H5 => (∃ a5, σ = [some (.str (kS k)), some (.ref l), some (.ref o), some x, some (.ref p), a5, none]) ∧ Same H H5 ∧ H5 p = some (.lst prows) ∧ Nds H5 prows (flat1 k c) ∧ ∃ acc done, H5 o = some (.lst acc) ∧ Nds H5 acc done ∧ uniq (flat k cs) = done ++ uniqG (done.map Ci.text) ((flat1 k c).drop j ++ flat k (cs.drop (i + 1)))) ?_ (fun j σ H5 _ z => sqL_of z.2.2.1) ?_ ?_
      · exact ⟨⟨_, rfl⟩, s2.trans s4, hp4, hps, acc, done, s4 _ _ hL, nds_mono (Kt.of s4) hd, by rw [List.drop_zero]; exact hu⟩
      · rintro j y σ H5 H6 hj ⟨⟨a5', rfl⟩, s5, hp5, hps5, acc5, done5, hL5, hd5, hu5⟩ ⟨rfl, hy⟩
        obtain ⟨d, f1, f2⟩ := nds_get hps5 hy
        have ej : (flat1 k c).drop j = d :: (flat1 k c).drop (j + 1) := by
          have hj2 : j < (flat1 k c).length := by rw [← lp]; exact hj
          rw [List.drop_eq_getElem_cons hj2]
          rw [List.getElem?_eq_getElem hj2] at f1
          rw [Option.some.inj f1]
        rw [ej, List.cons_append, uniqG] at hu5
        have dfit : Fit d := by
          refine ffit d ?_
          unfold flat
          rw [List.mem_flatMap]
          exact ⟨c, hmem, List.mem_of_getElem? f1⟩
        have donefit : ∀ e ∈ done5, Fit e := fun e he => ufit e (by rw [hu5]; exact List.mem_append_left _ he)
        have ldone : done5.length ≤ 60 := by
          have z := congrArg List.length hu5
          rw [List.length_append] at z
          omega
        have lacc : acc5.length = done5.length := nds_len hd5
        refine ⟨_, rfl, _, rfl, ndata d, ndatas done5, nd_dp f2, .lst (sqL_of hL5) (nds_dp hd5), shaped_nd dfit.wf dfit.depth, shaped_nds (fun e he => (donefit e he).wf) (fun e he => (donefit e he).depth), _, rfl, ?_⟩
        rw [any_nd dfit donefit]
        by_cases q2 : d.text ∈ done5.map Ci.text
        · rw [decide_eq_true q2]
          rw [if_pos q2] at hu5
          exact iteF ⟨⟨_, rfl⟩, s5, hp5, hps5, acc5, done5, hL5, hd5, hu5⟩
        · rw [decide_eq_false q2]
          rw [if_neg q2] at hu5
          refine iteT ?_
          refine ⟨_, rfl, .inl ⟨rfl, _, sqL_of hL5⟩, _, rfl, o, _, _, rfl, rfl, hL5, by rw [sizeLine_eq]; omega, ?_⟩
          have k5 : Kt H6 (L2.upd H6 o (.lst (acc5 ++ [y]))) := Kt.put hL5 (by simp)
          refine ⟨⟨_, rfl⟩, fun a u e => ?_, by rw [upd_ne npo]; exact hp5, nds_mono k5 hps5, acc5 ++ [y], done5 ++ [d], upd_same, nds_app (nds_mono k5 hd5) (nds_one (nd_mono k5 f2)), ?_⟩
          · rw [upd_ne (ne_of_none e no)]
            exact s5 a u e
          · rw [hu5, List.map_append, List.append_assoc]
            rfl
      · rintro σ H5 ⟨⟨a5', rfl⟩, s5, hp5, hps5, acc5, done5, hL5, hd5, hu5⟩
        rw [lp, List.drop_length, List.nil_append] at hu5
        exact ⟨⟨_, _, _, rfl⟩, s5, acc5, done5, hL5, hd5, hu5⟩
    · rintro σ H2 ⟨⟨a3, a4, a5, rfl⟩, s2, acc, done, hL, hd, hu⟩
      have eu : uniq (flat k cs) = done := by
        rw [hu, lc, List.drop_length]
        show done ++ [] = done
        rw [List.append_nil]
      have hm : mkC k cs = mkN k done := by
        unfold mkC
        rw [eu]
      have hne2 : done ≠ [] := by
        rw [← eu]
        exact uniq_ne (flat_ne hwf hne)
      have donefit : ∀ e ∈ done, Fit e := fun e he => ufit e (by rw [eu]; exact he)
      have lacc : acc.length = done.length := nds_len hd
      have ldone : done.length ≤ 60 := by rw [← eu]; omega
      have sdone : sizes done ≤ 60 := by
        rw [← eu]
        exact Nat.le_trans uniqG_sizes (by rw [flat_sizes]; exact hsz)
      rw [hm] at q
      refine ⟨_, rfl, o, acc, rfl, .inl (sqL_of hL), rfl, _, rfl, ?_⟩
      by_cases h1 : done.length = 1
      · rw [show decide (V.int ((acc.length : Nat) : Int) = V.int 1) = true from decide_eq_true (by rw [V.int.injEq]; omega)]
        refine iteT ?_
        obtain ⟨c, rfl⟩ : ∃ c, done = [c] := by
          match done, h1 with
          | [c], _ => exact ⟨c, rfl⟩
        cases hd with
        | cons ho hn =>
        cases hn
        exact ⟨_, rfl, o, _, 0, _, rfl, rfl, sqL_of hL, rfl, q _ H2 s2 ho⟩
      · rw [show decide (V.int ((acc.length : Nat) : Int) = V.int 1) = false from decide_eq_false (by rw [V.int.injEq]; omega)]
        refine iteF ?_
        have em : mkN k done = .node k done := by
          match done, h1, hne2 with
          | [], _, z => exact absurd rfl z
          | [c], z, _ => exact absurd rfl z
          | c :: d :: r, _, _ => rfl
        rw [em] at q
        have hsg : (if k = true then V.str " & " else V.str " | ") = V.str (sgn k) := by cases k <;> rfl
        refine ⟨_, rfl, rfl, _, rfl, ?_⟩
        rw [kS_pool]
        have fin : ∀ (z : V), z = V.str (sgn k) → tRet (tTup (tCons (tVar 0) (tCons (tCB (fun xs H Q => ∃ p ys, xs = [V.ref p] ∧ ((SqL K H p ys ∧ ∀ l, H l = none → Q (.ref l) (L2.upd H l (.tup ys))) ∨ (SqT K H p ys ∧ Q (.ref p) H))) (tCons (tVar 2) tNil)) (tCons (tM1 (fun x xs H Q => ∃ a p ys, x = V.str a ∧ xs = [V.ref p] ∧ (SqL K H p (ys.map V.str) ∨ SqT K H p (ys.map V.str)) ∧ (ys.map (·.length)).sum + ys.length * a.length ≤ 16777216 ∧ Q (.str (Txt.join a ys)) H) (tVar 6) (tLc (iList K (tVar 2)) (gName 5) tYes (tIf (tTest (tOp rEq (tOp (rIxT K) (tVar 5) (tC (.int 0))) (tC (.str "eye")))) (tOp (rIxT K) (tVar 5) (tC (.int 2))) (tOp (fun x y H Q => ∃ i j, x = V.str i ∧ y = V.str j ∧ i.length + j.length ≤ sizeLine ∧ Q (V.str (i ++ j)) H) (tOp (fun x y H Q => ∃ i j, x = V.str i ∧ y = V.str j ∧ i.length + j.length ≤ sizeLine ∧ Q (V.str (i ++ j)) H) (tC (.str "(")) (tOp (rIxT K) (tVar 5) (tC (.int 2)))) (tC (.str ")")))) [5])) tNil)))) { nx := fun _ H' => Q .non H', rt := Q } [some (.str (kS k)), some (.ref l), some (.ref o), a3, a4, a5, some z] H2 := by
          rintro z rfl
          refine ⟨_, rfl, _, rfl, o, acc, rfl, .inl ⟨sqL_of hL, fun t nt => ?_⟩⟩
          have s3 : Same H2 (L2.upd H2 t (.tup acc)) := same_upd nt
          have hd3 := nds_mono (Kt.of s3) hd
          refine ⟨_, rfl, ⟨_, rfl⟩, _, rfl, o, rfl, ⟨acc, sqL_of (s3 _ _ hL)⟩, fun D nD => ?_⟩
          refine lc_nd (walk_list (K := K) (a := o) (xs := acc)) (fun c => .str (wrap c.isEye c.text)) hd3 (by omega) nD (fun _ s => sqL_of (s _ _ (s3 _ _ hL))) ?_ ?_
          · intro v c H6 Nx hcm s6 h6 hN
            obtain ⟨a, y, rfl, ha⟩ := nd_three h6
            have lt := (donefit c hcm).text
            refine ⟨rfl, _, rfl, a, _, 0, _, rfl, rfl, sqT_of ha, rfl, rfl, _, rfl, ?_⟩
            rw [kind_eye]
            have hN2 := hN H6 (Same.refl _)
            unfold wrap at hN2
            cases e : c.isEye with
            | true =>
              rw [e, if_pos rfl] at hN2
              exact iteT ⟨_, rfl, a, _, 2, _, rfl, rfl, sqT_of ha, rfl, hN2⟩
            | false =>
              rw [e, if_neg (by decide)] at hN2
              refine iteF ⟨_, rfl, a, _, 2, _, rfl, rfl, sqT_of ha, rfl, ?_⟩
              have e1 : ("(" : Str).length = 1 := rfl
              have e2 : (")" : Str).length = 1 := rfl
              refine ⟨_, _, rfl, rfl, by rw [e1, sizeLine_eq]; omega, _, _, rfl, rfl, by rw [len_app, e1, e2, sizeLine_eq]; omega, hN2⟩
          · intro H4 s4 hD4
            have ew : wtexts done = done.map fun c => wrap c.isEye c.text := wtexts_eq done
            refine ⟨_, D, wtexts done, rfl, rfl, .inl (sqL_of (by rw [hD4, ew, List.map_map]; rfl)), ?_, ?_⟩
            · have z1 := wlens_len (ps := done) 20 (fun c hc => (donefit c hc).wf) fun c hc => (donefit c hc).depth
              unfold wlens at z1
              have z2 : (wtexts done).length = done.length := by rw [ew, List.length_map]
              rw [z2, len_sgn]
              omega
            refine ⟨(show 3 ≤ sizeLine by decide), fun p np => ?_⟩
            have s24 := s3.trans s4
            refine q _ _ (s2.trans (s24.trans (same_upd np))) (.node (by rw [Ci.text]; exact upd_same) ((same_upd np) _ _ (s4 _ _ upd_same)) (nds_mono (Kt.of (s24.trans (same_upd np))) hd))
        cases k with
        | true => exact iteT (fin _ rfl)
        | false => exact iteF (fin _ rfl)
def spKind : Sp := fun vs H Q _ => ∃ b : Addr, vs = [.ref b] ∧ Bag H b ∧ ∀ (k : Bool) (H' : Hp), Kp b H H' → Q (.str (kS k)) H'
theorem C__law_kind (T : Txt K mg) : Cal P w K mg base 3 "_law_kind" spKind [] := by
  have C__law_of : Cal P w K mg base 2 "_law_of" (spOf K) [] := C__law_of T
  obtain ⟨fd, F⟩ := T.F__law_kind
  have b : Binds K fd ["_law_bag_here"] [] := FunD.bindsN F fun _ _ _ _ _ _ us hl => match us, hl with | [_], _ => rfl
  refine calD F T.g__law_kind b sc__law_kind (fun vs H Q E h => ?_) (fun cdv A outer s H vs Q E hr h => ?_)
  · obtain ⟨b, rfl, _⟩ := h
    rfl
  · obtain ⟨b, rfl, B, q⟩ := h
    refine ⟨_, (pss_one (ps_ret (pe_c C__law_of hr (by omega) rfl (pa_cons (pv 0) (pa_cons (pe_lst (pa_cons pe_str (pa_cons pe_str pa_nil))) pa_nil))))), ?_⟩
    refine ⟨_, rfl, (show 2 ≤ sizeLine by decide), fun p np => ?_⟩
    have k1 := Kp.of (b := b) (same_upd (o := .lst [.str "pool", .str "common"]) np)
    refine ⟨b, _, rfl, k1.bag B, .inl ⟨p, _, rfl, B.ne np, sqL_of upd_same, (show 0 < 2 by decide), (show 2 ≤ 1000000 by decide), fun j v o hv k2 => ?_⟩⟩
    obtain ⟨z, hz, rfl⟩ := get_str (ss := [_, _]) hv
    simp only [List.mem_cons, List.not_mem_nil, or_false] at hz
    rcases hz with e | e
    · rw [e]
      exact q true _ (k1.trans k2)
    · rw [e]
      exact q false _ (k1.trans k2)
/-- names at an address that is not the bag's -/
def Nms0 (K : PySem.W.Frag) (H : Hp) (b nl : Addr) (zs : List Str) : Prop := nl ≠ b ∧ SqL K H nl (zs.map V.str) ∧ 0 < zs.length ∧ zs.length ≤ 100 ∧ ∀ z ∈ zs, isName z = true
theorem Nms0.kp {H H' : Hp} {b nl : Addr} {zs : List Str} (h : Nms0 K H b nl zs) (k : Kp b H H') : Nms0 K H' b nl zs := ⟨h.1, sqL_kp k h.1 h.2.1, h.2.2⟩
def spLEye (K : PySem.W.Frag) : Sp := fun vs H Q _ => ∃ (b nl : Addr) (zs : List Str), vs = [.ref b, .ref nl] ∧ Bag H b ∧ Nms0 K H b nl zs ∧ ∀ (v : V) (n : Str) (H' : Hp), n ∈ zs → isName n = true → Kp b H H' → Nd H' v (.eye n) → Q v H'
theorem C__law_eye (T : Txt K mg) : Cal P w K mg base 3 "_law_eye" (spLEye K) [] := by
  have C__law_of : Cal P w K mg base 2 "_law_of" (spOf K) [] := C__law_of T
  have C__law_leaf : Cal P w K mg base 1 "_law_leaf" spLeaf [] := C__law_leaf T
  obtain ⟨fd, F⟩ := T.F__law_eye
  have b : Binds K fd ["_law_bag_here", "_law_names_here"] [] := FunD.bindsN F fun _ _ _ _ _ _ us hl => match us, hl with | [_, _], _ => rfl
  refine calD F T.g__law_eye b sc__law_eye (fun vs H Q E h => ?_) (fun cdv A outer s H vs Q E hr h => ?_)
  · obtain ⟨b, nl, zs, rfl, _⟩ := h
    rfl
  · obtain ⟨b, nl, zs, rfl, B, hn, q⟩ := h
    obtain ⟨n1, n2, n3, n4, n5⟩ := id hn
    refine ⟨_, (pss_one (ps_ret (pe_c C__law_leaf hr (by omega) rfl (pa_cons (pe_c C__law_of hr (by omega) rfl (pa_cons (pv 0) (pa_cons (pv 1) pa_nil))) pa_nil)))), ?_⟩
    refine ⟨_, rfl, _, rfl, b, _, rfl, B, .inl ⟨nl, _, rfl, n1, n2, by rw [List.length_map]; exact n3, by rw [List.length_map]; omega, fun j v o hv k2 => ?_⟩⟩
    obtain ⟨z, hz, rfl⟩ := get_str hv
    refine ⟨z, rfl, fun v H' s hnd => ?_⟩
    exact q v z H' hz (n5 z hz) (k2.trans (Kp.of s)) hnd

end
end K34
namespace K34
open PySem PySem.Spec PyProof.Rows L2 RZ LL LC LS LR LD LN LY LOr
open C8 (Cal Mak Met CalAt pe_c pe_mk pe_mt pe_mt0 pe_gc)
section
variable {P : Program} {w : World} {K : PySem.W.Frag} {mg : Str → Option Value} {base : Heap}
/-! ### circles: pools and commons built -/
def spBuilt (K : PySem.W.Frag) : Sp := fun vs H Q _ => ∃ (k : Bool) (t : Addr) (rows : List V) (cs : List Ci), vs = [.str (kS k), .ref t] ∧ H t = some (.tup rows) ∧ COs (cC K) H rows cs ∧ cs ≠ [] ∧ sizes cs ≤ 900 ∧ (∀ c ∈ cs, c.wf = true) ∧ Fit (mkC k cs) ∧
  ∀ (v : V) (H' : Hp), Same H H' → CO (cC K) H' v (mkC k cs) → Q v H'
theorem C_built_circle (T : TxtW w K mg) : Cal P w K mg base 8 "built_circle" (spBuilt K) [] := by
  have C_unlike_rows : Cal P w K mg base 4 "unlike_rows" (spUnlike K) [] := C_unlike_rows T.toTxt
  have C_flat_parts : Cal P w K mg base 2 "flat_parts" (spFlat K) [] := C_flat_parts T.toTxt
  have M_Circle : Mak P w K mg base 5 "Circle" (cC K) (spInit K) [] := M_Circle T
  obtain ⟨fd, F⟩ := T.F_built_circle
  have b : Binds K fd ["kind", "circles"] [] := FunD.bindsN F fun _ _ _ _ _ _ us hl => match us, hl with | [_, _], _ => rfl
  refine calD F T.g_built_circle b sc_built_circle (fun vs H Q E h => ?_) (fun cdv A outer s H vs Q E hr h => ?_)
  · obtain ⟨k, t, rows, cs, rfl, _⟩ := h
    rfl
  · obtain ⟨k, t, rows, cs, rfl, ht, hc, hne, hsz, hwf, hfit, q⟩ := h
    have cl := T_cls T.toTxt
    have lr : rows.length = cs.length := cos_len hc
    have pos : 0 < cs.length := List.length_pos_iff.mpr hne
    have l900 : cs.length ≤ 900 := Nat.le_trans (sizes_len hwf) hsz
    refine ⟨_, (pss_cons (ps_if (pt_cmpR op_eq (pe_callB call_len_seq (by rfl) T.z_len PySem.boot_len (pa_cons (pv 1) pa_nil)) pe_int (nomark _))
    (pss_one ps_never)
    pss_nil)
  (pss_cons (ps_for PassesOwn.never rfl (LE.pi_enumT (by rfl) T.z_enumerate (pa_cons (pv 1) pa_nil)) (pg_tup rfl (pgs_cons (pg_name (i := 2) sc_built_circle.nd rfl (Or.inl rfl)) (pgs_cons (pg_name (i := 3) sc_built_circle.nd rfl (Or.inl rfl)) pgs_nil)))
    (pss_one (ps_if (pt_not (pt_val (pe_callB call_isi (by rfl) T.z_isinstance (by decide +kernel) (pa_cons (pv 3) (pa_cons (pe_gc rfl T.v_Circle) pa_nil)))))
      (pss_one ps_never)
      pss_nil)))
  (pss_cons (ps_set (i := 4) sc_built_circle.nd rfl (Or.inl rfl) (pe_c C_unlike_rows hr (by omega) rfl (pa_cons (pe_lc2 (own := [("circle", 3), ("part", 5)]) (vs1 := [5]) (g := gName 3) (g1 := gName 5) (tt := tYes) (tt1 := tYes) (wi1 := iList K (tCall (spFlat K) [] C8.E0 (tCons (tVar 0) (tCons (tVar 3) tNil)))) rfl sc_built_circle.nd (pi_tup (pv 1)) (blkOk_by (N := N_built_circle) (sc := defScope s_built_circle) (by decide +kernel)) (by decide) (fun _ _ _ _ _ => pg_name (i := 3) sc_built_circle.nd rfl (Or.inl rfl)) (fun _ _ _ _ _ => pts_nil) (fun _ _ _ _ _ => (pi_list (pe_c C_flat_parts hr (by omega) rfl (pa_cons (pv 0) (pa_cons (pv 3) pa_nil))))) (fun _ _ _ _ _ => pg_name (i := 5) sc_built_circle.nd rfl (Or.inl rfl)) (fun _ _ _ _ _ => pts_nil) (fun _ _ _ _ _ => (pv 5))) pa_nil)))
  (pss_cons (ps_if (pt_cmpR op_eq (pe_callB call_len_seq (by rfl) T.z_len PySem.boot_len (pa_cons (pv 4) pa_nil)) pe_int (nomark _))
    (pss_one (ps_ret (pe_ix ix_list (pv 4) pe_int (fun _ _ => rfl))))
    pss_nil)
  (pss_cons (ps_if (pt_cmpR op_gt (pe_callB (cr_sum rfl) (by rfl) T.z_sum (by decide +kernel) (pa_cons (pe_lc (own := [("part", 5)]) (g := gName 5) (tt := tYes) (te := (tFld K (tVar 5) "size")) rfl sc_built_circle.nd (pi_list (pv 4)) (blkOk_by (N := N_built_circle) (sc := defScope s_built_circle) (by decide +kernel)) (fun _ _ _ _ _ => pg_name (i := 5) sc_built_circle.nd rfl (Or.inl rfl)) (fun _ _ _ _ _ => pts_nil) (fun _ _ _ _ _ => (pe_fld (pv 5) (by rfl)))) pa_nil)) (ClX.pe_cval (pe_gc rfl T.v_Circle)) (nomark _))
    (pss_one ps_never)
    pss_nil)
  (pss_cons (ps_if (pt_cmpR op_gt (pe_op op_add pe_int (pe_callB (cr_max rfl) (by rfl) T.z_max (by decide +kernel) (pa_cons (pe_lc (own := [("part", 5)]) (g := gName 5) (tt := tYes) (te := (tFld K (tVar 5) "depth")) rfl sc_built_circle.nd (pi_list (pv 4)) (blkOk_by (N := N_built_circle) (sc := defScope s_built_circle) (by decide +kernel)) (fun _ _ _ _ _ => pg_name (i := 5) sc_built_circle.nd rfl (Or.inl rfl)) (fun _ _ _ _ _ => pts_nil) (fun _ _ _ _ _ => (pe_fld (pv 5) (by rfl)))) pa_nil))) (pe_gc rfl T.v_DEEPEST) (nomark _))
    (pss_one ps_never)
    pss_nil)
  (pss_one (ps_ret (pe_mk M_Circle hr (by omega) rfl (pa_cons (pv 0) (pa_cons pe_str (pa_cons (pv 4) pa_nil)))))))))))), ?_⟩
    refine ⟨_, rfl, t, rows, rfl, .inr (sqT_of ht), rfl, _, rfl, ?_⟩
    rw [show decide (V.int ((rows.length : Nat) : Int) = V.int 0) = false from decide_eq_false (by rw [V.int.injEq]; omega)]
    refine iteF ?_
    refine ⟨_, rfl, t, rows, rfl, sqT_of ht, ?_⟩
    refine for_it (LE.walk_enumT (K := K) (a := t) (xs := rows)) (fun i σ H2 => (∃ a2 a3, σ = [some (.str (kS k)), some (.ref t), a2, a3, none, none]) ∧ Same H H2) ⟨⟨none, none, rfl⟩, Same.refl _⟩ (fun i σ H2 _ z => sqT_of (z.2 _ _ ht)) ?_ ?_
    · rintro i x σ H2 H3 hi ⟨⟨a2, a3, rfl⟩, s2⟩ ⟨T', x1, x2, rfl, nT, rfl, e1, e2⟩
      obtain ⟨c, g1, g2⟩ := cos_get hc e2
      cases e1
      have s3 : Same H2 (upd H2 T' (.tup [.int (i : Nat), x2])) := same_upd nT
      obtain ⟨a, ax, ar, at', rfl, ha⟩ := co_ref (co_mono (Kc.of (s2.trans s3)) g2)
      refine ⟨T', _, rfl, sqT_of upd_same, rfl, _, _, rfl, _, _, rfl, rfl, ?_⟩
      refine ⟨_, rfl, _, _, _, _, true, rfl, .own _, tyx_ins cl T.x_ins ha, of_decide_eq_true T.x_isC, _, rfl, iteF ?_⟩
      exact ⟨⟨_, _, rfl⟩, s2.trans s3⟩
    · rintro σ H2 ⟨⟨a2, a3, rfl⟩, s2⟩
      have hc2 := cos_mono (Kc.of s2) hc
      have ht2 := s2 _ _ ht
      refine ⟨_, rfl, t, rfl, ⟨rows, sqT_of ht2⟩, fun D nD => ?_⟩
      refine lc2_list walk_tup (fun i acc H3 => COs (cC K) H3 acc (flat k (cs.take i))) nD (fun _ s => sqT_of (s _ _ ht2)) .nil ?_ ?_ ?_ ?_
      · intro i acc H3 H4 e hk z
        exact cos_mono (Kc.lst e hk) z
      · rintro i x H3 H4 acc Nx hi s3 hD3 hr3 ⟨rfl, hx⟩ hN
        obtain ⟨c, g1, g2⟩ := cos_get hc2 hx
        have g3 := co_mono (Kc.of s3) g2
        have g4 : cs.take (i + 1) = cs.take i ++ [c] := take_one g1
        have ef : flat k (cs.take (i + 1)) = flat k (cs.take i) ++ flat1 k c := by
          rw [g4, flat_app]
          unfold flat
          rw [List.flatMap_cons, List.flatMap_nil, List.append_nil]
        refine ⟨rfl, _, rfl, _, rfl, k, x, c, rfl, g3, fun p ys np hys => ?_⟩
        have npD : p ≠ D := fun z => by
          rw [z, hD3] at np
          cases np
        have s4 := same_upd (o := .lst ys) np
        refine hN _ p ys _ (by rfl) s4 npD (sqL_of upd_same) ?_ ?_
        · have z1 := cos_len hr3
          have z2 := cos_len hys
          have z3 := flat_len (k := k) (cs := cs.take (i + 1)) fun d hd => hwf d (List.mem_of_mem_take hd)
          have z4 := sizes_take cs (i + 1)
          rw [ef, List.length_append] at z3
          rw [List.length_append]
          omega
        · rw [ef]
          exact cos_app (cos_mono (Kc.of s4) hr3) (cos_mono (Kc.of s4) hys)
      · intro x σ2 H3 Nx h2 hN
        exact ⟨by simp [wipe], _, wipe1_set (by rw [h2]; exact (show 5 < 6 by decide)), hN⟩
      · intro H3 acc s3 hL hr3
        rw [lr, List.take_length] at hr3
        have s23 := s2.trans s3
        have lf := flat_len (k := k) hwf
        have la := cos_len hr3
        refine ⟨D, acc, _, rfl, sqL_of hL, hr3, by omega, fun H4 p out s4 np hp hout => ?_⟩
        have s24 := s23.trans s4
        have lo := cos_len hout
        refine ⟨_, rfl, p, out, rfl, .inl (sqL_of hp), rfl, _, rfl, ?_⟩
        have hm : mkC k cs = mkN k (uniq (flat k cs)) := rfl
        have hpart : ∀ c ∈ uniq (flat k cs), c.wf = true ∧ c.isK k = false := fun c hc => flat_wf hwf c (uniqG_mem hc)
        have hne2 : uniq (flat k cs) ≠ [] := uniq_ne (flat_ne hwf hne)
        have hnd : ((uniq (flat k cs)).map Ci.text).Nodup := uniqG_nd.1
        generalize uniq (flat k cs) = us at hm hpart hne2 hnd hout lo
        by_cases h1 : us.length = 1
        · rw [show decide (V.int ((out.length : Nat) : Int) = V.int 1) = true from decide_eq_true (by rw [V.int.injEq]; omega)]
          refine iteT ?_
          obtain ⟨c, rfl⟩ : ∃ c, us = [c] := by
            match us, h1 with
            | [c], _ => exact ⟨c, rfl⟩
          cases hout with
          | cons ho hn =>
          cases hn
          refine ⟨_, rfl, p, _, 0, _, rfl, rfl, sqL_of hp, rfl, ?_⟩
          exact q _ H4 s24 (by rw [hm]; exact ho)
        · rw [show decide (V.int ((out.length : Nat) : Int) = V.int 1) = false from decide_eq_false (by rw [V.int.injEq]; omega)]
          refine iteF ?_
          have em : mkC k cs = .node k us := by
            rw [hm]
            match us, h1, hne2 with
            | [], _, z => exact absurd rfl z
            | [c], z, _ => exact absurd rfl z
            | c :: d :: r, _, _ => rfl
          rw [em] at hfit q
          have sz : sizes us ≤ 60 := by
            have z := hfit.size
            rw [Ci.size] at z
            exact z
          have dp : 1 + depths us ≤ 20 := by
            have z := hfit.depth
            rw [Ci.depth] at z
            exact z
          have l60 : us.length ≤ 60 := Nat.le_trans (sizes_len fun c hc => (hpart c hc).1) sz
          refine ⟨_, rfl, p, rfl, ⟨out, sqL_of hp⟩, fun D2 nD2 => ?_⟩
          refine lc_co walk_list (fun c => .int ((c.size : Nat) : Int)) hout (by omega) nD2 (fun _ s => sqL_of (s _ _ hp)) ?_ ?_
          · intro v c H6 Nx hc s6 h6 hN
            cases h6 with
            | mk a1 a2 a3 a4 a5 =>
            exact ⟨rfl, _, rfl, _, _, _, _, _, rfl, a1, cl, T_no T.toTxt T.f_no_Circle_size, rfl, hN _ (Same.refl _)⟩
          · intro H6 s6 hL6
            refine ⟨D2, us.map fun c => ((c.size : Nat) : Int), rfl, sqL_of (by rw [hL6, List.map_map]; rfl), ?_⟩
            rw [sizes_sum]
            obtain ⟨u60, hu60⟩ := clsIntB_ok T.x_lim
            refine ⟨_, _, .int 60, u60, rfl, clsB_ok T.x_rdC, hu60, _, _, rfl, rfl, _, rfl, ?_⟩
            rw [decide_eq_false (by omega)]
            refine iteF ?_
            have hp6 := s6 _ _ hp
            have hout6 := cos_mono (Kc.of s6) hout
            refine ⟨_, rfl, p, rfl, ⟨out, sqL_of hp6⟩, fun D3 nD3 => ?_⟩
            refine lc_co walk_list (fun c => .int ((c.depth : Nat) : Int)) hout6 (by omega) nD3 (fun _ s => sqL_of (s _ _ hp6)) ?_ ?_
            · intro v c H7 Nx hc s7 h7 hN
              cases h7 with
              | mk a1 a2 a3 a4 a5 =>
              exact ⟨rfl, _, rfl, _, _, _, _, _, rfl, a1, cl, T_no T.toTxt T.f_no_Circle_depth, rfl, hN _ (Same.refl _)⟩
            · intro H7 s7 hL7
              have ne : 0 < (us.map fun c => ((c.depth : Nat) : Int)).length := by
                rw [List.length_map]
                exact List.length_pos_iff.mpr hne2
              refine ⟨D3, us.map fun c => ((c.depth : Nat) : Int), rfl, sqL_of (by rw [hL7, List.map_map]; rfl), ne, fun m hm1 hm2 => ?_⟩
              rw [depths_max hm1 hm2]
              refine ⟨_, _, rfl, rfl, _, _, rfl, rfl, _, rfl, ?_⟩
              rw [decide_eq_false (by omega)]
              refine iteF ?_
              refine ⟨_, rfl, _, rfl, ?_⟩
              intro x dx nx ndx nex
              have s27 := (s24.trans s6).trans s7
              have hp7 := (s6.trans s7) _ _ hp
              have hout7 := cos_mono (Kc.of (s6.trans s7)) hout
              have s8 : Same H7 (upd (upd H7 dx (.own x)) x (.ins (cC K) dx [])) := same_upd2 (same_upd ndx) (by rw [upd_ne (Ne.symm nex)]; exact nx)
              refine ⟨x, dx, p, .node k us, out, rfl, upd_same, .inl (sqL_of (s8 _ _ hp7)), cos_mono (Kc.of s8) hout7, hfit, fun H8 b8 hco => ⟨rfl, ?_⟩⟩
              refine q _ H8 (fun a o e => ?_) hco
              have e1 := s27 a o e
              have nax : a ≠ x := ne_of_none e1 nx
              exact b8 a o nax (s8 _ _ e1)
/-- pool(..), common(..), and the signs -/
def spPool (K : PySem.W.Frag) (k : Bool) : Sp := fun vs H Q _ => ∃ cs : List Ci, COs (cC K) H vs cs ∧ cs ≠ [] ∧ sizes cs ≤ 900 ∧ (∀ c ∈ cs, c.wf = true) ∧ Fit (mkC k cs) ∧ ∀ (v : V) (H' : Hp), Same H H' → CO (cC K) H' v (mkC k cs) → Q v H'
def spPoolT (K : PySem.W.Frag) (k : Bool) : Sp := fun vs H Q _ => ∃ (t : Addr) (rows : List V) (cs : List Ci), vs = [.ref t] ∧ H t = some (.tup rows) ∧ COs (cC K) H rows cs ∧ cs ≠ [] ∧ sizes cs ≤ 900 ∧ (∀ c ∈ cs, c.wf = true) ∧ Fit (mkC k cs) ∧ ∀ (v : V) (H' : Hp), Same H H' → CO (cC K) H' v (mkC k cs) → Q v H'
theorem spPool_to {k : Bool} {vs : List V} {H : Hp} {Q : VK} {E : XK} (h : spPool K k vs H Q E) : LO.spStar (spPoolT K k) vs H Q E := by
  obtain ⟨cs, hc, hne, hsz, hwf, hfit, q⟩ := h
  have l := cos_len hc
  have l2 := sizes_len hwf
  refine ⟨by rw [sizeLine_eq]; omega, fun p np => ⟨p, vs, cs, rfl, upd_same, cos_mono (Kc.of (same_upd np)) hc, hne, hsz, hwf, hfit, fun v H' s hco => q v H' ((same_upd np).trans s) hco⟩⟩
theorem calR_imp {k : Nat} {x : Str} {sp sp' : Sp} (c : LO.CalR P w K mg base k x sp) (h : ∀ vs H Q E, sp' vs H Q E → sp vs H Q E) : LO.CalR P w K mg base k x sp' := by
  obtain ⟨f, F, e, kp⟩ := c.ex
  exact ⟨f, F.imp h, e, kp⟩
theorem C_pool (T : TxtW w K mg) : LO.CalR P w K mg base 9 "pool" (spPool K true) := by
  have C_built_circle : Cal P w K mg base 8 "built_circle" (spBuilt K) [] := C_built_circle T
  obtain ⟨fd, F⟩ := T.F_pool
  refine calR_imp (LO.starD F T.g_pool sc_pool (fun kV doc pm an cdv ct rest => ?_) (sp := spPoolT K true) fun cdv A outer s H vs Q E hr h => ?_) fun vs H Q E => spPool_to
  · cases rest <;> rfl
  · obtain ⟨t, rows, cs, rfl, ht, hc, hne, hsz, hwf, hfit, q⟩ := h
    refine ⟨_, (pss_one (ps_ret (pe_c C_built_circle hr (by omega) rfl (pa_cons pe_str (pa_cons (pv 0) pa_nil))))), ?_⟩
    exact ⟨_, rfl, true, t, rows, cs, rfl, ht, hc, hne, hsz, hwf, hfit, q⟩
theorem C_common (T : TxtW w K mg) : LO.CalR P w K mg base 9 "common" (spPool K false) := by
  have C_built_circle : Cal P w K mg base 8 "built_circle" (spBuilt K) [] := C_built_circle T
  obtain ⟨fd, F⟩ := T.F_common
  refine calR_imp (LO.starD F T.g_common sc_common (fun kV doc pm an cdv ct rest => ?_) (sp := spPoolT K false) fun cdv A outer s H vs Q E hr h => ?_) fun vs H Q E => spPool_to
  · cases rest <;> rfl
  · obtain ⟨t, rows, cs, rfl, ht, hc, hne, hsz, hwf, hfit, q⟩ := h
    refine ⟨_, (pss_one (ps_ret (pe_c C_built_circle hr (by omega) rfl (pa_cons pe_str (pa_cons (pv 0) pa_nil))))), ?_⟩
    exact ⟨_, rfl, false, t, rows, cs, rfl, ht, hc, hne, hsz, hwf, hfit, q⟩
theorem M_Circle___and__ (T : TxtW w K mg) : Met P w K mg base 10 (cC K) "__and__" (fun vs H Q E => vs.length = 2 ∧ spPool K true vs H Q E) [] := by
  have C_pool : LO.CalR P w K mg base 9 "pool" (spPool K true) := C_pool T
  obtain ⟨fd, F⟩ := T.F_Circle___and__
  have b : Binds K fd ["self", "other"] [] := FunD.bindsN F fun _ _ _ _ _ _ us hl => match us, hl with | [_, _], _ => rfl
  refine ⟨_, fd, _, [], He.cls_ok T.f_cls_Circle, He.meth_ok T.f_meth_Circle___and__, fnD F sc_Circle___and__ (fun vs H Q E h => ?_) (fun cdv A outer s H vs Q E hr h => ?_), b, .nil⟩
  · exact h.1
  · obtain ⟨h1, h⟩ := h
    match vs, h1, h with
    | [a, b], _, h =>
    refine ⟨_, (pss_one (ps_ret (LO.pe_cR C_pool hr (by omega) rfl (pa_cons (pv 0) (pa_cons (pv 1) pa_nil))))), ?_⟩
    exact ⟨_, rfl, _, rfl, h⟩
theorem M_Circle___or__ (T : TxtW w K mg) : Met P w K mg base 10 (cC K) "__or__" (fun vs H Q E => vs.length = 2 ∧ spPool K false vs H Q E) [] := by
  have C_common : LO.CalR P w K mg base 9 "common" (spPool K false) := C_common T
  obtain ⟨fd, F⟩ := T.F_Circle___or__
  have b : Binds K fd ["self", "other"] [] := FunD.bindsN F fun _ _ _ _ _ _ us hl => match us, hl with | [_, _], _ => rfl
  refine ⟨_, fd, _, [], He.cls_ok T.f_cls_Circle, He.meth_ok T.f_meth_Circle___or__, fnD F sc_Circle___or__ (fun vs H Q E h => ?_) (fun cdv A outer s H vs Q E hr h => ?_), b, .nil⟩
  · exact h.1
  · obtain ⟨h1, h⟩ := h
    match vs, h1, h with
    | [a, b], _, h =>
    refine ⟨_, (pss_one (ps_ret (LO.pe_cR C_common hr (by omega) rfl (pa_cons (pv 0) (pa_cons (pv 1) pa_nil))))), ?_⟩
    exact ⟨_, rfl, _, rfl, h⟩
def spEye (K : PySem.W.Frag) : Sp := fun vs H Q _ => ∃ n : Str, vs = [.str n] ∧ isName n = true ∧ PyData.strOk n = true ∧ ∀ (v : V) (H' : Hp), Same H H' → CO (cC K) H' v (.eye n) → Q v H'
theorem C_eye (T : TxtW w K mg) : Cal P w K mg base 7 "eye" (spEye K) [] := by
  have C_is_name : Cal P w K mg base 1 "is_name" (spIsName K) [] := C_is_name T.toTxt
  have M_Circle : Mak P w K mg base 5 "Circle" (cC K) (spInit K) [] := M_Circle T
  obtain ⟨fd, F⟩ := T.F_eye
  have b : Binds K fd ["name"] [] := FunD.bindsN F fun _ _ _ _ _ _ us hl => match us, hl with | [_], _ => rfl
  refine calD F T.g_eye b sc_eye (fun vs H Q E h => ?_) (fun cdv A outer s H vs Q E hr h => ?_)
  · obtain ⟨z, rfl, _⟩ := h
    rfl
  · obtain ⟨z, rfl, hz, hok, q⟩ := h
    have l6 : z.length ≤ 6 := by
      have e := hz
      unfold isName at e
      rw [Bool.and_eq_true, Bool.and_eq_true, decide_eq_true_eq, decide_eq_true_eq] at e
      exact e.1.2
    have hfit : Fit (.eye z) := ⟨by rw [Ci.wf]; exact hz, by rw [Ci.size]; decide, by rw [Ci.depth]; decide⟩
    refine ⟨_, (pss_cons (ps_if (pt_not (pt_val (pe_c C_is_name hr (by omega) rfl (pa_cons (pv 0) pa_nil))))
    (pss_one ps_never)
    pss_nil)
  (pss_one (ps_ret (pe_mk M_Circle hr (by omega) rfl (pa_cons pe_str (pa_cons (pv 0) (pa_cons (pe_tup pa_nil) pa_nil))))))), ?_⟩
    refine ⟨_, rfl, .str z, true, rfl, .inl ⟨z, rfl, by omega, hok, hz.symm⟩, fun H1 s1 => ⟨_, rfl, iteF ?_⟩⟩
    refine ⟨_, rfl, (show 0 ≤ sizeLine by decide), fun t nt => ?_⟩
    intro x dx nx ndx nex
    have s2 : Same H (upd H1 t (.tup [])) := same_upd2 s1 nt
    have s8 : Same (upd H1 t (.tup [])) (upd (upd (upd H1 t (.tup [])) dx (.own x)) x (.ins (cC K) dx [])) := same_upd2 (same_upd ndx) (by rw [upd_ne (Ne.symm nex)]; exact nx)
    refine ⟨x, dx, t, .eye z, [], rfl, upd_same, .inr (s8 _ _ upd_same), .nil, hfit, fun H8 b8 hco => ⟨rfl, ?_⟩⟩
    refine q _ H8 (fun a o e => ?_) hco
    have e1 := s2 a o e
    exact b8 a o (ne_of_none e1 nx) (s8 _ _ e1)

end
end K34
namespace K34
open PySem PySem.Spec PyProof.Rows L2 RZ LL LC LS LR LD LN LY LOr
open C8 (Cal Mak Met CalAt pe_c pe_mk pe_mt pe_mt0 pe_gc)
section
variable {P : Program} {w : World} {K : PySem.W.Frag} {mg : Str → Option Value} {base : Heap}
/-! ### the scanner -/
abbrev sC (K : PySem.W.Frag) : Addr := He.ga K "Scanner"
def spSc (K : PySem.W.Frag) (f : Sc → Nat → Bool × Sc) : Sp := fun vs H Q _ => ∃ (x dx l : Addr) (s : Sc) (c : Nat), vs = [.ref x, .str (chr c)] ∧ Scn (sC K) H x dx l s ∧ s.sg.length ≤ 1000 ∧
  ∀ H', Kb x l H H' → Scn (sC K) H' x dx l (f s c).2 → Q (.bl (f s c).1) H'
theorem no_sc (T : Txt K mg) {f : Str} (h : (He.Fa.noat "Scanner" f).ok K = true) : NoAttr K (sC K) f := He.noat_ok h
theorem cl_sc (T : Txt K mg) : Cls K (sC K) := He.cls_ok T.f_cls_Scanner
theorem M_Scanner_begins_item (T : Txt K mg) : Met P w K mg base 1 (sC K) "begins_item" (spSc K beg) [] := by
  obtain ⟨fd, F⟩ := T.F_Scanner_begins_item
  have b : Binds K fd ["self", "letter"] [] := FunD.bindsN F fun _ _ _ _ _ _ us hl => match us, hl with | [_, _], _ => rfl
  refine ⟨_, fd, _, [], He.cls_ok T.f_cls_Scanner, He.meth_ok T.f_meth_Scanner_begins_item, fnD F sc_Scanner_begins_item (fun vs H Q E h => ?_) (fun cdv A outer s H vs Q E hr h => ?_), b, .nil⟩
  · obtain ⟨x, dx, l, s, c, rfl, _⟩ := h
    rfl
  · obtain ⟨x, dx, l, s, c, rfl, hs, hl, q⟩ := h
    obtain ⟨h1, h2, h3, h4⟩ := id hs
    have cl := cl_sc T
    refine ⟨_, (pss_cons (ps_if (pt_cmpR op_eq (pv 1) pe_str (nomark _))
    (pss_cons (ps_expr (pe_bm PySem.F.plainAttrs_list PySem.F.slot_list_append PySem.F.type_list_append mt_append (pe_fld (pv 0) (by rfl)) (pa_cons pe_str pa_nil)))
    (pss_one (ps_ret (pe_cmpR op_le (pe_op op_sub (pe_callB call_len_seq (by rfl) T.z_len PySem.boot_len (pa_cons (pe_fld (pv 0) (by rfl)) pa_nil)) pe_int) (pe_gc rfl T.v_OPEN) (nomark _)))))
    pss_nil)
  (pss_cons (ps_fld (pv 0) pe_str rfl)
  (pss_cons (ps_fld (pv 0) pe_int rfl)
  (pss_one (ps_ret (pe_cmpR op_in_sign (pv 1) (pe_gc rfl T.v_LETTERS) (by rfl))))))), ?_⟩
    refine ⟨_, rfl, rfl, _, rfl, ?_⟩
    unfold beg at q
    refine ite2 (fun e => ?_) (fun e => ?_)
    · have e1 : chr c = "(" := by simpa using e
      rw [if_pos e1] at q
      refine ⟨_, rfl, _, _, dx, _, _, rfl, h1, cl, no_sc T T.f_no_Scanner_signs, rfl, .inl ⟨rfl, _, sqL_of h2⟩, l, _, _, rfl, rfl, h2, by rw [List.length_map, sizeLine_eq]; omega, ?_⟩
      have hx : upd H l (.lst (s.sg.map V.str ++ [V.str ""])) x = some (.ins (sC K) dx (sfs s l)) := by rw [upd_ne (Ne.symm hs.ne)]; exact h1
      have el : s.sg.map V.str ++ [V.str ""] = (s.sg ++ [("" : Str)]).map V.str := by simp
      refine ⟨_, rfl, _, _, dx, _, _, rfl, hx, cl, no_sc T T.f_no_Scanner_signs, rfl, l, _, rfl, .inl (sqL_of upd_same), _, _, rfl, rfl, _, _, rfl, rfl, ?_⟩
      have eq2 : (decide (((s.sg.map V.str ++ [V.str ""]).length : Nat) - 1 ≤ (20 : Int))) = decide (((s.sg.length : Nat) : Int) + 1 - 1 ≤ 20) := by
        rw [List.length_append, List.length_map]
        rfl
      have e3 := q (upd H l (.lst (s.sg.map V.str ++ [V.str ""]))) (Kb.refl x l H).l ⟨hx, by rw [upd_same, el], by simp, by rw [List.length_append]; simp; omega⟩
      rw [← eq2] at e3
      exact e3
    · have e1 : ¬ chr c = "(" := by simpa using e
      rw [if_neg e1] at q
      refine ⟨_, rfl, x, _, dx, _, rfl, h1, cl, no_sc T T.f_no_Scanner_awaited, by exact (show 3 < 1000 by decide), ?_⟩
      refine ⟨_, rfl, x, _, dx, _, rfl, upd_same, cl, no_sc T T.f_no_Scanner_letters, by exact (show 3 < 1000 by decide), ?_⟩
      refine ⟨_, rfl, c, LET, rfl, rfl, ?_⟩
      refine q _ (Kb.refl x l H).x.x ⟨upd_same, by rw [upd_ne hs.ne, upd_ne hs.ne]; exact h2, h3, h4⟩
theorem inV_str (z : Str) (xs : List Str) : inV (.str z) (xs.map V.str) = decide (z ∈ xs) := by
  unfold inV
  rw [List.any_map, Bool.eq_iff_iff]
  simp [eqV, List.any_eq_true]
theorem last_at {xs : List Str} (h : xs ≠ []) : atI (xs.map V.str) (-1) = some (.str (xs.getLastD "")) := by
  have e := List.dropLast_concat_getLast h
  have e2 : xs.getLastD "" = xs.getLast h := by
    cases xs with
    | nil => exact absurd rfl h
    | cons a r => simp [List.getLastD, List.getLast]
  rw [e2]
  conv => lhs; rw [← e]
  rw [List.map_append]
  exact atI_last _ _
theorem last_set {xs : List Str} {v : Str} (h : xs ≠ []) : ∃ j, ixN (xs.map V.str).length (-1) = some j ∧ (xs.map V.str).set j (.str v) = (xs.dropLast ++ [v]).map V.str := by
  have hl : 0 < xs.length := List.length_pos_iff.mpr h
  refine ⟨xs.length - 1, ?_, ?_⟩
  · rw [List.length_map]
    unfold ixN
    rw [if_neg (by decide), if_pos (by omega)]
    congr 1
    omega
  · have e := List.dropLast_concat_getLast h
    have e3 : (xs.map V.str).set (xs.length - 1) (.str v) = (xs.set (xs.length - 1) v).map V.str := by rw [List.map_set]
    rw [e3]
    congr 1
    conv => lhs; rw [← e]
    rw [List.set_append_right _ _ (by simp)]
    simp
theorem M_Scanner_takes_sign (T : Txt K mg) : Met P w K mg base 1 (sC K) "takes_sign" (spSc K sig) [] := by
  obtain ⟨fd, F⟩ := T.F_Scanner_takes_sign
  have b : Binds K fd ["self", "letter"] [] := FunD.bindsN F fun _ _ _ _ _ _ us hl => match us, hl with | [_, _], _ => rfl
  refine ⟨_, fd, _, [], He.cls_ok T.f_cls_Scanner, He.meth_ok T.f_meth_Scanner_takes_sign, fnD F sc_Scanner_takes_sign (fun vs H Q E h => ?_) (fun cdv A outer s H vs Q E hr h => ?_), b, .nil⟩
  · obtain ⟨x, dx, l, s, c, rfl, _⟩ := h
    rfl
  · obtain ⟨x, dx, l, s, c, rfl, hs, hl, q⟩ := h
    obtain ⟨h1, h2, h3, h4⟩ := id hs
    have cl := cl_sc T
    refine ⟨_, (pss_cons (ps_set (i := 2) sc_Scanner_takes_sign.nd rfl (Or.inl rfl) (pe_and (pe_cmpR op_in_seq (pv 1) (pe_tup (pa_cons pe_str (pa_cons pe_str pa_nil))) (by rfl)) (pe_one (pe_cmpR op_in_seq (pe_ix ix_list (pe_fld (pv 0) (by rfl)) (pe_un un_neg pe_int) (fun _ _ => rfl)) (pe_tup (pa_cons pe_str (pa_cons (pv 1) pa_nil))) (by rfl)))))
  (pss_cons (ps_asg (pv 1) (pg_sub (pe_fld (pv 0) (by rfl)) (pe_un un_neg pe_int) set_list))
  (pss_cons (ps_fld (pv 0) pe_str rfl)
  (pss_one (ps_ret (pv 2)))))), ?_⟩
    refine ⟨_, rfl, (show 2 ≤ sizeLine by decide), fun p np => ?_⟩
    have npl : l ≠ p := ne_of_none h2 np
    have npx : x ≠ p := ne_of_none h1 np
    refine ⟨p, _, rfl, .inr (sqT_of upd_same), rfl, rfl, _, rfl, ?_⟩
    have i1 : inV (.str (chr c)) [.str "&", .str "|"] = decide (chr c = "&" ∨ chr c = "|") := by
      have z := inV_str (chr c) ["&", "|"]
      simp only [List.map_cons, List.map_nil] at z
      rw [z]
      simp
    generalize e1 : upd H p (.tup [V.str "&", V.str "|"]) = H1
    have x1 : H1 x = some (.ins (sC K) dx (sfs s l)) := by rw [← e1, upd_ne npx]; exact h1
    have l1 : H1 l = some (.lst (s.sg.map V.str)) := by rw [← e1, upd_ne npl]; exact h2
    have b1 : Kb x l H H1 := by rw [← e1]; exact (Kb.refl x l H).new np
    obtain ⟨j, hj, hset⟩ := last_set (v := chr c) h3
    have tail : ∀ (r : Bool) (H2 : Hp), H2 x = some (.ins (sC K) dx (sfs s l)) → H2 l = some (.lst (s.sg.map V.str)) → Kb x l H H2 → r = (sig s c).1 →
        tSeq (tAsg (tVar 1) (gSub (tFld K (tVar 0) "signs") (tUn (rU fun i => V.int (-i)) (tC (V.int 1))) rSetL)) (tSeq (sFld K (tVar 0) (tC (V.str "blank")) "awaited") (tRet (tVar 2))) { nx := fun _ H' => Q .non H', rt := Q } ((start N_Scanner_takes_sign [V.ref x, V.str (chr c)]).set 2 (some (.bl r))) H2 := fun r H2 x2 l2 b2 er => by
      refine ⟨_, rfl, _, rfl, _, _, dx, _, _, rfl, x2, cl, no_sc T T.f_no_Scanner_signs, rfl, 1, rfl, l, _, -1, j, rfl, rfl, l2, hj, ?_⟩
      have x3 : upd H2 l (.lst ((s.sg.map V.str).set j (.str (chr c)))) x = some (.ins (sC K) dx (sfs s l)) := by rw [upd_ne (Ne.symm hs.ne)]; exact x2
      refine ⟨_, rfl, x, _, dx, _, rfl, x3, cl, no_sc T T.f_no_Scanner_awaited, by exact (show 3 < 1000 by decide), ?_⟩
      refine ⟨_, rfl, ?_⟩
      rw [er]
      refine q _ b2.l.x ⟨upd_same, ?_, ?_, ?_⟩
      · rw [upd_ne hs.ne, upd_same, hset]
        rfl
      · unfold sig
        simp
      · unfold sig
        simp
        omega
    simp only [Bool.false_eq_true, if_false]
    rw [i1]
    refine ite2 (fun e => ?_) (fun e => ?_)
    · refine ⟨_, rfl, _, _, dx, _, _, rfl, x1, cl, no_sc T T.f_no_Scanner_signs, rfl, 1, rfl, l, _, -1, _, rfl, rfl, sqL_of l1, last_at h3, ?_⟩
      refine ⟨_, rfl, (show 2 ≤ sizeLine by decide), fun p2 np2 => ?_⟩
      have i2 : inV (.str (s.sg.getLastD "")) [.str "", .str (chr c)] = decide (s.last = "" ∨ s.last = chr c) := by
        have z := inV_str (s.sg.getLastD "") ["", chr c]
        simp only [List.map_cons, List.map_nil] at z
        rw [z]
        unfold Sc.last
        simp
      refine ⟨p2, _, rfl, .inr (sqT_of upd_same), rfl, rfl, ?_⟩
      simp only [Bool.false_eq_true, if_false]
      rw [i2]
      have n2l : l ≠ p2 := ne_of_none l1 np2
      have n2x : x ≠ p2 := ne_of_none x1 np2
      refine tail _ _ (by rw [upd_ne n2x]; exact x1) (by rw [upd_ne n2l]; exact l1) (b1.new np2) ?_
      unfold sig
      rw [e]
      rfl
    · refine tail _ _ x1 l1 b1 ?_
      unfold sig
      have e3 : decide (chr c = "&" ∨ chr c = "|") = false := by simpa using e
      rw [e3]
      rfl
theorem M_Scanner_closes (T : Txt K mg) : Met P w K mg base 1 (sC K) "closes" (spSc K clo) [] := by
  obtain ⟨fd, F⟩ := T.F_Scanner_closes
  have b : Binds K fd ["self", "letter"] [] := FunD.bindsN F fun _ _ _ _ _ _ us hl => match us, hl with | [_, _], _ => rfl
  refine ⟨_, fd, _, [], He.cls_ok T.f_cls_Scanner, He.meth_ok T.f_meth_Scanner_closes, fnD F sc_Scanner_closes (fun vs H Q E h => ?_) (fun cdv A outer s H vs Q E hr h => ?_), b, .nil⟩
  · obtain ⟨x, dx, l, s, c, rfl, _⟩ := h
    rfl
  · obtain ⟨x, dx, l, s, c, rfl, hs, hl, q⟩ := h
    obtain ⟨h1, h2, h3, h4⟩ := id hs
    have cl := cl_sc T
    refine ⟨_, (pss_cons (ps_if (PW.pt (pw_or (pt_cmpR op_ne (pv 1) pe_str (nomark _)) (pw_or1 (pt_cmpR op_eq (pe_callB call_len_seq (by rfl) T.z_len PySem.boot_len (pa_cons (pe_fld (pv 0) (by rfl)) pa_nil)) pe_int (nomark _)))))
    (pss_one (ps_ret pe_bl))
    pss_nil)
  (pss_cons (ps_expr (pe_bm0 PySem.F.plainAttrs_list PySem.F.slot_list_pop PySem.F.type_list_pop mt_pop (pe_fld (pv 0) (by rfl))))
  (pss_cons (ps_fld (pv 0) pe_str rfl)
  (pss_one (ps_ret pe_bl))))), ?_⟩
    unfold clo at q
    have bad : (chr c ≠ ")" ∨ s.sg.length = 1) → Q (.bl false) H := fun e => by
      rw [if_pos e] at q
      exact q H (Kb.refl x l H) hs
    refine ⟨_, rfl, rfl, _, rfl, ?_⟩
    refine ite2 (fun e => iteT ?_) (fun e => ?_)
    · exact bad (.inl (by simpa using e))
    · have e1 : chr c = ")" := by simpa using e
      refine ⟨_, rfl, _, _, dx, _, _, rfl, h1, cl, no_sc T T.f_no_Scanner_signs, rfl, l, _, rfl, .inl (sqL_of h2), rfl, _, rfl, ?_⟩
      refine ite2 (fun e => ?_) (fun e => ?_)
      · exact bad (.inr (by
          have z : ((s.sg.length : Nat) : Int) = 1 := by simpa using e
          omega))
      · have e2 : ¬ s.sg.length = 1 := fun z => e (by simp [z])
        rw [if_neg (by intro z; rcases z with z | z; exact z e1; exact e2 z)] at q
        have hp : 0 < s.sg.length := List.length_pos_iff.mpr h3
        have elast : (s.sg.map V.str)[(s.sg.map V.str).length - 1]? = some (.str (s.sg.getLast h3)) := by
          rw [List.length_map, List.getElem?_map, List.getElem?_eq_getElem (by omega), List.getLast_eq_getElem]
          rfl
        refine ⟨_, rfl, _, _, dx, _, _, rfl, h1, cl, no_sc T T.f_no_Scanner_signs, rfl, .inl ⟨rfl, _, sqL_of h2⟩, l, _, _, rfl, rfl, h2, elast, ?_⟩
        have x3 : upd H l (.lst (s.sg.map V.str).dropLast) x = some (.ins (sC K) dx (sfs s l)) := by rw [upd_ne (Ne.symm hs.ne)]; exact h1
        refine ⟨_, rfl, x, _, dx, _, rfl, x3, cl, no_sc T T.f_no_Scanner_awaited, by exact (show 3 < 1000 by decide), ?_⟩
        refine q _ (Kb.refl x l H).l.x ⟨upd_same, ?_, ?_, ?_⟩
        · rw [upd_ne hs.ne, upd_same, List.map_dropLast]
        · intro z
          have z2 := congrArg List.length z
          rw [List.length_dropLast] at z2
          simp at z2
          omega
        · rw [List.length_dropLast]
          omega
def spEnd (K : PySem.W.Frag) : Sp := fun vs H Q _ => ∃ (x dx l : Addr) (s : Sc), vs = [.ref x] ∧ Scn (sC K) H x dx l s ∧ ∀ H', Same H H' → Q (.bl (fin s)) H'
theorem M_Scanner_can_end (T : Txt K mg) : Met P w K mg base 1 (sC K) "can_end" (spEnd K) [] := by
  obtain ⟨fd, F⟩ := T.F_Scanner_can_end
  have b : Binds K fd ["self"] [] := FunD.bindsN F fun _ _ _ _ _ _ us hl => match us, hl with | [_], _ => rfl
  refine ⟨_, fd, _, [], He.cls_ok T.f_cls_Scanner, He.meth_ok T.f_meth_Scanner_can_end, fnD F sc_Scanner_can_end (fun vs H Q E h => ?_) (fun cdv A outer s H vs Q E hr h => ?_), b, .nil⟩
  · obtain ⟨x, dx, l, s, rfl, _⟩ := h
    rfl
  · obtain ⟨x, dx, l, s, rfl, hs, q⟩ := h
    obtain ⟨h1, h2, h3, h4⟩ := id hs
    have cl := cl_sc T
    refine ⟨_, (pss_one (ps_ret (pe_and (pe_cmpR op_in_seq (pe_fld (pv 0) (by rfl)) (pe_tup (pa_cons pe_str (pa_cons pe_str pa_nil))) (by rfl)) (pe_one (pe_cmpR op_eq (pe_callB call_len_seq (by rfl) T.z_len PySem.boot_len (pa_cons (pe_fld (pv 0) (by rfl)) pa_nil)) pe_int (nomark _)))))), ?_⟩
    refine ⟨_, rfl, _, _, dx, _, _, rfl, h1, cl, no_sc T T.f_no_Scanner_awaited, rfl, (show 2 ≤ sizeLine by decide), fun p np => ?_⟩
    have npl : l ≠ p := ne_of_none h2 np
    have npx : x ≠ p := ne_of_none h1 np
    have s1 : Same H (upd H p (.tup [V.str "name", V.str "end"])) := same_upd np
    have i1 : inV (.str s.aw) [.str "name", .str "end"] = decide (s.aw = "name" ∨ s.aw = "end") := by
      have z := inV_str s.aw ["name", "end"]
      simp only [List.map_cons, List.map_nil] at z
      rw [z]
      simp
    refine ⟨p, _, rfl, .inr (sqT_of upd_same), rfl, rfl, _, rfl, ?_⟩
    simp only [Bool.false_eq_true, if_false]
    rw [i1]
    have q2 := q _ s1
    unfold fin at q2
    refine ite2 (fun e => ?_) (fun e => ?_)
    · rw [e, Bool.true_and] at q2
      refine ⟨_, rfl, _, _, dx, _, _, rfl, s1 _ _ h1, cl, no_sc T T.f_no_Scanner_signs, rfl, l, _, rfl, .inl (sqL_of (s1 _ _ h2)), rfl, ?_⟩
      have e2 : decide (V.int (((s.sg.map V.str).length : Nat) : Int) = V.int 1) = decide (s.sg.length = 1) := by
        rw [List.length_map, Bool.eq_iff_iff]
        simp
        omega
      rw [e2]
      exact q2
    · have e3 : decide (s.aw = "name" ∨ s.aw = "end") = false := by simpa using e
      rw [e3] at q2
      exact q2
theorem M_Scanner_takes (T : Txt K mg) : Met P w K mg base 2 (sC K) "takes" (spSc K LS.step) [] := by
  have M_Scanner_begins_item : Met P w K mg base 1 (sC K) "begins_item" (spSc K beg) [] := M_Scanner_begins_item T
  have M_Scanner_takes_sign : Met P w K mg base 1 (sC K) "takes_sign" (spSc K sig) [] := M_Scanner_takes_sign T
  have M_Scanner_closes : Met P w K mg base 1 (sC K) "closes" (spSc K clo) [] := M_Scanner_closes T
  obtain ⟨fd, F⟩ := T.F_Scanner_takes
  have b : Binds K fd ["self", "letter"] [] := FunD.bindsN F fun _ _ _ _ _ _ us hl => match us, hl with | [_, _], _ => rfl
  refine ⟨_, fd, _, [], He.cls_ok T.f_cls_Scanner, He.meth_ok T.f_meth_Scanner_takes, fnD F sc_Scanner_takes (fun vs H Q E h => ?_) (fun cdv A outer s H vs Q E hr h => ?_), b, .nil⟩
  · obtain ⟨x, dx, l, s, c, rfl, _⟩ := h
    rfl
  · obtain ⟨x, dx, l, s, c, rfl, hs, hl, q⟩ := h
    obtain ⟨h1, h2, h3, h4⟩ := id hs
    have cl := cl_sc T
    refine ⟨_, (C8.pss_cut (ps_if (PW.pt (pw_and (pt_cmpR op_eq (pe_fld (pv 0) (by rfl)) pe_str (nomark _)) (pw_and1 (pt_cmpR op_in_sign (pv 1) (pe_gc rfl T.v_LETTERS) (by rfl)))))
    (pss_cons (ps_fld (pv 0) (pe_op op_add (pe_fld (pv 0) (by rfl)) pe_int) rfl)
    (pss_one (ps_ret (pe_cmpR op_le (pe_fld (pv 0) (by rfl)) (pe_gc rfl T.v_LONGEST) (nomark _)))))
    pss_nil)
  (pss_cons (ps_if (pt_cmpR op_eq (pe_fld (pv 0) (by rfl)) pe_str (nomark _))
    (pss_one (ps_ret (pe_mt M_Scanner_begins_item hr (by omega) (pv 0) (pa_cons (pv 1) pa_nil))))
    pss_nil)
  (pss_cons (ps_if (pt_cmpR op_eq (pe_fld (pv 0) (by rfl)) pe_str (nomark _))
    (pss_cons (ps_fld (pv 0) pe_str rfl)
    (pss_one (ps_ret (pe_cmpR op_eq (pv 1) pe_str (nomark _)))))
    pss_nil)
  (pss_cons (ps_if (pt_cmpR op_eq (pe_fld (pv 0) (by rfl)) pe_str (nomark _))
    (pss_one (ps_ret (pe_mt M_Scanner_takes_sign hr (by omega) (pv 0) (pa_cons (pv 1) pa_nil))))
    pss_nil)
  (pss_cons (ps_if (pt_cmpR op_eq (pv 1) pe_str (nomark _))
    (pss_cons (ps_fld (pv 0) pe_str rfl)
    (pss_one (ps_ret pe_bl)))
    pss_nil)
  (pss_one (ps_ret (pe_mt M_Scanner_closes hr (by omega) (pv 0) (pa_cons (pv 1) pa_nil))))))))), ?_⟩
    refine ⟨fun σ' H' => σ' = start N_Scanner_takes [.ref x, .str (chr c)] ∧ H' = H ∧ ¬ (s.aw = "name" ∧ c ∈ LET.cps.toList), ?_, ?_⟩
    · refine ⟨_, rfl, _, _, dx, _, _, rfl, h1, cl, no_sc T T.f_no_Scanner_awaited, rfl, rfl, _, rfl, ?_⟩
      refine ite2 (fun e => ?_) (fun e => ?_)
      · have e1 : s.aw = "name" := by simpa using e
        refine ⟨_, rfl, c, LET, rfl, rfl, _, rfl, ?_⟩
        refine ite2 (fun e2 => ?_) (fun e2 => ?_)
        · have e3 : c ∈ LET.cps.toList := of_decide_eq_true e2
          unfold LS.step at q
          rw [if_pos ⟨e1, e3⟩] at q
          refine ⟨_, rfl, _, _, dx, _, _, rfl, h1, cl, no_sc T T.f_no_Scanner_letters, rfl, _, _, rfl, rfl, _, rfl, x, _, dx, _, rfl, h1, cl, no_sc T T.f_no_Scanner_letters, by exact (show 3 < 1000 by decide), ?_⟩
          refine ⟨_, rfl, _, _, dx, _, _, rfl, upd_same, cl, no_sc T T.f_no_Scanner_letters, rfl, _, _, rfl, rfl, ?_⟩
          exact q _ (Kb.refl x l H).x ⟨upd_same, by rw [upd_ne hs.ne]; exact h2, h3, h4⟩
        · exact ⟨rfl, rfl, fun z => e2 (decide_eq_true z.2)⟩
      · refine iteF ⟨rfl, rfl, fun z => e ?_⟩
        rw [str_dec]
        exact decide_eq_true z.1
    · rintro σ' H' ⟨rfl, rfl, e0⟩
      unfold LS.step at q
      rw [if_neg e0] at q
      refine ⟨_, rfl, _, _, dx, _, _, rfl, h1, cl, no_sc T T.f_no_Scanner_awaited, rfl, rfl, _, rfl, ?_⟩
      refine ite2 (fun e => ?_) (fun e => ?_)
      · rw [if_pos (by simpa using e)] at q
        exact ⟨_, rfl, x, dx, _, rfl, h1, rfl, _, rfl, x, dx, l, s, c, rfl, hs, hl, q⟩
      rw [if_neg (by simpa using e)] at q
      refine ⟨_, rfl, _, _, dx, _, _, rfl, h1, cl, no_sc T T.f_no_Scanner_awaited, rfl, rfl, _, rfl, ?_⟩
      refine ite2 (fun e => ?_) (fun e => ?_)
      · rw [if_pos (by simpa using e)] at q
        refine ⟨_, rfl, x, _, dx, _, rfl, h1, cl, no_sc T T.f_no_Scanner_awaited, by exact (show 3 < 1000 by decide), ?_⟩
        refine ⟨_, rfl, rfl, ?_⟩
        rw [str_dec]
        exact q _ (Kb.refl x l H').x ⟨upd_same, by rw [upd_ne hs.ne]; exact h2, h3, h4⟩
      rw [if_neg (by simpa using e)] at q
      refine ⟨_, rfl, _, _, dx, _, _, rfl, h1, cl, no_sc T T.f_no_Scanner_awaited, rfl, rfl, _, rfl, ?_⟩
      refine ite2 (fun e => ?_) (fun e => ?_)
      · rw [if_pos (by simpa using e)] at q
        exact ⟨_, rfl, x, dx, _, rfl, h1, rfl, _, rfl, x, dx, l, s, c, rfl, hs, hl, q⟩
      rw [if_neg (by simpa using e)] at q
      refine ⟨_, rfl, rfl, _, rfl, ?_⟩
      refine ite2 (fun e => ?_) (fun e => ?_)
      · rw [if_pos (by simpa using e)] at q
        refine ⟨_, rfl, x, _, dx, _, rfl, h1, cl, no_sc T T.f_no_Scanner_awaited, by exact (show 3 < 1000 by decide), ?_⟩
        exact q _ (Kb.refl x l H').x ⟨upd_same, by rw [upd_ne hs.ne]; exact h2, h3, h4⟩
      rw [if_neg (by simpa using e)] at q
      exact ⟨_, rfl, x, dx, _, rfl, h1, rfl, _, rfl, x, dx, l, s, c, rfl, hs, hl, q⟩

end
end K34
namespace K34
open PySem PySem.Spec PyProof.Rows L2 RZ LL LC LS LR LD LN LY LOr
open C8 (Cal Mak Met CalAt pe_c pe_mk pe_mt pe_mt0 pe_gc)
section
variable {P : Program} {w : World} {K : PySem.W.Frag} {mg : Str → Option Value} {base : Heap}
/-! ### wrong_place -/
def spSc0 (K : PySem.W.Frag) : Sp := fun vs H Q _ => ∃ (x dx : Addr), vs = [.ref x] ∧ H x = some (.ins (sC K) dx []) ∧ ∀ (H' : Hp) (l : Addr), But x H H' → H l = none → Scn (sC K) H' x dx l sc0 → Q .non H'
theorem M_Scanner (T : Txt K mg) : Mak P w K mg base 1 "Scanner" (sC K) (spSc0 K) [] := by
  have cl := cl_sc T
  obtain ⟨fd, F⟩ := T.F_Scanner___init__
  have b : Binds K fd ["self"] [] := FunD.bindsN F fun _ _ _ _ _ _ us hl => match us, hl with | [_], _ => rfl
  refine ⟨_, fd, _, [], He.mkr_ok T.f_mkr_Scanner, fnD F sc_Scanner___init__ (fun vs H Q E h => ?_) (fun cdv A outer s H vs Q E hr h => ?_), T.g_Scanner, b, .nil⟩
  · obtain ⟨x, dx, rfl, _⟩ := h
    rfl
  · obtain ⟨x, dx, rfl, hx, q⟩ := h
    refine ⟨_, (pss_cons (ps_fld (pv 0) pe_str rfl)
  (pss_cons (ps_fld (pv 0) pe_int rfl)
  (pss_one (ps_fld (pv 0) (pe_lst (pa_cons pe_str pa_nil)) rfl)))), ?_⟩
    refine ⟨_, rfl, x, _, dx, _, rfl, hx, cl, no_sc T T.f_no_Scanner_awaited, fl_lt fl0, ?_⟩
    refine ⟨_, rfl, x, _, dx, _, rfl, upd_same, cl, no_sc T T.f_no_Scanner_letters, fl_lt (flS fl0), ?_⟩
    refine ⟨(show 1 ≤ sizeLine by decide), fun l nl => ?_⟩
    have nlx : x ≠ l := fun z => by
      rw [← z, upd_same] at nl
      cases nl
    have nl0 : H l = none := by
      rw [upd_ne (Ne.symm nlx), upd_ne (Ne.symm nlx)] at nl
      exact nl
    refine ⟨_, rfl, x, _, dx, _, rfl, by rw [upd_ne nlx, upd_same], cl, no_sc T T.f_no_Scanner_signs, fl_lt (flS (flS fl0)), ?_⟩
    refine q _ l (((But.refl x H).upd.upd).new nl).upd nl0 ⟨upd_same, by rw [upd_ne (Ne.symm nlx), upd_same]; rfl, by decide, by decide⟩
def scanV : Option Nat → V
  | none => .non
  | some n => .int ((n : Nat) : Int)
def spWrong : Sp := fun vs H Q _ => ∃ z : Str, vs = [.str z] ∧ z.length ≤ 1000000 ∧ ∀ H', Same H H' → Q (scanV (LS.scan sc0 0 z.cps.toList)) H'
theorem C_wrong_place (T : Txt K mg) : Cal P w K mg base 4 "wrong_place" spWrong [] := by
  have M_Scanner : Mak P w K mg base 1 "Scanner" (sC K) (spSc0 K) [] := M_Scanner T
  have M_Scanner_takes : Met P w K mg base 2 (sC K) "takes" (spSc K LS.step) [] := M_Scanner_takes T
  have M_Scanner_can_end : Met P w K mg base 1 (sC K) "can_end" (spEnd K) [] := M_Scanner_can_end T
  obtain ⟨fd, F⟩ := T.F_wrong_place
  have b : Binds K fd ["text"] [] := FunD.bindsN F fun _ _ _ _ _ _ us hl => match us, hl with | [_], _ => rfl
  refine calD F T.g_wrong_place b sc_wrong_place (fun vs H Q E h => ?_) (fun cdv A outer s H vs Q E hr h => ?_)
  · obtain ⟨z, rfl, _⟩ := h
    rfl
  · obtain ⟨z, rfl, hz, q⟩ := h
    refine ⟨_, (pss_cons (ps_set (i := 1) sc_wrong_place.nd rfl (Or.inl rfl) (LO.pe_mk0 M_Scanner hr (by omega) rfl))
  (pss_cons (ps_for PassesOwn.never rfl (LE.pi_enumS (by rfl) T.z_enumerate (pa_cons (pv 0) pa_nil)) (pg_tup rfl (pgs_cons (pg_name (i := 2) sc_wrong_place.nd rfl (Or.inl rfl)) (pgs_cons (pg_name (i := 3) sc_wrong_place.nd rfl (Or.inl rfl)) pgs_nil)))
    (pss_one (ps_if (pt_not (pt_val (pe_mt M_Scanner_takes hr (by omega) (pv 1) (pa_cons (pv 3) pa_nil))))
      (pss_one (ps_ret (pv 2)))
      pss_nil)))
  (pss_cons (ps_if (pt_val (pe_mt0 M_Scanner_can_end hr (by omega) (pv 1)))
    (pss_one (ps_ret pe_non))
    pss_nil)
  (pss_one (ps_ret (pe_callB call_len_str (by rfl) T.z_len PySem.boot_len (pa_cons (pv 0) pa_nil))))))), ?_⟩
    intro x dx nx ndx nex
    have s0 : Same H (upd (upd H dx (.own x)) x (.ins (sC K) dx [])) := same_upd2 (same_upd ndx) (by rw [upd_ne (Ne.symm nex)]; exact nx)
    refine ⟨x, dx, rfl, upd_same, fun H1 l b1 nl hs => ⟨rfl, ?_⟩⟩
    have nl0 : H l = none := by
      cases e : H l with
      | none => rfl
      | some o =>
        rw [s0 _ _ e] at nl
        cases nl
    have to : ∀ {H2 : Hp}, Kb x l H1 H2 → Same H H2 := fun k a o e => k a o (ne_of_none e nx) (ne_of_none e nl0) (b1 a o (ne_of_none e nx) (s0 _ _ e))
    refine ⟨_, rfl, z, rfl, ?_⟩
    have sz : z.cps.size = z.cps.toList.length := by simp
    refine for_it (LE.walk_enumS (z := z)) (fun i σ H2 => (∃ a2 a3, σ = [some (.str z), some (.ref x), a2, a3]) ∧ Kb x l H1 H2 ∧ ∃ s, Scn (sC K) H2 x dx l s ∧ s.sg.length ≤ 21 ∧ LS.scan sc0 0 z.cps.toList = LS.scan s i (z.cps.toList.drop i)) ?_ (fun _ _ _ _ _ => True.intro) ?_ ?_
    · exact ⟨⟨none, none, rfl⟩, Kb.refl x l H1, sc0, hs, by decide, rfl⟩
    · rintro i v σ H2 H3 hi ⟨⟨a2, a3, rfl⟩, k2, s, hs2, hl, e⟩ ⟨t, c, rfl, nt, rfl, hc⟩
      have s3 : Same H2 (upd H2 t (.tup [.int (i : Nat), .str ⟨#[c]⟩])) := same_upd nt
      have hs3 := hs2.same s3
      refine ⟨t, _, rfl, sqT_of upd_same, rfl, _, _, rfl, _, _, rfl, rfl, ?_⟩
      refine ⟨_, rfl, x, dx, _, rfl, hs3.1, rfl, _, rfl, x, dx, l, s, c, rfl, hs3, by omega, fun H4 k4 hs4 => ?_⟩
      have ed : z.cps.toList.drop i = c :: z.cps.toList.drop (i + 1) := by
        have hi2 : i < z.cps.toList.length := by rw [← sz]; exact hi
        rw [List.drop_eq_getElem_cons hi2]
        have hc2 : z.cps.toList[i]? = some c := by rw [Array.getElem?_toList]; exact hc
        rw [List.getElem?_eq_getElem hi2] at hc2
        rw [Option.some.inj hc2]
      rw [ed, LS.scan] at e
      have k34 := (k2.trans (Kb.of s3)).trans k4
      refine ⟨_, rfl, ?_⟩
      cases e2 : (LS.step s c).1 with
      | true =>
        rw [e2, if_pos rfl] at e
        refine iteF ⟨⟨_, _, rfl⟩, k34, _, hs4, step_ok_len e2 hl hs2.2.2.1, e⟩
      | false =>
        rw [e2, if_neg (by decide)] at e
        refine iteT ⟨_, rfl, ?_⟩
        have q2 := q H4 (to k34)
        rw [e] at q2
        exact q2
    · rintro σ H2 ⟨⟨a2, a3, rfl⟩, k2, s, hs2, hl, e⟩
      rw [sz, List.drop_length, LS.scan] at e
      refine ⟨_, rfl, x, dx, _, rfl, hs2.1, rfl, x, dx, l, s, rfl, hs2, fun H3 s3 => ⟨_, rfl, ?_⟩⟩
      have q2 := q H3 ((to k2).trans s3)
      rw [e] at q2
      refine ite2 (fun e2 => ?_) (fun e2 => ?_)
      · rw [if_pos e2] at q2
        exact q2
      · rw [if_neg e2] at q2
        exact ⟨_, rfl, z, rfl, by rw [sizeLine_eq]; omega, by rw [← sz] at q2; exact q2⟩

end
end K34
namespace K34
open PySem PySem.Spec PyProof.Rows L2 RZ LL LC LS LR LD LN LY LOr
open C8 (Cal Mak Met CalAt pe_c pe_mk pe_mt pe_mt0 pe_gc)
section
variable {P : Program} {w : World} {K : PySem.W.Frag} {mg : Str → Option Value} {base : Heap}
/-! ### joined_items -/
def spJoined (K : PySem.W.Frag) : Sp := fun vs H Q _ => ∃ (sg : Str) (l : Addr) (rows : List V) (cs : List Ci), vs = [.str sg, .ref l] ∧ SqL K H l rows ∧ COs (cC K) H rows cs ∧ JOk sg cs ∧ ∀ (v : V) (H' : Hp), Same H H' → CO (cC K) H' v (joined sg cs) → Q v H'
theorem C_joined_items (T : TxtW w K mg) : Cal P w K mg base 10 "joined_items" (spJoined K) [] := by
  have C_pool : LO.CalR P w K mg base 9 "pool" (spPool K true) := C_pool T
  have C_common : LO.CalR P w K mg base 9 "common" (spPool K false) := C_common T
  obtain ⟨fd, F⟩ := T.F_joined_items
  have b : Binds K fd ["sign", "items"] [] := FunD.bindsN F fun _ _ _ _ _ _ us hl => match us, hl with | [_, _], _ => rfl
  refine calD F T.g_joined_items b sc_joined_items (fun vs H Q E h => ?_) (fun cdv A outer s H vs Q E hr h => ?_)
  · obtain ⟨sg, l, rows, cs, rfl, _⟩ := h
    rfl
  · obtain ⟨sg, l, rows, cs, rfl, hl, hc, ⟨hne, hsz, hwf, hfit⟩, q⟩ := h
    refine ⟨_, (pss_cons (ps_if (pt_cmpR op_eq (pv 0) pe_str (nomark _))
    (pss_one (ps_ret (LO.pe_cR1 C_pool hr (by omega) rfl (pv 1))))
    pss_nil)
  (pss_cons (ps_if (pt_cmpR op_eq (pv 0) pe_str (nomark _))
    (pss_one (ps_ret (LO.pe_cR1 C_common hr (by omega) rfl (pv 1))))
    pss_nil)
  (pss_one (ps_ret (pe_ix ix_list (pv 1) pe_int (fun _ _ => rfl)))))), ?_⟩
    unfold joined at hfit q
    refine ⟨_, rfl, rfl, _, rfl, ?_⟩
    refine ite2 (fun e => ?_) (fun e => ?_)
    · rw [if_pos (by simpa using e)] at hfit q
      exact ⟨_, rfl, l, rows, rfl, .inr hl, cs, hc, hne, hsz, hwf, hfit, q⟩
    rw [if_neg (by simpa using e)] at hfit q
    refine ⟨_, rfl, rfl, _, rfl, ?_⟩
    refine ite2 (fun e => ?_) (fun e => ?_)
    · rw [if_pos (by simpa using e)] at hfit q
      exact ⟨_, rfl, l, rows, rfl, .inr hl, cs, hc, hne, hsz, hwf, hfit, q⟩
    rw [if_neg (by simpa using e)] at hfit q
    cases hc with
    | nil => exact absurd rfl hne
    | cons h1 h2 =>
      refine ⟨_, rfl, l, _, 0, _, rfl, rfl, hl, atI_nat (j := 0) rfl, ?_⟩
      exact q _ H (Same.refl H) h1
/-! ### circle_of -/
def spCircleOf (K : PySem.W.Frag) : Sp := fun vs H Q _ => ∃ (z sg : Str) (items : List Ci), vs = [.str z] ∧ z.length ≤ 10000 ∧ (LR.wordsOf z).length ≤ 1000 ∧ Feeds ([("" : Str)], [[]]) (LR.wordsOf z) ([sg], [items]) ∧ JOk sg items ∧
  ∀ (v : V) (H' : Hp), Same H H' → CO (cC K) H' v (joined sg items) → Q v H'
theorem C_circle_of (T : TxtW w K mg) : Cal P w K mg base 11 "circle_of" (spCircleOf K) [] := by
  have C_joined_items : Cal P w K mg base 10 "joined_items" (spJoined K) [] := C_joined_items T
  have C_eye : Cal P w K mg base 7 "eye" (spEye K) [] := C_eye T
  obtain ⟨fd, F⟩ := T.F_circle_of
  have b : Binds K fd ["text"] [] := FunD.bindsN F fun _ _ _ _ _ _ us hl => match us, hl with | [_], _ => rfl
  refine calD F T.g_circle_of b sc_circle_of (fun vs H Q E h => ?_) (fun cdv A outer s H vs Q E hr h => ?_)
  · obtain ⟨z, sg, items, rfl, _⟩ := h
    rfl
  · obtain ⟨z, sg, items, rfl, hz, hw, hf, hj, q⟩ := h
    refine ⟨_, (LTk.pss_lst1 (i := 1) sc_circle_of.nd rfl (Or.inl rfl)
  (psst_cons (PST.of (ps_set (i := 2) sc_circle_of.nd rfl (Or.inl rfl) (pe_lst (pa_cons (pe_lst pa_nil) pa_nil))))
  (psst_cons (pst_for PassesOwn.never rfl (pit_list (LTk.pet_split (CwR.pet_replT (CwR.pet_replC (pv 0))) pe_str)) (pg_name (i := 3) sc_circle_of.nd rfl (Or.inl rfl))
      (pss_one (ps_if (pt_cmpR op_eq (pv 3) pe_str (nomark _))
        (pss_cons (ps_expr (pe_bm PySem.F.plainAttrs_list PySem.F.slot_list_append PySem.F.type_list_append mt_append (pv 1) (pa_cons pe_str pa_nil)))
        (pss_one (ps_expr (pe_bm PySem.F.plainAttrs_list PySem.F.slot_list_append PySem.F.type_list_append mt_append (pv 2) (pa_cons (pe_lst pa_nil) pa_nil)))))
        (pss_one (ps_if (pt_cmpR op_eq (pv 3) pe_str (nomark _))
          (pss_cons (ps_set (i := 4) sc_circle_of.nd rfl (Or.inl rfl) (pe_c C_joined_items hr (by omega) rfl (pa_cons (pe_bm0 PySem.F.plainAttrs_list PySem.F.slot_list_pop PySem.F.type_list_pop mt_pop (pv 1)) (pa_cons (pe_bm0 PySem.F.plainAttrs_list PySem.F.slot_list_pop PySem.F.type_list_pop mt_pop (pv 2)) pa_nil))))
          (pss_one (ps_expr (pe_bm PySem.F.plainAttrs_list PySem.F.slot_list_append PySem.F.type_list_append mt_append (pe_ix ix_list (pv 2) (pe_un un_neg pe_int) (fun _ _ => rfl)) (pa_cons (pv 4) pa_nil)))))
          (pss_one (ps_if (pt_cmpR op_in_seq (pv 3) (pe_tup (pa_cons pe_str (pa_cons pe_str pa_nil))) (by rfl))
            (pss_one (ps_asg (pv 3) (pg_sub (pv 1) (pe_un un_neg pe_int) set_list)))
            (pss_one (ps_expr (pe_bm PySem.F.plainAttrs_list PySem.F.slot_list_append PySem.F.type_list_append mt_append (pe_ix ix_list (pv 2) (pe_un un_neg pe_int) (fun _ _ => rfl)) (pa_cons (pe_c C_eye hr (by omega) rfl (pa_cons (pv 3) pa_nil)) pa_nil)))))))))))
  (PSsT.of (pss_one (ps_ret (pe_c C_joined_items hr (by omega) rfl (pa_cons (pe_ix ix_list (pv 1) pe_int (fun _ _ => rfl)) (pa_cons (pe_ix ix_list (pv 2) pe_int (fun _ _ => rfl)) pa_nil))))))))), ?_⟩
    refine ⟨(show 1 ≤ sizeLine by decide), fun s ns => ?_⟩
    refine ⟨(show 0 ≤ sizeLine by decide), fun a0 na0 => ⟨(show 1 ≤ sizeLine by decide), fun lv nlv => ?_⟩⟩
    have lz := TK.replace_len z "(" "( "
    have lz2 := TK.replace_len (Txt.replace z "(" "( ") ")" " )"
    have e2 : ("( " : Str).length = 2 := rfl
    have e3 : (" )" : Str).length = 2 := rfl
    rw [e2] at lz
    rw [e3] at lz2
    refine ⟨_, rfl, z, rfl, by show z.length + (z.length + 1) * 2 ≤ _; omega, _, rfl, by show _ + (_ + 1) * 2 ≤ _; omega, ⟨_, rfl⟩, _, _, rfl, rfl, rfl, by rw [sizeLine_eq]; omega, fun wl nwl => ?_⟩
    refine ⟨wl, rfl, ⟨_, sqL_of upd_same⟩, ?_⟩
    have n1 : s ≠ a0 := fun e => by rw [← e, upd_same] at na0; cases na0
    have na : H a0 = none := by rw [upd_ne (Ne.symm n1)] at na0; exact na0
    have n2 : a0 ≠ lv := fun e => by rw [← e, upd_same] at nlv; cases nlv
    have n3 : s ≠ lv := fun e => by rw [← e, upd_ne n1, upd_same] at nlv; cases nlv
    have nl0 : H lv = none := by rw [upd_ne (Ne.symm n2), upd_ne (Ne.symm n3)] at nlv; exact nlv
    have n4 : lv ≠ wl := fun e => by rw [← e, upd_same] at nwl; cases nwl
    have n5 : a0 ≠ wl := fun e => by rw [← e, upd_ne n2, upd_same] at nwl; cases nwl
    have n6 : s ≠ wl := fun e => by rw [← e, upd_ne n3, upd_ne n1, upd_same] at nwl; cases nwl
    have nw0 : H wl = none := by rw [upd_ne (Ne.symm n4), upd_ne (Ne.symm n5), upd_ne (Ne.symm n6)] at nwl; exact nwl
    refine for_it (walk_list (K := K) (a := wl) (xs := (LR.wordsOf z).map V.str)) (fun i σ H2 => (∃ a3 a4, σ = [some (.str z), some (.ref s), some (.ref lv), a3, a4]) ∧ Same H H2 ∧ H2 wl = some (.lst ((LR.wordsOf z).map V.str)) ∧
      ∃ (S : List Str) (as : List Addr) (L : List (List Ci)), H2 s = some (.lst (S.map V.str)) ∧ H2 lv = some (.lst (as.map V.ref)) ∧ Lv (cC K) H H2 s lv i as L ∧ wl ∉ as ∧ S.length ≤ i + 1 ∧ L.length ≤ i + 1 ∧ Feeds (S, L) ((LR.wordsOf z).drop i) ([sg], [items])) ?_ ?_ ?_ ?_
    · refine ⟨⟨none, none, rfl⟩, ?_, upd_same, [""], [a0], [[]], ?_, ?_, ?_, ?_, Nat.le_refl _, Nat.le_refl _, hf⟩
      · intro b o e
        rw [upd_ne (ne_of_none e nw0), upd_ne (ne_of_none e nl0), upd_ne (ne_of_none e na), upd_ne (ne_of_none e ns)]
        exact e
      · rw [upd_ne n6, upd_ne n3, upd_ne n1, upd_same]
        rfl
      · rw [upd_ne n4, upd_same]
        rfl
      · refine .snoc (as := []) (L := []) (rows := []) .nil (by simp) na (Ne.symm n1) n2 ?_ .nil (Nat.le_refl _)
        rw [upd_ne n5, upd_ne n2, upd_same]
      · simpa using Ne.symm n5
    · rintro i σ H2 _ ⟨_, _, h3, _⟩
      exact sqL_of h3
    · rintro i x σ H2 H3 hi ⟨⟨a3, a4, rfl⟩, s2, hwl, S, as, L, hs, hlv, hL, nwa, lS, lL, hfe⟩ ⟨rfl, hx⟩
      rw [List.length_map] at hi
      have ed := List.drop_eq_getElem_cons hi
      rw [List.getElem?_map, List.getElem?_eq_getElem hi] at hx
      cases hx
      rw [ed] at hfe
      generalize (LR.wordsOf z)[i] = wd at hfe ⊢
      have i1000 : i < 1000 := by omega
      have las := hL.len
      have nslv : s ≠ lv := n3
      cases hfe with
      | cons hf1 hfe =>
      cases hf1 with
      | op =>
        refine ⟨_, rfl, rfl, _, rfl, ?_⟩
        rw [show decide (V.str ("(" : Str) = V.str "(") = true from decide_eq_true rfl]
        refine iteT ?_
        refine ⟨_, rfl, .inl ⟨rfl, _, sqL_of hs⟩, s, _, _, rfl, rfl, hs, by rw [List.length_map, sizeLine_eq]; omega, ?_⟩
        have hlv1 : upd H3 s (.lst (S.map V.str ++ [V.str ""])) lv = some (.lst (as.map V.ref)) := by rw [upd_ne (Ne.symm n3)]; exact hlv
        refine ⟨_, rfl, .inl ⟨rfl, _, sqL_of hlv1⟩, (show 0 ≤ sizeLine by decide), fun a nna => ?_⟩
        have nas : a ≠ s := fun e => by rw [e, upd_same] at nna; cases nna
        have nal : a ≠ lv := fun e => by rw [e, hlv1] at nna; cases nna
        have na3 : H3 a = none := by rw [upd_ne nas] at nna; exact nna
        have hlv2 : upd (upd H3 s (.lst (S.map V.str ++ [V.str ""]))) a (.lst []) lv = some (.lst (as.map V.ref)) := by rw [upd_ne (Ne.symm nal)]; exact hlv1
        refine ⟨lv, _, _, rfl, rfl, hlv2, by rw [List.length_map, sizeLine_eq]; omega, ?_⟩
        have keep : ∀ b o, b ≠ s → b ≠ lv → H3 b = some o → upd (upd (upd H3 s (.lst (S.map V.str ++ [V.str ""]))) a (.lst [])) lv (.lst (as.map V.ref ++ [V.ref a])) b = some o := fun b o m1 m2 e => by
          rw [upd_ne m2, upd_ne (ne_of_none e na3), upd_ne m1]
          exact e
        have kc : Kc (cC K) H3 (upd (upd (upd H3 s (.lst (S.map V.str ++ [V.str ""]))) a (.lst [])) lv (.lst (as.map V.ref ++ [V.ref a]))) := (Kc.put hs (by simp) (by simp)).trans ((Kc.of (same_upd nna)).trans (Kc.put hlv2 (by simp) (by simp)))
        refine ⟨⟨_, _, rfl⟩, fun b o e => keep b o (ne_of_none e ns) (ne_of_none e nl0) (s2 _ _ e), keep _ _ (Ne.symm n6) (Ne.symm n4) hwl, S ++ [("" : Str)], as ++ [a], L ++ [[]], ?_, ?_, ?_, ?_, ?_, ?_, hfe⟩
        · rw [upd_ne n3, upd_ne (Ne.symm nas), upd_same, List.map_append]
          rfl
        · rw [upd_same, List.map_append]
          rfl
        · refine .snoc (hL.mono kc (fun b hb o e => keep b o (hL.fre b hb).2.1 (hL.fre b hb).2.2.1 e) (Nat.le_succ i)) (fun hb => ?_) ?_ nas nal ?_ .nil (Nat.zero_le _)
          · obtain ⟨_, _, _, rows, e⟩ := hL.fre a hb
            rw [e] at na3
            cases na3
          · cases e : H a with
            | none => rfl
            | some o =>
              rw [s2 _ _ e] at na3
              cases na3
          · rw [upd_ne nal, upd_same]
        · intro z1
          rcases List.mem_append.mp z1 with z1 | z1
          · exact nwa z1
          · rw [List.mem_singleton.mp z1] at hwl
            rw [hwl] at na3
            cases na3
        · rw [List.length_append]
          simp
          omega
        · rw [List.length_append]
          simp
          omega
      | @cl S0 sg0 L0 last items0 hj0 =>
        refine ⟨_, rfl, rfl, _, rfl, ?_⟩
        rw [show decide (V.str (")" : Str) = V.str "(") = false by decide +kernel]
        refine iteF ?_
        refine ⟨_, rfl, rfl, _, rfl, ?_⟩
        rw [show decide (V.str (")" : Str) = V.str ")") = true from decide_eq_true rfl]
        refine iteT ?_
        have eL : L0 ++ [last, items0] = L0 ++ [last] ++ [items0] := by simp
        rw [eL] at hL
        obtain ⟨as1, a1, rows1, rfl, hL1, m1, m2, m3, m4, m5, m6, m7⟩ := hL.inv
        obtain ⟨as2, a2, rows2, rfl, hL2, k1, k2, k3, k4, k5, k6, k7⟩ := hL1.inv
        refine ⟨_, rfl, .inl ⟨rfl, _, sqL_of hs⟩, s, _, _, rfl, rfl, hs, pop_str.1, ?_⟩
        rw [pop_str.2]
        have hlv1 : upd H3 s (.lst (S0.map V.str)) lv = some (.lst ((as2 ++ [a2] ++ [a1]).map V.ref)) := by rw [upd_ne (Ne.symm n3)]; exact hlv
        refine ⟨_, rfl, .inl ⟨rfl, _, sqL_of hlv1⟩, lv, _, _, rfl, rfl, hlv1, pop_ref.1, ?_⟩
        rw [pop_ref.2]
        have kc : Kc (cC K) H3 (upd (upd H3 s (.lst (S0.map V.str))) lv (.lst ((as2 ++ [a2]).map V.ref))) := (Kc.put hs (by simp) (by simp)).trans (Kc.put hlv1 (by simp) (by simp))
        have keep : ∀ b o, b ≠ s → b ≠ lv → H3 b = some o → upd (upd H3 s (.lst (S0.map V.str))) lv (.lst ((as2 ++ [a2]).map V.ref)) b = some o := fun b o m1 m2 e => by
          rw [upd_ne m2, upd_ne m1]
          exact e
        refine ⟨sg0, a1, rows1, items0, rfl, sqL_of (keep _ _ m3 m4 m5), cos_mono kc m6, hj0, fun v H4 s4 hv => ?_⟩
        have hlv4 := s4 _ _ (show upd (upd H3 s (.lst (S0.map V.str))) lv (.lst ((as2 ++ [a2]).map V.ref)) lv = _ from upd_same)
        have ha4 := s4 _ _ (keep _ _ k3 k4 k5)
        refine ⟨_, rfl, 1, rfl, lv, _, -1, _, rfl, rfl, sqL_of hlv4, getLast_ref, .inl ⟨rfl, _, sqL_of ha4⟩, _, rfl, a2, _, _, rfl, rfl, ha4, by rw [sizeLine_eq]; omega, ?_⟩
        have keep2 : ∀ b o, b ≠ s → b ≠ lv → b ≠ a2 → H3 b = some o → upd H4 a2 (.lst (rows2 ++ [v])) b = some o := fun b o m1 m2 m3 e => by
          rw [upd_ne m3]
          exact s4 _ _ (keep b o m1 m2 e)
        have kc2 : Kc (cC K) H4 (upd H4 a2 (.lst (rows2 ++ [v]))) := Kc.put ha4 (by simp) (by simp)
        have kc3 := kc.trans ((Kc.of s4).trans kc2)
        refine ⟨⟨_, _, rfl⟩, fun b o e => keep2 b o (ne_of_none e ns) (ne_of_none e nl0) (ne_of_none e k2) (s2 _ _ e), keep2 _ _ (Ne.symm n6) (Ne.symm n4) (fun e => nwa (by rw [e]; simp)) hwl, S0, as2 ++ [a2], L0 ++ [last ++ [joined sg0 items0]], ?_, ?_, ?_, ?_, ?_, ?_, hfe⟩
        · rw [upd_ne (Ne.symm k3)]
          exact s4 _ _ (by rw [upd_ne n3, upd_same])
        · rw [upd_ne (Ne.symm k4)]
          exact hlv4
        · refine .snoc (hL2.mono kc3 (fun b hb o e => keep2 b o (hL2.fre b hb).2.1 (hL2.fre b hb).2.2.1 (fun e2 => k1 (by rw [← e2]; exact hb)) e) (Nat.le_succ i)) k1 k2 k3 k4 upd_same (cos_app (cos_mono kc3 k6) (cos_one (co_mono kc2 hv))) ?_
          rw [List.length_append]
          simp
          omega
        · intro z1
          exact nwa (List.mem_append_left _ z1)
        · rw [List.length_append] at lS
          simp at lS
          omega
        · rw [List.length_append] at lL ⊢
          simp at lL ⊢
          omega
      | @sg S0 s0 w0 L0 hw0 =>
        have nw : wd ≠ "(" ∧ wd ≠ ")" := by rcases hw0 with e | e <;> (rw [e]; decide +kernel)
        refine ⟨_, rfl, rfl, _, rfl, ?_⟩
        rw [show decide (V.str wd = V.str "(") = false from decide_eq_false (fun e => nw.1 (V.str.inj e))]
        refine iteF ?_
        refine ⟨_, rfl, rfl, _, rfl, ?_⟩
        rw [show decide (V.str wd = V.str ")") = false from decide_eq_false (fun e => nw.2 (V.str.inj e))]
        refine iteF ?_
        refine ⟨_, rfl, (show 2 ≤ sizeLine by decide), fun t nt => ?_⟩
        refine ⟨t, _, rfl, .inr (sqT_of upd_same), rfl, rfl, _, rfl, ?_⟩
        have i1 : inV (.str wd) [.str "&", .str "|"] = true := by
          have z := inV_str wd ["&", "|"]
          simp only [List.map_cons, List.map_nil] at z
          rw [z]
          simpa using hw0
        simp only [Bool.false_eq_true, if_false]
        rw [i1]
        refine iteT ?_
        have hs1 : upd H3 t (.tup [V.str "&", V.str "|"]) s = some (.lst ((S0 ++ [s0]).map V.str)) := by rw [upd_ne (ne_of_none hs nt)]; exact hs
        obtain ⟨j, hj1, hset⟩ := last_set (xs := S0 ++ [s0]) (v := wd) (by simp)
        rw [List.dropLast_concat] at hset
        refine ⟨_, rfl, _, rfl, 1, rfl, s, _, -1, j, rfl, rfl, hs1, hj1, ?_⟩
        rw [hset]
        have keep : ∀ b o, b ≠ s → H3 b = some o → upd (upd H3 t (.tup [V.str "&", V.str "|"])) s (.lst ((S0 ++ [wd]).map V.str)) b = some o := fun b o m1 e => by
          rw [upd_ne m1, upd_ne (ne_of_none e nt)]
          exact e
        have kc : Kc (cC K) H3 (upd (upd H3 t (.tup [V.str "&", V.str "|"])) s (.lst ((S0 ++ [wd]).map V.str))) := (Kc.of (same_upd nt)).trans (Kc.put hs1 (by simp) (by simp))
        refine ⟨⟨_, _, rfl⟩, fun b o e => keep b o (ne_of_none e ns) (s2 _ _ e), keep _ _ (Ne.symm n6) hwl, S0 ++ [wd], as, L, upd_same, keep _ _ (Ne.symm n3) hlv, hL.mono kc (fun b hb o e => keep b o (hL.fre b hb).2.1 e) (Nat.le_succ i), nwa, ?_, by omega, hfe⟩
        rw [List.length_append] at lS ⊢
        simp at lS ⊢
        omega
      | @nm S0 w0 L0 items0 h1 h2 h3 =>
        refine ⟨_, rfl, rfl, _, rfl, ?_⟩
        rw [show decide (V.str wd = V.str "(") = false from decide_eq_false (fun e => h3.1 (V.str.inj e))]
        refine iteF ?_
        refine ⟨_, rfl, rfl, _, rfl, ?_⟩
        rw [show decide (V.str wd = V.str ")") = false from decide_eq_false (fun e => h3.2.1 (V.str.inj e))]
        refine iteF ?_
        refine ⟨_, rfl, (show 2 ≤ sizeLine by decide), fun t nt => ?_⟩
        refine ⟨t, _, rfl, .inr (sqT_of upd_same), rfl, rfl, _, rfl, ?_⟩
        have i1 : inV (.str wd) [.str "&", .str "|"] = false := by
          have z := inV_str wd ["&", "|"]
          simp only [List.map_cons, List.map_nil] at z
          rw [z]
          simpa using h3.2.2
        simp only [Bool.false_eq_true, if_false]
        rw [i1]
        refine iteF ?_
        have st : Same H3 (upd H3 t (.tup [V.str "&", V.str "|"])) := same_upd nt
        generalize upd H3 t (.tup [V.str "&", V.str "|"]) = H4 at st ⊢
        obtain ⟨as1, a1, rows1, rfl, hL1, m1, m2, m3, m4, m5, m6, m7⟩ := hL.inv
        have hlv4 := st _ _ hlv
        have ha4 := st _ _ m5
        refine ⟨_, rfl, 1, rfl, lv, _, -1, _, rfl, rfl, sqL_of hlv4, getLast_ref, .inl ⟨rfl, _, sqL_of ha4⟩, _, rfl, wd, rfl, h1, h2, fun v H5 s5 hv => ?_⟩
        have ha5 := s5 _ _ ha4
        refine ⟨a1, _, _, rfl, rfl, ha5, by rw [sizeLine_eq]; omega, ?_⟩
        have s35 := st.trans s5
        have keep : ∀ b o, b ≠ a1 → H3 b = some o → upd H5 a1 (.lst (rows1 ++ [v])) b = some o := fun b o m e => by
          rw [upd_ne m]
          exact s35 _ _ e
        have kc2 : Kc (cC K) H5 (upd H5 a1 (.lst (rows1 ++ [v]))) := Kc.put ha5 (by simp) (by simp)
        have kc3 := (Kc.of s35).trans kc2
        refine ⟨⟨_, _, rfl⟩, fun b o e => keep b o (ne_of_none e m2) (s2 _ _ e), keep _ _ (fun e => nwa (by rw [e]; simp)) hwl, S, as1 ++ [a1], L0 ++ [items0 ++ [.eye wd]], keep _ _ (Ne.symm m3) hs, keep _ _ (Ne.symm m4) hlv, ?_, nwa, by omega, ?_, hfe⟩
        · refine .snoc (hL1.mono kc3 (fun b hb o e => keep b o (fun e2 => m1 (by rw [← e2]; exact hb)) e) (Nat.le_succ i)) m1 m2 m3 m4 upd_same (cos_app (cos_mono kc3 m6) (cos_one (co_mono kc2 hv))) ?_
          rw [List.length_append]
          simp
          omega
        · rw [List.length_append] at lL ⊢
          simp at lL ⊢
          omega
    · rintro σ H2 ⟨⟨a3, a4, rfl⟩, s2, hwl, S, as, L, hs, hlv, hL, nwa, lS, lL, hfe⟩
      rw [List.length_map, List.drop_length] at hfe
      cases hfe
      obtain ⟨as1, a1, rows1, rfl, hL1, m1, m2, m3, m4, m5, m6, m7⟩ := Lv.inv (L := []) hL
      cases as1 with
      | cons b r =>
        have z1 := hL1.len
        cases z1
      | nil =>
      refine ⟨_, rfl, s, _, 0, _, rfl, rfl, sqL_of hs, atI_nat (j := 0) rfl, ?_⟩
      refine ⟨_, rfl, lv, _, 0, _, rfl, rfl, sqL_of hlv, atI_nat (j := 0) rfl, ?_⟩
      exact ⟨sg, a1, rows1, items, rfl, sqL_of m5, m6, hj, fun v H' s' hv => q v H' (s2.trans s') hv⟩
/-! ### read_circle -/
def spRead (K : PySem.W.Frag) : Sp := fun vs H Q _ => ∃ c : Ci, vs = [.str c.text] ∧ Fit c ∧ ∀ (v : V) (H' : Hp), Same H H' → CO (cC K) H' v c → Q v H'
theorem C_read_circle (T : TxtW w K mg) : Cal P w K mg base 12 "read_circle" (spRead K) [] := by
  have C_circle_of : Cal P w K mg base 11 "circle_of" (spCircleOf K) [] := C_circle_of T
  have C_wrong_place : Cal P w K mg base 4 "wrong_place" spWrong [] := C_wrong_place T.toTxt
  obtain ⟨fd, F⟩ := T.F_read_circle
  have b : Binds K fd ["text"] [] := FunD.bindsN F fun _ _ _ _ _ _ us hl => match us, hl with | [_], _ => rfl
  refine calD F T.g_read_circle b sc_read_circle (fun vs H Q E h => ?_) (fun cdv A outer s H vs Q E hr h => ?_)
  · obtain ⟨c, rfl, _⟩ := h
    rfl
  · obtain ⟨c, rfl, hf, q⟩ := h
    refine ⟨_, (pss_cons (ps_if (pt_not (pt_val (pe_callB call_isi (by rfl) T.z_isinstance (by decide +kernel) (pa_cons (pv 0) (pa_cons (pe_bltn (v := .ty "str") rfl T.z_str (by decide +kernel) rfl) pa_nil)))))
    (pss_one ps_never)
    pss_nil)
  (pss_cons (ps_set (i := 1) sc_read_circle.nd rfl (Or.inl rfl) (pe_c C_wrong_place hr (by omega) rfl (pa_cons (pv 0) pa_nil)))
  (pss_cons (ps_if (pt_cmpR op_notN (pv 1) pe_non (nomark _))
    (pss_one ps_never)
    pss_nil)
  (pss_one (ps_ret (pe_c C_circle_of hr (by omega) rfl (pa_cons (pv 0) pa_nil))))))), ?_⟩
    have lt := hf.text
    refine ⟨_, rfl, .str c.text, .ty "str", _, _, true, rfl, .ty "str", .base (.str _), kit_ty (by decide +kernel), _, rfl, iteF ?_⟩
    refine ⟨_, rfl, c.text, rfl, by omega, fun H1 s1 => ?_⟩
    rw [scan_text hf]
    refine ⟨_, rfl, rfl, _, rfl, ?_⟩
    rw [show (!decide (scanV none = V.non)) = false from by rw [show scanV none = V.non from rfl, decide_eq_true rfl]; rfl]
    refine iteF ?_
    obtain ⟨sg, items, f1, f2, f3⟩ := feeds_top hf
    refine ⟨_, rfl, c.text, sg, items, rfl, by omega, ?_, ?_, f2, fun v H' s' hv => q v H' (s1.trans s') (by rw [← f3]; exact hv)⟩
    · rw [LR.words_of hf.wf]
      have z := toks_len hf
      omega
    · rw [LR.words_of hf.wf]
      exact f1

end
end K34
namespace K34
open PySem PySem.Spec PyProof.Rows L2 RZ LL LC LS LR LD LN LY LOr
open C8 (Cal Mak Met CalAt pe_c pe_mk pe_mt pe_mt0 pe_gc)
section
variable {P : Program} {w : World} {K : PySem.W.Frag} {mg : Str → Option Value} {base : Heap}
/-! ### the table Order -/
abbrev oC (K : PySem.W.Frag) : Addr := He.ga K "Order"
theorem no_or (T : Txt K mg) {f : Str} (h : (He.Fa.noat "Order" f).ok K = true) : NoAttr K (oC K) f := He.noat_ok h
theorem cl_or (T : Txt K mg) : Cls K (oC K) := He.cls_ok T.f_cls_Order
def spOrd0 (K : PySem.W.Frag) : Sp := fun vs H Q _ => ∃ (x dx : Addr), vs = [.ref x] ∧ H x = some (.ins (oC K) dx []) ∧ ∀ (H' : Hp) (A : OA), But x H H' → (∀ a ∈ A.all, H a = none) → OrdS (oC K) H' x A [] [] → Q .non H'
theorem mk_step {C dx x p : Addr} {H H1 : Hp} {fs : List (Str × V)} {o : HO} (fs2 : List (Str × V)) (h1 : H1 x = some (.ins C dx fs)) (np : H1 p = none) (b : But x H H1) : x ≠ p ∧ upd (upd H1 p o) x (.ins C dx fs2) x = some (.ins C dx fs2) ∧ upd (upd H1 p o) x (.ins C dx fs2) p = some o ∧
    (∀ a u, H1 a = some u → a ≠ x → upd (upd H1 p o) x (.ins C dx fs2) a = some u) ∧ But x H (upd (upd H1 p o) x (.ins C dx fs2)) := by
  have n : x ≠ p := ne_of_none h1 np
  refine ⟨n, upd_same, by rw [upd_ne (Ne.symm n), upd_same], fun a u e na => ?_, (b.new np).upd⟩
  rw [upd_ne na, upd_ne (ne_of_none e np)]
  exact e
theorem M_Order (T : Txt K mg) : Mak P w K mg base 1 "Order" (oC K) (spOrd0 K) [] := by
  have cl := cl_or T
  obtain ⟨fd, F⟩ := T.F_Order___init__
  have b : Binds K fd ["self"] [] := FunD.bindsN F fun _ _ _ _ _ _ us hl => match us, hl with | [_], _ => rfl
  refine ⟨_, fd, _, [], He.mkr_ok T.f_mkr_Order, fnD F sc_Order___init__ (fun vs H Q E h => ?_) (fun cdv A outer s H vs Q E hr h => ?_), T.g_Order, b, .nil⟩
  · obtain ⟨x, dx, rfl, _⟩ := h
    rfl
  · obtain ⟨x, dx, rfl, hx, q⟩ := h
    refine ⟨_, (pss_cons (ps_fld (pv 0) (pe_lst pa_nil) rfl)
  (pss_cons (ps_fld (pv 0) (pe_lst pa_nil) rfl)
  (pss_cons (ps_fld (pv 0) (pe_lst pa_nil) rfl)
  (pss_cons (ps_fld (pv 0) pe_dnewK rfl)
  (pss_one (ps_fld (pv 0) pe_dnewT (by rfl))))))), ?_⟩
    have fr : ∀ {H1 : Hp} {p : Addr}, But x H H1 → x ≠ p → H1 p = none → H p = none := fun {H1 p} b n e => by
      cases e2 : H p with
      | none => rfl
      | some o =>
        rw [b p o (Ne.symm n) e2] at e
        cases e
    have bx := But.refl x H
    refine ⟨(show 0 ≤ sizeLine by decide), fun k nk => ?_⟩
    refine ⟨_, rfl, x, _, dx, _, rfl, by rw [upd_ne (ne_of_none hx nk)]; exact hx, cl, no_or T T.f_no_Order__kinds, fl_lt fl0, ?_⟩
    obtain ⟨n1, x1, k1, p1, b1⟩ := mk_step (o := .lst []) (putF "_kinds" (.ref k) []) hx nk bx
    have fk := fr bx n1 nk
    generalize L2.upd (L2.upd H k _) x _ = H1 at x1 k1 p1 b1 ⊢
    refine ⟨(show 0 ≤ sizeLine by decide), fun p np => ?_⟩
    refine ⟨_, rfl, x, _, dx, _, rfl, by rw [upd_ne (ne_of_none x1 np)]; exact x1, cl, no_or T T.f_no_Order__parts, fl_lt (flS fl0), ?_⟩
    obtain ⟨n2, x2, k2, p2, b2⟩ := mk_step (o := .lst []) (putF "_parts" (.ref p) (putF "_kinds" (.ref k) [])) x1 np b1
    have fp := fr b1 n2 np
    have a1 := p2 k _ k1 (Ne.symm n1)
    have d1 : k ≠ p := ne_of_none k1 np
    generalize L2.upd (L2.upd H1 p _) x _ = H2 at x2 k2 p2 b2 a1 ⊢
    refine ⟨(show 0 ≤ sizeLine by decide), fun t nt => ?_⟩
    refine ⟨_, rfl, x, _, dx, _, rfl, by rw [upd_ne (ne_of_none x2 nt)]; exact x2, cl, no_or T T.f_no_Order__texts, fl_lt (flS (flS fl0)), ?_⟩
    obtain ⟨n3, x3, k3, p3, b3⟩ := mk_step (o := .lst []) (putF "_texts" (.ref t) (putF "_parts" (.ref p) (putF "_kinds" (.ref k) []))) x2 nt b2
    have ft := fr b2 n3 nt
    have a2 := p3 k _ a1 (Ne.symm n1)
    have a3 := p3 p _ k2 (Ne.symm n2)
    have d2 : k ≠ t := ne_of_none a1 nt
    have d3 : p ≠ t := ne_of_none k2 nt
    generalize L2.upd (L2.upd H2 t _) x _ = H3 at x3 k3 p3 b3 a2 a3 ⊢
    intro n nn
    refine ⟨_, rfl, x, _, dx, _, rfl, by rw [upd_ne (ne_of_none x3 nn)]; exact x3, cl, no_or T T.f_no_Order__numbers, fl_lt (flS (flS (flS fl0))), ?_⟩
    obtain ⟨n4, x4, k4, p4, b4⟩ := mk_step (o := .dK []) (putF "_numbers" (.ref n) (putF "_texts" (.ref t) (putF "_parts" (.ref p) (putF "_kinds" (.ref k) [])))) x3 nn b3
    have fn' := fr b3 n4 nn
    have a4 := p4 k _ a2 (Ne.symm n1)
    have a5 := p4 p _ a3 (Ne.symm n2)
    have a6 := p4 t _ k3 (Ne.symm n3)
    have d4 : k ≠ n := ne_of_none a2 nn
    have d5 : p ≠ n := ne_of_none a3 nn
    have d6 : t ≠ n := ne_of_none k3 nn
    generalize L2.upd (L2.upd H3 n _) x _ = H4 at x4 k4 p4 b4 a4 a5 a6 ⊢
    intro m nm
    refine ⟨_, rfl, x, _, dx, _, rfl, by rw [upd_ne (ne_of_none x4 nm)]; exact x4, cl, no_or T T.f_no_Order__known, fl_lt (flS (flS (flS (flS fl0)))), ?_⟩
    obtain ⟨n5, x5, k5, p5, b5⟩ := mk_step (o := .dT []) (putF "_known" (.ref m) (putF "_numbers" (.ref n) (putF "_texts" (.ref t) (putF "_parts" (.ref p) (putF "_kinds" (.ref k) []))))) x4 nm b4
    have fm := fr b4 n5 nm
    have a7 := p5 k _ a4 (Ne.symm n1)
    have a8 := p5 p _ a5 (Ne.symm n2)
    have a9 := p5 t _ a6 (Ne.symm n3)
    have a10 := p5 n _ k4 (Ne.symm n4)
    have d7 : k ≠ m := ne_of_none a4 nm
    have d8 : p ≠ m := ne_of_none a5 nm
    have d9 : t ≠ m := ne_of_none a6 nm
    have d10 : n ≠ m := ne_of_none k4 nm
    refine q _ ⟨dx, k, p, t, n, m⟩ b5 ?_ ?_
    · intro a ha
      simp only [OA.all, List.mem_cons, List.not_mem_nil, or_false] at ha
      rcases ha with rfl | rfl | rfl | rfl | rfl
      · exact fk
      · exact fp
      · exact ft
      · exact fn'
      · exact fm
    · refine ⟨x5, ?_, a7, a8, a9, ⟨[], a10, Nat.le_refl _, fun z => rfl⟩, ⟨[], k5, List.nodup_nil, fun kv hkv => (nomatch hkv)⟩, rfl, fun i a c h1 h2 => (nomatch h1), fun c hc => (nomatch hc), List.nodup_nil, Nat.zero_le _⟩
      simp [OA.all, d1, d2, d3, d4, d5, d6, d7, d8, d9, d10]
def spPlace (K : PySem.W.Frag) (d : Nat) : Sp := fun vs H Q _ => ∃ (x : Addr) (A : OA) (T : List Ci) (rows : List Addr) (v : V) (c : Ci), vs = [.ref x, v] ∧ OrdS (oC K) H x A T rows ∧ CO (cC K) H v c ∧ Fit c ∧ c.depth < d ∧ T.length + 2 * c.size ≤ 4001 ∧
  ∀ (H' : Hp) (T' : List Ci) (rows' : List Addr) (n : Nat), Ko A H H' → OrdS (oC K) H' x A T' rows' → T <+: T' → T'[n]? = some c → T'.length + 1 ≤ T.length + 2 * c.size → (∀ a ∈ rows', a ∈ rows ∨ H a = none) → (∀ d ∈ T', d ∈ T ∨ d.depth ≤ c.depth) → Q (.int ((n : Nat) : Int)) H'
theorem met_no {C f : Addr} {x qual y : Str} {params : Arguments} {body : List Stmt} {scope : Scope} {ps : List Str} {kws : List (Str × V)} {fd : FuncData} {k : Nat} (F : FunD K x qual params body scope [] kws f fd) (cl : Cls K C) (me : Meth K C y f) (b : Binds K fd ps []) : Met P w K mg base k C y spNo [] :=
  ⟨_, fd, ps, [], cl, me, ⟨fun _ _ _ _ h => h.elim, fun _ _ _ _ _ _ _ _ _ _ _ _ _ h => h.elim⟩, b, .nil⟩
theorem M_Order_place (T : Txt K mg) : ∀ d, Met P w K mg base (d + 3) (oC K) "place" (spPlace K d) [] := by
  have cl := cl_or T
  have cc := T_cls T
  have M_Circle_parts : Met P w K mg base 1 (cC K) "parts" (spParts K) [] := M_Circle_parts T
  have M_Circle___str__ : Met P w K mg base 1 (cC K) "__str__" (spStr K) [] := M_Circle___str__ T
  intro d
  induction d with
  | zero =>
    obtain ⟨fd, F⟩ := T.F_Order_place
    have b : Binds K fd ["self", "circle"] [] := FunD.bindsN F fun _ _ _ _ _ _ us hl => match us, hl with | [_, _], _ => rfl
    refine ⟨_, fd, _, [], He.cls_ok T.f_cls_Order, He.meth_ok T.f_meth_Order_place, fnD F sc_Order_place (fun vs H Q E h => ?_) (fun cdv A outer s H vs Q E hr h => ?_), b, .nil⟩
    · obtain ⟨x, A, T', rows, v, c, rfl, _⟩ := h
      rfl
    · obtain ⟨x, A, T', rows, v, c, rfl, _, _, _, hd, _⟩ := h
      exact absurd hd (Nat.not_lt_zero _)
  | succ d ih =>
    obtain ⟨fd, F⟩ := T.F_Order_place
    have b : Binds K fd ["self", "circle"] [] := FunD.bindsN F fun _ _ _ _ _ _ us hl => match us, hl with | [_, _], _ => rfl
    refine ⟨_, fd, _, [], He.cls_ok T.f_cls_Order, He.meth_ok T.f_meth_Order_place, fnD F sc_Order_place (fun vs H Q E h => ?_) (fun cdv A outer s H vs Q E hr h => ?_), b, .nil⟩
    · obtain ⟨x, A, T', rows, v, c, rfl, _⟩ := h
      rfl
    · obtain ⟨x, A, T0, rows, v, c, rfl, ho, hc, hf, hd, hz, q⟩ := h
      have hu := hu_of hr
      have M_Order_place := ih
      refine ⟨_, (pss_cons (ps_set (i := 2) sc_Order_place.nd rfl (Or.inl rfl) (pe_callTy (LO.cr_strO M_Circle___str__ hr (by omega)) (by rfl) T.z_str (by decide +kernel) (pa_cons (pv 1) pa_nil)))
  (pss_cons (ps_if (pt_cmp (pc_dnotin hu (pv 2) (pe_fld (pv 0) (by rfl))) (by rfl))
    (pss_cons (ps_setLc (i := 3) (own := [("part", 4)]) (g := gName 4) (tt := tYes) (te := (tMeth (oC K) "place" (spPlace K d) [] C8.E0 (tVar 0) (tCons (tVar 4) tNil))) rfl sc_Order_place.nd rfl rfl (sw_true rfl rfl rfl (by decide +kernel)) (pi_list (pe_mt0 M_Circle_parts hr (by omega) (pv 1))) (blkOk_by (N := N_Order_place) (sc := defScope s_Order_place) (by decide +kernel)) (fun _ _ _ _ _ => pg_name (i := 4) sc_Order_place.nd rfl (Or.inl rfl)) (fun _ _ _ _ _ => pts_nil) (fun _ _ _ _ _ => (pe_mt M_Order_place hr (Nat.le_refl _) (pv 0) (pa_cons (pv 4) pa_nil))))
    (pss_cons (ps_dput hu (pe_fld (pv 0) (by rfl)) (pv 2) (pe_callB call_len_seq (by rfl) T.z_len PySem.boot_len (pa_cons (pe_fld (pv 0) (by rfl)) pa_nil)) rfl)
    (pss_cons (ps_expr (pe_bm PySem.F.plainAttrs_list PySem.F.slot_list_append PySem.F.type_list_append mt_append (pe_fld (pv 0) (by rfl)) (pa_cons (pe_fld (pv 1) (by rfl)) pa_nil)))
    (pss_cons (ps_expr (pe_bm PySem.F.plainAttrs_list PySem.F.slot_list_append PySem.F.type_list_append mt_append (pe_fld (pv 0) (by rfl)) (pa_cons (pv 3) pa_nil)))
    (pss_one (ps_expr (pe_bm PySem.F.plainAttrs_list PySem.F.slot_list_append PySem.F.type_list_append mt_append (pe_fld (pv 0) (by rfl)) (pa_cons (pv 2) pa_nil))))))))
    pss_nil)
  (pss_one (ps_ret (pe_dget hu (pe_fld (pv 0) (by rfl)) (pv 2) (fun _ _ => rfl)))))), ?_⟩
      obtain ⟨a, ax, ar, at', rfl, ha⟩ := co_ref hc
      refine ⟨_, rfl, a, ax, _, rfl, ha, _, c, rfl, hc, c.text, rfl, ?_⟩
      have fld : ∀ {f : Str}, NoAttr K (oC K) f → NoAttr K (oC K) f := fun h => h
      obtain ⟨kvs, hn, hn2, hn3⟩ := ho.hn
      refine ⟨_, rfl, _, rfl, x, _, A.dx, _, _, rfl, ho.hx, cl, no_or T T.f_no_Order__numbers, rfl, A.n, _, rfl, DGet.k (k := .inr c.text) hn, _, rfl, ?_⟩
      rw [hn3]
      cases e : tix T0 c.text with
      | some u =>
        obtain ⟨i, c', rfl, g1, g2⟩ := tix_some e
        have ec : c' = c := LR.text_inj (ho.fit c' (List.mem_of_getElem? g1)) hf g2
        subst ec
        refine iteF ?_
        refine ⟨_, rfl, x, _, A.dx, _, _, rfl, ho.hx, cl, no_or T T.f_no_Order__numbers, rfl, _, rfl, A.n, .int ((i : Nat) : Int), rfl, ?_, ?_⟩
        · have z := DGet.k (k := .inr c'.text) hn
          rw [hn3, e] at z
          exact z
        · have z := size_pos hf.wf
          exact q H T0 rows i (Ko.refl A H) ho (List.prefix_refl T0) g1 (by omega) (fun _ z => .inl z) (fun _ z => .inl z)
      | none =>
        refine iteT ?_
        refine ⟨_, rfl, a, ax, _, rfl, ha, rfl, _, c, rfl, hc, fun p crows hp hr2 => ?_⟩
        have s1 : Same H (upd H p (.lst crows)) := same_upd hp
        have np := ho.fresh hp
        refine ⟨p, rfl, ⟨_, sqL_of upd_same⟩, fun D nD => ?_⟩
        have npD : D ≠ p := fun e => by rw [e, upd_same] at nD; cases nD
        have lenc : crows.length = c.parts.length := cos_len hr2
        have ho1 := ho.same s1
        have nDA := ho1.fresh nD
        have hf0 : H D = none := by rw [upd_ne npD] at nD; exact nD
        have hpl : c.parts.length ≤ 60 := by
          cases c with
          | eye n => exact Nat.zero_le _
          | node k ps =>
            have z := sizes_len (ps := ps) fun d hd => ((wf_node.mp hf.wf).2.1 d hd).1
            have z2 := hf.size
            rw [Ci.size] at z2
            exact Nat.le_trans z z2
        have hsz : 2 * sizes c.parts + 2 ≤ 2 * c.size + c.parts.length := by
          cases c with
          | eye n => rw [Ci.size]; exact (show 2 * 0 + 2 ≤ 2 * 1 + 0 by decide)
          | node k ps =>
            have z := (wf_node.mp hf.wf).1
            rw [Ci.size]
            show 2 * sizes ps + 2 ≤ 2 * sizes ps + ps.length
            omega
        have hsz2 : sizes c.parts ≤ c.size := by
          cases c with
          | eye n => rw [Ci.size]; exact (show 0 ≤ 1 by decide)
          | node k ps => rw [Ci.size]; exact Nat.le_refl _
        have hdp : ∀ p ∈ c.parts, p.depth < c.depth := by
          cases c with
          | eye n => intro p hp; cases hp
          | node k ps =>
            intro p hp
            have z := depths_mem (ps := ps) hp
            rw [Ci.depth]
            omega
        have ntxt : c.text ∉ T0.map Ci.text := tix_none.mp e
        refine lc_st (walk_list (K := K) (a := p) (xs := crows)) (fun i acc H2 => ∃ (Ti : List Ci) (rowsi : List Addr) (js : List Nat), OrdS (oC K) H2 x A Ti rowsi ∧ T0 <+: Ti ∧ acc = js.map (fun j => V.int ((j : Nat) : Int)) ∧ js.map (fun j => Ti[j]?) = (c.parts.take i).map some ∧
          Ti.length + i ≤ T0.length + 2 * sizes (c.parts.take i) ∧ Ko A (L2.upd H p (.lst crows)) H2 ∧ D ∉ rowsi ∧ (∀ a ∈ rowsi, a ∈ rows ∨ H a = none) ∧ ∀ d ∈ Ti, d ∈ T0 ∨ d.depth < c.depth) (by omega) ?_ ?_ ?_ ?_
        · rintro i acc H2 _ ⟨Ti, rowsi, js, _, _, _, _, _, k2, _⟩
          exact sqL_of (k2 _ _ np upd_same)
        · refine ⟨T0, rows, [], ho1.same (same_upd nD), List.prefix_refl _, rfl, rfl, Nat.le_add_right _ _, Ko.of (same_upd nD), fun z => ?_, fun a z => .inl z, fun d z => .inl z⟩
          obtain ⟨i, hi⟩ := List.getElem?_of_mem z
          have hi2 : i < T0.length := by rw [← ho.rl]; exact (List.getElem?_eq_some_iff.mp hi).1
          obtain ⟨_, js, g, _⟩ := ho.hr i D _ hi (List.getElem?_eq_getElem hi2)
          rw [g] at hf0
          cases hf0
        · rintro i x1 H2 H3 acc Nx hi hD2 hl ⟨Ti, rowsi, js, hoi, prei, rfl, hjs, hlen, k2, nDr, hfr, hdd⟩ ⟨rfl, hx1⟩ hN
          obtain ⟨ci, g1, g2⟩ := cos_get hr2 hx1
          have g3 := co_mono ((Kc.of s1).trans (ho1.kc k2)) g2
          have hmem := List.mem_of_getElem? g1
          have hfi := hf.part hmem
          have etake : c.parts.take (i + 1) = c.parts.take i ++ [ci] := take_one g1
          have esz : sizes (c.parts.take (i + 1)) = sizes (c.parts.take i) + ci.size := by rw [etake, sizes_app, sizes_one]
          have etot : sizes (c.parts.take (i + 1)) ≤ sizes c.parts := sizes_take c.parts (i + 1)
          have hdi := hdp ci hmem
          refine ⟨rfl, _, rfl, x, A.dx, _, rfl, hoi.hx, rfl, _, rfl, x, A, Ti, rowsi, x1, ci, rfl, hoi, g3, hfi, by omega, by omega, fun H4 T4 rows4 n k4 ho4 pre4 at4 len4 fr4 dd4 => ?_⟩
          have hD4 := k4 _ _ nDA hD2
          have nD4 : D ∉ rows4 := fun z => by
            rcases fr4 D z with z | z
            · exact nDr z
            · rw [hD2] at z
              cases z
          refine hN _ H4 hD4 ⟨T4, rows4, js ++ [n], ho4.out (fun b o hb eb => ?_), prei.trans pre4, by rw [List.map_append]; rfl, ?_, by omega, ?_, nD4, fun b hb => ?_, fun dd hdd4 => ?_⟩
          · rw [upd_ne (fun z => ?_)]
            · exact eb
            · subst z
              rcases hb with hb | hb | hb
              · rw [hb] at nD
                rw [ho1.hx] at nD
                cases nD
              · exact nDA hb
              · exact nD4 hb
          · rw [List.map_append, etake, List.map_append, ← hjs]
            congr 1
            · refine List.map_congr_left fun j hj => ?_
              have q2 : Ti[j]? ∈ (c.parts.take i).map some := by rw [← hjs]; exact List.mem_map.mpr ⟨j, hj, rfl⟩
              obtain ⟨p2, _, hp2⟩ := List.mem_map.mp q2
              rw [← hp2]
              exact getElem?_pre pre4 hp2.symm
            · show [T4[n]?] = [some ci]
              rw [at4]
          · intro b o nb eb
            rw [upd_ne (ne_of_none eb nD)]
            exact k4 b o nb (k2 b o nb eb)
          · rcases fr4 b hb with z | z
            · exact hfr b z
            · right
              cases eH : H b with
              | none => rfl
              | some o =>
                by_cases hbA : b ∈ A.all
                · exact absurd (ho4.hr) (fun hr4 => by
                    obtain ⟨i4, hi4⟩ := List.getElem?_of_mem hb
                    have hi5 : i4 < T4.length := by rw [← ho4.rl]; exact (List.getElem?_eq_some_iff.mp hi4).1
                    exact (hr4 i4 b _ hi4 (List.getElem?_eq_getElem hi5)).1 hbA)
                · have z2 := k2 b o hbA (s1 b o eH)
                  rw [z2] at z
                  cases z
          · rcases dd4 dd hdd4 with z | z
            · exact hdd dd z
            · exact .inr (by omega)
        · rintro H5 acc hD5 hl ⟨Tn, rowsn, js, hon, pren, rfl, hjs, hlen, k5, nDr, hfr, hdd⟩
          rw [lenc, List.take_length] at hjs hlen
          have ntn : c.text ∉ Tn.map Ci.text := fun z => by
            obtain ⟨d', hd', ed'⟩ := List.mem_map.mp z
            have ec : d' = c := LR.text_inj (hon.fit d' hd') hf ed'
            subst ec
            rcases hdd _ hd' with z2 | z2
            · exact ntxt (List.mem_map.mpr ⟨_, z2, rfl⟩)
            · exact Nat.lt_irrefl _ z2
          obtain ⟨kvn, hkn, hkn2, hkn3⟩ := hon.hn
          have addn := hon.add hD5 hjs nDA ntn hf (by omega) hkn
          have nd := hon.nd
          have xn := hon.xn
          unfold OA.all at nd xn
          simp only [List.nodup_cons, List.mem_cons, List.not_mem_nil, or_false, not_or, List.nodup_nil, and_true] at nd xn
          obtain ⟨⟨n1, n2, n3, n4⟩, ⟨n5, n6, n7⟩, ⟨n8, n9⟩, n10, n11⟩ := nd
          obtain ⟨x1, x2, x3, x4, x5⟩ := xn
          have ha5 : H5 a = some (.ins (cC K) ax (cfs c ar at')) := (ho1.kc (D := cC K) k5).1 _ _ _ (by unfold cfs; simp) (s1 _ _ ha)
          have naA : a ∉ A.all := fun z => by
            obtain ⟨kva, hna, _⟩ := ho.hn
            obtain ⟨kvm, hma, _⟩ := ho.hm
            unfold OA.all at z
            simp only [List.mem_cons, List.not_mem_nil, or_false] at z
            rcases z with z | z | z | z | z
            · rw [z, ho.hk] at ha; cases ha
            · rw [z, ho.hp] at ha; cases ha
            · rw [z, ho.ht] at ha; cases ha
            · rw [z, hna] at ha; cases ha
            · rw [z, hma] at ha; cases ha
          unfold OA.all at naA
          simp only [List.mem_cons, List.not_mem_nil, or_false, not_or] at naA
          obtain ⟨y1, y2, y3, y4, y5⟩ := naA
          have lT : Tn.length ≤ 4000 := hon.sz
          refine ⟨_, rfl, x, _, A.dx, _, _, rfl, hon.hx, cl, no_or T T.f_no_Order__texts, rfl, A.t, _, rfl, .inl (sqL_of hon.ht), ?_⟩
          rw [List.length_map]
          refine ⟨_, rfl, x, _, A.dx, _, _, rfl, hon.hx, cl, no_or T T.f_no_Order__numbers, rfl, _, rfl, A.n, _, rfl, DPut.k (k := .inr c.text) hkn (by rw [sizeLine_eq]; omega), ?_⟩
          have hx6 : L2.upd H5 A.n (.dK (putK kvn (.inr c.text) (.int ((Tn.length : Nat) : Int)))) x = some (.ins (oC K) A.dx (ofs A)) := by rw [upd_ne x4]; exact hon.hx
          have hk6 : L2.upd H5 A.n (.dK (putK kvn (.inr c.text) (.int ((Tn.length : Nat) : Int)))) A.k = some (.lst (Tn.map fun c => .str c.kind)) := by rw [upd_ne n3]; exact hon.hk
          have ha6 : L2.upd H5 A.n (.dK (putK kvn (.inr c.text) (.int ((Tn.length : Nat) : Int)))) a = some (.ins (cC K) ax (cfs c ar at')) := by rw [upd_ne y4]; exact ha5
          refine ⟨_, rfl, x, _, A.dx, _, _, rfl, hx6, cl, no_or T T.f_no_Order__kinds, rfl, .inl ⟨rfl, _, sqL_of hk6⟩, _, rfl, a, _, ax, _, _, rfl, ha6, cc, T_no T T.f_no_Circle_kind, rfl, A.k, _, _, rfl, rfl, hk6, by rw [List.length_map, sizeLine_eq]; omega, ?_⟩
          have hx7 : L2.upd (L2.upd H5 A.n (.dK (putK kvn (.inr c.text) (.int ((Tn.length : Nat) : Int))))) A.k (.lst (Tn.map (fun c => V.str c.kind) ++ [.str c.kind])) x = some (.ins (oC K) A.dx (ofs A)) := by rw [upd_ne x1]; exact hx6
          have hp7 : L2.upd (L2.upd H5 A.n (.dK (putK kvn (.inr c.text) (.int ((Tn.length : Nat) : Int))))) A.k (.lst (Tn.map (fun c => V.str c.kind) ++ [.str c.kind])) A.p = some (.lst (rowsn.map V.ref)) := by rw [upd_ne (Ne.symm n1), upd_ne n6]; exact hon.hp
          have ht7 : L2.upd (L2.upd H5 A.n (.dK (putK kvn (.inr c.text) (.int ((Tn.length : Nat) : Int))))) A.k (.lst (Tn.map (fun c => V.str c.kind) ++ [.str c.kind])) A.t = some (.lst (Tn.map fun c => .str c.text)) := by rw [upd_ne (Ne.symm n2), upd_ne n8]; exact hon.ht
          have lr : rowsn.length ≤ 4000 := by rw [hon.rl]; exact lT
          refine ⟨_, rfl, x, _, A.dx, _, _, rfl, hx7, cl, no_or T T.f_no_Order__parts, rfl, .inl ⟨rfl, _, sqL_of hp7⟩, _, rfl, A.p, _, _, rfl, rfl, hp7, by rw [List.length_map, sizeLine_eq]; omega, ?_⟩
          have hx8 := (upd_ne (H := L2.upd (L2.upd H5 A.n (.dK (putK kvn (.inr c.text) (.int ((Tn.length : Nat) : Int))))) A.k (.lst (Tn.map (fun c => V.str c.kind) ++ [.str c.kind]))) (o := .lst (rowsn.map V.ref ++ [.ref D])) x2).trans hx7
          have ht8 := (upd_ne (H := L2.upd (L2.upd H5 A.n (.dK (putK kvn (.inr c.text) (.int ((Tn.length : Nat) : Int))))) A.k (.lst (Tn.map (fun c => V.str c.kind) ++ [.str c.kind]))) (o := .lst (rowsn.map V.ref ++ [.ref D])) (Ne.symm n5)).trans ht7
          refine ⟨_, rfl, x, _, A.dx, _, _, rfl, hx8, cl, no_or T T.f_no_Order__texts, rfl, .inl ⟨rfl, _, sqL_of ht8⟩, _, rfl, A.t, _, _, rfl, rfl, ht8, by rw [List.length_map, sizeLine_eq]; omega, ?_⟩
          refine ⟨_, rfl, x, _, A.dx, _, _, rfl, addn.hx, cl, no_or T T.f_no_Order__numbers, rfl, _, rfl, A.n, .int ((Tn.length : Nat) : Int), rfl, ?_, ?_⟩
          · obtain ⟨kvz, hz1, hz2, hz3⟩ := addn.hn
            have z := DGet.k (k := .inr c.text) hz1
            rw [hz3, tix_at addn.tn (i := Tn.length) (c := c) (by rw [List.getElem?_concat_length])] at z
            exact z
          · refine q _ (Tn ++ [c]) (rowsn ++ [D]) Tn.length ?_ addn (pren.trans (List.prefix_append _ _)) (by rw [List.getElem?_concat_length]) ?_ ?_ ?_
            · have inA : A.n ∈ A.all ∧ A.k ∈ A.all ∧ A.p ∈ A.all ∧ A.t ∈ A.all := by simp [OA.all]
              exact ((((((Ko.of s1).trans k5).upd inA.1).upd inA.2.1).upd inA.2.2.1).upd inA.2.2.2)
            · rw [List.length_append]
              show Tn.length + 1 + 1 ≤ _
              omega
            · intro b hb
              rcases List.mem_append.mp hb with hb | hb
              · exact hfr b hb
              · rw [List.mem_singleton.mp hb]
                exact .inr hf0
            · intro d' hd'
              rcases List.mem_append.mp hd' with hd' | hd'
              · rcases hdd d' hd' with z | z
                · exact .inl z
                · exact .inr (Nat.le_of_lt z)
              · rw [List.mem_singleton.mp hd']
                exact .inr (Nat.le_refl _)
def spTells (K : PySem.W.Frag) (n : Nat) : Sp := fun vs H Q _ => ∃ (x : Addr) (A : OA) (T : List Ci) (rows : List Addr) (i j : Nat) (c d : Ci), vs = [.ref x, .int ((i : Nat) : Int), .int ((j : Nat) : Int)] ∧ OrdS (oC K) H x A T rows ∧ T[i]? = some c ∧ T[j]? = some d ∧ c.depth + d.depth < n ∧
  ∀ (H' : Hp), Ko A H H' → OrdS (oC K) H' x A T rows → Q (.bl (leB c d)) H'
def spDecide (K : PySem.W.Frag) (n : Nat) : Sp := fun vs H Q _ => ∃ (x : Addr) (A : OA) (T : List Ci) (rows : List Addr) (i j : Nat) (c d : Ci), vs = [.ref x, .int ((i : Nat) : Int), .int ((j : Nat) : Int)] ∧ OrdS (oC K) H x A T rows ∧ T[i]? = some c ∧ T[j]? = some d ∧ i ≠ j ∧ c.depth + d.depth < n ∧
  ∀ (H' : Hp), Ko A H H' → OrdS (oC K) H' x A T rows → Q (.bl (leB c d)) H'
def nints (is : List Nat) : List V := is.map fun i => V.int ((i : Nat) : Int)
def spAll (K : PySem.W.Frag) (n : Nat) : Sp := fun vs H Q _ => ∃ (x : Addr) (A : OA) (T : List Ci) (rows : List Addr) (l m : Addr) (is js : List Nat) (cs ds : List Ci), vs = [.ref x, .ref l, .ref m] ∧ OrdS (oC K) H x A T rows ∧ H l = some (.lst (nints is)) ∧ H m = some (.lst (nints js)) ∧ l ∉ A.all ∧ m ∉ A.all ∧
  is.map (fun i => T[i]?) = cs.map some ∧ js.map (fun j => T[j]?) = ds.map some ∧ (∀ c ∈ cs, ∀ d ∈ ds, c.depth + d.depth < n) ∧ is.length ≤ 1000000 ∧ js.length ≤ 1000000 ∧
  ∀ (H' : Hp) (b : Bool), Ko A H H' → OrdS (oC K) H' x A T rows → (b = true ↔ ∀ c ∈ cs, ∀ d ∈ ds, Le c d) → Q (.bl b) H'
theorem places_get {T : List Ci} {is : List Nat} {cs : List Ci} (h : is.map (fun i => T[i]?) = cs.map some) {k i : Nat} (hk : is[k]? = some i) : ∃ c, cs[k]? = some c ∧ T[i]? = some c := by
  have e : (is.map fun i => T[i]?)[k]? = (cs.map some)[k]? := by rw [h]
  rw [List.getElem?_map, List.getElem?_map, hk] at e
  cases q : cs[k]? with
  | none =>
    rw [q] at e
    cases e
  | some c =>
    rw [q] at e
    exact ⟨c, rfl, Option.some.inj e⟩
theorem nints_get {is : List Nat} {k : Nat} {v : V} (h : (nints is)[k]? = some v) : ∃ i, is[k]? = some i ∧ v = .int ((i : Nat) : Int) := by
  unfold nints at h
  rw [List.getElem?_map] at h
  cases q : is[k]? with
  | none =>
    rw [q] at h
    cases h
  | some i =>
    rw [q] at h
    exact ⟨i, rfl, (Option.some.inj h).symm⟩
theorem M_Order__all_tell (T : Txt K mg) (n : Nat) (M_Order_tells : Met P w K mg base (3 * n + 2) (oC K) "tells" (spTells K n) []) : Met P w K mg base (3 * n + 3) (oC K) "_all_tell" (spAll K n) [] := by
  have cl := cl_or T
  obtain ⟨fd, F⟩ := T.F_Order__all_tell
  have b : Binds K fd ["self", "ones", "others"] [] := FunD.bindsN F fun _ _ _ _ _ _ us hl => match us, hl with | [_, _, _], _ => rfl
  refine ⟨_, fd, _, [], He.cls_ok T.f_cls_Order, He.meth_ok T.f_meth_Order__all_tell, fnD F sc_Order__all_tell (fun vs H Q E h => ?_) (fun cdv A outer s H vs Q E hr h => ?_), b, .nil⟩
  · obtain ⟨x, A, T', rows, l, m, is, js, cs, ds, rfl, _⟩ := h
    rfl
  · obtain ⟨x, A, T0, rows, l, m, is, js, cs, ds, rfl, ho, hl, hm, nl, nm, h1, h2, h3, h4, h5, q⟩ := h
    refine ⟨_, (pss_cons (ps_for PassesOwn.never rfl (pi_list (pv 1)) (pg_name (i := 3) sc_Order__all_tell.nd rfl (Or.inl rfl))
    (pss_one (ps_for PassesOwn.never rfl (pi_list (pv 2)) (pg_name (i := 4) sc_Order__all_tell.nd rfl (Or.inl rfl))
      (pss_one (ps_if (pt_not (pt_val (pe_mt M_Order_tells hr (by omega) (pv 0) (pa_cons (pv 3) (pa_cons (pv 4) pa_nil)))))
        (pss_one (ps_ret pe_bl))
        pss_nil)))))
  (pss_one (ps_ret pe_bl))), ?_⟩
    refine ⟨_, rfl, l, rfl, ⟨_, sqL_of hl⟩, ?_⟩
    have lis : (nints is).length = is.length := by unfold nints; rw [List.length_map]
    have ljs : (nints js).length = js.length := by unfold nints; rw [List.length_map]
    have lcs : is.length = cs.length := by have z := congrArg List.length h1; simpa using z
    have lds : js.length = ds.length := by have z := congrArg List.length h2; simpa using z
    refine for_it (walk_list (K := K) (a := l) (xs := nints is)) (fun k σ H2 => (∃ a3 a4, σ = [some (.ref x), some (.ref l), some (.ref m), a3, a4]) ∧ Ko A H H2 ∧ OrdS (oC K) H2 x A T0 rows ∧ ∀ k' c, k' < k → cs[k']? = some c → ∀ d ∈ ds, Le c d) ?_ ?_ ?_ ?_
    · exact ⟨⟨none, none, rfl⟩, Ko.refl A H, ho, fun k' c z => absurd z (Nat.not_lt_zero _)⟩
    · rintro k σ H2 _ ⟨_, k2, _⟩
      exact sqL_of (k2 _ _ nl hl)
    · rintro k y σ H2 H3 hk ⟨⟨a3, a4, rfl⟩, k2, ho2, hall⟩ ⟨rfl, hy⟩
      obtain ⟨i, g1, rfl⟩ := nints_get hy
      obtain ⟨c, g2, g3⟩ := places_get h1 g1
      refine ⟨_, rfl, m, rfl, ⟨_, sqL_of (k2 _ _ nm hm)⟩, ?_⟩
      refine for_it (walk_list (K := K) (a := m) (xs := nints js)) (fun k' σ H2 => (∃ a4, σ = [some (.ref x), some (.ref l), some (.ref m), some (.int ((i : Nat) : Int)), a4]) ∧ Ko A H H2 ∧ OrdS (oC K) H2 x A T0 rows ∧ ∀ k2 d, k2 < k' → ds[k2]? = some d → Le c d) ?_ ?_ ?_ ?_
      · exact ⟨⟨_, rfl⟩, k2, ho2, fun k' c z => absurd z (Nat.not_lt_zero _)⟩
      · rintro k' σ H2 _ ⟨_, k3, _⟩
        exact sqL_of (k3 _ _ nm hm)
      · rintro k' y σ H4 H5 hk' ⟨⟨a4, rfl⟩, k4, ho4, hall2⟩ ⟨rfl, hy'⟩
        obtain ⟨j, f1, rfl⟩ := nints_get hy'
        obtain ⟨d, f2, f3⟩ := places_get h2 f1
        refine ⟨_, rfl, x, A.dx, _, rfl, ho4.hx, rfl, _, rfl, _, rfl, x, A, T0, rows, i, j, c, d, rfl, ho4, g3, f3, h3 c (List.mem_of_getElem? g2) d (List.mem_of_getElem? f2), fun H6 k6 ho6 => ⟨_, rfl, ?_⟩⟩
        cases e : leB c d with
        | false =>
          refine iteT ?_
          refine q H6 false (k4.trans k6) ho6 ⟨fun z => (nomatch z), fun z => ?_⟩
          have z2 := leB_iff.mpr (z c (List.mem_of_getElem? g2) d (List.mem_of_getElem? f2))
          rw [e] at z2
          exact z2
        | true =>
          refine iteF ⟨⟨_, rfl⟩, k4.trans k6, ho6, fun k2 d' hk2 hd' => ?_⟩
          by_cases e2 : k2 = k'
          · rw [e2, f2] at hd'
            cases hd'
            exact leB_iff.mp e
          · exact hall2 k2 d' (by omega) hd'
      · rintro σ H4 ⟨⟨a4, rfl⟩, k4, ho4, hall2⟩
        refine ⟨⟨_, _, rfl⟩, k4, ho4, fun k' c' hk' hc' => ?_⟩
        by_cases e2 : k' = k
        · rw [e2, g2] at hc'
          cases hc'
          intro d hd
          obtain ⟨k2, hk2⟩ := List.getElem?_of_mem hd
          refine hall2 k2 d ?_ hk2
          rw [ljs, lds]
          exact (List.getElem?_eq_some_iff.mp hk2).1
        · exact hall k' c' (by omega) hc'
    · rintro σ H2 ⟨⟨a3, a4, rfl⟩, k2, ho2, hall⟩
      refine q H2 true k2 ho2 ⟨fun _ c hc => ?_, fun _ => rfl⟩
      obtain ⟨k', hk'⟩ := List.getElem?_of_mem hc
      refine hall k' c ?_ hk'
      rw [lis, lcs]
      exact (List.getElem?_eq_some_iff.mp hk').1
theorem kind_com (c : Ci) : decide (V.str c.kind = V.str "common") = isCom c := by
  match c with
  | .eye n => exact (show decide (V.str "eye" = V.str "common") = false by decide +kernel)
  | .node true ps => exact (show decide (V.str "pool" = V.str "common") = false by decide +kernel)
  | .node false ps => exact (show decide (V.str "common" = V.str "common") = true by decide +kernel)
theorem kind_pool (c : Ci) : decide (V.str c.kind = V.str "pool") = isPool c := by
  match c with
  | .eye n => exact (show decide (V.str "eye" = V.str "pool") = false by decide +kernel)
  | .node true ps => exact (show decide (V.str "pool" = V.str "pool") = true by decide +kernel)
  | .node false ps => exact (show decide (V.str "common" = V.str "pool") = false by decide +kernel)
theorem part_depth {c p : Ci} (h : p ∈ c.parts) : p.depth < c.depth := by
  cases c with
  | eye n => cases h
  | node k ps =>
    have z := depths_mem (ps := ps) h
    rw [Ci.depth]
    omega
theorem row_at {C : Addr} {H : Hp} {x : Addr} {A : OA} {T : List Ci} {rows : List Addr} (h : OrdS C H x A T rows) {i : Nat} {c : Ci} (hi : T[i]? = some c) : ∃ a js, rows[i]? = some a ∧ a ∉ A.all ∧ H a = some (.lst (nints js)) ∧ js.map (fun j => T[j]?) = c.parts.map some := by
  have hl : i < rows.length := by
    rw [h.rl]
    exact (List.getElem?_eq_some_iff.mp hi).1
  obtain ⟨h1, js, h2, h3⟩ := h.hr i rows[i] c (List.getElem?_eq_getElem hl) hi
  exact ⟨rows[i], js, List.getElem?_eq_getElem hl, h1, h2, h3⟩
theorem leB_of {c d : Ci} {b : Bool} (h : b = true ↔ Le c d) : b = leB c d := by
  rw [Bool.eq_iff_iff, h, leB_iff]
theorem M_Order__decide (T : Txt K mg) (n : Nat) (M_Order_tells : Met P w K mg base (3 * n + 2) (oC K) "tells" (spTells K n) []) : Met P w K mg base (3 * n + 4) (oC K) "_decide" (spDecide K (n + 1)) [] := by
  have M_Order__all_tell : Met P w K mg base (3 * n + 3) (oC K) "_all_tell" (spAll K n) [] := M_Order__all_tell T n M_Order_tells
  have cl := cl_or T
  obtain ⟨fd, F⟩ := T.F_Order__decide
  have b : Binds K fd ["self", "one", "other"] [] := FunD.bindsN F fun _ _ _ _ _ _ us hl => match us, hl with | [_, _, _], _ => rfl
  refine ⟨_, fd, _, [], He.cls_ok T.f_cls_Order, He.meth_ok T.f_meth_Order__decide, fnD F sc_Order__decide (fun vs H Q E h => ?_) (fun cdv A outer s H vs Q E hr h => ?_), b, .nil⟩
  · obtain ⟨x, A, T', rows, i, j, c, d, rfl, _⟩ := h
    rfl
  · obtain ⟨x, A, T0, rows, i, j, c, d, rfl, ho, hi, hj, hij, hn, q⟩ := h
    refine ⟨_, (pss_cons (ps_if (pt_cmpR op_eq (pe_ix ix_list (pe_fld (pv 0) (by rfl)) (pv 1) (fun _ _ => rfl)) pe_str (nomark _))
    (pss_one (ps_ret (pe_mt M_Order__all_tell hr (by omega) (pv 0) (pa_cons (pe_ix ix_list (pe_fld (pv 0) (by rfl)) (pv 1) (fun _ _ => rfl)) (pa_cons (pe_lst (pa_cons (pv 2) pa_nil)) pa_nil)))))
    pss_nil)
  (pss_cons (ps_if (pt_cmpR op_eq (pe_ix ix_list (pe_fld (pv 0) (by rfl)) (pv 2) (fun _ _ => rfl)) pe_str (nomark _))
    (pss_one (ps_ret (pe_mt M_Order__all_tell hr (by omega) (pv 0) (pa_cons (pe_lst (pa_cons (pv 1) pa_nil)) (pa_cons (pe_ix ix_list (pe_fld (pv 0) (by rfl)) (pv 2) (fun _ _ => rfl)) pa_nil)))))
    pss_nil)
  (pss_cons (ps_for PassesOwn.never rfl (pi_list (pe_ix ix_list (pe_fld (pv 0) (by rfl)) (pv 1) (fun _ _ => rfl))) (pg_name (i := 3) sc_Order__decide.nd rfl (Or.inl rfl))
    (pss_one (ps_if (pt_val (pe_mt M_Order_tells hr (by omega) (pv 0) (pa_cons (pv 3) (pa_cons (pv 2) pa_nil))))
      (pss_one (ps_ret pe_bl))
      pss_nil)))
  (pss_cons (ps_for PassesOwn.never rfl (pi_list (pe_ix ix_list (pe_fld (pv 0) (by rfl)) (pv 2) (fun _ _ => rfl))) (pg_name (i := 3) sc_Order__decide.nd rfl (Or.inl rfl))
    (pss_one (ps_if (pt_val (pe_mt M_Order_tells hr (by omega) (pv 0) (pa_cons (pv 1) (pa_cons (pv 3) pa_nil))))
      (pss_one (ps_ret pe_bl))
      pss_nil)))
  (pss_one (ps_ret pe_bl)))))), ?_⟩
    have hk1 : (T0.map fun c => V.str c.kind)[i]? = some (.str c.kind) := by rw [List.getElem?_map, hi]; rfl
    have hk2 : (T0.map fun c => V.str c.kind)[j]? = some (.str d.kind) := by rw [List.getElem?_map, hj]; rfl
    have hne : c ≠ d := fun e => hij (by
      subst e
      have z1 : (T0.map Ci.text)[i]? = some c.text := by rw [List.getElem?_map, hi]; rfl
      have z2 : (T0.map Ci.text)[j]? = some c.text := by rw [List.getElem?_map, hj]; rfl
      obtain ⟨w1, w2⟩ := List.getElem?_eq_some_iff.mp z1
      obtain ⟨w3, w4⟩ := List.getElem?_eq_some_iff.mp z2
      exact (List.getElem_inj ho.tn).mp (w2.trans w4.symm))
    obtain ⟨a, js, r1, r2, r3, r4⟩ := row_at ho hi
    obtain ⟨a', js', r1', r2', r3', r4'⟩ := row_at ho hj
    have rg : (rows.map V.ref)[i]? = some (.ref a) := by rw [List.getElem?_map, r1]; rfl
    have rg' : (rows.map V.ref)[j]? = some (.ref a') := by rw [List.getElem?_map, r1']; rfl
    have small : ∀ {c : Ci} {js : List Nat}, Fit c → js.map (fun j => T0[j]?) = c.parts.map some → js.length ≤ 1000000 := fun {c js} hf e => by
      have z := congrArg List.length e
      rw [List.length_map, List.length_map] at z
      cases c with
      | eye n =>
        rw [z]
        exact Nat.zero_le _
      | node k ps =>
        have z2 := sizes_len (ps := ps) fun d hd => ((wf_node.mp hf.wf).2.1 d hd).1
        have z3 := hf.size
        rw [Ci.size] at z3
        rw [z]
        exact Nat.le_trans z2 (by omega)
    have fc := ho.fit c (List.mem_of_getElem? hi)
    have fd' := ho.fit d (List.mem_of_getElem? hj)
    refine ⟨_, rfl, x, _, A.dx, _, _, rfl, ho.hx, cl, no_or T T.f_no_Order__kinds, rfl, _, rfl, A.k, _, _, _, rfl, rfl, sqL_of ho.hk, atI_nat hk1, rfl, _, rfl, ?_⟩
    rw [kind_com]
    cases e1 : isCom c with
    | true =>
      refine iteT ?_
      refine ⟨_, rfl, x, A.dx, _, rfl, ho.hx, rfl, _, rfl, x, _, A.dx, _, _, rfl, ho.hx, cl, no_or T T.f_no_Order__parts, rfl, _, rfl, A.p, _, _, _, rfl, rfl, sqL_of ho.hp, atI_nat rg, _, rfl, (show 1 ≤ sizeLine by decide), fun o no => ?_⟩
      have s1 := same_upd (o := .lst [.int ((j : Nat) : Int)]) no
      refine ⟨x, A, T0, rows, a, o, js, [j], c.parts, [d], rfl, ho.same s1, s1 _ _ r3, upd_same, r2, ho.fresh no, r4, by rw [List.map_singleton, List.map_singleton, hj], ?_, small fc r4, by simp, fun H' b k' ho' hb => ?_⟩
      · intro p hp d' hd'
        rw [List.mem_singleton.mp hd']
        have z := part_depth hp
        omega
      · have z := q H' ((Ko.of s1).trans k') ho'
        rw [← leB_of (b := b) (by
          rw [hb, le_com e1]
          exact ⟨fun z p hp => z p hp d (List.mem_singleton.mpr rfl), fun z p hp d' hd' => by rw [List.mem_singleton.mp hd']; exact z p hp⟩)] at z
        exact z
    | false =>
    refine iteF ?_
    refine ⟨_, rfl, x, _, A.dx, _, _, rfl, ho.hx, cl, no_or T T.f_no_Order__kinds, rfl, _, rfl, A.k, _, _, _, rfl, rfl, sqL_of ho.hk, atI_nat hk2, rfl, _, rfl, ?_⟩
    rw [kind_pool]
    cases e2 : isPool d with
    | true =>
      refine iteT ?_
      refine ⟨_, rfl, x, A.dx, _, rfl, ho.hx, rfl, _, rfl, (show 1 ≤ sizeLine by decide), fun o no => ?_⟩
      have s1 := same_upd (o := .lst [.int ((i : Nat) : Int)]) no
      have ho1 := ho.same s1
      refine ⟨_, rfl, x, _, A.dx, _, _, rfl, ho1.hx, cl, no_or T T.f_no_Order__parts, rfl, _, rfl, A.p, _, _, _, rfl, rfl, sqL_of ho1.hp, atI_nat rg', ?_⟩
      refine ⟨x, A, T0, rows, o, a', [i], js', [c], d.parts, rfl, ho1, upd_same, s1 _ _ r3', ho.fresh no, r2', by rw [List.map_singleton, List.map_singleton, hi], r4', ?_, by simp, small fd' r4', fun H' b k' ho' hb => ?_⟩
      · intro p hp d' hd'
        rw [List.mem_singleton.mp hp]
        have z := part_depth hd'
        omega
      · have z := q H' ((Ko.of s1).trans k') ho'
        rw [← leB_of (b := b) (by
          rw [hb, le_pool e2]
          exact ⟨fun z p hp => z c (List.mem_singleton.mpr rfl) p hp, fun z p hp d' hd' => by rw [List.mem_singleton.mp hp]; exact z d' hd'⟩)] at z
        exact z
    | false =>
    refine iteF ?_
    have rest := le_rest e1 e2 hne
    have lis : (nints js).length = js.length := by unfold nints; rw [List.length_map]
    have lis' : (nints js').length = js'.length := by unfold nints; rw [List.length_map]
    have lcs : js.length = c.parts.length := by have z := congrArg List.length r4; simpa using z
    have lcs' : js'.length = d.parts.length := by have z := congrArg List.length r4'; simpa using z
    refine ⟨_, rfl, x, _, A.dx, _, _, rfl, ho.hx, cl, no_or T T.f_no_Order__parts, rfl, _, rfl, A.p, _, _, _, rfl, rfl, sqL_of ho.hp, atI_nat rg, a, rfl, ⟨_, sqL_of r3⟩, ?_⟩
    refine for_it (walk_list (K := K) (a := a) (xs := nints js)) (fun k σ H2 => (∃ a3, σ = [some (.ref x), some (.int ((i : Nat) : Int)), some (.int ((j : Nat) : Int)), a3]) ∧ Ko A H H2 ∧ OrdS (oC K) H2 x A T0 rows ∧ ∀ k' p, k' < k → c.parts[k']? = some p → ¬ Le p d) ?_ ?_ ?_ ?_
    · exact ⟨⟨none, rfl⟩, Ko.refl A H, ho, fun k' c z => absurd z (Nat.not_lt_zero _)⟩
    · rintro k σ H2 _ ⟨_, k2, _⟩
      exact sqL_of (k2 _ _ r2 r3)
    · rintro k y σ H2 H3 hk ⟨⟨a3, rfl⟩, k2, ho2, hall⟩ ⟨rfl, hy⟩
      obtain ⟨i2, g1, rfl⟩ := nints_get hy
      obtain ⟨p, g2, g3⟩ := places_get r4 g1
      have pm := List.mem_of_getElem? g2
      refine ⟨_, rfl, x, A.dx, _, rfl, ho2.hx, rfl, _, rfl, _, rfl, x, A, T0, rows, i2, j, p, d, rfl, ho2, g3, hj, by have z := part_depth pm; omega, fun H6 k6 ho6 => ⟨_, rfl, ?_⟩⟩
      cases e : leB p d with
      | true =>
        refine iteT ?_
        have z := q H6 (k2.trans k6) ho6
        rw [leB_iff.mpr (rest.mpr (.inl ⟨p, pm, leB_iff.mp e⟩))] at z
        exact z
      | false =>
        refine iteF ⟨⟨_, rfl⟩, k2.trans k6, ho6, fun k' p' hk' hp' => ?_⟩
        by_cases e3 : k' = k
        · rw [e3, g2] at hp'
          cases hp'
          exact fun z => by
            rw [leB_iff.mpr z] at e
            cases e
        · exact hall k' p' (by omega) hp'
    · rintro σ H2 ⟨⟨a3, rfl⟩, k2, ho2, hall⟩
      have noP : ∀ p ∈ c.parts, ¬ Le p d := fun p hp => by
        obtain ⟨k', hk'⟩ := List.getElem?_of_mem hp
        refine hall k' p ?_ hk'
        rw [lis, lcs]
        exact (List.getElem?_eq_some_iff.mp hk').1
      refine ⟨_, rfl, x, _, A.dx, _, _, rfl, ho2.hx, cl, no_or T T.f_no_Order__parts, rfl, _, rfl, A.p, _, _, _, rfl, rfl, sqL_of ho2.hp, atI_nat rg', a', rfl, ⟨_, sqL_of (k2 _ _ r2' r3')⟩, ?_⟩
      refine for_it (walk_list (K := K) (a := a') (xs := nints js')) (fun k σ H2 => (∃ a3, σ = [some (.ref x), some (.int ((i : Nat) : Int)), some (.int ((j : Nat) : Int)), a3]) ∧ Ko A H H2 ∧ OrdS (oC K) H2 x A T0 rows ∧ ∀ k' p, k' < k → d.parts[k']? = some p → ¬ Le c p) ?_ ?_ ?_ ?_
      · exact ⟨⟨_, rfl⟩, k2, ho2, fun k' c z => absurd z (Nat.not_lt_zero _)⟩
      · rintro k σ H2 _ ⟨_, k2, _⟩
        exact sqL_of (k2 _ _ r2' r3')
      · rintro k y σ H2 H3 hk ⟨⟨a3, rfl⟩, k2, ho2, hall⟩ ⟨rfl, hy⟩
        obtain ⟨i2, g1, rfl⟩ := nints_get hy
        obtain ⟨p, g2, g3⟩ := places_get r4' g1
        have pm := List.mem_of_getElem? g2
        refine ⟨_, rfl, x, A.dx, _, rfl, ho2.hx, rfl, _, rfl, _, rfl, x, A, T0, rows, i, i2, c, p, rfl, ho2, hi, g3, by have z := part_depth pm; omega, fun H6 k6 ho6 => ⟨_, rfl, ?_⟩⟩
        cases e : leB c p with
        | true =>
          refine iteT ?_
          have z := q H6 (k2.trans k6) ho6
          rw [leB_iff.mpr (rest.mpr (.inr ⟨p, pm, leB_iff.mp e⟩))] at z
          exact z
        | false =>
          refine iteF ⟨⟨_, rfl⟩, k2.trans k6, ho6, fun k' p' hk' hp' => ?_⟩
          by_cases e3 : k' = k
          · rw [e3, g2] at hp'
            cases hp'
            exact fun z => by
              rw [leB_iff.mpr z] at e
              cases e
          · exact hall k' p' (by omega) hp'
      · rintro σ H3 ⟨⟨a3, rfl⟩, k3, ho3, hall3⟩
        have z := q H3 k3 ho3
        rw [← leB_of (b := false) ⟨fun z => (nomatch z), fun z => by
          rcases rest.mp z with ⟨p, hp, hq⟩ | ⟨p, hp, hq⟩
          · exact absurd hq (noP p hp)
          · obtain ⟨k', hk'⟩ := List.getElem?_of_mem hp
            refine absurd hq (hall3 k' p ?_ hk')
            rw [lis', lcs']
            exact (List.getElem?_eq_some_iff.mp hk').1⟩] at z
        exact z
theorem M_Order_tells (T : Txt K mg) : ∀ n, Met P w K mg base (3 * n + 2) (oC K) "tells" (spTells K n) [] := by
  have cl := cl_or T
  intro n
  induction n with
  | zero =>
    obtain ⟨fd, F⟩ := T.F_Order_tells
    have b : Binds K fd ["self", "one", "other"] [] := FunD.bindsN F fun _ _ _ _ _ _ us hl => match us, hl with | [_, _, _], _ => rfl
    refine ⟨_, fd, _, [], He.cls_ok T.f_cls_Order, He.meth_ok T.f_meth_Order_tells, fnD F sc_Order_tells (fun vs H Q E h => ?_) (fun cdv A outer s H vs Q E hr h => ?_), b, .nil⟩
    · obtain ⟨x, A, T', rows, i, j, c, d, rfl, _⟩ := h
      rfl
    · obtain ⟨x, A, T', rows, i, j, c, d, rfl, _, _, _, hd, _⟩ := h
      exact absurd hd (Nat.not_lt_zero _)
  | succ n ih =>
    have M_Order__decide : Met P w K mg base (3 * n + 4) (oC K) "_decide" (spDecide K (n + 1)) [] := M_Order__decide T n ih
    rw [show 3 * (n + 1) + 2 = 3 * n + 4 + 1 by omega]
    obtain ⟨fd, F⟩ := T.F_Order_tells
    have b : Binds K fd ["self", "one", "other"] [] := FunD.bindsN F fun _ _ _ _ _ _ us hl => match us, hl with | [_, _, _], _ => rfl
    refine ⟨_, fd, _, [], He.cls_ok T.f_cls_Order, He.meth_ok T.f_meth_Order_tells, fnD F sc_Order_tells (fun vs H Q E h => ?_) (fun cdv A outer s H vs Q E hr h => ?_), b, .nil⟩
    · obtain ⟨x, A, T', rows, i, j, c, d, rfl, _⟩ := h
      rfl
    · obtain ⟨x, A, T0, rows, i, j, c, d, rfl, ho, hi, hj, hn, q⟩ := h
      have hu := hu_of hr
      refine ⟨_, (pss_cons (ps_if (pt_cmpR op_eq (pv 1) (pv 2) (nomark _))
    (pss_one (ps_ret pe_bl))
    pss_nil)
  (pss_cons (ps_if (pt_cmp (pc_dnotin hu (pe_tup (pa_cons (pv 1) (pa_cons (pv 2) pa_nil))) (pe_fld (pv 0) (by rfl))) (by rfl))
    (pss_one (ps_dput hu (pe_fld (pv 0) (by rfl)) (pe_tup (pa_cons (pv 1) (pa_cons (pv 2) pa_nil))) (pe_mt M_Order__decide hr (by omega) (pv 0) (pa_cons (pv 1) (pa_cons (pv 2) pa_nil))) rfl))
    pss_nil)
  (pss_one (ps_ret (pe_dget hu (pe_fld (pv 0) (by rfl)) (pe_tup (pa_cons (pv 1) (pa_cons (pv 2) pa_nil))) (fun _ _ => rfl)))))), ?_⟩
      refine ⟨_, rfl, _, rfl, rfl, _, rfl, ?_⟩
      refine ite2 (fun e => ?_) (fun e => ?_)
      · have e2 : i = j := by
          have z : V.int ((i : Nat) : Int) = V.int ((j : Nat) : Int) := of_decide_eq_true e
          have z2 := V.int.inj z
          omega
        subst e2
        rw [hi] at hj
        cases hj
        have z := q H (Ko.refl A H) ho
        rw [leB_self] at z
        exact z
      have e2 : i ≠ j := fun z => e (by rw [z]; exact decide_eq_true rfl)
      obtain ⟨kvs, km1, km2, km3, km4⟩ := ho.known
      refine ⟨_, rfl, _, rfl, (show 2 ≤ sizeLine by decide), fun t nt => ?_⟩
      have st : Same H (L2.upd H t (.tup [.int ((i : Nat) : Int), .int ((j : Nat) : Int)])) := same_upd nt
      have ho1 := ho.same st
      have km5 := st _ _ km1
      refine ⟨_, rfl, x, _, A.dx, _, _, rfl, ho1.hx, cl, no_or T T.f_no_Order__known, rfl, A.m, _, rfl, DGet.t (k := [.inl ((i : Nat) : Int), .inl ((j : Nat) : Int)]) km5 upd_same, _, rfl, ?_⟩
      cases ev : valV kvs [.inl ((i : Nat) : Int), .inl ((j : Nat) : Int)] with
      | some v =>
        have ev2 := km3 i j c d v hi hj ev
        subst ev2
        refine iteF ?_
        generalize L2.upd H t (.tup [.int ((i : Nat) : Int), .int ((j : Nat) : Int)]) = H1 at st ho1 km5
        refine ⟨_, rfl, x, _, A.dx, _, _, rfl, ho1.hx, cl, no_or T T.f_no_Order__known, rfl, _, rfl, _, rfl, (show 2 ≤ sizeLine by decide), fun t2 nt2 => ?_⟩
        have s2 : Same H1 (L2.upd H1 t2 (.tup [.int ((i : Nat) : Int), .int ((j : Nat) : Int)])) := same_upd nt2
        refine ⟨A.m, .bl (leB c d), rfl, ?_, ?_⟩
        · have z := DGet.t (k := [.inl ((i : Nat) : Int), .inl ((j : Nat) : Int)]) (s2 _ _ km5) upd_same
          rw [ev] at z
          exact z
        · exact q _ (Ko.of (st.trans s2)) (ho1.same s2)
      | none =>
        refine iteT ?_
        generalize L2.upd H t (.tup [.int ((i : Nat) : Int), .int ((j : Nat) : Int)]) = H1 at st ho1 km5
        refine ⟨_, rfl, x, A.dx, _, rfl, ho1.hx, rfl, _, rfl, _, rfl, x, A, T0, rows, i, j, c, d, rfl, ho1, hi, hj, e2, hn, fun H2 k2 ho2 => ?_⟩
        refine ⟨_, rfl, x, _, A.dx, _, _, rfl, ho2.hx, cl, no_or T T.f_no_Order__known, rfl, _, rfl, _, rfl, (show 2 ≤ sizeLine by decide), fun t2 nt2 => ?_⟩
        have s3 : Same H2 (L2.upd H2 t2 (.tup [.int ((i : Nat) : Int), .int ((j : Nat) : Int)])) := same_upd nt2
        have ho3 := ho2.same s3
        obtain ⟨kvs3, kn1, kn2, kn3, kn4⟩ := ho3.known
        refine ⟨A.m, _, rfl, DPut.t (k := [.inl ((i : Nat) : Int), .inl ((j : Nat) : Int)]) kn1 upd_same kn2, ?_⟩
        have ho4 := kn4 i j c d hi hj
        have k3 : Ko A H2 (L2.upd (L2.upd H2 t2 (.tup [.int ((i : Nat) : Int), .int ((j : Nat) : Int)])) A.m (.dT (putK kvs3 [.inl ((i : Nat) : Int), .inl ((j : Nat) : Int)] (.bl (leB c d))))) := (Ko.of s3).upd (by simp [OA.all])
        have hm4 : L2.upd (L2.upd H2 t2 (.tup [.int ((i : Nat) : Int), .int ((j : Nat) : Int)])) A.m (.dT (putK kvs3 [.inl ((i : Nat) : Int), .inl ((j : Nat) : Int)] (.bl (leB c d)))) A.m = some (.dT (putK kvs3 [.inl ((i : Nat) : Int), .inl ((j : Nat) : Int)] (.bl (leB c d)))) := upd_same
        generalize L2.upd (L2.upd H2 t2 (.tup [.int ((i : Nat) : Int), .int ((j : Nat) : Int)])) A.m (.dT (putK kvs3 [.inl ((i : Nat) : Int), .inl ((j : Nat) : Int)] (.bl (leB c d)))) = H4 at ho4 k3 hm4 ⊢
        refine ⟨_, rfl, x, _, A.dx, _, _, rfl, ho4.hx, cl, no_or T T.f_no_Order__known, rfl, _, rfl, _, rfl, (show 2 ≤ sizeLine by decide), fun t4 nt4 => ?_⟩
        have s5 : Same H4 (L2.upd H4 t4 (.tup [.int ((i : Nat) : Int), .int ((j : Nat) : Int)])) := same_upd nt4
        refine ⟨A.m, .bl (leB c d), rfl, ?_, ?_⟩
        · have z := DGet.t (k := [.inl ((i : Nat) : Int), .inl ((j : Nat) : Int)]) (s5 _ _ hm4) upd_same
          rw [valV_put, if_pos rfl] at z
          exact z
        · exact q _ ((((Ko.of st).trans k2).trans k3).trans (Ko.of s5)) (ho4.same s5)
/-! ### tells, always_alike -/
def spTell (K : PySem.W.Frag) : Sp := fun vs H Q _ => ∃ (v u : V) (c d : Ci), vs = [v, u] ∧ CO (cC K) H v c ∧ CO (cC K) H u d ∧ Fit c ∧ Fit d ∧ ∀ H', Same H H' → Q (.bl (leB c d)) H'
def spAlike (K : PySem.W.Frag) : Sp := fun vs H Q _ => ∃ (v u : V) (c d : Ci), vs = [v, u] ∧ CO (cC K) H v c ∧ CO (cC K) H u d ∧ Fit c ∧ Fit d ∧ ∀ H', Same H H' → Q (.bl (leB c d && leB d c)) H'

end
end K34
namespace K34
open PySem PySem.Spec PyProof.Rows L2 RZ LL LC LS LR LD LN LY LOr
open C8 (Cal Mak Met CalAt pe_c pe_mk pe_mt pe_mt0 pe_gc)
section
variable {P : Program} {w : World} {K : PySem.W.Frag} {mg : Str → Option Value} {base : Heap}
/-! ### built -/
def spBuiltL (K : PySem.W.Frag) : Sp := fun vs H Q _ => ∃ (k : Bool) (l : Addr) (rows : List V) (cs : List Ci), vs = [.str (kS k), .ref l] ∧ SqL K H l rows ∧ COs (cC K) H rows cs ∧ cs ≠ [] ∧ sizes cs ≤ 900 ∧ (∀ c ∈ cs, c.wf = true) ∧ Fit (mkC k cs) ∧
  ∀ (v : V) (H' : Hp), Same H H' → CO (cC K) H' v (mkC k cs) → Q v H'
theorem C_built (TW : TxtW w K mg) : Cal P w K mg base 10 "built" (spBuiltL K) [] := by
  have C_pool : LO.CalR P w K mg base 9 "pool" (spPool K true) := C_pool TW
  have C_common : LO.CalR P w K mg base 9 "common" (spPool K false) := C_common TW
  have T := TW.toTxt
  obtain ⟨fd, F⟩ := T.F_built
  have b : Binds K fd ["kind", "circles"] [] := FunD.bindsN F fun _ _ _ _ _ _ us hl => match us, hl with | [_, _], _ => rfl
  refine calD F T.g_built b sc_built (fun vs H Q E h => ?_) (fun cdv A outer s H vs Q E hr h => ?_)
  · obtain ⟨k, l, rows, cs, rfl, _⟩ := h
    rfl
  · obtain ⟨k, l, rows, cs, rfl, hl, hc, hne, hsz, hwf, hf, q⟩ := h
    refine ⟨_, (pss_cons (ps_if (pt_cmpR op_eq (pv 0) pe_str (nomark _))
    (pss_one (ps_ret (LO.pe_cR1 C_pool hr (by omega) rfl (pv 1))))
    pss_nil)
  (pss_one (ps_ret (LO.pe_cR1 C_common hr (by omega) rfl (pv 1))))), ?_⟩
    refine ⟨_, rfl, rfl, _, rfl, ?_⟩
    rw [kS_pool]
    cases k with
    | true => exact iteT ⟨_, rfl, l, rows, rfl, .inr hl, cs, hc, hne, hsz, hwf, hf, q⟩
    | false => exact iteF ⟨_, rfl, l, rows, rfl, .inr hl, cs, hc, hne, hsz, hwf, hf, q⟩

end
end K34
namespace K34
open PySem PySem.Spec PyProof.Rows L2 RZ LL LC LS LR LD LN LY LOr
open C8 (Cal Mak Met CalAt pe_c pe_mk pe_mt pe_mt0 pe_gc)
section
variable {P : Program} {w : World} {K : PySem.W.Frag} {mg : Str → Option Value} {base : Heap}
/-! ### keys -/
/-- the table has grown by at most n circles, all else stands -/
structure Ext (C : Addr) (x : Addr) (A : OA) (H : Hp) (T : List Ci) (rows : List Addr) (H' : Hp) (T' : List Ci) (rows' : List Addr) (n : Nat) : Prop where
  ko : Ko A H H'
  ord : OrdS C H' x A T' rows'
  pre : T <+: T'
  len : T'.length ≤ T.length + n
  new : ∀ a ∈ rows', a ∈ rows ∨ H a = none
theorem row_out {C : Addr} {H : Hp} {x : Addr} {A : OA} {T : List Ci} {rows : List Addr} (h : OrdS C H x A T rows) {a : Addr} (ha : a ∈ rows) : a ∉ A.all ∧ ∃ xs, H a = some (.lst xs) := by
  obtain ⟨i, hi⟩ := List.getElem?_of_mem ha
  have hi2 : i < T.length := by rw [← h.rl]; exact (List.getElem?_eq_some_iff.mp hi).1
  obtain ⟨g, js, g2, _⟩ := h.hr i a _ hi (List.getElem?_eq_getElem hi2)
  exact ⟨g, _, g2⟩
theorem Ext.refl {C : Addr} {H : Hp} {x : Addr} {A : OA} {T : List Ci} {rows : List Addr} (h : OrdS C H x A T rows) (n : Nat) : Ext C x A H T rows H T rows n := ⟨Ko.refl A H, h, List.prefix_refl _, Nat.le_add_right _ _, fun _ z => .inl z⟩
theorem Ext.same {C : Addr} {H H' : Hp} {x : Addr} {A : OA} {T : List Ci} {rows : List Addr} (h : OrdS C H x A T rows) (s : Same H H') (n : Nat) : Ext C x A H T rows H' T rows n := ⟨Ko.of s, h.same s, List.prefix_refl _, Nat.le_add_right _ _, fun _ z => .inl z⟩
theorem Ext.mono {C : Addr} {H H' : Hp} {x : Addr} {A : OA} {T T' : List Ci} {rows rows' : List Addr} {n m : Nat} (h : Ext C x A H T rows H' T' rows' n) (k : n ≤ m) : Ext C x A H T rows H' T' rows' m := ⟨h.ko, h.ord, h.pre, by have := h.len; omega, h.new⟩
theorem Ext.trans {C : Addr} {H H1 H2 : Hp} {x : Addr} {A : OA} {T T1 T2 : List Ci} {rows rows1 rows2 : List Addr} {n m : Nat} (h : Ext C x A H T rows H1 T1 rows1 n) (k : Ext C x A H1 T1 rows1 H2 T2 rows2 m) : Ext C x A H T rows H2 T2 rows2 (n + m) := by
  refine ⟨h.ko.trans k.ko, k.ord, h.pre.trans k.pre, by have := h.len; have := k.len; omega, fun a ha => ?_⟩
  rcases k.new a ha with z | z
  · exact h.new a z
  · right
    cases e : H a with
    | none => rfl
    | some o =>
      have z2 := h.ko a o (row_out k.ord ha).1 e
      rw [z2] at z
      cases z
/-- an own list that is no row changes -/
theorem Ext.own {C : Addr} {H H' : Hp} {x : Addr} {A : OA} {T T' : List Ci} {rows rows' : List Addr} {n : Nat} {D : Addr} {o : HO} (h : Ext C x A H T rows H' T' rows' n) (hD : H D = none) (nA : D ∉ A.all) (nx : D ≠ x) (nr : D ∉ rows') : Ext C x A H T rows (upd H' D o) T' rows' n := by
  refine ⟨fun a u na e => ?_, h.ord.out fun b u hb e => ?_, h.pre, h.len, h.new⟩
  · rw [upd_ne (ne_of_none e hD)]
    exact h.ko a u na e
  · rw [upd_ne (fun z => ?_)]
    · exact e
    · rw [z] at hb
      rcases hb with hb | hb | hb
      · exact nx hb
      · exact nA hb
      · exact nr hb
def spBeyond (K : PySem.W.Frag) : Sp := fun vs H Q _ => ∃ (x : Addr) (A : OA) (T : List Ci) (rows : List Addr) (k : Bool) (i j : Nat) (c d : Ci), vs = [.ref x, .str (kS k), .int ((i : Nat) : Int), .int ((j : Nat) : Int)] ∧ OrdS (oC K) H x A T rows ∧ T[i]? = some c ∧ T[j]? = some d ∧ c.depth + d.depth < 41 ∧
  ∀ (H' : Hp), Ko A H H' → OrdS (oC K) H' x A T rows → Q (.bl (gb k c d)) H'
theorem C__goes_beyond (T : Txt K mg) : Cal P w K mg base 126 "_goes_beyond" (spBeyond K) [] := by
  have M_Order_tells : Met P w K mg base 125 (oC K) "tells" (spTells K 41) [] := M_Order_tells T 41
  obtain ⟨fd, F⟩ := T.F__goes_beyond
  have b : Binds K fd ["order", "kind", "one", "other"] [] := FunD.bindsN F fun _ _ _ _ _ _ us hl => match us, hl with | [_, _, _, _], _ => rfl
  refine calD F T.g__goes_beyond b sc__goes_beyond (fun vs H Q E h => ?_) (fun cdv A outer s H vs Q E hr h => ?_)
  · obtain ⟨x, A, T0, rows, k, i, j, c, d, rfl, _⟩ := h
    rfl
  · obtain ⟨x, A, T0, rows, k, i, j, c, d, rfl, ho, hi, hj, hd, q⟩ := h
    refine ⟨_, (pss_cons (ps_if (pt_cmpR op_eq (pv 1) pe_str (nomark _))
    (pss_one (ps_ret (pe_mt M_Order_tells hr (by omega) (pv 0) (pa_cons (pv 3) (pa_cons (pv 2) pa_nil)))))
    pss_nil)
  (pss_one (ps_ret (pe_mt M_Order_tells hr (by omega) (pv 0) (pa_cons (pv 2) (pa_cons (pv 3) pa_nil)))))), ?_⟩
    refine ⟨_, rfl, rfl, _, rfl, ?_⟩
    rw [kS_pool]
    cases k with
    | true => exact iteT ⟨_, rfl, x, A.dx, _, rfl, ho.hx, rfl, _, rfl, _, rfl, x, A, T0, rows, j, i, d, c, rfl, ho, hj, hi, by omega, fun H' k' ho' => q H' k' ho'⟩
    | false => exact iteF ⟨_, rfl, x, A.dx, _, rfl, ho.hx, rfl, _, rfl, _, rfl, x, A, T0, rows, i, j, c, d, rfl, ho, hi, hj, by omega, fun H' k' ho' => q H' k' ho'⟩
theorem drop_cons {α : Type} {l : List α} {i : Nat} {a : α} (h : l[i]? = some a) : l.drop i = a :: l.drop (i + 1) := by
  obtain ⟨z, e⟩ := List.getElem?_eq_some_iff.mp h
  rw [← e]
  exact List.drop_eq_getElem_cons z
def spRepl (K : PySem.W.Frag) : Sp := fun vs H Q _ => ∃ (x : Addr) (A : OA) (T : List Ci) (rows : List Addr) (k : Bool) (j : Nat) (wc : Ci) (v : V) (c : Ci), vs = [.ref x, .str (kS k), .int ((j : Nat) : Int), v] ∧ OrdS (oC K) H x A T rows ∧ T[j]? = some wc ∧ CO (cC K) H v c ∧ Fit c ∧ Fit wc ∧ T.length + 2 * c.size ≤ 4000 ∧
  ∀ (H' : Hp) (T' : List Ci) (rows' : List Addr) (v' : V), Ext (oC K) x A H T rows H' T' rows' (2 * c.size) → CO (cC K) H' v' (repl k wc c) → Q v' H'
theorem C__replacement (T : Txt K mg) : Cal P w K mg base 127 "_replacement" (spRepl K) [] := by
  have M_Order_place : Met P w K mg base 24 (oC K) "place" (spPlace K 21) [] := M_Order_place T 21
  have M_Circle_parts : Met P w K mg base 1 (cC K) "parts" (spParts K) [] := M_Circle_parts T
  have C__goes_beyond : Cal P w K mg base 126 "_goes_beyond" (spBeyond K) [] := C__goes_beyond T
  have cc := T_cls T
  obtain ⟨fd, F⟩ := T.F__replacement
  have b : Binds K fd ["order", "kind", "whole", "part"] [] := FunD.bindsN F fun _ _ _ _ _ _ us hl => match us, hl with | [_, _, _, _], _ => rfl
  refine calD F T.g__replacement b sc__replacement (fun vs H Q E h => ?_) (fun cdv A outer s H vs Q E hr h => ?_)
  · obtain ⟨x, A, T0, rows, k, j, wc, v, c, rfl, _⟩ := h
    rfl
  · obtain ⟨x, A, T0, rows, k, j, wc, v, c, rfl, ho, hj, hc, hf, hw, hz, q⟩ := h
    refine ⟨_, (pss_cons (ps_if (pt_cmpR op_eq (pe_fld (pv 3) (by rfl)) pe_str (nomark _))
    (pss_one (ps_ret (pv 3)))
    pss_nil)
  (pss_cons (ps_for PassesOwn.never rfl (pi_list (pe_mt0 M_Circle_parts hr (by omega) (pv 3))) (pg_name (i := 4) sc__replacement.nd rfl (Or.inl rfl))
    (pss_one (ps_if (pt_val (pe_c C__goes_beyond hr (by omega) rfl (pa_cons (pv 0) (pa_cons (pv 1) (pa_cons (pe_mt M_Order_place hr (by omega) (pv 0) (pa_cons (pv 4) pa_nil)) (pa_cons (pv 2) pa_nil))))))
      (pss_one (ps_ret (pv 4)))
      pss_nil)))
  (pss_one (ps_ret (pv 3))))), ?_⟩
    obtain ⟨a, ax, ar, at', rfl, ha⟩ := co_ref hc
    refine ⟨_, rfl, a, _, ax, _, _, rfl, ha, cc, T_no T T.f_no_Circle_kind, rfl, rfl, _, rfl, ?_⟩
    rw [kind_eye]
    cases e : c.isEye with
    | true =>
      refine iteT ⟨_, rfl, q H T0 rows _ (Ext.refl ho _) ?_⟩
      have z : repl k wc c = c := by
        cases c with
        | eye n => rfl
        | node _ _ => cases e
      rw [z]
      exact hc
    | false =>
      refine iteF ?_
      have hpl : sizes c.parts ≤ c.size := by
        cases c with
        | eye n => cases e
        | node k ps => rw [Ci.size]; exact Nat.le_refl _
      refine ⟨_, rfl, a, ax, _, rfl, ha, rfl, _, c, rfl, hc, fun p crows hp hr2 => ?_⟩
      have s1 : Same H (upd H p (.lst crows)) := same_upd hp
      have np := ho.fresh hp
      have ho1 := ho.same s1
      have lenc : crows.length = c.parts.length := cos_len hr2
      refine ⟨p, rfl, ⟨_, sqL_of upd_same⟩, ?_⟩
      refine for_it (walk_list (K := K) (a := p) (xs := crows)) (fun i σ H2 => (∃ a4, σ = [some (.ref x), some (.str (kS k)), some (.int ((j : Nat) : Int)), some (.ref a), a4]) ∧ replTo k wc c (c.parts.drop i) = repl k wc c ∧
        ∃ (Ti : List Ci) (rowsi : List Addr), Ext (oC K) x A (upd H p (.lst crows)) T0 rows H2 Ti rowsi (2 * sizes (c.parts.take i))) ?_ ?_ ?_ ?_
      · exact ⟨⟨none, rfl⟩, rfl, T0, rows, Ext.refl ho1 _⟩
      · rintro i σ H2 _ ⟨_, _, Ti, rowsi, x2⟩
        exact sqL_of (x2.ko _ _ np upd_same)
      · rintro i y σ H2 H3 hi ⟨⟨a4, rfl⟩, hrep, Ti, rowsi, x2⟩ ⟨rfl, hy⟩
        obtain ⟨ci, g1, g2⟩ := cos_get hr2 hy
        have g3 := co_mono ((Kc.of s1).trans (ho1.kc x2.ko)) g2
        have hmem := List.mem_of_getElem? g1
        have hfi := hf.part hmem
        have esz : sizes (c.parts.take (i + 1)) = sizes (c.parts.take i) + ci.size := by rw [take_one g1, sizes_app, sizes_one]
        have etot := sizes_take c.parts (i + 1)
        have hx := x2.len
        have hdi := hfi.depth
        have hdw := hw.depth
        have hdc := hf.depth
        have hdp := pdepth hmem
        rw [drop_cons g1, replTo] at hrep
        refine ⟨_, rfl, _, rfl, _, rfl, x, A.dx, _, rfl, x2.ord.hx, rfl, _, rfl, x, A, Ti, rowsi, y, ci, rfl, x2.ord, g3, hfi, by omega, by omega, fun H4 T4 rows4 n k4 ho4 pre4 at4 len4 fr4 dd4 => ?_⟩
        have x4 : Ext (oC K) x A H3 Ti rowsi H4 T4 rows4 (2 * ci.size) := ⟨k4, ho4, pre4, by omega, fr4⟩
        refine ⟨_, rfl, x, A, T4, rows4, k, n, j, ci, wc, rfl, ho4, at4, getElem?_pre (x2.pre.trans pre4) hj, by omega, fun H5 k5 ho5 => ⟨_, rfl, ?_⟩⟩
        have x5 : Ext (oC K) x A H4 T4 rows4 H5 T4 rows4 0 := ⟨k5, ho5, List.prefix_refl _, Nat.le_refl _, fun _ z => .inl z⟩
        have xx := (x2.trans x4).trans x5
        cases eg : gb k ci wc with
        | true =>
          rw [if_pos eg] at hrep
          refine iteT ⟨_, rfl, ?_⟩
          refine q H5 T4 rows4 _ (((Ext.same ho s1 0).trans xx).mono (by omega)) ?_
          rw [← hrep]
          exact co_mono ((ho1.kc x2.ko).trans ((x2.ord.kc k4).trans (ho4.kc k5))) (co_mono (Kc.of s1) g2)
        | false =>
          rw [eg, if_neg (by decide)] at hrep
          exact iteF ⟨⟨_, rfl⟩, hrep, T4, rows4, xx.mono (by omega)⟩
      · rintro σ H2 ⟨⟨a4, rfl⟩, hrep, Ti, rowsi, x2⟩
        rw [lenc, List.drop_length] at hrep
        refine ⟨_, rfl, q H2 Ti rowsi _ (((Ext.same ho s1 0).trans x2).mono ?_) ?_⟩
        · have etot := sizes_take c.parts crows.length
          omega
        · rw [← hrep]
          exact co_mono ((Kc.of s1).trans (ho1.kc x2.ko)) hc
def spNeed (K : PySem.W.Frag) : Sp := fun vs H Q _ => ∃ (x : Addr) (A : OA) (T : List Ci) (rows : List Addr) (k : Bool) (l : Addr) (prows : List V) (ps : List Ci), vs = [.ref x, .str (kS k), .ref l] ∧ OrdS (oC K) H x A T rows ∧ H l = some (.lst prows) ∧ l ∉ A.all ∧ COs (cC K) H prows ps ∧ (∀ p ∈ ps, Fit p) ∧ sizes ps ≤ 100 ∧ T.length + 2 * sizes ps ≤ 4000 ∧
  ∀ (H' : Hp) (T' : List Ci) (rows' : List Addr) (o : Addr) (orows : List V), Ext (oC K) x A H T rows H' T' rows' (2 * sizes ps) → H' o = some (.lst orows) → o ∉ A.all → COs (cC K) H' orows (keptTo k ps ps.length) → Q (.ref o) H'
/-- what is known of an own list beside the table -/
structure Own (A : OA) (x : Addr) (H : Hp) (rows : List Addr) (D : Addr) : Prop where
  no : H D = none
  nA : D ∉ A.all
  nx : D ≠ x
  nr : D ∉ rows
theorem Own.of {C : Addr} {H : Hp} {x : Addr} {A : OA} {T : List Ci} {rows : List Addr} (h : OrdS C H x A T rows) {D : Addr} (n : H D = none) : Own A x H rows D := by
  refine ⟨n, h.fresh n, fun z => ?_, fun z => ?_⟩
  · rw [z, h.hx] at n
    cases n
  · obtain ⟨_, xs, e⟩ := row_out h z
    rw [e] at n
    cases n
theorem Own.go {C : Addr} {H H1 H2 : Hp} {x : Addr} {A : OA} {T1 T2 : List Ci} {rows1 rows2 : List Addr} {n : Nat} {D : Addr} (h : Own A x H rows1 D) (e : Ext C x A H1 T1 rows1 H2 T2 rows2 n) (hs : ∃ o, H1 D = some o) : Own A x H rows2 D := by
  refine ⟨h.no, h.nA, h.nx, fun z => ?_⟩
  rcases e.new D z with z | z
  · exact h.nr z
  · obtain ⟨o, hs⟩ := hs
    rw [hs] at z
    cases z
theorem getD_of {α : Type} [Inhabited α] {l : List α} {i : Nat} {a : α} (h : l[i]? = some a) : l.getD i default = a := by
  rw [List.getD_eq_getElem?_getD, h]
  rfl
theorem all_snoc (f : Nat → Bool) (j : Nat) : (List.range (j + 1)).all f = ((List.range j).all f && f j) := by
  rw [List.range_succ, List.all_append]
  simp
theorem C__needed_parts (T : Txt K mg) : Cal P w K mg base 127 "_needed_parts" (spNeed K) [] := by
  have M_Order_place : Met P w K mg base 24 (oC K) "place" (spPlace K 21) [] := M_Order_place T 21
  have C__goes_beyond : Cal P w K mg base 126 "_goes_beyond" (spBeyond K) [] := C__goes_beyond T
  obtain ⟨fd, F⟩ := T.F__needed_parts
  have b : Binds K fd ["order", "kind", "parts"] [] := FunD.bindsN F fun _ _ _ _ _ _ us hl => match us, hl with | [_, _, _], _ => rfl
  refine calD F T.g__needed_parts b sc__needed_parts (fun vs H Q E h => ?_) (fun cdv A outer s H vs Q E hr h => ?_)
  · obtain ⟨x, A, T0, rows, k, l, prows, ps, rfl, _⟩ := h
    rfl
  · obtain ⟨x, A, T0, rows, k, l, prows, ps, rfl, ho, hl, nl, hc, hf, hs, hz, q⟩ := h
    refine ⟨_, (pss_cons (ps_setLc (i := 3) (own := [("part", 4)]) (g := gName 4) (tt := tYes) (te := (tMeth (oC K) "place" (spPlace K 21) [] C8.E0 (tVar 0) (tCons (tVar 4) tNil))) rfl sc__needed_parts.nd rfl rfl (sw_true rfl rfl rfl (by decide +kernel)) (pi_list (pv 2)) (blkOk_by (N := N__needed_parts) (sc := defScope s__needed_parts) (by decide +kernel)) (fun _ _ _ _ _ => pg_name (i := 4) sc__needed_parts.nd rfl (Or.inl rfl)) (fun _ _ _ _ _ => pts_nil) (fun _ _ _ _ _ => (pe_mt M_Order_place hr (by omega) (pv 0) (pa_cons (pv 4) pa_nil))))
  (pss_cons (ps_set (i := 5) sc__needed_parts.nd rfl (Or.inl rfl) (pe_lst pa_nil))
  (pss_cons (ps_for PassesOwn.never rfl (pi_enum (by rfl) T.z_enumerate (pa_cons (pv 3) pa_nil)) (pg_tup rfl (pgs_cons (pg_name (i := 6) sc__needed_parts.nd rfl (Or.inl rfl)) (pgs_cons (pg_name (i := 7) sc__needed_parts.nd rfl (Or.inl rfl)) pgs_nil)))
    (pss_cons (ps_set (i := 8) sc__needed_parts.nd rfl (Or.inl rfl) pe_bl)
    (pss_cons (ps_for PassesOwn.never rfl (pi_enum (by rfl) T.z_enumerate (pa_cons (pv 3) pa_nil)) (pg_tup rfl (pgs_cons (pg_name (i := 9) sc__needed_parts.nd rfl (Or.inl rfl)) (pgs_cons (pg_name (i := 10) sc__needed_parts.nd rfl (Or.inl rfl)) pgs_nil)))
      (pss_one (ps_if (PW.pt (pw_and (pt_cmpR op_ne (pv 9) (pv 6) (nomark _)) (pw_and1 (pt_val (pe_c C__goes_beyond hr (by omega) rfl (pa_cons (pv 0) (pa_cons (pv 1) (pa_cons (pv 7) (pa_cons (pv 10) pa_nil)))))))))
        (pss_one (ps_if (PW.pt (pw_or (pt_cmpR op_lt (pv 9) (pv 6) (nomark _)) (pw_or1 (pt_not (pt_val (pe_c C__goes_beyond hr (by omega) rfl (pa_cons (pv 0) (pa_cons (pv 1) (pa_cons (pv 10) (pa_cons (pv 7) pa_nil))))))))))
          (pss_one (ps_set (i := 8) sc__needed_parts.nd rfl (Or.inl rfl) pe_bl))
          pss_nil))
        pss_nil)))
    (pss_one (ps_if (pt_val (pv 8))
      (pss_one (ps_expr (pe_bm PySem.F.plainAttrs_list PySem.F.slot_list_append PySem.F.type_list_append mt_append (pv 5) (pa_cons (pe_ix ix_list (pv 2) (pv 6) (fun _ _ => rfl)) pa_nil))))
      pss_nil)))))
  (pss_one (ps_ret (pv 5)))))), ?_⟩
    have lenc : prows.length = ps.length := cos_len hc
    have lps : ps.length ≤ 100 := Nat.le_trans (sizes_len fun c hc => (hf c hc).wf) hs
    refine ⟨_, rfl, l, rfl, ⟨_, sqL_of hl⟩, fun D nD => ?_⟩
    have w0 := Own.of ho nD
    refine lc_st (walk_list (K := K) (a := l) (xs := prows)) (fun i acc H2 => ∃ (Ti : List Ci) (rowsi : List Addr) (js : List Nat), Ext (oC K) x A H T0 rows H2 Ti rowsi (2 * sizes (ps.take i)) ∧ Own A x H rowsi D ∧ acc = nints js ∧ js.map (fun j => Ti[j]?) = (ps.take i).map some) (by omega) ?_ ?_ ?_ ?_
    · rintro i acc H2 _ ⟨Ti, rowsi, js, x2, _⟩
      exact sqL_of (x2.ko _ _ nl hl)
    · exact ⟨T0, rows, [], (Ext.refl ho _).own nD w0.nA w0.nx w0.nr, w0, rfl, rfl⟩
    · rintro i x1 H2 H3 acc Nx hi hD2 hlen ⟨Ti, rowsi, js, x2, wi, rfl, hjs⟩ ⟨rfl, hx1⟩ hN
      obtain ⟨ci, g1, g2⟩ := cos_get hc hx1
      have g3 := co_mono (ho.kc x2.ko) g2
      have hmem := List.mem_of_getElem? g1
      have hfi := hf ci hmem
      have etake : ps.take (i + 1) = ps.take i ++ [ci] := take_one g1
      have esz : sizes (ps.take (i + 1)) = sizes (ps.take i) + ci.size := by rw [etake, sizes_app, sizes_one]
      have etot := sizes_take ps (i + 1)
      have hx := x2.len
      have hdi := hfi.depth
      refine ⟨rfl, _, rfl, x, A.dx, _, rfl, x2.ord.hx, rfl, _, rfl, x, A, Ti, rowsi, x1, ci, rfl, x2.ord, g3, hfi, by omega, by omega, fun H4 T4 rows4 n k4 ho4 pre4 at4 len4 fr4 dd4 => ?_⟩
      have x4 : Ext (oC K) x A _ Ti rowsi H4 T4 rows4 (2 * ci.size) := ⟨k4, ho4, pre4, by omega, fr4⟩
      have w4 := wi.go x4 ⟨_, hD2⟩
      refine hN _ H4 (k4 _ _ w0.nA hD2) ⟨T4, rows4, js ++ [n], ((x2.trans x4).mono (by omega)).own nD w4.nA w4.nx w4.nr, w4, by unfold nints; rw [List.map_append]; rfl, ?_⟩
      rw [List.map_append, etake, List.map_append, ← hjs]
      congr 1
      · refine List.map_congr_left fun j hj => ?_
        have q2 : Ti[j]? ∈ (ps.take i).map some := by rw [← hjs]; exact List.mem_map.mpr ⟨j, hj, rfl⟩
        obtain ⟨p2, _, hp2⟩ := List.mem_map.mp q2
        rw [← hp2]
        exact getElem?_pre pre4 hp2.symm
      · show [T4[n]?] = [some ci]
        rw [at4]
    · rintro H5 acc hD5 hlen ⟨Tn, rowsn, js, x5, w5, rfl, hjs⟩
      rw [lenc, List.take_length] at hjs x5
      have ljs : js.length = ps.length := by have z := congrArg List.length hjs; simpa using z
      have lni : (nints js).length = js.length := by unfold nints; rw [List.length_map]
      refine ⟨(show 0 ≤ sizeLine by decide), fun o no => ?_⟩
      have wo := Own.of x5.ord no
      have noH : H o = none := by
        cases e : H o with
        | none => rfl
        | some u =>
          have z := x5.ko o u wo.nA e
          rw [z] at no
          cases no
      have nDo : D ≠ o := fun z => by rw [z, no] at hD5; cases hD5
      have x6 : Ext (oC K) x A H T0 rows (upd H5 o (.lst [])) Tn rowsn (2 * sizes ps) := x5.own noH wo.nA wo.nx wo.nr
      have hD6 : (upd H5 o (.lst [])) D = some (.lst (nints js)) := by rw [upd_ne nDo]; exact hD5
      refine ⟨_, rfl, D, _, rfl, sqL_of hD6, ?_⟩
      refine for_it (walk_enum (K := K) (a := D) (xs := nints js)) (fun i σ H2 => (∃ a6 a7 a8 a9 a10, σ = [some (.ref x), some (.str (kS k)), some (.ref l), some (.ref D), none, some (.ref o), a6, a7, a8, a9, a10]) ∧ Ext (oC K) x A H T0 rows H2 Tn rowsn (2 * sizes ps) ∧ H2 D = some (.lst (nints js)) ∧
        ∃ acc, H2 o = some (.lst acc) ∧ acc.length ≤ i ∧ COs (cC K) H2 acc (keptTo k ps i)) ?_ ?_ ?_ ?_
      · exact ⟨⟨none, none, none, none, none, rfl⟩, x6, hD6, [], upd_same, Nat.le_refl _, .nil⟩
      · rintro i σ H2 _ ⟨_, _, hD, _⟩
        exact sqL_of hD
      · rintro i y σ H2 H3 hi ⟨⟨a6, a7, a8, a9, a10, rfl⟩, xi, hDi, acc, hoi, hla, hci⟩ ⟨T', y1, y2, rfl, nT, rfl, e1, e2⟩
        cases e1
        obtain ⟨n, g1, rfl⟩ := nints_get e2
        obtain ⟨c, g2, g3⟩ := places_get hjs g1
        have fc := hf c (List.mem_of_getElem? g2)
        have sT := same_upd (o := .tup [.int ((i : Nat) : Int), .int ((n : Nat) : Int)]) nT
        refine ⟨T', _, rfl, sqT_of upd_same, rfl, _, _, rfl, _, _, rfl, rfl, ?_⟩
        have xT := (xi.trans (Ext.same xi.ord sT 0)).mono (Nat.le_of_eq (Nat.add_zero _))
        refine ⟨_, rfl, D, _, rfl, sqL_of (sT _ _ hDi), ?_⟩
        refine for_it (walk_enum (K := K) (a := D) (xs := nints js)) (fun j σ H2 => (∃ a9 a10, σ = [some (.ref x), some (.str (kS k)), some (.ref l), some (.ref D), none, some (.ref o), some (.int ((i : Nat) : Int)), some (.int ((n : Nat) : Int)), some (.bl ((List.range j).all fun t => !beats k ps i t)), a9, a10]) ∧ Ext (oC K) x A H T0 rows H2 Tn rowsn (2 * sizes ps) ∧ H2 D = some (.lst (nints js)) ∧
          H2 o = some (.lst acc) ∧ COs (cC K) H2 acc (keptTo k ps i)) ?_ ?_ ?_ ?_
        · exact ⟨⟨_, _, rfl⟩, xT, sT _ _ hDi, sT _ _ hoi, cos_mono (Kc.of sT) hci⟩
        · rintro j σ H4 _ ⟨_, _, hD, _⟩
          exact sqL_of hD
        · rintro j y σ H4 H5' hj ⟨⟨b9, b10, rfl⟩, xj, hDj, hoj, hcj⟩ ⟨T2, y1, y2, rfl, nT2, rfl, e1, e3⟩
          cases e1
          obtain ⟨m, f1, rfl⟩ := nints_get e3
          obtain ⟨d, f2, f3⟩ := places_get hjs f1
          have fd' := hf d (List.mem_of_getElem? f2)
          have s2 := same_upd (o := .tup [.int ((j : Nat) : Int), .int ((m : Nat) : Int)]) nT2
          have x2 := (xj.trans (Ext.same xj.ord s2 0)).mono (Nat.le_of_eq (Nat.add_zero _))
          have dc := fc.depth
          have dd := fd'.depth
          have eb : beats k ps i j = (decide (j ≠ i) && (gb k c d && (decide (j < i) || !gb k d c))) := by
            unfold beats
            rw [getD_of g2, getD_of f2]
          have keep : ∀ {H6 : Hp} {b : Bool} (_ : b = ((List.range (j + 1)).all fun t => !beats k ps i t)) (_ : Ko A (upd H4 T2 (.tup [.int ((j : Nat) : Int), .int ((m : Nat) : Int)])) H6) (_ : OrdS (oC K) H6 x A Tn rowsn),
              (∃ a9 a10, [some (V.ref x), some (.str (kS k)), some (.ref l), some (.ref D), none, some (.ref o), some (.int ((i : Nat) : Int)), some (.int ((n : Nat) : Int)), some (.bl b), some (.int ((j : Nat) : Int)), some (.int ((m : Nat) : Int))] = [some (V.ref x), some (.str (kS k)), some (.ref l), some (.ref D), none, some (.ref o), some (.int ((i : Nat) : Int)), some (.int ((n : Nat) : Int)), some (.bl ((List.range (j + 1)).all fun t => !beats k ps i t)), a9, a10]) ∧ Ext (oC K) x A H T0 rows H6 Tn rowsn (2 * sizes ps) ∧ H6 D = some (.lst (nints js)) ∧
              H6 o = some (.lst acc) ∧ COs (cC K) H6 acc (keptTo k ps i) := by
            intro H6 b hb k6 ho6
            have x6 : Ext (oC K) x A (upd H4 T2 (.tup [.int ((j : Nat) : Int), .int ((m : Nat) : Int)])) Tn rowsn H6 Tn rowsn 0 := ⟨k6, ho6, List.prefix_refl _, Nat.le_refl _, fun _ z => .inl z⟩
            exact ⟨⟨_, _, by rw [hb]⟩, (x2.trans x6).mono (Nat.le_of_eq (Nat.add_zero _)), k6 _ _ w0.nA (s2 _ _ hDj), k6 _ _ wo.nA (s2 _ _ hoj), cos_mono (x2.ord.kc k6) (cos_mono (Kc.of s2) hcj)⟩
          refine ⟨T2, _, rfl, sqT_of upd_same, rfl, _, _, rfl, _, _, rfl, rfl, ?_⟩
          refine ⟨_, rfl, _, rfl, rfl, _, rfl, ?_⟩
          by_cases eji : j = i
          · rw [show (!decide (V.int ((j : Nat) : Int) = V.int ((i : Nat) : Int))) = false by rw [eji]; simp]
            refine iteF (iteF ?_)
            refine keep ?_ (Ko.refl _ _) x2.ord
            rw [all_snoc, eb]
            simp [eji]
          · rw [show (!decide (V.int ((j : Nat) : Int) = V.int ((i : Nat) : Int))) = true by simp [V.int.injEq]; omega]
            refine iteT ⟨_, rfl, _, rfl, _, rfl, _, rfl, x, A, Tn, rowsn, k, n, m, c, d, rfl, x2.ord, g3, f3, by omega, fun H6 k6 ho6 => ⟨_, rfl, ?_⟩⟩
            cases e4 : gb k c d with
            | false =>
              refine iteF (keep ?_ k6 ho6)
              rw [all_snoc, eb, e4]
              simp
            | true =>
              refine iteT ⟨_, rfl, _, rfl, _, _, rfl, rfl, _, rfl, ?_⟩
              by_cases eji2 : j < i
              · rw [show decide (((j : Nat) : Int) < ((i : Nat) : Int)) = true from decide_eq_true (by omega)]
                refine iteT (iteT (keep ?_ k6 ho6))
                rw [all_snoc, eb, e4, decide_eq_true eji2, decide_eq_true eji]
                simp
              · rw [show decide (((j : Nat) : Int) < ((i : Nat) : Int)) = false from decide_eq_false (by omega)]
                refine iteF ⟨_, rfl, _, rfl, _, rfl, _, rfl, x, A, Tn, rowsn, k, m, n, d, c, rfl, ho6, f3, g3, by omega, fun H7 k7 ho7 => ⟨_, rfl, ?_⟩⟩
                cases e5 : gb k d c with
                | false =>
                  refine iteT (keep ?_ (k6.trans k7) ho7)
                  rw [all_snoc, eb, e4, e5, decide_eq_true eji]
                  simp
                | true =>
                  refine iteF (keep ?_ (k6.trans k7) ho7)
                  rw [all_snoc, eb, e4, e5, decide_eq_false eji2]
                  simp
        · rintro σ H4 ⟨⟨b9, b10, rfl⟩, xj, hDj, hoj, hcj⟩
          rw [lni, ljs]
          refine ⟨_, rfl, _, rfl, ?_⟩
          have en : ((List.range ps.length).all fun t => !beats k ps i t) = neededB k ps i := rfl
          rw [en]
          cases e6 : neededB k ps i with
          | false =>
            refine iteF ⟨⟨_, _, _, _, _, rfl⟩, xj, hDj, acc, hoj, by omega, ?_⟩
            rw [keptTo_succ, e6, if_neg (by decide)]
            exact hcj
          | true =>
            have hli : prows[i]? ≠ none := fun z => by
              have z2 := (List.getElem?_eq_some_iff.mp g2).1
              have z3 := List.getElem?_eq_none_iff.mp z
              omega
            obtain ⟨pv', hpv⟩ := Option.ne_none_iff_exists'.mp hli
            obtain ⟨c', g4, g5⟩ := cos_get hc hpv
            rw [g2] at g4
            cases g4
            have hlj : H4 l = some (.lst prows) := xj.ko _ _ nl hl
            have ko4 : Kc (cC K) H4 (upd H4 o (.lst (acc ++ [pv']))) := Kc.put hoj (by intro _ _ _ z; cases z) (by intro _ z; cases z)
            refine iteT ⟨_, rfl, .inl ⟨rfl, _, sqL_of hoj⟩, _, rfl, _, rfl, l, prows, _, pv', rfl, rfl, sqL_of hlj, ?_, ?_⟩
            · exact atI_nat hpv
            · refine ⟨o, _, _, rfl, rfl, hoj, by rw [sizeLine_eq]; omega, ?_⟩
              refine ⟨⟨_, _, _, _, _, rfl⟩, xj.own noH wo.nA wo.nx wo.nr, by rw [upd_ne nDo]; exact hDj, acc ++ [pv'], upd_same, by rw [List.length_append]; show acc.length + 1 ≤ _; omega, ?_⟩
              rw [keptTo_succ, e6, if_pos rfl, getD_of g2]
              exact cos_app (cos_mono ko4 hcj) (cos_one (co_mono ko4 (co_mono (ho.kc xj.ko) g5)))
      · rintro σ H4 ⟨⟨a6, a7, a8, a9, a10, rfl⟩, xj, hDj, acc, hoj, hla, hcj⟩
        rw [lni, ljs] at hcj
        exact ⟨_, rfl, q H4 Tn rowsn o acc xj hoj wo.nA hcj⟩

end
end K34
namespace K34
open PySem PySem.Spec PyProof.Rows L2 RZ LL LC LS LR LD LN LY LOr
open C8 (Cal Mak Met CalAt pe_c pe_mk pe_mt pe_mt0 pe_gc)
section
variable {P : Program} {w : World} {K : PySem.W.Frag} {mg : Str → Option Value} {base : Heap}
/-! ### keys: the whole -/
theorem perm_map_inv {α β : Type} {f : α → β} {ps qs : List β} (h : ps.Perm qs) : ∀ L : List α, qs = L.map f → ∃ L' : List α, ps = L'.map f ∧ L'.Perm L := by
  induction h with
  | nil =>
    intro L e
    have : L = [] := List.map_eq_nil_iff.mp e.symm
    subst this
    exact ⟨[], rfl, List.Perm.nil⟩
  | cons x _ ih =>
    intro L e
    match L, e with
    | a :: L1, e =>
      rw [List.map_cons] at e
      injection e with e1 e2
      obtain ⟨L', h1, h2⟩ := ih L1 e2
      exact ⟨a :: L', by rw [List.map_cons, h1, e1], h2.cons a⟩
  | swap x y l =>
    intro L e
    match L, e with
    | a :: b :: L1, e =>
      rw [List.map_cons, List.map_cons] at e
      injection e with e1 e2
      injection e2 with e2 e3
      exact ⟨b :: a :: L1, by rw [List.map_cons, List.map_cons, ← e1, ← e2, ← e3], List.Perm.swap a b L1⟩
  | trans _ _ ih1 ih2 =>
    intro L e
    obtain ⟨L1, h1, h2⟩ := ih2 L e
    obtain ⟨L2, h3, h4⟩ := ih1 L1 h1
    exact ⟨L2, h3, h4.trans h2⟩
/-- circles with their addresses -/
theorem cos_refs {C : Addr} {H : Hp} : ∀ {vs : List V} {cs : List Ci}, COs C H vs cs → ∃ L : List (Ci × Addr), vs = L.map (fun p => V.ref p.2) ∧ cs = L.map Prod.fst ∧ ∀ p ∈ L, CO C H (.ref p.2) p.1 ∧ ∃ dx fs, H p.2 = some (.ins C dx fs)
  | _, _, .nil => ⟨[], rfl, rfl, fun _ h => nomatch h⟩
  | _, _, .cons h t => by
    obtain ⟨L, e1, e2, e3⟩ := cos_refs t
    obtain ⟨a, dx, r, t', rfl, ha⟩ := co_ref h
    refine ⟨(_, a) :: L, by rw [e1]; rfl, by rw [e2]; rfl, fun p hp => ?_⟩
    rcases List.mem_cons.mp hp with z | z
    · rw [z]
      exact ⟨h, _, _, ha⟩
    · exact e3 p z
theorem cos_of {C : Addr} {H : Hp} : ∀ {L : List (Ci × Addr)}, (∀ p ∈ L, CO C H (.ref p.2) p.1) → COs C H (L.map fun p => V.ref p.2) (L.map Prod.fst)
  | [], _ => .nil
  | p :: L, h => .cons (h p List.mem_cons_self) (cos_of fun q hq => h q (List.mem_cons_of_mem _ hq))
def spReduced (K : PySem.W.Frag) : Sp := fun vs H Q _ => ∃ (x : Addr) (A : OA) (T : List Ci) (rows : List Addr) (k : Bool) (l : Addr) (prows : List V) (cs : List Ci) (zs : List Str) (s d : Nat), vs = [.ref x, .str (kS k), .ref l] ∧ OrdS (oC K) H x A T rows ∧ H l = some (.lst prows) ∧ COs (cC K) H prows cs ∧ cs ≠ [] ∧
  (∀ c ∈ cs, c.wf = true ∧ c.depth ≤ d ∧ ∀ y ∈ c.leaves, y ∈ zs) ∧ (∀ c ∈ cs, Settled c) ∧ sizes cs ≤ s ∧ s ≤ 60 ∧ 1 + d ≤ 20 ∧ T.length + (s * s + 5 * s) ≤ 4000 ∧
  ∀ (H' : Hp) (T' : List Ci) (rows' : List Addr) (v : V) (e : Ci), Ext (oC K) x A H T rows H' T' rows' (s * s + 5 * s) → CO (cC K) H' v e → Nc zs e s (1 + d) → Alike e (mkC k cs) → Settled e → Q v H'
/-- while a circle settles -/
def WRed (K : PySem.W.Frag) (x : Addr) (A : OA) (H : Hp) (T0 : List Ci) (rows : List Addr) (k : Bool) (l : Addr) (zs : List Str) (s d n : Nat) (wc : Ci) : Nat → L2.St → Hp → Prop := fun m σ H3 =>
  ∃ (v : V) (z : Str) (C : Ci) (Ti : List Ci) (rowsi : List Addr), σ = [some (.ref x), some (.str (kS k)), some (.ref l), some v, some (.int ((n : Nat) : Int)), some (.str z), none] ∧ Ext (oC K) x A H T0 rows H3 Ti rowsi (s * s + 5 * s) ∧ CO (cC K) H3 v C ∧ Nc zs C s (1 + d) ∧ Alike C wc ∧ Ti[n]? = some wc ∧
    ((C.isK k = false → Settled C) ∧ ∀ p ∈ C.parts, Settled p) ∧ Ti.length + 2 * s ≤ T0.length + (s * s + 5 * s) ∧
    ((z = C.text ∧ m = 0 ∧ ∀ p ∈ C.parts, repl k wc p = p) ∨ (m = C.size + 1 ∧ z ≠ C.text ∧ Ti.length + C.size * (C.size + 1) + 2 * s ≤ T0.length + (s * s + 5 * s)))
theorem text_ne {c : Ci} (h : c.wf = true) : c.text ≠ "" := by
  cases c with
  | eye n =>
    intro e
    rw [Ci.wf] at h
    rw [Ci.text] at e
    rw [e] at h
    revert h
    decide +kernel
  | node k ps =>
    have w := wf_node.mp h
    match ps, w.1 with
    | a :: b :: r, _ =>
      intro e
      have z := congrArg TL.tl e
      rw [Ci.text, wtexts, wtexts, TL.join_eq, TL.tl_join, List.map_cons, List.map_cons] at z
      have z : TL.tl (wrap a.isEye a.text) ++ (TL.tl (sgn k) ++ TL.joinL (TL.tl (sgn k)) (TL.tl (wrap b.isEye b.text) :: (wtexts r).map TL.tl)) = [] := z
      have z2 := (List.append_eq_nil_iff.mp (List.append_eq_nil_iff.mp z).2).1
      revert z2
      cases k <;> decide +kernel
theorem node_of {k : Bool} {c : Ci} (h : c.isK k = true) : ∃ ps, c = .node k ps := by
  cases c with
  | eye n => cases h
  | node j ps =>
    have : j = k := by simpa [Ci.isK] using h
    exact ⟨ps, by rw [this]⟩
theorem map_id_of {α : Type} {f : α → α} : ∀ {l : List α}, (∀ x ∈ l, f x = x) → l.map f = l
  | [], _ => rfl
  | x :: l, h => by rw [List.map_cons, h x List.mem_cons_self, map_id_of fun y hy => h y (List.mem_cons_of_mem _ hy)]
theorem repl_sizes {k : Bool} {w : Ci} : ∀ {ps : List Ci}, (∀ p ∈ ps, Fit p) → sizes (ps.map (repl k w)) ≤ sizes ps ∧ (ps.map (repl k w) ≠ ps → sizes (ps.map (repl k w)) < sizes ps)
  | [], _ => ⟨Nat.le_refl _, fun z => absurd rfl z⟩
  | p :: ps, h => by
    obtain ⟨h1, h2⟩ := repl_sizes (k := k) (w := w) (ps := ps) fun q hq => h q (List.mem_cons_of_mem _ hq)
    obtain ⟨g1, g2⟩ := repl_size (k := k) (w := w) (h p List.mem_cons_self)
    rw [List.map_cons, sizes, sizes]
    refine ⟨by omega, fun z => ?_⟩
    by_cases e : repl k w p = p
    · have : ps.map (repl k w) ≠ ps := fun z2 => z (by rw [e, z2])
      have := h2 this
      omega
    · have := g2 e
      omega
theorem C__reduced (TW : TxtW w K mg) : Cal P w K mg base 128 "_reduced" (spReduced K) [] := by
  have C_built : Cal P w K mg base 10 "built" (spBuiltL K) [] := C_built TW
  have T := TW.toTxt
  have M_Order_place : Met P w K mg base 24 (oC K) "place" (spPlace K 21) [] := M_Order_place T 21
  have M_Circle_parts : Met P w K mg base 1 (cC K) "parts" (spParts K) [] := M_Circle_parts T
  have M_Circle___str__ : Met P w K mg base 1 (cC K) "__str__" (spStr K) [] := M_Circle___str__ T
  have C__replacement : Cal P w K mg base 127 "_replacement" (spRepl K) [] := C__replacement T
  have C__needed_parts : Cal P w K mg base 127 "_needed_parts" (spNeed K) [] := C__needed_parts T
  have cc := T_cls T
  obtain ⟨fd, F⟩ := T.F__reduced
  have b : Binds K fd ["order", "kind", "parts"] [] := FunD.bindsN F fun _ _ _ _ _ _ us hl => match us, hl with | [_, _, _], _ => rfl
  refine calD F T.g__reduced b sc__reduced (fun vs H Q E h => ?_) (fun cdv A outer s H vs Q E hr h => ?_)
  · obtain ⟨x, A, T0, rows, k, l, prows, cs, zs, s, d, rfl, _⟩ := h
    rfl
  · obtain ⟨x, A, T0, rows, k, l, prows, cs, zs, sz, d, rfl, ho, hl, hc, hne, hcs, hst, hsz, h60, hd20, hz, q⟩ := h
    refine ⟨_, (pss_cons (ps_set (i := 3) sc__reduced.nd rfl (Or.inl rfl) (pe_c C_built hr (by omega) rfl (pa_cons (pv 1) (pa_cons (pv 2) pa_nil))))
  (pss_cons (ps_set (i := 4) sc__reduced.nd rfl (Or.inr rfl) (pe_mt M_Order_place hr (by omega) (pv 0) (pa_cons (pv 3) pa_nil)))
  (pss_cons (ps_set (i := 5) sc__reduced.nd rfl (Or.inl rfl) pe_str)
  (pss_cons (ps_while PassesOwn.never (PW.pt (pw_and (pt_cmpR op_eq (pe_fld (pv 3) (by rfl)) (pv 1) (nomark _)) (pw_and1 (pt_cmpR op_ne (pe_callTy (LO.cr_strO M_Circle___str__ hr (by omega)) (by rfl) T.z_str (by decide +kernel) (pa_cons (pv 3) pa_nil)) (pv 5) (nomark _)))))
    (pss_cons (ps_set (i := 5) sc__reduced.nd rfl (Or.inl rfl) (pe_callTy (LO.cr_strO M_Circle___str__ hr (by omega)) (by rfl) T.z_str (by decide +kernel) (pa_cons (pv 3) pa_nil)))
    (pss_one (ps_set (i := 3) sc__reduced.nd rfl (Or.inl rfl) (pe_c C_built hr (by omega) rfl (pa_cons (pv 1) (pa_cons (pe_lc (own := [("part", 6)]) (g := gName 6) (tt := tYes) (te := (tCall (spRepl K) [] C8.E0 (tCons (tVar 0) (tCons (tVar 1) (tCons (tVar 4) (tCons (tVar 6) tNil)))))) rfl sc__reduced.nd (pi_list (pe_mt0 M_Circle_parts hr (by omega) (pv 3))) (blkOk_by (N := N__reduced) (sc := defScope s__reduced) (by decide +kernel)) (fun _ _ _ _ _ => pg_name (i := 6) sc__reduced.nd rfl (Or.inl rfl)) (fun _ _ _ _ _ => pts_nil) (fun _ _ _ _ _ => (pe_c C__replacement hr (by omega) rfl (pa_cons (pv 0) (pa_cons (pv 1) (pa_cons (pv 4) (pa_cons (pv 6) pa_nil))))))) pa_nil)))))))
  (pss_cons (ps_if (pt_cmpR op_ne (pe_fld (pv 3) (by rfl)) (pv 1) (nomark _))
    (pss_one (ps_ret (pv 3)))
    pss_nil)
  (pss_one (ps_ret (pe_c C_built hr (by omega) rfl (pa_cons (pv 1) (pa_cons (pe_callBK (LK.cr_sortStr M_Circle___str__ hr (by omega)) (by rfl) T.z_sorted (by decide +kernel) (pa_cons (pe_c C__needed_parts hr (by omega) rfl (pa_cons (pv 0) (pa_cons (pv 1) (pa_cons (pe_mt0 M_Circle_parts hr (by omega) (pv 3)) pa_nil)))) pa_nil) (pk_cons (pe_bltn (v := .ty "str") (by rfl) T.z_str (by decide +kernel) rfl) pk_nil)) pa_nil)))))))))), ?_⟩
    have nw : Nc zs (mkC k cs) sz (1 + d) := mkC_nc hne (fun c hc => (hcs c hc).1) hsz (fun c hc => (hcs c hc).2.1) fun c hc => (hcs c hc).2.2
    have fw : Fit (mkC k cs) := nw.fit h60 hd20
    have eM : sz * (sz + 1) = sz * sz + sz := Nat.mul_succ sz sz
    refine ⟨_, rfl, _, rfl, k, l, prows, cs, rfl, sqL_of hl, hc, hne, by omega, fun c hc => (hcs c hc).1, fw, fun v1 H1 s1 hc1 => ?_⟩
    have ho1 := ho.same s1
    have w1 := nw.size
    have w2 := nw.depth
    refine ⟨_, rfl, x, A.dx, _, rfl, ho1.hx, rfl, _, rfl, x, A, T0, rows, v1, mkC k cs, rfl, ho1, hc1, fw, by omega, by omega, fun H2 T2 rows2 n k2 ho2 pre2 at2 len2 fr2 dd2 => ?_⟩
    have x2 : Ext (oC K) x A H T0 rows H2 T2 rows2 (sz * sz + 5 * sz) := by
      have z := (Ext.same ho s1 0).trans (⟨k2, ho2, pre2, by omega, fr2⟩ : Ext (oC K) x A H1 T0 rows H2 T2 rows2 (2 * sz))
      exact z.mono (by omega)
    have hc2 := co_mono (ho1.kc k2) hc1
    refine ⟨WRed K x A H T0 rows k l zs sz d n (mkC k cs), ⟨(mkC k cs).size + 1, v1, "", mkC k cs, T2, rows2, rfl, x2, hc2, nw, Alike.refl _, at2, mkC_parts (fun c hc => (hcs c hc).1) hne hst, by omega, .inr ⟨rfl, fun z => text_ne fw.wf z.symm, by have w3 : (mkC k cs).size * ((mkC k cs).size + 1) ≤ sz * (sz + 1) := Nat.mul_le_mul w1 (Nat.add_le_add_right w1 1); omega⟩⟩, ?_⟩
    rintro m σ H3 ⟨v, z, C, Ti, rowsi, rfl, x3, hC, nC, aC, hn, hset, hbud, hor⟩
    have fC := nC.fit h60 hd20
    obtain ⟨a, ax, ar, at', rfl, ha⟩ := co_ref hC
    refine ⟨_, rfl, a, _, ax, _, _, rfl, ha, cc, T_no T T.f_no_Circle_kind, rfl, _, rfl, rfl, _, rfl, ?_⟩
    rw [kS_eq]
    cases ek : C.isK k with
    | false =>
      refine iteF (iteF ⟨_, rfl, a, _, ax, _, _, rfl, ha, cc, T_no T T.f_no_Circle_kind, rfl, _, rfl, rfl, _, rfl, ?_⟩)
      rw [kS_eq, ek]
      exact iteT ⟨_, rfl, q H3 Ti rowsi _ C x3 hC nC aC (hset.1 ek)⟩
    | true =>
      obtain ⟨ps, rfl⟩ := node_of ek
      have hwf := wf_node.mp fC.wf
      have fps : ∀ p ∈ ps, Fit p := fun p hp => fC.part (c := .node k ps) hp
      have sps : sizes ps ≤ sz := by
        have z := nC.size
        rw [Ci.size] at z
        exact z
      have nps : ps ≠ [] := fun e => by
        rw [e] at hwf
        simp at hwf
      have dps : ∀ p ∈ ps, p.depth ≤ d := fun p hp => by
        have z1 := pdepth (c := .node k ps) hp
        have z2 := nC.depth
        omega
      have ovs : ∀ p ∈ ps, ∀ y ∈ p.leaves, y ∈ zs := fun p hp y hy => nC.ov y (pleaves (c := .node k ps) hp hy)
      have lps : ps.length ≤ 60 := by
        have z := sizes_len fun p hp => (fps p hp).wf
        omega
      refine iteT ⟨_, rfl, a, ax, _, rfl, ha, _, .node k ps, rfl, hC, (Ci.node k ps).text, rfl, _, rfl, rfl, _, rfl, ?_⟩
      by_cases ez : (Ci.node k ps).text = z
      · rw [show (!decide (V.str (Ci.node k ps).text = V.str z)) = false by rw [ez]; simp]
        refine iteF ⟨_, rfl, a, _, ax, _, _, rfl, ha, cc, T_no T T.f_no_Circle_kind, rfl, _, rfl, rfl, _, rfl, ?_⟩
        rw [kS_eq, ek]
        refine iteF ⟨_, rfl, _, rfl, _, rfl, _, rfl, a, ax, _, rfl, ha, rfl, _, .node k ps, rfl, hC, fun p crows hp hr2 => ?_⟩
        have s4 := same_upd (o := .lst crows) hp
        have ho4 := x3.ord.same s4
        refine ⟨x, A, Ti, rowsi, k, p, crows, ps, rfl, ho4, upd_same, x3.ord.fresh hp, cos_mono (Kc.of s4) hr2, fps, by omega, by omega, fun H5 T5 rows5 o orows x5 hoo nAo hco => ?_⟩
        obtain ⟨L, e1, e2, e3⟩ := cos_refs hco
        refine ⟨o, L.map Prod.snd, (L.map Prod.fst).map Ci.text, rfl, rfl, by rw [List.map_map]; rw [e1] at hoo; exact sqL_of hoo, by simp, fun i b y hb hy => ?_, fun qs p2 hperm hord np2 => ?_⟩
        · rw [List.getElem?_map] at hb hy
          rw [List.getElem?_map] at hy
          cases g : L[i]? with
          | none => rw [g] at hb; cases hb
          | some c =>
            rw [g] at hb hy
            cases hb
            cases hy
            obtain ⟨h1, dx, fs, h2⟩ := e3 c (List.mem_of_getElem? g)
            exact ⟨⟨dx, fs, h2⟩, _, c.1, rfl, h1, rfl, rfl⟩
        · obtain ⟨L', h1, h2⟩ := perm_map_inv (f := fun c : Ci × Addr => (c.1.text, c.2)) hperm L (by
            rw [List.map_map, List.zip_map']
            rfl)
          have hperm2 : (L'.map Prod.fst).Perm (keptTo k ps ps.length) := by
            rw [e2]
            exact h2.map Prod.fst
          have hfix : ∀ p ∈ ps, repl k (mkC k cs) p = p := by
            rcases hor with z1 | z1
            · exact z1.2.2
            · exact absurd ez.symm z1.2.1
          obtain ⟨g1, g2, g3, g4⟩ := needed_alike fC hperm2
          have hord2 : (L'.map Prod.fst).Pairwise fun p q => ltCps q.text.cps.toList p.text.cps.toList = false := by
            rw [h1, List.pairwise_map] at hord
            rw [List.pairwise_map]
            exact hord
          have gS := needed_settled fC (fun p hp => hset.2 p hp) hfix aC hperm2 hord2
          have s6 := same_upd (o := .lst (qs.map fun p => V.ref p.2)) np2
          have hrow : qs.map (fun p => V.ref p.2) = L'.map fun p => V.ref p.2 := by
            rw [h1, List.map_map]
            rfl
          have hcos : COs (cC K) (upd H5 p2 (.lst (qs.map fun p => V.ref p.2))) (L'.map fun p => V.ref p.2) (L'.map Prod.fst) := cos_of fun c hc => co_mono (Kc.of s6) (e3 c (h2.mem_iff.mp hc)).1
          have nO : Nc zs (mkC k (L'.map Prod.fst)) sz (1 + d) := mkC_nc g1 (fun c hc => (fps c (g3 c hc)).wf) (by omega) (fun c hc => dps c (g3 c hc)) fun c hc => ovs c (g3 c hc)
          refine ⟨k, p2, _, _, rfl, sqL_of upd_same, by rw [hrow] at hcos ⊢; exact hcos, g1, by omega, fun c hc => (fps c (g3 c hc)).wf, nO.fit h60 hd20, fun v7 H7 s7 hc7 => ?_⟩
          have xx := ((x3.trans (Ext.same x3.ord s4 0)).trans x5).trans (Ext.same x5.ord (s6.trans s7) 0)
          exact q H7 T5 rows5 v7 _ ⟨xx.ko, xx.ord, xx.pre, by have := x5.len; omega, xx.new⟩ hc7 nO (g4.trans aC) gS
      · rw [show (!decide (V.str (Ci.node k ps).text = V.str z)) = true by simp [ez]]
        obtain ⟨em, _, hb2⟩ : m = (Ci.node k ps).size + 1 ∧ z ≠ (Ci.node k ps).text ∧ Ti.length + (Ci.node k ps).size * ((Ci.node k ps).size + 1) + 2 * sz ≤ T0.length + (sz * sz + 5 * sz) := by
          rcases hor with z1 | z1
          · exact absurd z1.1.symm ez
          · exact z1
        have e5 : (Ci.node k ps).size = sizes ps := by rw [Ci.size]
        rw [e5] at em hb2
        have lps2 : 2 ≤ sizes ps := by
          have z := sizes_len fun p hp => (fps p hp).wf
          have := hwf.1
          omega
        have hmul : 2 * sizes ps ≤ sizes ps * (sizes ps + 1) := by
          rw [Nat.mul_comm]
          exact Nat.mul_le_mul_left _ (by omega)
        refine iteT ⟨fun σ' H' => ∃ m', m' < m ∧ WRed K x A H T0 rows k l zs sz d n (mkC k cs) m' σ' H', fun _ _ z => z, ?_⟩
        refine ⟨_, rfl, a, ax, _, rfl, ha, _, .node k ps, rfl, hC, (Ci.node k ps).text, rfl, ?_⟩
        refine ⟨_, rfl, _, rfl, a, ax, _, rfl, ha, rfl, _, .node k ps, rfl, hC, fun p crows hp hr2 => ?_⟩
        have s4 := same_upd (o := .lst crows) hp
        have ho4 := x3.ord.same s4
        have np := x3.ord.fresh hp
        have lenc : crows.length = ps.length := cos_len hr2
        refine ⟨p, rfl, ⟨_, sqL_of upd_same⟩, fun D nD => ?_⟩
        have w0 := Own.of ho4 nD
        refine lc_st (walk_list (K := K) (a := p) (xs := crows)) (fun i acc H5 => ∃ (T5 : List Ci) (rows5 : List Addr), Ext (oC K) x A (upd H3 p (.lst crows)) Ti rowsi H5 T5 rows5 (2 * sizes (ps.take i)) ∧ Own A x (upd H3 p (.lst crows)) rows5 D ∧ COs (cC K) H5 acc ((ps.take i).map (repl k (mkC k cs)))) (by omega) ?_ ?_ ?_ ?_
        · rintro i acc H5 _ ⟨T5, rows5, x5, _⟩
          exact sqL_of (x5.ko _ _ np upd_same)
        · exact ⟨Ti, rowsi, (Ext.refl ho4 _).own nD w0.nA w0.nx w0.nr, w0, .nil⟩
        · rintro i x1 H5 H6 acc Nx hi hD5 hlen ⟨T5, rows5, x5, w5, hacc⟩ ⟨rfl, hx1⟩ hN
          obtain ⟨ci, g1, g2⟩ := cos_get hr2 hx1
          have g3 := co_mono (ho4.kc x5.ko) (co_mono (Kc.of s4) g2)
          have hmem := List.mem_of_getElem? g1
          have etake : ps.take (i + 1) = ps.take i ++ [ci] := take_one g1
          have esz : sizes (ps.take (i + 1)) = sizes (ps.take i) + ci.size := by rw [etake, sizes_app, sizes_one]
          have etot := sizes_take ps (i + 1)
          have hx := x5.len
          refine ⟨rfl, _, rfl, _, rfl, _, rfl, _, rfl, x, A, T5, rows5, k, n, mkC k cs, x1, ci, rfl, x5.ord, getElem?_pre x5.pre hn, g3, fps ci hmem, fw, by omega, fun H7 T7 rows7 v7 x7 hc7 => ?_⟩
          have w7 := w5.go x7 ⟨_, hD5⟩
          have hD7 := x7.ko _ _ w0.nA hD5
          have kD : Kc (cC K) H7 (upd H7 D (.lst (acc ++ [v7]))) := Kc.put hD7 (by intro _ _ _ z; cases z) (by intro _ z; cases z)
          refine hN _ H7 hD7 ⟨T7, rows7, ((x5.trans x7).mono (by omega)).own nD w7.nA w7.nx w7.nr, w7, ?_⟩
          rw [etake, List.map_append]
          exact cos_app (cos_mono kD (cos_mono (x5.ord.kc x7.ko) hacc)) (cos_one (co_mono kD hc7))
        · rintro H5 acc hD5 hlen ⟨T5, rows5, x5, w5, hacc⟩
          rw [lenc, List.take_length] at hacc x5
          have q1 : ∀ c ∈ ps.map (repl k (mkC k cs)), c.wf = true ∧ c.depth ≤ d ∧ ∀ y ∈ c.leaves, y ∈ zs := fun c hc => by
            obtain ⟨p', hp', rfl⟩ := List.mem_map.mp hc
            exact ⟨(repl_fit (fps p' hp')).wf, Nat.le_trans repl_depth (dps p' hp'), fun y hy => ovs p' hp' y (repl_leaves hy)⟩
          obtain ⟨z1, z2⟩ := repl_sizes (k := k) (w := mkC k cs) fps
          have nq : ps.map (repl k (mkC k cs)) ≠ [] := fun e => nps (List.map_eq_nil_iff.mp e)
          have nC' : Nc zs (mkC k (ps.map (repl k (mkC k cs)))) sz (1 + d) := mkC_nc nq (fun c hc => (q1 c hc).1) (by omega) (fun c hc => (q1 c hc).2.1) fun c hc => (q1 c hc).2.2
          have nCs : Nc zs (mkC k (ps.map (repl k (mkC k cs)))) (sizes (ps.map (repl k (mkC k cs)))) (1 + d) := mkC_nc nq (fun c hc => (q1 c hc).1) (Nat.le_refl _) (fun c hc => (q1 c hc).2.1) fun c hc => (q1 c hc).2.2
          refine ⟨k, D, acc, _, rfl, sqL_of hD5, hacc, nq, by omega, fun c hc => (q1 c hc).1, nC'.fit h60 hd20, fun v6 H6 s6 hc6 => ?_⟩
          have xx := ((x3.trans (Ext.same x3.ord s4 0)).trans x5).trans (Ext.same x5.ord s6 0)
          have hx := x5.len
          have aC' := repl_alike fC aC
          have wq : ∀ c ∈ ps.map (repl k (mkC k cs)), c.wf = true := fun c hc => (q1 c hc).1
          have sq : ∀ c ∈ ps.map (repl k (mkC k cs)), Settled c := fun c hc => by
            obtain ⟨p', hp', rfl⟩ := List.mem_map.mp hc
            exact repl_settled (hset.2 p' hp')
          have pq := mkC_parts (k := k) wq nq sq
          by_cases same : ps.map (repl k (mkC k cs)) = ps
          · rw [same, LY.mkC_node fC.wf] at hc6
            refine ⟨0, by omega, v6, _, .node k ps, T5, rows5, rfl, ⟨xx.ko, xx.ord, xx.pre, by omega, xx.new⟩, hc6, nC, aC, getElem?_pre x5.pre hn, hset, by omega, .inl ⟨rfl, rfl, fun p' hp' => ?_⟩⟩
            have hp' : p' ∈ ps := hp'
            obtain ⟨i', hi'⟩ := List.getElem?_of_mem hp'
            have z6 : (ps.map (repl k (mkC k cs)))[i']? = ps[i']? := by rw [same]
            rw [List.getElem?_map, hi'] at z6
            exact Option.some.inj z6
          · have lt := z2 same
            have lt2 := nCs.size
            refine ⟨(mkC k (ps.map (repl k (mkC k cs)))).size + 1, by omega, v6, _, _, T5, rows5, rfl, ⟨xx.ko, xx.ord, xx.pre, by omega, xx.new⟩, hc6, nC', aC', getElem?_pre x5.pre hn, pq, by omega, .inr ⟨rfl, fun z7 => ?_, ?_⟩⟩
            · have z8 := text_inj fC (nC'.fit h60 hd20) z7
              rw [← z8, e5] at lt2
              omega
            · have z5 : (mkC k (ps.map (repl k (mkC k cs)))).size * ((mkC k (ps.map (repl k (mkC k cs)))).size + 1) ≤ (sizes ps - 1) * sizes ps := Nat.mul_le_mul (by omega) (by omega)
              have z9 : (sizes ps - 1) * sizes ps + 2 * sizes ps = sizes ps * (sizes ps + 1) := by
                obtain ⟨r, hr⟩ : ∃ r, sizes ps = r + 1 := ⟨sizes ps - 1, by omega⟩
                rw [hr]
                simp only [Nat.add_sub_cancel]
                rw [Nat.mul_comm r (r + 1), Nat.mul_comm 2 (r + 1), ← Nat.mul_add]
              omega

end
end K34
namespace K34
open PySem PySem.Spec PyProof.Rows L2 RZ LL LC LS LR LD LN LY LOr
open C8 (Cal Mak Met CalAt pe_c pe_mk pe_mt pe_mt0 pe_gc)
section
variable {P : Program} {w : World} {K : PySem.W.Frag} {mg : Str → Option Value} {base : Heap}
/-! ### keys: all the way down -/
mutual
def kcost : Ci → Nat
  | .eye _ => 0
  | .node _ ps => kcosts ps + (sizes ps * sizes ps + 5 * sizes ps)
def kcosts : List Ci → Nat
  | [] => 0
  | c :: cs => kcost c + kcosts cs
end
theorem kcosts_app : ∀ a b : List Ci, kcosts (a ++ b) = kcosts a + kcosts b
  | [], b => by rw [List.nil_append, kcosts, Nat.zero_add]
  | c :: a, b => by rw [List.cons_append, kcosts, kcosts, kcosts_app a b, Nat.add_assoc]
theorem kcosts_take (ps : List Ci) (i : Nat) : kcosts (ps.take i) ≤ kcosts ps := by
  have e : kcosts (ps.take i ++ ps.drop i) = kcosts ps := by rw [List.take_append_drop]
  rw [kcosts_app] at e
  omega
/-- f 2 + .. + f n, f i = i * i + 5 * i -/
def ksum : Nat → Nat
  | 0 => 0
  | n + 1 => if n = 0 then 0 else ksum n + ((n + 1) * (n + 1) + 5 * (n + 1))
theorem ksum_succ (n : Nat) : ksum n ≤ ksum (n + 1) := by
  rw [ksum.eq_2]
  by_cases h : n = 0
  · rw [if_pos h, h]
    exact Nat.le_refl _
  · rw [if_neg h]
    exact Nat.le_add_right _ _
theorem ksum_mono {m n : Nat} (h : m ≤ n) : ksum m ≤ ksum n := by
  induction h with
  | refl => exact Nat.le_refl _
  | step _ ih => exact Nat.le_trans ih (ksum_succ _)
theorem ksum_add (b : Nat) (hb : 1 ≤ b) : ∀ a, ksum (a + 1) + ksum b ≤ ksum (a + b)
  | 0 => by
    rw [Nat.zero_add b]
    have : ksum (0 + 1) = 0 := by rfl
    omega
  | a + 1 => by
    have ih := ksum_add b hb a
    have e1 : ksum (a + 1 + 1) = ksum (a + 1) + ((a + 1 + 1) * (a + 1 + 1) + 5 * (a + 1 + 1)) := by rw [ksum.eq_2, if_neg (by omega)]
    have e2 : ksum (a + 1 + b) = ksum (a + b) + ((a + b + 1) * (a + b + 1) + 5 * (a + b + 1)) := by
      rw [show a + 1 + b = (a + b) + 1 by omega, ksum.eq_2, if_neg (by omega)]
    have e3 : (a + 1 + 1) * (a + 1 + 1) ≤ (a + b + 1) * (a + b + 1) := Nat.mul_le_mul (by omega) (by omega)
    omega
mutual
theorem kcost_le : ∀ c : Ci, c.wf = true → kcost c ≤ ksum c.size
  | .eye _, _ => Nat.zero_le _
  | .node k ps, h => by
    have w := wf_node.mp h
    have hl := sizes_len fun p hp => (w.2.1 p hp).1
    have z := kcosts_le ps (fun p hp => (w.2.1 p hp).1) (fun e => by rw [e] at w; simp at w)
    have z2 := w.1
    rw [kcost, Ci.size]
    obtain ⟨r, hr⟩ : ∃ r, sizes ps = r + 2 := ⟨sizes ps - 2, by omega⟩
    have e1 : ksum (r + 2) = ksum (r + 1) + ((r + 2) * (r + 2) + 5 * (r + 2)) := by rw [ksum.eq_2, if_neg (by omega)]
    have z3 : sizes ps + 1 - ps.length ≤ r + 1 := by omega
    have z4 := Nat.le_trans z (ksum_mono z3)
    rw [hr, e1]
    omega
theorem kcosts_le : ∀ ps : List Ci, (∀ p ∈ ps, p.wf = true) → ps ≠ [] → kcosts ps ≤ ksum (sizes ps + 1 - ps.length)
  | [], _, h => absurd rfl h
  | [c], hw, _ => by
    have z := kcost_le c (hw c List.mem_cons_self)
    rw [kcosts, kcosts, sizes_one]
    exact z
  | c :: d :: r, hw, _ => by
    have z := kcost_le c (hw c List.mem_cons_self)
    have z2 := kcosts_le (d :: r) (fun p hp => hw p (List.mem_cons_of_mem _ hp)) (by simp)
    have hl := sizes_len fun p (hp : p ∈ d :: r) => hw p (List.mem_cons_of_mem _ hp)
    have hp := size_pos (hw c List.mem_cons_self)
    rw [kcosts, sizes]
    rw [List.length_cons] at hl ⊢
    rw [List.length_cons] at z2
    have z3 := ksum_add (sizes (d :: r) + 1 - (r.length + 1)) (by omega) (c.size - 1)
    rw [show c.size - 1 + 1 = c.size by omega] at z3
    rw [show c.size + sizes (d :: r) + 1 - ((d :: r).length + 1) = c.size - 1 + (sizes (d :: r) + 1 - (r.length + 1)) by rw [List.length_cons]; omega]
    omega
end
/-- the work for a key of a circle of up to 20 written eyes -/
theorem kcost_20 {c : Ci} (h : c.wf = true) (h2 : c.size ≤ 20) : kcost c ≤ 4000 := by
  refine Nat.le_trans (kcost_le c h) (Nat.le_trans (ksum_mono h2) ?_)
  decide
/-- the keys of some circles -/
inductive KD (zs : List Str) : List Ci → List Ci → Prop
  | nil : KD zs [] []
  | snoc {ps es : List Ci} {p e : Ci} (h : KD zs ps es) (n : Nc zs e p.size p.depth) (a : Alike e p) (s : Settled e) : KD zs (ps ++ [p]) (es ++ [e])
theorem KD.len {zs : List Str} {ps es : List Ci} (h : KD zs ps es) : es.length = ps.length := by
  induction h with
  | nil => rfl
  | snoc _ _ _ _ ih => rw [List.length_append, List.length_append, ih]; rfl
theorem KD.sizes {zs : List Str} {ps es : List Ci} (h : KD zs ps es) : sizes es ≤ sizes ps := by
  induction h with
  | nil => exact Nat.le_refl _
  | snoc _ n _ _ ih =>
    rw [sizes_app, sizes_app, sizes_one, sizes_one]
    have := n.size
    omega
theorem KD.mem {zs : List Str} {ps es : List Ci} (h : KD zs ps es) : ∀ e ∈ es, ∃ p ∈ ps, Nc zs e p.size p.depth := by
  induction h with
  | nil => intro e he; cases he
  | snoc _ n _ _ ih =>
    intro e he
    rcases List.mem_append.mp he with z | z
    · obtain ⟨p, hp, n'⟩ := ih e z
      exact ⟨p, List.mem_append_left _ hp, n'⟩
    · rw [List.mem_singleton.mp z]
      exact ⟨_, List.mem_append_right _ (List.mem_singleton.mpr rfl), n⟩
theorem KD.settled {zs : List Str} {ps es : List Ci} (h : KD zs ps es) : ∀ e ∈ es, Settled e := by
  induction h with
  | nil => intro e he; cases he
  | snoc _ _ _ s ih =>
    intro e he
    rcases List.mem_append.mp he with z | z
    · exact ih e z
    · rw [List.mem_singleton.mp z]
      exact s
theorem KD.at {zs : List Str} {ps es : List Ci} (h : KD zs ps es) : ∀ (i : Nat) (p e : Ci), ps[i]? = some p → es[i]? = some e → Alike e p := by
  induction h with
  | nil => intro i p e z; simp at z
  | @snoc ps es p0 e0 h n a _ ih =>
    intro i p e h1 h2
    have l := h.len
    by_cases g : i < ps.length
    · rw [List.getElem?_append_left g] at h1
      rw [List.getElem?_append_left (by omega)] at h2
      exact ih i p e h1 h2
    · rw [List.getElem?_append_right (by omega)] at h1
      rw [List.getElem?_append_right (by omega), l] at h2
      cases g2 : i - ps.length with
      | zero =>
        rw [g2] at h1 h2
        cases h1
        cases h2
        exact a
      | succ j =>
        rw [g2] at h1
        simp at h1
def spKeyBy (K : PySem.W.Frag) (n : Nat) : Sp := fun vs H Q _ => ∃ (x : Addr) (A : OA) (T : List Ci) (rows : List Addr) (v : V) (c : Ci) (zs : List Str), vs = [.ref x, v] ∧ OrdS (oC K) H x A T rows ∧ CO (cC K) H v c ∧ Fit c ∧ (∀ y ∈ c.leaves, y ∈ zs) ∧ c.depth < n ∧ T.length + kcost c ≤ 4000 ∧
  ∀ (H' : Hp) (T' : List Ci) (rows' : List Addr) (v' : V) (e : Ci), Ext (oC K) x A H T rows H' T' rows' (kcost c) → CO (cC K) H' v' e → Nc zs e c.size c.depth → Alike e c → Settled e → Q v' H'
theorem C__key_by (TW : TxtW w K mg) : ∀ n, Cal P w K mg base (n + 129) "_key_by" (spKeyBy K n) [] := by
  have C__reduced : Cal P w K mg base 128 "_reduced" (spReduced K) [] := C__reduced TW
  have T := TW.toTxt
  have M_Circle_parts : Met P w K mg base 1 (cC K) "parts" (spParts K) [] := M_Circle_parts T
  have cc := T_cls T
  intro n
  induction n with
  | zero =>
    obtain ⟨fd, F⟩ := T.F__key_by
    have b : Binds K fd ["order", "circle"] [] := FunD.bindsN F fun _ _ _ _ _ _ us hl => match us, hl with | [_, _], _ => rfl
    refine calD F T.g__key_by b sc__key_by (fun vs H Q E h => ?_) (fun cdv A outer s H vs Q E hr h => ?_)
    · obtain ⟨x, A, T0, rows, v, c, zs, rfl, _⟩ := h
      rfl
    · obtain ⟨x, A, T0, rows, v, c, zs, rfl, _, _, _, _, hd, _⟩ := h
      exact absurd hd (Nat.not_lt_zero _)
  | succ n ih =>
    have C__key_by := ih
    obtain ⟨fd, F⟩ := T.F__key_by
    have b : Binds K fd ["order", "circle"] [] := FunD.bindsN F fun _ _ _ _ _ _ us hl => match us, hl with | [_, _], _ => rfl
    refine calD F T.g__key_by b sc__key_by (fun vs H Q E h => ?_) (fun cdv A outer s H vs Q E hr h => ?_)
    · obtain ⟨x, A, T0, rows, v, c, zs, rfl, _⟩ := h
      rfl
    · obtain ⟨x, A, T0, rows, v, c, zs, rfl, ho, hc, hf, hov, hd, hz, q⟩ := h
      refine ⟨_, (pss_cons (ps_if (pt_cmpR op_eq (pe_fld (pv 1) (by rfl)) pe_str (nomark _))
    (pss_one (ps_ret (pv 1)))
    pss_nil)
  (pss_one (ps_ret (pe_c C__reduced hr (by omega) rfl (pa_cons (pv 0) (pa_cons (pe_fld (pv 1) (by rfl)) (pa_cons (pe_lc (own := [("part", 2)]) (g := gName 2) (tt := tYes) (te := (tCall (spKeyBy K n) [] C8.E0 (tCons (tVar 0) (tCons (tVar 2) tNil)))) rfl sc__key_by.nd (pi_list (pe_mt0 M_Circle_parts hr (by omega) (pv 1))) (blkOk_by (N := N__key_by) (sc := defScope s__key_by) (by decide +kernel)) (fun _ _ _ _ _ => pg_name (i := 2) sc__key_by.nd rfl (Or.inl rfl)) (fun _ _ _ _ _ => pts_nil) (fun _ _ _ _ _ => (pe_c C__key_by hr (Nat.le_refl _) rfl (pa_cons (pv 0) (pa_cons (pv 2) pa_nil))))) pa_nil))))))), ?_⟩
      obtain ⟨a, ax, ar, at', rfl, ha⟩ := co_ref hc
      refine ⟨_, rfl, a, _, ax, _, _, rfl, ha, cc, T_no T T.f_no_Circle_kind, rfl, rfl, _, rfl, ?_⟩
      rw [kind_eye]
      cases c with
      | eye m =>
        exact iteT ⟨_, rfl, q H T0 rows _ _ (Ext.refl ho _) hc ⟨hf.wf, Nat.le_refl _, Nat.le_refl _, hov⟩ (Alike.refl _) (.eye _)⟩
      | node k ps =>
        refine iteF ?_
        have hwf := wf_node.mp hf.wf
        have fps : ∀ p ∈ ps, Fit p := fun p hp => hf.part (c := .node k ps) hp
        have h60 := hf.size
        have h20 := hf.depth
        have nps : ps ≠ [] := fun e => by
          rw [e] at hwf
          simp at hwf
        rw [kcost] at hz
        rw [Ci.size] at h60
        rw [Ci.depth] at h20
        have lps : ps.length ≤ 60 := by
          have z := sizes_len fun p hp => (fps p hp).wf
          omega
        refine ⟨_, rfl, _, rfl, a, _, ax, _, _, rfl, ha, cc, T_no T T.f_no_Circle_kind, rfl, _, rfl, a, ax, _, rfl, ha, rfl, _, .node k ps, rfl, hc, fun p crows hp hr2 => ?_⟩
        have s4 := same_upd (o := .lst crows) hp
        have ho4 := ho.same s4
        have np := ho.fresh hp
        have lenc : crows.length = ps.length := cos_len hr2
        refine ⟨p, rfl, ⟨_, sqL_of upd_same⟩, fun D nD => ?_⟩
        have w0 := Own.of ho4 nD
        refine lc_st (walk_list (K := K) (a := p) (xs := crows)) (fun i acc H5 => ∃ (T5 : List Ci) (rows5 : List Addr) (es : List Ci), Ext (oC K) x A (upd H p (.lst crows)) T0 rows H5 T5 rows5 (kcosts (ps.take i)) ∧ Own A x (upd H p (.lst crows)) rows5 D ∧ COs (cC K) H5 acc es ∧ KD zs (ps.take i) es) (by omega) ?_ ?_ ?_ ?_
        · rintro i acc H5 _ ⟨T5, rows5, es, x5, _⟩
          exact sqL_of (x5.ko _ _ np upd_same)
        · exact ⟨T0, rows, [], (Ext.refl ho4 _).own nD w0.nA w0.nx w0.nr, w0, .nil, .nil⟩
        · rintro i x1 H5 H6 acc Nx hi hD5 hlen ⟨T5, rows5, es, x5, w5, hacc, hkd⟩ ⟨rfl, hx1⟩ hN
          obtain ⟨ci, g1, g2⟩ := cos_get hr2 hx1
          have g3 := co_mono (ho4.kc x5.ko) (co_mono (Kc.of s4) g2)
          have hmem := List.mem_of_getElem? g1
          have etake : ps.take (i + 1) = ps.take i ++ [ci] := take_one g1
          have esz : kcosts (ps.take (i + 1)) = kcosts (ps.take i) + kcost ci := by rw [etake, kcosts_app, kcosts, kcosts, Nat.add_zero]
          have etot := kcosts_take ps (i + 1)
          have hx := x5.len
          have hdi := pdepth (c := .node k ps) hmem
          refine ⟨rfl, _, rfl, _, rfl, x, A, T5, rows5, x1, ci, zs, rfl, x5.ord, g3, fps ci hmem, fun y hy => hov y (pleaves (c := .node k ps) hmem hy), by omega, by omega, fun H7 T7 rows7 v7 e7 x7 hc7 n7 a7 t7 => ?_⟩
          have w7 := w5.go x7 ⟨_, hD5⟩
          have hD7 := x7.ko _ _ w0.nA hD5
          have kD : Kc (cC K) H7 (upd H7 D (.lst (acc ++ [v7]))) := Kc.put hD7 (by intro _ _ _ z; cases z) (by intro _ z; cases z)
          refine hN _ H7 hD7 ⟨T7, rows7, es ++ [e7], ((x5.trans x7).mono (by omega)).own nD w7.nA w7.nx w7.nr, w7, cos_app (cos_mono kD (cos_mono (x5.ord.kc x7.ko) hacc)) (cos_one (co_mono kD hc7)), ?_⟩
          rw [etake]
          exact .snoc hkd n7 a7 t7
        · rintro H5 acc hD5 hlen ⟨T5, rows5, es, x5, w5, hacc, hkd⟩
          rw [lenc, List.take_length] at hkd x5
          have q1 : ∀ c ∈ es, c.wf = true ∧ c.depth ≤ depths ps ∧ ∀ y ∈ c.leaves, y ∈ zs := fun c hc => by
            obtain ⟨p', hp', n'⟩ := hkd.mem c hc
            exact ⟨n'.wf, Nat.le_trans n'.depth (depths_mem hp'), n'.ov⟩
          have ne : es ≠ [] := fun e => by
            have z := hkd.len
            rw [e] at z
            exact nps (List.eq_nil_of_length_eq_zero z.symm)
          have hx := x5.len
          have fes : ∀ c ∈ es, Fit c := fun c hc => by
            obtain ⟨p', hp', n'⟩ := hkd.mem c hc
            exact n'.fit (fps p' hp').size (fps p' hp').depth
          have al := parts_alike (k := k) fps fes hkd.len nps hkd.at
          rw [LY.mkC_node hf.wf] at al
          refine ⟨x, A, T5, rows5, k, D, acc, es, zs, sizes ps, depths ps, rfl, x5.ord, hD5, hacc, ne, q1, hkd.settled, hkd.sizes, h60, h20, by omega, fun H7 T7 rows7 v7 e7 x7 hc7 n7 a7 t7 => ?_⟩
          have xx := ((Ext.same ho s4 0).trans x5).trans x7
          refine q H7 T7 rows7 v7 e7 (xx.mono ?_) hc7 ?_ (a7.trans al) t7
          · rw [kcost]
            omega
          · rw [Ci.size, Ci.depth]
            exact n7
def spKeyOf (K : PySem.W.Frag) : Sp := fun vs H Q _ => ∃ (v : V) (c : Ci), vs = [v] ∧ CO (cC K) H v c ∧ Fit c ∧ kcost c ≤ 4000 ∧ ∀ (v' : V) (H' : Hp) (e : Ci), Same H H' → CO (cC K) H' v' e → Nc c.leaves e c.size c.depth → Alike e c → Settled e → Q v' H'
theorem C_key_of (TW : TxtW w K mg) : Cal P w K mg base 151 "key_of" (spKeyOf K) [] := by
  have T := TW.toTxt
  have M_Order : Mak P w K mg base 1 "Order" (oC K) (spOrd0 K) [] := M_Order T
  have C__key_by : Cal P w K mg base 150 "_key_by" (spKeyBy K 21) [] := C__key_by TW 21
  obtain ⟨fd, F⟩ := T.F_key_of
  have b : Binds K fd ["circle"] [] := FunD.bindsN F fun _ _ _ _ _ _ us hl => match us, hl with | [_], _ => rfl
  refine calD F T.g_key_of b sc_key_of (fun vs H Q E h => ?_) (fun cdv A outer s H vs Q E hr h => ?_)
  · obtain ⟨v, c, rfl, _⟩ := h
    rfl
  · obtain ⟨v, c, rfl, hc, hf, hk, q⟩ := h
    refine ⟨_, (pss_one (ps_ret (pe_c C__key_by hr (by omega) rfl (pa_cons (LO.pe_mk0 M_Order hr (by omega) rfl) (pa_cons (pv 0) pa_nil))))), ?_⟩
    intro x dx nx ndx nex
    have s0 : Same H (upd (upd H dx (.own x)) x (.ins (oC K) dx [])) := same_upd2 (same_upd ndx) (by rw [upd_ne (Ne.symm nex)]; exact nx)
    refine ⟨x, dx, rfl, upd_same, fun H1 A b1 fr1 ho1 => ⟨rfl, ?_⟩⟩
    have s1 : Same H H1 := fun a o e => b1 a o (ne_of_none e nx) (s0 _ _ e)
    have nA : ∀ {a : Addr} {o : HO}, H a = some o → a ∉ A.all := fun e z => by
      have z2 := fr1 _ z
      rw [s0 _ _ e] at z2
      cases z2
    have hd := hf.depth
    refine ⟨_, rfl, x, A, [], [], v, c, c.leaves, rfl, ho1, co_mono (Kc.of s1) hc, hf, fun _ h => h, by omega, by show 0 + _ ≤ _; omega, fun H2 T2 rows2 v2 e x2 hc2 n2 a2 t2 => ?_⟩
    exact q v2 H2 e (fun a o g => x2.ko a o (nA g) (s1 a o g)) hc2 n2 a2 t2

end
end K34
namespace K34
open PySem PySem.Spec PyProof.Rows L2 RZ LL LC LS LR LD LN LY LOr
open C8 (Cal Mak Met CalAt pe_c pe_mk pe_mt pe_mt0 pe_gc)
section
variable {P : Program} {w : World} {K : PySem.W.Frag} {mg : Str → Option Value} {base : Heap}
theorem ite_kS {k : Bool} {σ : L2.St} {H : Hp} {Q : VK} (h : Q (.str (kS k)) H) : if k = true then tC (.str "pool") σ H Q else tC (.str "common") σ H Q := by
  cases k with
  | true => exact iteT h
  | false => exact iteF h

end
end K34
namespace K34
open PySem PySem.Spec PyProof.Rows L2 RZ LL LC LS LR LD LN LY LOr
open C8 (Cal Mak Met CalAt pe_c pe_mk pe_mt pe_mt0 pe_gc)
section
variable {P : Program} {w : World} {K : PySem.W.Frag} {mg : Str → Option Value} {base : Heap}
/-! ### eyes put out -/
/-- what put_eyes_out tells -/
def OutV (C : Addr) (H : Hp) (v : V) : Option Ci → Prop
  | none => v = .non
  | some w => CO C H v w
theorem outv_mono {C : Addr} {H H' : Hp} (k : Kc C H H') {v : V} : ∀ {o : Option Ci}, OutV C H v o → OutV C H' v o
  | none, h => h
  | some _, h => co_mono k h
/-- a list of such answers -/
inductive OutVs (C : Addr) (H : Hp) : List V → List (Option Ci) → Prop
  | nil : OutVs C H [] []
  | snoc {vs : List V} {os : List (Option Ci)} {v : V} {o : Option Ci} (t : OutVs C H vs os) (h : OutV C H v o) : OutVs C H (vs ++ [v]) (os ++ [o])
theorem outvs_mono {C : Addr} {H H' : Hp} (k : Kc C H H') {vs : List V} {os : List (Option Ci)} (h : OutVs C H vs os) : OutVs C H' vs os := by
  induction h with
  | nil => exact .nil
  | snoc _ h ih => exact .snoc ih (outv_mono k h)
theorem outvs_len {C : Addr} {H : Hp} {vs : List V} {os : List (Option Ci)} (h : OutVs C H vs os) : vs.length = os.length := by
  induction h with
  | nil => rfl
  | snoc _ _ ih => rw [List.length_append, List.length_append, ih]; rfl
theorem outvs_get {C : Addr} {H : Hp} {vs : List V} {os : List (Option Ci)} (h : OutVs C H vs os) : ∀ {i : Nat} {v : V}, vs[i]? = some v → ∃ o, os[i]? = some o ∧ OutV C H v o := by
  induction h with
  | nil => intro i v e; simp at e
  | @snoc vs os v0 o0 t h ih =>
    intro i v e
    have l := outvs_len t
    by_cases g : i < vs.length
    · rw [List.getElem?_append_left g] at e
      obtain ⟨o, a, b⟩ := ih e
      exact ⟨o, by rw [List.getElem?_append_left (by omega)]; exact a, b⟩
    · have ei : i = vs.length := by
        have z := (List.getElem?_eq_some_iff.mp e).1
        rw [List.length_append, List.length_singleton] at z
        omega
      subst ei
      rw [List.getElem?_concat_length] at e
      cases e
      exact ⟨o0, by rw [l, List.getElem?_concat_length], h⟩
theorem inV_names {n : Str} {g : List Str} : inV (.str n) (g.map V.str) = decide (n ∈ g) := by
  unfold inV
  induction g with
  | nil => simp
  | cons x g ih =>
    rw [List.map_cons, List.any_cons, ih]
    have : eqV (.str x) (.str n) = decide (n = x) := by
      show (x == n) = _
      by_cases e : n = x
      · rw [e]; simp
      · have : ¬ x = n := fun z => e z.symm
        simp [e, this]
    rw [this]
    simp [List.mem_cons]
theorem names_flat (g : List Str) : (g.map V.str).all flatV = true := by
  rw [List.all_map, List.all_eq_true]
  intro x _
  rfl
open LQ in
def spOut (K : PySem.W.Frag) (n : Nat) : Sp := fun vs H Q _ => ∃ (v : V) (l : Addr) (g : List Str) (up : Bool) (c : Ci), vs = [v, .ref l, .bl up] ∧ CO (cC K) H v c ∧ Fit c ∧ H l = some (.lst (g.map V.str)) ∧ c.depth < n ∧
  ∀ (v' : V) (H' : Hp), Same H H' → OutV (cC K) H' v' (putO g up c) → Q v' H'
open LQ in
theorem C_put_eyes_out (TW : TxtW w K mg) : ∀ n, Cal P w K mg base (n + 11) "put_eyes_out" (spOut K n) [] := by
  have C_built : Cal P w K mg base 10 "built" (spBuiltL K) [] := C_built TW
  have T := TW.toTxt
  have M_Circle_parts : Met P w K mg base 1 (cC K) "parts" (spParts K) [] := M_Circle_parts T
  have cc := T_cls T
  intro n
  induction n with
  | zero =>
    obtain ⟨fd, F⟩ := T.F_put_eyes_out
    have b : Binds K fd ["circle", "names", "above"] [] := FunD.bindsN F fun _ _ _ _ _ _ us hl => match us, hl with | [_, _, _], _ => rfl
    refine calD F T.g_put_eyes_out b sc_put_eyes_out (fun vs H Q E h => ?_) (fun cdv A outer s H vs Q E hr h => ?_)
    · obtain ⟨v, l, g, up, c, rfl, _⟩ := h
      rfl
    · obtain ⟨v, l, g, up, c, rfl, _, _, _, hd, _⟩ := h
      exact absurd hd (Nat.not_lt_zero _)
  | succ n ih =>
    have C_put_eyes_out := ih
    obtain ⟨fd, F⟩ := T.F_put_eyes_out
    have b : Binds K fd ["circle", "names", "above"] [] := FunD.bindsN F fun _ _ _ _ _ _ us hl => match us, hl with | [_, _, _], _ => rfl
    refine calD F T.g_put_eyes_out b sc_put_eyes_out (fun vs H Q E h => ?_) (fun cdv A outer s H vs Q E hr h => ?_)
    · obtain ⟨v, l, g, up, c, rfl, _⟩ := h
      rfl
    · obtain ⟨v, l, g, up, c, rfl, hc, hf, hl, hd, q⟩ := h
      refine ⟨_, (pss_cons (ps_if (pt_cmpR op_eq (pe_fld (pv 0) (by rfl)) pe_str (nomark _))
    (pss_one (ps_ret (pe_ifExp (pt_cmpR op_in_seq (pe_fld (pv 0) (by rfl)) (pv 1) (by rfl)) pe_non (pv 0))))
    pss_nil)
  (pss_cons (ps_setLc (i := 3) (own := [("part", 4)]) (g := gName 4) (tt := tYes) (te := (tCall (spOut K n) [] C8.E0 (tCons (tVar 4) (tCons (tVar 1) (tCons (tVar 2) tNil))))) rfl sc_put_eyes_out.nd rfl rfl (sw_true rfl rfl rfl (by decide +kernel)) (pi_list (pe_mt0 M_Circle_parts hr (by omega) (pv 0))) (blkOk_by (N := N_put_eyes_out) (sc := defScope s_put_eyes_out) (by decide +kernel)) (fun _ _ _ _ _ => pg_name (i := 4) sc_put_eyes_out.nd rfl (Or.inl rfl)) (fun _ _ _ _ _ => pts_nil) (fun _ _ _ _ _ => (pe_c C_put_eyes_out hr (by omega) rfl (pa_cons (pv 4) (pa_cons (pv 1) (pa_cons (pv 2) pa_nil))))))
  (pss_cons (ps_setLc (i := 5) (own := [("part", 4)]) (g := gName 4) (tt := (tTest (tOp (fun x y H Q => y = .non ∧ Q (.bl (!decide (x = .non))) H) (tVar 4) (tC .non)))) rfl sc_put_eyes_out.nd rfl rfl (sw_true rfl rfl rfl (by decide +kernel)) (pi_list (pv 3)) (blkOk_by (N := N_put_eyes_out) (sc := defScope s_put_eyes_out) (by decide +kernel)) (fun _ _ _ _ _ => pg_name (i := 4) sc_put_eyes_out.nd rfl (Or.inl rfl)) (fun _ _ _ _ _ => (pts_one (pt_cmpR op_notN (pv 4) pe_non (nomark _)))) (fun _ _ _ _ _ => (pv 4)))
  (pss_cons (ps_if (pt_not (pt_truth (pv 5) (by intro _; rfl)))
    (pss_one (ps_ret pe_non))
    pss_nil)
  (pss_cons (ps_set (i := 6) sc_put_eyes_out.nd rfl (Or.inl rfl) (pe_ifExp (pt_val (pv 2)) pe_str pe_str))
  (C8.pss_cut (ps_if (PW.pt (pw_and (pt_cmpR op_ne (pe_fld (pv 0) (by rfl)) (pv 6) (nomark _)) (pw_and1 (pt_cmpR op_lt (pe_callB call_len_seq (by rfl) T.z_len PySem.boot_len (pa_cons (pv 5) pa_nil)) (pe_callB call_len_seq (by rfl) T.z_len PySem.boot_len (pa_cons (pv 3) pa_nil)) (nomark _)))))
    (pss_one (ps_ret pe_non))
    pss_nil)
  (pss_one (ps_ret (pe_c C_built hr (by omega) rfl (pa_cons (pe_fld (pv 0) (by rfl)) (pa_cons (pv 5) pa_nil))))))))))), ?_⟩
      obtain ⟨a, ax, ar, at', rfl, ha⟩ := co_ref hc
      refine ⟨_, rfl, a, _, ax, _, _, rfl, ha, cc, T_no T T.f_no_Circle_kind, rfl, rfl, _, rfl, ?_⟩
      rw [kind_eye]
      cases c with
      | eye m =>
        refine iteT ⟨_, rfl, a, _, ax, _, _, rfl, ha, cc, T_no T T.f_no_Circle_name, rfl, _, rfl, l, _, rfl, .inl (sqL_of hl), rfl, names_flat g, _, rfl, ?_⟩
        rw [if_neg (by decide : ¬ false = true), show (Ci.eye m).name = m from rfl, inV_names]
        rw [putO] at q
        by_cases z : m ∈ g
        · rw [decide_eq_true z]
          rw [if_pos z] at q
          exact iteT (q _ _ (Same.refl H) rfl)
        · rw [decide_eq_false z]
          rw [if_neg z] at q
          exact iteF ⟨_, rfl, q _ _ (Same.refl H) hc⟩
      | node k ps =>
        refine iteF ?_
        have hwf := wf_node.mp hf.wf
        have fps : ∀ p ∈ ps, Fit p := fun p hp => hf.part (c := .node k ps) hp
        have h60 := hf.size
        rw [Ci.size] at h60
        have lps : ps.length ≤ 60 := by
          have z := sizes_len fun p hp => (fps p hp).wf
          omega
        refine ⟨_, rfl, a, ax, _, rfl, ha, rfl, _, .node k ps, rfl, hc, fun p crows hp hr2 => ?_⟩
        have s4 := same_upd (o := .lst crows) hp
        have lenc : crows.length = ps.length := cos_len hr2
        refine ⟨p, rfl, ⟨_, sqL_of upd_same⟩, fun D nD => ?_⟩
        have npD : p ≠ D := fun e => by rw [← e, upd_same] at nD; cases nD
        have nDH : H D = none := by
          cases z : H D with
          | none => rfl
          | some o => rw [s4 _ _ z] at nD; cases nD
        refine lc_st (walk_list (K := K) (a := p) (xs := crows)) (fun i acc H5 => Same H H5 ∧ H5 p = some (.lst crows) ∧ OutVs (cC K) H5 acc ((ps.take i).map (putO g up))) (by omega) (fun i acc H5 _ z => sqL_of z.2.1) ⟨fun x o e => by rw [upd_ne (ne_of_none e nDH)]; exact s4 _ _ e, by rw [upd_ne npD]; exact upd_same, .nil⟩ ?_ ?_
        · rintro i x1 H5 H6 acc Nx hi hD5 hlen ⟨s5, hp5, hacc⟩ ⟨rfl, hx1⟩ hN
          obtain ⟨ci, g1, g2⟩ := cos_get hr2 hx1
          have hmem := List.mem_of_getElem? g1
          have hdi := pdepth (c := .node k ps) hmem
          refine ⟨rfl, _, rfl, _, rfl, _, rfl, x1, l, g, up, ci, rfl, co_mono (Kc.of s5) g2, fps ci hmem, s5 _ _ hl, by omega, fun v7 H7 s7 hv7 => ?_⟩
          have hD7 := s7 _ _ hD5
          have kD : Kc (cC K) H7 (upd H7 D (.lst (acc ++ [v7]))) := Kc.put hD7 (by intro _ _ _ z; cases z) (by intro _ z; cases z)
          refine hN _ H7 hD7 ⟨fun x o e => by rw [upd_ne (ne_of_none e nDH)]; exact s7 _ _ (s5 _ _ e), by rw [upd_ne npD]; exact s7 _ _ hp5, ?_⟩
          rw [take_one (ps := ps) g1, List.map_append]
          exact .snoc (outvs_mono ((Kc.of s7).trans kD) hacc) (outv_mono kD hv7)
        · rintro H5 acc hD5 hlen ⟨s5, hp5, hacc⟩
          rw [lenc, List.take_length] at hacc
          have lacc : acc.length = ps.length := by rw [outvs_len hacc, List.length_map]
          have fl : ∀ w ∈ left g up ps, Fit w := left_fit hf
          refine ⟨_, rfl, D, rfl, ⟨_, sqL_of hD5⟩, fun D2 nD2 => ?_⟩
          have nD2H : H D2 = none := by
            cases z : H D2 with
            | none => rfl
            | some o => rw [s5 _ _ z] at nD2; cases nD2
          have nDD2 : D ≠ D2 := fun e => by rw [← e, hD5] at nD2; cases nD2
          refine lc_stf (walk_list (K := K) (a := D) (xs := acc)) (fun i acc2 H6 => Same H H6 ∧ H6 D = some (.lst acc) ∧ OutVs (cC K) H6 acc (ps.map (putO g up)) ∧ COs (cC K) H6 acc2 (left g up (ps.take i))) (by omega) (fun i acc2 H6 _ z => sqL_of z.2.1) ⟨fun x o e => by rw [upd_ne (ne_of_none e nD2H)]; exact s5 _ _ e, by rw [upd_ne nDD2]; exact hD5, outvs_mono (Kc.of (same_upd nD2)) hacc, .nil⟩ ?_ ?_
          · rintro i x H6 H7 acc2 Nx No hi hD26 hlen2 ⟨s6, hD6, hacc6, hco6⟩ ⟨rfl, hx⟩ hNx hNo
            obtain ⟨o, g1, g2⟩ := outvs_get hacc6 hx
            rw [List.getElem?_map] at g1
            cases gp : ps[i]? with
            | none => rw [gp] at g1; cases g1
            | some p0 =>
              rw [gp] at g1
              have eo : putO g up p0 = o := Option.some.inj g1
              have etake : left g up (ps.take (i + 1)) = left g up (ps.take i) ++ left g up [p0] := by
                rw [take_one gp]
                unfold left
                rw [List.filterMap_append]
              have eone : left g up [p0] = o.toList := by
                unfold left
                rw [List.filterMap_cons, eo]
                cases o <;> rfl
              rw [eone] at etake
              refine ⟨rfl, _, rfl, rfl, _, rfl, ?_⟩
              cases o with
              | none =>
                have g2 : x = .non := g2
                subst g2
                rw [show (!decide (V.non = V.non)) = false by simp]
                refine iteF (hNo _ hD26 ⟨s6, hD6, hacc6, ?_⟩)
                rw [etake]
                show COs _ _ _ (_ ++ [])
                rw [List.append_nil]
                exact hco6
              | some w =>
                have g2 : CO (cC K) H7 x w := g2
                obtain ⟨b1, _, _, _, rfl, _⟩ := co_ref g2
                rw [show (!decide (V.ref b1 = V.non)) = true by simp]
                refine iteT ⟨_, rfl, hNx _ H7 hD26 ?_⟩
                have kD : Kc (cC K) H7 (L2.upd H7 D2 (.lst (acc2 ++ [V.ref b1]))) := Kc.put hD26 (by intro _ _ _ z; cases z) (by intro _ z; cases z)
                refine ⟨fun y o e => by rw [upd_ne (ne_of_none e nD2H)]; exact s6 _ _ e, by rw [upd_ne nDD2]; exact hD6, outvs_mono kD hacc6, ?_⟩
                rw [etake]
                exact cos_app (cos_mono kD hco6) (cos_one (co_mono kD g2))
          · rintro H6 acc2 hD26 hlen2 ⟨s6, hD6, hacc6, hco6⟩
            rw [lacc, List.take_length] at hco6
            have lacc2 : acc2.length = (left g up ps).length := cos_len hco6
            have eO := putO_node (g := g) (up := up) (k := k) (ps := ps)
            refine ⟨_, rfl, _, .inl ⟨acc2, sqL_of hD26, rfl⟩, ?_⟩
            by_cases z : left g up ps = []
            · have za : acc2 = [] := List.eq_nil_of_length_eq_zero (by rw [lacc2, z]; rfl)
              rw [za]
              rw [if_pos z] at eO
              refine iteT (q _ _ s6 ?_)
              rw [eO]
              rfl
            · have za : acc2.isEmpty = false := by
                cases acc2 with
                | nil => exact absurd (List.eq_nil_of_length_eq_zero lacc2.symm) z
                | cons _ _ => rfl
              rw [za]
              rw [if_neg z] at eO
              have ha6 := s6 _ _ ha
              refine iteF ⟨_, rfl, _, rfl, ite_kS ?_⟩
              refine ⟨fun σ' H' => σ' = [some (.ref a), some (.ref l), some (.bl up), some (.ref D), none, some (.ref D2), some (.str (kS up))] ∧ H' = H6 ∧ putO g up (.node k ps) = some (mkC k (left g up ps)), ?_, ?_⟩
              · refine ⟨_, rfl, a, _, ax, _, _, rfl, ha6, cc, T_no T T.f_no_Circle_kind, rfl, _, rfl, rfl, _, rfl, ?_⟩
                rw [kS_eq]
                by_cases ek : k = up
                · rw [show (!(Ci.node k ps).isK up) = false by rw [ek]; simp [Ci.isK]]
                  rw [if_neg fun y => y.1 ek] at eO
                  exact iteF (iteF ⟨rfl, rfl, eO⟩)
                · rw [show (!(Ci.node k ps).isK up) = true by simp [Ci.isK, ek]]
                  refine iteT ⟨_, rfl, D2, _, rfl, .inl (sqL_of hD26), _, rfl, D, _, rfl, .inl (sqL_of hD6), _, _, rfl, rfl, _, rfl, ?_⟩
                  by_cases lt : (left g up ps).length < ps.length
                  · rw [decide_eq_true (by omega : ((acc2.length : Nat) : Int) < ((acc.length : Nat) : Int))]
                    rw [if_pos ⟨ek, lt⟩] at eO
                    refine iteT (q _ _ s6 ?_)
                    rw [eO]
                    rfl
                  · rw [decide_eq_false (by omega : ¬ ((acc2.length : Nat) : Int) < ((acc.length : Nat) : Int))]
                    rw [if_neg fun y => lt y.2] at eO
                    exact iteF ⟨rfl, rfl, eO⟩
              rintro σ' H' ⟨rfl, rfl, eO⟩
              have lf := putO_lf hf.wf _ eO
              have sl := (lefts (g := g) (up := up) (ps := ps) fun p hp w e => putO_lf (fps p hp).wf w e).1
              refine ⟨_, rfl, a, _, ax, _, _, rfl, ha6, cc, T_no T T.f_no_Circle_kind, rfl, _, rfl, k, D2, acc2, left g up ps, rfl, sqL_of hD26, hco6, z, by omega, fun c hc => (fl c hc).wf, lf.fit hf, fun v' H8 s8 hco8 => ?_⟩
              refine q v' H8 (s6.trans s8) ?_
              rw [eO]
              exact hco8

end
end K34
namespace K34
open PySem PySem.Spec PyProof.Rows L2 RZ LL LC LS LR LD LN LY LOr
open C8 (Cal Mak Met CalAt pe_c pe_mk pe_mt pe_mt0 pe_gc)
section
variable {P : Program} {w : World} {K : PySem.W.Frag} {mg : Str → Option Value} {base : Heap}
/-! ### drawn circles -/
def spCirc (K : PySem.W.Frag) (d : Nat) : Sp := fun vs H Q _ => ∃ (b nl : Addr) (zs : List Str) (e r : Nat), vs = [.ref b, .ref nl, .int ((e : Nat) : Int), .int ((r : Nat) : Int)] ∧ Bag H b ∧ Nms0 K H b nl zs ∧ e < d ∧ e ≤ 20 ∧ 1 ≤ r ∧ r ≤ 60 ∧
  ∀ (v : V) (c : Ci) (H' : Hp), Kp b H H' → Nd H' v c → Nc zs c r e → Q v H'
theorem nc_eye {zs : List Str} {n : Str} (h : isName n = true) (hm : n ∈ zs) : Nc zs (.eye n) 1 0 := ⟨by rw [Ci.wf]; exact h, by rw [Ci.size]; exact Nat.le_refl 1, by rw [Ci.depth]; exact Nat.le_refl 0, fun x hx => by
  rw [Ci.leaves] at hx
  rw [List.mem_singleton.mp hx]
  exact hm⟩
theorem C__law_circle (T : Txt K mg) : ∀ d, Cal P w K mg base (d + 4) "_law_circle" (spCirc K d) [] := by
  have C__law_draw : Cal P w K mg base 1 "_law_draw" spDraw [] := C__law_draw T
  have C__law_eye : Cal P w K mg base 3 "_law_eye" (spLEye K) [] := C__law_eye T
  have C__law_kind : Cal P w K mg base 3 "_law_kind" spKind [] := C__law_kind T
  have C__law_joined : Cal P w K mg base 1 "_law_joined" (spJoin K) [] := C__law_joined T
  intro d
  induction d with
  | zero =>
    obtain ⟨fd, F⟩ := T.F__law_circle
    have b : Binds K fd ["_law_bag_here", "_law_names_here", "_law_deep", "_law_room"] [] := FunD.bindsN F fun _ _ _ _ _ _ us hl => match us, hl with | [_, _, _, _], _ => rfl
    refine calD F T.g__law_circle b sc__law_circle (fun vs H Q E h => ?_) (fun cdv A outer s H vs Q E hr h => ?_)
    · obtain ⟨b, nl, zs, e, r, rfl, _⟩ := h
      rfl
    · obtain ⟨b, nl, zs, e, r, rfl, _, _, hd, _⟩ := h
      exact absurd hd (Nat.not_lt_zero _)
  | succ d ih =>
    have C__law_circle := ih
    obtain ⟨fd, F⟩ := T.F__law_circle
    have b : Binds K fd ["_law_bag_here", "_law_names_here", "_law_deep", "_law_room"] [] := FunD.bindsN F fun _ _ _ _ _ _ us hl => match us, hl with | [_, _, _, _], _ => rfl
    refine calD F T.g__law_circle b sc__law_circle (fun vs H Q E h => ?_) (fun cdv A outer s H vs Q E hr h => ?_)
    · obtain ⟨b, nl, zs, e, r, rfl, _⟩ := h
      rfl
    · obtain ⟨b, nl, zs, e, r, rfl, B, hn, hd, he, hr1, hr2, q⟩ := h
      refine ⟨_, (pss_cons (ps_if (PW.pt (pw_or (pt_cmpR op_eq (pv 2) pe_int (nomark _)) (pw_or (pt_cmpR op_lt (pv 3) pe_int (nomark _)) (pw_or1 (pt_cmpR op_eq (pe_c C__law_draw hr (by omega) rfl (pa_cons (pv 0) (pa_cons pe_int pa_nil))) pe_int (nomark _))))))
    (pss_one (ps_ret (pe_c C__law_eye hr (by omega) rfl (pa_cons (pv 0) (pa_cons (pv 1) pa_nil)))))
    pss_nil)
  (pss_cons (ps_set (i := 4) sc__law_circle.nd rfl (Or.inr rfl) (pe_ifExp (PW.pt (pw_and (pt_cmpR op_gt (pv 3) pe_int (nomark _)) (pw_and1 (pt_cmpR op_eq (pe_c C__law_draw hr (by omega) rfl (pa_cons (pv 0) (pa_cons pe_int pa_nil))) pe_int (nomark _))))) pe_int pe_int))
  (pss_one (ps_ret (pe_c C__law_joined hr (by omega) rfl (pa_cons (pe_c C__law_kind hr (by omega) rfl (pa_cons (pv 0) pa_nil)) (pa_cons (pe_lc (own := [("_law_k", 5)]) (g := gName 5) (tt := tYes) rfl sc__law_circle.nd (pi_range1 rfl T.z_range (pa_cons (pv 4) pa_nil)) (blkOk_by (N := N__law_circle) (sc := defScope s__law_circle) (by decide +kernel)) (fun _ _ _ _ _ => pg_name (i := 5) sc__law_circle.nd rfl (Or.inl rfl)) (fun _ _ _ _ _ => pts_nil) (fun _ _ _ _ _ => (pe_c C__law_circle hr (by omega) rfl (pa_cons (pv 0) (pa_cons (pv 1) (pa_cons (pe_op op_sub (pv 2) pe_int) (pa_cons (pe_op op_fdivN (pv 3) (pv 4)) pa_nil))))))) pa_nil))))))), ?_⟩
      have eye : ∀ (H1 : Hp), Kp b H H1 → tRet (tCall (spLEye K) [] C8.E0 (tCons (tVar 0) (tCons (tVar 1) tNil))) { nx := fun _ H' => Q .non H', rt := Q } [some (.ref b), some (.ref nl), some (.int ((e : Nat) : Int)), some (.int ((r : Nat) : Int)), none, none] H1 := fun H1 k1 =>
        ⟨_, rfl, _, rfl, b, nl, zs, rfl, k1.bag B, hn.kp k1, fun v n H' hm hnm k2 hnd => q v _ H' (k1.trans k2) hnd ((nc_eye hnm hm).mono hr1 (Nat.zero_le _))⟩
      refine ⟨_, rfl, rfl, _, rfl, ?_⟩
      refine ite2 (fun _ => iteT (eye H (Kp.refl b H))) (fun e1 => ?_)
      have he0 : e ≠ 0 := fun z => e1 (by rw [z]; exact decide_eq_true rfl)
      refine ⟨_, rfl, _, _, rfl, rfl, _, rfl, ?_⟩
      refine ite2 (fun _ => iteT (eye H (Kp.refl b H))) (fun e2 => ?_)
      have hr3 : 2 ≤ r := by
        have z : ¬ (((r : Nat) : Int) < 2) := fun z => e2 (decide_eq_true z)
        omega
      refine ⟨_, rfl, b, 6, rfl, B, by decide, by decide, fun d1 o1 _ _ k1 => ?_⟩
      have B1 := k1.bag B
      generalize L2.upd H b o1 = H1 at *
      refine ⟨rfl, _, rfl, ?_⟩
      refine ite2 (fun _ => eye H1 k1) (fun _ => ?_)
      have rest : ∀ (p : Nat) (H2 : Hp), Kp b H H2 → 2 ≤ p → p ≤ 3 → p ≤ r → tRet (tCall (spJoin K) [] C8.E0 (tCons (tCall spKind [] C8.E0 (tCons (tVar 0) tNil)) (tCons (tLc (iRng1 (tCons (tVar 4) tNil)) (gName 5) tYes (tCall (spCirc K d) [] C8.E0 (tCons (tVar 0) (tCons (tVar 1) (tCons (tOp (rI0 fun i j => V.int (i - j)) (tVar 2) (tC (V.int 1))) (tCons (tOp (rI CDivN fun i j => V.int (i.fdiv j)) (tVar 3) (tVar 4)) tNil))))) [5]) tNil)))
          { nx := fun _ H' => Q .non H', rt := Q } [some (.ref b), some (.ref nl), some (.int ((e : Nat) : Int)), some (.int ((r : Nat) : Int)), some (.int ((p : Nat) : Int)), none] H2 := by
        intro p H2 k2 p2 p3 pr
        refine ⟨_, rfl, b, rfl, k2.bag B, fun k H3 k3 => ?_⟩
        have k23 := k2.trans k3
        have B3 := k23.bag B
        refine ⟨_, rfl, p, rfl, by omega, by omega, fun D nD => ?_⟩
        have nDb := B3.ne nD
        have ep : ((p : Nat) : Int).toNat = p := by omega
        refine lc_st (walk_range (lo := 0) (n := ((p : Nat) : Int).toNat)) (fun i acc H4 => Kp b H3 H4 ∧ ∃ cs, Nds H4 acc cs ∧ cs.length = i ∧ ∀ c ∈ cs, Nc zs c (r / p) (e - 1)) (by omega) (fun _ _ _ _ _ => True.intro) ⟨(Kp.refl b H3).mut B3 nD, [], .nil, rfl, fun c hc => (nomatch hc)⟩ ?_ ?_
        · rintro i x H4 H5 acc Nx hi hL hl ⟨k4, cs, hcs, hcl, hnc⟩ ⟨rfl, rfl⟩ hN
          have B4 := k4.bag B3
          have ediv : (((r : Nat) : Int)).fdiv ((p : Nat) : Int) = ((r / p : Nat) : Int) := by
            rw [Int.fdiv_eq_ediv_of_nonneg _ (by omega)]
            exact (Int.natCast_ediv r p).symm
          refine ⟨rfl, _, rfl, _, rfl, _, rfl, _, _, rfl, rfl, _, rfl, _, rfl, _, _, rfl, rfl, ⟨by omega, by omega⟩, ?_⟩
          have hq1 : 1 ≤ r / p := (Nat.le_div_iff_mul_le (by omega)).mpr (by omega)
          have hq2 : r / p ≤ 60 := Nat.le_trans (Nat.div_le_self r p) hr2
          refine ⟨b, nl, zs, e - 1, r / p, by show [V.ref b, V.ref nl, V.int (((e : Nat) : Int) - 1), V.int ((((r : Nat) : Int)).fdiv ((p : Nat) : Int))] = _; rw [ediv, show ((e : Nat) : Int) - 1 = ((e - 1 : Nat) : Int) by omega], B4, (hn.kp k23).kp k4, by omega, by omega, hq1, hq2, fun v c H6 k6 hnd hc => ?_⟩
          have hL6 := k6.1 _ _ nDb hL
          have kt : Kt H5 (L2.upd H6 D (.lst (acc ++ [v]))) := (Kt.kp k6 B4).trans (Kt.put hL6 (by simp))
          refine hN v H6 hL6 ⟨(k4.trans k6).mut B3 nD, cs ++ [c], nds_app (nds_mono kt hcs) (nds_one (nd_mono (Kt.put hL6 (by simp)) hnd)), by rw [List.length_append, hcl]; rfl, fun c' hc' => ?_⟩
          rcases List.mem_append.mp hc' with z | z
          · exact hnc c' z
          · rw [List.mem_singleton.mp z]
            exact hc
        · rintro H4 acc hL hl ⟨k4, cs, hcs, hcl, hnc⟩
          rw [ep] at hcl
          have hsz : sizes cs ≤ r := by
            have z := sizes_le (ps := cs) (s := r / p) fun c hc => (hnc c hc).size
            rw [hcl] at z
            exact Nat.le_trans z (Nat.mul_div_le r p)
          have hne : cs ≠ [] := fun z => by
            rw [z] at hcl
            simp at hcl
            omega
          refine ⟨k, D, acc, cs, rfl, sqL_of hL, hcs, hne, by omega, fun c hc => ⟨(hnc c hc).wf, by have z := (hnc c hc).size; have z2 := Nat.div_le_self r p; omega, by have z := (hnc c hc).depth; omega⟩, fun v H5 s5 hnd => ?_⟩
          have hh := mkC_nc (zs := zs) (k := k) (D := e - 1) hne (fun c hc => (hnc c hc).wf) hsz (fun c hc => (hnc c hc).depth) fun c hc => (hnc c hc).ov
          exact q v _ H5 ((k23.trans k4).trans (Kp.of s5)) hnd (hh.mono (Nat.le_refl _) (by omega))
      refine ⟨_, rfl, _, _, rfl, rfl, _, rfl, ?_⟩
      refine ite2 (fun e3 => ?_) (fun _ => iteF (rest 2 H1 k1 (by decide) (by decide) hr3))
      have hr4 : 3 ≤ r := by
        have z := of_decide_eq_true e3
        omega
      refine ⟨_, rfl, b, 3, rfl, B1, by decide, by decide, fun d2 o2 _ _ k2 => ?_⟩
      have k12 := k1.trans k2
      generalize L2.upd H1 b o2 = H2 at *
      refine ⟨rfl, _, rfl, ?_⟩
      exact ite2 (fun _ => rest 3 H2 k12 (by decide) (by decide) hr4) (fun _ => rest 2 H2 k12 (by decide) (by decide) hr3)
theorem join_two {zs : List Str} {k : Bool} {c d : Ci} {S D : Nat} (hc : Nc zs c S D) (hd : Nc zs d 1 0) : Nc zs (mkC k [c, d]) (S + 1) (1 + D) ∧ Nc zs (mkC k [d, c]) (S + 1) (1 + D) := by
  have hs : ∀ {x : Ci}, x ∈ [c, d] → Nc zs x (S + 1) D := fun {x} hx => by
    rcases List.mem_cons.mp hx with e | e
    · rw [e]
      exact hc.mono (by omega) (Nat.le_refl _)
    · rw [List.mem_singleton.mp e]
      exact hd.mono (by omega) (by omega)
  have hs2 : ∀ {x : Ci}, x ∈ [d, c] → Nc zs x (S + 1) D := fun {x} hx => hs (by simpa [or_comm] using hx)
  have z1 := hc.size
  have z2 := hd.size
  refine ⟨mkC_nc (by simp) (fun x hx => (hs hx).wf) ?_ (fun x hx => (hs hx).depth) fun x hx => (hs hx).ov, mkC_nc (by simp) (fun x hx => (hs2 hx).wf) ?_ (fun x hx => (hs2 hx).depth) fun x hx => (hs2 hx).ov⟩
  · rw [sizes, sizes_one]
    omega
  · rw [sizes, sizes_one]
    omega

end
end K34
namespace K34
open PySem PySem.Spec PyProof.Rows L2 RZ LL LC LS LR LD LN LY LOr
open C8 (Cal Mak Met CalAt pe_c pe_mk pe_mt pe_mt0 pe_gc)
section
variable {P : Program} {w : World} {K : PySem.W.Frag} {mg : Str → Option Value} {base : Heap}
def spChain (K : PySem.W.Frag) : Sp := fun vs H Q _ => ∃ (b nl : Addr) (zs : List Str) (e : Nat), vs = [.ref b, .ref nl, .int ((e : Nat) : Int)] ∧ Bag H b ∧ Nms0 K H b nl zs ∧ e ≤ 19 ∧
  ∀ (v : V) (c : Ci) (H' : Hp), Kp b H H' → Nd H' v c → Nc zs c (e + 1) e → Q v H'
theorem C__law_chain (T : Txt K mg) : Cal P w K mg base 4 "_law_chain" (spChain K) [] := by
  have C__law_draw : Cal P w K mg base 1 "_law_draw" spDraw [] := C__law_draw T
  have C__law_eye : Cal P w K mg base 3 "_law_eye" (spLEye K) [] := C__law_eye T
  have C__law_kind : Cal P w K mg base 3 "_law_kind" spKind [] := C__law_kind T
  have C__law_joined : Cal P w K mg base 1 "_law_joined" (spJoin K) [] := C__law_joined T
  obtain ⟨fd, F⟩ := T.F__law_chain
  have b : Binds K fd ["_law_bag_here", "_law_names_here", "_law_deep"] [] := FunD.bindsN F fun _ _ _ _ _ _ us hl => match us, hl with | [_, _, _], _ => rfl
  refine calD F T.g__law_chain b sc__law_chain (fun vs H Q E h => ?_) (fun cdv A outer s H vs Q E hr h => ?_)
  · obtain ⟨b, nl, zs, e, rfl, _⟩ := h
    rfl
  · obtain ⟨b, nl, zs, e, rfl, B, hn, he, q⟩ := h
    refine ⟨_, (pss_cons (ps_par (i := 3) (j := 4) (by rfl) sc__law_chain.nd rfl rfl (by decide) rfl rfl (pa_cons (pe_c C__law_eye hr (by omega) rfl (pa_cons (pv 0) (pa_cons (pv 1) pa_nil))) (pa_cons (pe_c C__law_kind hr (by omega) rfl (pa_cons (pv 0) pa_nil)) pa_nil)) (by rfl))
  (pss_cons (ps_for PassesOwn.never rfl (pi_range1 rfl T.z_range (pa_cons (pv 2) pa_nil)) (pg_name (i := 5) sc__law_chain.nd rfl (Or.inl rfl))
    (pss_cons (ps_set (i := 6) sc__law_chain.nd rfl (Or.inl rfl) (pe_c C__law_eye hr (by omega) rfl (pa_cons (pv 0) (pa_cons (pv 1) pa_nil))))
    (pss_cons (ps_set (i := 3) sc__law_chain.nd rfl (Or.inl rfl) (pe_c C__law_joined hr (by omega) rfl (pa_cons (pv 4) (pa_cons (pe_ifExp (pt_cmpR op_eq (pe_c C__law_draw hr (by omega) rfl (pa_cons (pv 0) (pa_cons pe_int pa_nil))) pe_int (nomark _)) (pe_lst (pa_cons (pv 3) (pa_cons (pv 6) pa_nil))) (pe_lst (pa_cons (pv 6) (pa_cons (pv 3) pa_nil)))) pa_nil))))
    (pss_one (ps_set (i := 4) sc__law_chain.nd rfl (Or.inl rfl) (pe_ifExp (pt_cmpR op_eq (pv 4) pe_str (nomark _)) pe_str pe_str))))))
  (pss_one (ps_ret (pv 3))))), ?_⟩
    refine ⟨_, rfl, _, rfl, b, nl, zs, rfl, B, hn, fun v n H1 hm hnm k1 hnd => ?_⟩
    refine ⟨_, rfl, b, rfl, k1.bag B, fun k H2 k2 => ⟨_, _, rfl, ?_⟩⟩
    have k12 := k1.trans k2
    refine ⟨_, rfl, e, rfl, by omega, by omega, ?_⟩
    have ee : ((e : Nat) : Int).toNat = e := by omega
    refine for_it (walk_range (lo := 0) (n := ((e : Nat) : Int).toNat)) (fun i σ H3 => (∃ (v : V) (k : Bool) (a5 a6 : Option V) (c : Ci), σ = [some (.ref b), some (.ref nl), some (.int ((e : Nat) : Int)), some v, some (.str (kS k)), a5, a6] ∧ Nd H3 v c ∧ Nc zs c (i + 1) i) ∧ Kp b H H3) ?_ (fun _ _ _ _ _ => True.intro) ?_ ?_
    · exact ⟨⟨v, k, none, none, .eye n, rfl, nd_mono (Kt.kp k2 (k1.bag B)) hnd, nc_eye hnm hm⟩, k12⟩
    · rintro i x σ H3 H4 hi ⟨⟨v3, k3, a5, a6, c, rfl, hnd3, hnc3⟩, kk3⟩ ⟨rfl, rfl⟩
      have B3 := kk3.bag B
      refine ⟨_, rfl, _, rfl, b, nl, zs, rfl, B3, hn.kp kk3, fun v5 n5 H5 hm5 hnm5 k5 hnd5 => ?_⟩
      have B5 := k5.bag B3
      have hnd35 := nd_mono (Kt.kp k5 B3) hnd3
      have nc5 := nc_eye hnm5 hm5
      have tail : ∀ (v6 : V) (c6 : Ci) (H6 : Hp), Kp b H H6 → Nd H6 v6 c6 → Nc zs c6 (i + 1 + 1) (i + 1) →
          tAsg (tIf (tTest (tOp rEq (tVar 4) (tC (.str "pool")))) (tC (.str "common")) (tC (.str "pool"))) (gName 4) { nx := fun σ H3 => (∃ (v : V) (k : Bool) (a5 a6 : Option V) (c : Ci), σ = [some (.ref b), some (.ref nl), some (.int ((e : Nat) : Int)), some v, some (.str (kS k)), a5, a6] ∧ Nd H3 v c ∧ Nc zs c (i + 1 + 1) (i + 1)) ∧ Kp b H H3, rt := Q } [some (.ref b), some (.ref nl), some (.int ((e : Nat) : Int)), some v6, some (.str (kS k3)), some (.int (0 + ((i : Nat) : Int))), some v5] H6 := by
        intro v6 c6 H6 k6 hnd6 hnc6
        refine ⟨_, rfl, rfl, _, rfl, ?_⟩
        rw [kS_pool]
        cases k3 with
        | true => exact iteT ⟨⟨v6, false, _, _, c6, rfl, hnd6, hnc6⟩, k6⟩
        | false => exact iteF ⟨⟨v6, true, _, _, c6, rfl, hnd6, hnc6⟩, k6⟩
      have i19 : i ≤ 18 := by omega
      have f3 : Fit c := hnc3.fit (by omega) (by omega)
      have f5 : Fit (.eye n5) := nc5.fit
      have sz : sizes [c, .eye n5] ≤ 60 ∧ sizes [.eye n5, c] ≤ 60 := by
        have z := hnc3.size
        rw [sizes, sizes_one, sizes, sizes_one, Ci.size]
        omega
      obtain ⟨j1, j2⟩ := join_two (k := k3) hnc3 nc5
      refine ⟨_, rfl, _, rfl, b, 2, rfl, B5, by decide, by decide, fun d6 o6 _ _ k6 => ?_⟩
      have hnd36 := nd_mono (Kt.kp k6 B5) hnd35
      have hnd56 := nd_mono (Kt.kp k6 B5) hnd5
      have k36 := (kk3.trans k5).trans k6
      generalize L2.upd H5 b o6 = H6 at *
      refine ⟨rfl, _, rfl, ?_⟩
      refine ite2 (fun _ => ?_) (fun _ => ?_)
      · refine ⟨_, rfl, _, rfl, (show 2 ≤ sizeLine by decide), fun p np => ?_⟩
        have s7 := same_upd (o := .lst [v3, v5]) np
        refine ⟨k3, p, _, [c, .eye n5], rfl, sqL_of upd_same, .cons (nd_mono (Kt.of s7) hnd36) (nds_one (nd_mono (Kt.of s7) hnd56)), by simp, sz.1, fun x hx => ?_, fun v8 H8 s8 hnd8 => ?_⟩
        · rcases List.mem_cons.mp hx with z | z
          · rw [z]; exact f3
          · rw [List.mem_singleton.mp z]; exact f5
        · exact tail v8 _ H8 (k36.trans ((Kp.of s7).trans (Kp.of s8))) hnd8 (j1.mono (Nat.le_refl _) (by omega))
      · refine ⟨_, rfl, _, rfl, (show 2 ≤ sizeLine by decide), fun p np => ?_⟩
        have s7 := same_upd (o := .lst [v5, v3]) np
        refine ⟨k3, p, _, [.eye n5, c], rfl, sqL_of upd_same, .cons (nd_mono (Kt.of s7) hnd56) (nds_one (nd_mono (Kt.of s7) hnd36)), by simp, sz.2, fun x hx => ?_, fun v8 H8 s8 hnd8 => ?_⟩
        · rcases List.mem_cons.mp hx with z | z
          · rw [z]; exact f5
          · rw [List.mem_singleton.mp z]; exact f3
        · exact tail v8 _ H8 (k36.trans ((Kp.of s7).trans (Kp.of s8))) hnd8 (j2.mono (Nat.le_refl _) (by omega))
    · rintro σ H3 ⟨⟨v3, k3, a5, a6, c, rfl, hnd3, hnc3⟩, kk3⟩
      rw [ee] at hnc3
      exact ⟨_, rfl, q v3 c H3 kk3 hnd3 hnc3⟩
def spAny (K : PySem.W.Frag) : Sp := fun vs H Q _ => ∃ (b nl : Addr) (zs : List Str), vs = [.ref b, .ref nl] ∧ Bag H b ∧ Nms0 K H b nl zs ∧ ∀ (v : V) (c : Ci) (H' : Hp), Kp b H H' → Nd H' v c → Nc zs c 8 5 → Q v H'
theorem C__law_any (T : Txt K mg) : Cal P w K mg base 9 "_law_any" (spAny K) [] := by
  have C__law_draw : Cal P w K mg base 1 "_law_draw" spDraw [] := C__law_draw T
  have C__law_eye : Cal P w K mg base 3 "_law_eye" (spLEye K) [] := C__law_eye T
  have C__law_chain : Cal P w K mg base 4 "_law_chain" (spChain K) [] := C__law_chain T
  have C__law_circle : Cal P w K mg base 8 "_law_circle" (spCirc K 4) [] := C__law_circle T 4
  obtain ⟨fd, F⟩ := T.F__law_any
  have b : Binds K fd ["_law_bag_here", "_law_names_here"] [] := FunD.bindsN F fun _ _ _ _ _ _ us hl => match us, hl with | [_, _], _ => rfl
  refine calD F T.g__law_any b sc__law_any (fun vs H Q E h => ?_) (fun cdv A outer s H vs Q E hr h => ?_)
  · obtain ⟨b, nl, zs, rfl, _⟩ := h
    rfl
  · obtain ⟨b, nl, zs, rfl, B, hn, q⟩ := h
    refine ⟨_, (pss_cons (ps_set (i := 2) sc__law_any.nd rfl (Or.inl rfl) (pe_c C__law_draw hr (by omega) rfl (pa_cons (pv 0) (pa_cons pe_int pa_nil))))
  (pss_cons (ps_if (pt_cmpR op_eq (pv 2) pe_int (nomark _))
    (pss_one (ps_ret (pe_c C__law_eye hr (by omega) rfl (pa_cons (pv 0) (pa_cons (pv 1) pa_nil)))))
    pss_nil)
  (pss_cons (ps_if (pt_cmpR op_lt (pv 2) pe_int (nomark _))
    (pss_one (ps_ret (pe_c C__law_chain hr (by omega) rfl (pa_cons (pv 0) (pa_cons (pv 1) (pa_cons (pe_op op_add pe_int (pe_c C__law_draw hr (by omega) rfl (pa_cons (pv 0) (pa_cons pe_int pa_nil)))) pa_nil))))))
    pss_nil)
  (pss_one (ps_ret (pe_c C__law_circle hr (by omega) rfl (pa_cons (pv 0) (pa_cons (pv 1) (pa_cons (pe_op op_add pe_int (pe_c C__law_draw hr (by omega) rfl (pa_cons (pv 0) (pa_cons pe_int pa_nil)))) (pa_cons (pe_op op_add pe_int (pe_c C__law_draw hr (by omega) rfl (pa_cons (pv 0) (pa_cons pe_int pa_nil)))) pa_nil)))))))))), ?_⟩
    refine ⟨_, rfl, b, 8, rfl, B, by decide, by decide, fun d1 o1 _ _ k1 => ?_⟩
    have B1 := k1.bag B
    have n1 := hn.kp k1
    generalize L2.upd H b o1 = H1 at *
    refine ⟨_, rfl, rfl, _, rfl, ite2 (fun _ => ?_) (fun _ => ?_)⟩
    · exact ⟨_, rfl, _, rfl, b, nl, zs, rfl, B1, n1, fun v n H' hm hnm k2 hnd => q v _ H' (k1.trans k2) hnd ((nc_eye hnm hm).mono (by decide) (by decide))⟩
    refine ⟨_, rfl, _, _, rfl, rfl, _, rfl, ite2 (fun _ => ?_) (fun _ => ?_)⟩
    · refine ⟨_, rfl, _, rfl, _, rfl, b, 5, rfl, B1, by decide, by decide, fun d2 o2 e0 e1 k2 => ?_⟩
      have B2 := k2.bag B1
      have n2 := n1.kp k2
      generalize L2.upd H1 b o2 = H2 at *
      obtain ⟨e, rfl⟩ := Int.eq_ofNat_of_zero_le e0
      refine ⟨_, _, rfl, rfl, b, nl, zs, 1 + e, by show [V.ref b, V.ref nl, V.int (1 + ((e : Nat) : Int))] = _; rw [show (1 : Int) + ((e : Nat) : Int) = ((1 + e : Nat) : Int) by omega], B2, n2, by omega, fun v c H' k3 hnd hnc => ?_⟩
      exact q v c H' ((k1.trans k2).trans k3) hnd (hnc.mono (by omega) (by omega))
    · refine ⟨_, rfl, _, rfl, _, rfl, b, 3, rfl, B1, by decide, by decide, fun d2 o2 e0 e1 k2 => ?_⟩
      have B2 := k2.bag B1
      have n2 := n1.kp k2
      generalize L2.upd H1 b o2 = H2 at *
      obtain ⟨e, rfl⟩ := Int.eq_ofNat_of_zero_le e0
      refine ⟨_, _, rfl, rfl, _, rfl, b, 7, rfl, B2, by decide, by decide, fun d3 o3 f0 f1 k3 => ?_⟩
      have B3 := k3.bag B2
      have n3 := n2.kp k3
      generalize L2.upd H2 b o3 = H3 at *
      obtain ⟨r, rfl⟩ := Int.eq_ofNat_of_zero_le f0
      refine ⟨_, _, rfl, rfl, b, nl, zs, 1 + e, 2 + r, by show [V.ref b, V.ref nl, V.int (1 + ((e : Nat) : Int)), V.int (2 + ((r : Nat) : Int))] = _; rw [show (1 : Int) + ((e : Nat) : Int) = ((1 + e : Nat) : Int) by omega, show (2 : Int) + ((r : Nat) : Int) = ((2 + r : Nat) : Int) by omega], B3, n3, by omega, by omega, by omega, by omega, fun v c H' k4 hnd hnc => ?_⟩
      exact q v c H' (((k1.trans k2).trans k3).trans k4) hnd (hnc.mono (by omega) (by omega))

end
end K34
namespace K34
open PySem PySem.Spec PyProof.Rows L2 RZ LL LC LS LR LD LN LY LOr
open C8 (Cal Mak Met CalAt pe_c pe_mk pe_mt pe_mt0 pe_gc)
section
variable {P : Program} {w : World} {K : PySem.W.Frag} {mg : Str → Option Value} {base : Heap}
/-! ### circles made of the law's own ones -/
def spMade (K : PySem.W.Frag) (n : Nat) : Sp := fun vs H Q _ => ∃ (v : V) (c : Ci), vs = [v] ∧ Nd H v c ∧ Fit c ∧ c.depth < n ∧ ∀ (v' : V) (H' : Hp), Same H H' → CO (cC K) H' v' c → Q v' H'
theorem C__law_made (TW : TxtW w K mg) : ∀ n, Cal P w K mg base (n + 11) "_law_made" (spMade K n) [] := by
  have C_eye : Cal P w K mg base 7 "eye" (spEye K) [] := C_eye TW
  have M_Circle___and__ : Met P w K mg base 10 (cC K) "__and__" (fun vs H Q E => vs.length = 2 ∧ spPool K true vs H Q E) [] := M_Circle___and__ TW
  have M_Circle___or__ : Met P w K mg base 10 (cC K) "__or__" (fun vs H Q E => vs.length = 2 ∧ spPool K false vs H Q E) [] := M_Circle___or__ TW
  have T := TW.toTxt
  intro n
  induction n with
  | zero =>
    obtain ⟨fd, F⟩ := T.F__law_made
    have b : Binds K fd ["_law_c"] [] := FunD.bindsN F fun _ _ _ _ _ _ us hl => match us, hl with | [_], _ => rfl
    refine calD F T.g__law_made b sc__law_made (fun vs H Q E h => ?_) (fun cdv A outer s H vs Q E hr h => ?_)
    · obtain ⟨v, c, rfl, _⟩ := h
      rfl
    · obtain ⟨v, c, rfl, _, _, hd, _⟩ := h
      exact absurd hd (Nat.not_lt_zero _)
  | succ n ih =>
    have C__law_made := ih
    obtain ⟨fd, F⟩ := T.F__law_made
    have b : Binds K fd ["_law_c"] [] := FunD.bindsN F fun _ _ _ _ _ _ us hl => match us, hl with | [_], _ => rfl
    refine calD F T.g__law_made b sc__law_made (fun vs H Q E h => ?_) (fun cdv A outer s H vs Q E hr h => ?_)
    · obtain ⟨v, c, rfl, _⟩ := h
      rfl
    · obtain ⟨v, c, rfl, hnd, hf, hd, q⟩ := h
      refine ⟨_, (pss_cons (ps_if (pt_cmpR op_eq (pe_ix ix_tup (pv 0) pe_int (fun _ _ => rfl)) pe_str (nomark _))
    (pss_one (ps_ret (pe_c C_eye hr (by omega) rfl (pa_cons (pe_ix ix_tup (pv 0) pe_int (fun _ _ => rfl)) pa_nil))))
    pss_nil)
  (pss_cons (ps_set (i := 1) sc__law_made.nd rfl (Or.inl rfl) (pe_c C__law_made hr (by omega) rfl (pa_cons (pe_ix ix_tup (pe_ix ix_tup (pv 0) pe_int (fun _ _ => rfl)) pe_int (fun _ _ => rfl)) pa_nil)))
  (pss_cons (ps_for PassesOwn.never rfl (pi_tup (pe_slice sl_tup (pe_ix ix_tup (pv 0) pe_int (fun _ _ => rfl)) (po_some pe_int) po_none)) (pg_name (i := 2) sc__law_made.nd rfl (Or.inl rfl))
    (pss_one (ps_set (i := 1) sc__law_made.nd rfl (Or.inl rfl) (pe_ifExp (pt_cmpR op_eq (pe_ix ix_tup (pv 0) pe_int (fun _ _ => rfl)) pe_str (nomark _)) (pe_op (LO.op_own M_Circle___and__ hr (by omega) (T_self T) rfl) (pv 1) (pe_c C__law_made hr (by omega) rfl (pa_cons (pv 2) pa_nil))) (pe_op (LO.op_own M_Circle___or__ hr (by omega) (T_self T) rfl) (pv 1) (pe_c C__law_made hr (by omega) rfl (pa_cons (pv 2) pa_nil)))))))
  (pss_one (ps_ret (pv 1)))))), ?_⟩
      cases hnd with
      | @eye a m h1 =>
        refine ⟨_, rfl, a, _, 0, _, rfl, rfl, sqT_of h1, rfl, rfl, _, rfl, ?_⟩
        rw [show (decide (V.str "eye" = V.str "eye")) = true by decide +kernel]
        refine iteT ?_
        have hm : isName m = true := by
          have z := hf.wf
          rw [Ci.wf] at z
          exact z
        exact ⟨_, rfl, a, _, 1, _, rfl, rfl, sqT_of h1, rfl, m, rfl, hm, (name_plain hm).1, q⟩
      | @node a b2 k rows ps h1 h2 h3 =>
        refine ⟨_, rfl, a, _, 0, _, rfl, rfl, sqT_of h1, rfl, rfl, _, rfl, ?_⟩
        rw [show (decide (V.str (kS k) = V.str "eye")) = false by cases k <;> decide +kernel]
        refine iteF ?_
        have hw := wf_node.mp hf.wf
        have lp : rows.length = ps.length := nds_len h3
        have hne : ps ≠ [] := fun z => by
          rw [z] at hw
          simp at hw
        have l60 : ps.length ≤ 60 := by
          have z := sizes_len fun c hc => (hw.2.1 c hc).1
          have z2 := hf.size
          rw [Ci.size] at z2
          omega
        have h0 : 0 < rows.length := by omega
        obtain ⟨c0, g1, g2⟩ := nds_get h3 (List.getElem?_eq_getElem h0)
        have hp0 := List.mem_of_getElem? g1
        have hfp : ∀ c ∈ ps, Fit c := fun c hc => hf.part (c := .node k ps) hc
        have hdp : ∀ c ∈ ps, c.depth < n := fun c hc => by
          have z := pdepth (c := .node k ps) hc
          omega
        refine ⟨_, rfl, a, _, 1, _, rfl, rfl, sqT_of h1, rfl, _, _, _, _, rfl, rfl, sqT_of h2, atI_nat (j := 0) (List.getElem?_eq_getElem h0), _, c0, rfl, g2, hfp c0 hp0, hdp c0 hp0, fun v1 H1 s1 hc1 => ?_⟩
        refine ⟨_, rfl, a, _, 1, _, rfl, rfl, sqT_of (s1 _ _ h1), rfl, _, rfl, b2, rows, rfl, sqT_of (s1 _ _ h2), ?_, fun p np => ?_⟩
        · rintro ⟨z, _⟩
          rw [show (1 : Int) = ((1 : Nat) : Int) by rfl, HT.sIx_nat] at z
          omega
        rw [show (1 : Int) = ((1 : Nat) : Int) by rfl, cutV_from]
        have s2 := same_upd (o := .tup (rows.drop 1)) np
        refine ⟨p, rfl, ⟨_, sqT_of upd_same⟩, ?_⟩
        have e1 : mkN k (ps.take 1) = c0 := by
          match ps, g1 with
          | c :: r, g1 =>
            have z : c = c0 := by simpa using g1
            rw [z]
            rfl
        have ld : (rows.drop 1).length = ps.length - 1 := by rw [List.length_drop, lp]
        refine for_it (walk_tup (K := K) (a := p) (xs := rows.drop 1)) (fun i σ H2 => (∃ a1 a2, σ = [some (.ref a), some a1, a2] ∧ CO (cC K) H2 a1 (mkN k (ps.take (i + 1)))) ∧ Same (L2.upd H1 p (.tup (rows.drop 1))) H2) ?_ (fun i σ H2 _ z => sqT_of (z.2 _ _ upd_same)) ?_ ?_
        · exact ⟨⟨v1, none, rfl, by rw [e1]; exact co_mono (Kc.of s2) hc1⟩, Same.refl _⟩
        · rintro i x σ H2 H3 hi ⟨⟨a1, a2, rfl, hco⟩, s3⟩ ⟨rfl, hx⟩
          have s13 := (s1.trans s2).trans s3
          rw [List.getElem?_drop] at hx
          obtain ⟨ci, f1, f2⟩ := nds_get (nds_mono (Kt.of s13) h3) hx
          have hpi := List.mem_of_getElem? f1
          have etake : ps.take (i + 1 + 1) = ps.take (i + 1) ++ [ci] := take_one (by rw [Nat.add_comm]; exact f1)
          have hfit2 : Fit (mkC k [mkN k (ps.take (i + 1)), ci]) ∧ mkC k [mkN k (ps.take (i + 1)), ci] = mkN k (ps.take (i + 1 + 1)) := by
            have e3 : mkC k [mkN k (ps.take (i + 1)), ci] = mkN k (ps.take (i + 1 + 1)) := by
              rw [etake]
              refine mkC_step ?_ (fun c hc => (hw.2.1 c (List.mem_of_mem_take hc)).2) (hw.2.1 ci hpi).2 ?_
              · intro z
                have z2 := congrArg List.length z
                rw [List.length_take, List.length_nil] at z2
                omega
              · rw [← etake, List.map_take]
                exact (List.take_sublist _ _).nodup hw.2.2
            rw [e3]
            exact ⟨mkN_fit hne hf _ (by omega), rfl⟩
          have hf1 : Fit (mkN k (ps.take (i + 1))) := mkN_fit hne hf _ (by omega)
          have hfi := hfp ci hpi
          have sz : sizes [mkN k (ps.take (i + 1)), ci] ≤ 900 := by
            have z1 := hf1.size
            have z2 := hfi.size
            rw [sizes, sizes_one]
            omega
          have wfs2 : ∀ c ∈ [mkN k (ps.take (i + 1)), ci], c.wf = true := fun c hc => by
            rcases List.mem_cons.mp hc with z | z
            · rw [z]; exact hf1.wf
            · rw [List.mem_singleton.mp z]; exact hfi.wf
          have step : ∀ (Nx : V → Hp → Prop), (∀ v4 H4, Same H3 H4 → CO (cC K) H4 v4 (mkN k (ps.take (i + 1 + 1))) → Nx v4 H4) →
              tCall (spMade K n) [] C8.E0 (tCons (tVar 2) tNil) [some (.ref a), some a1, some x] H3 (fun y H4 => LO.rOwnB (cC K) (fun vs H Q E => vs.length = 2 ∧ spPool K k vs H Q E) a1 y H4 Nx) := by
            intro Nx hN
            refine ⟨_, rfl, x, ci, rfl, f2, hfi, hdp ci hpi, fun v4 H4 s4 hco4 => ?_⟩
            have hco' := co_mono (Kc.of s4) hco
            obtain ⟨aa, dx, r, t, rfl, ha⟩ := co_ref hco'
            obtain ⟨ab, dy, r', t', rfl, hb⟩ := co_ref hco4
            refine ⟨aa, ab, dx, dy, _, _, rfl, rfl, ha, hb, rfl, [mkN k (ps.take (i + 1)), ci], .cons hco' (cos_one hco4), by simp, sz, wfs2, hfit2.1, fun v5 H5 s5 hco5 => ?_⟩
            rw [hfit2.2] at hco5
            obtain ⟨ac, _, _, _, rfl, _⟩ := co_ref hco5
            exact ⟨⟨_, rfl⟩, hN _ H5 (s4.trans s5) hco5⟩
          refine ⟨_, rfl, a, _, 0, _, rfl, rfl, sqT_of (s13 _ _ h1), rfl, rfl, _, rfl, ?_⟩
          rw [kS_pool]
          cases k with
          | true => exact iteT ⟨_, rfl, step _ fun v4 H4 s4 hco4 => ⟨⟨v4, _, rfl, hco4⟩, s3.trans s4⟩⟩
          | false => exact iteF ⟨_, rfl, step _ fun v4 H4 s4 hco4 => ⟨⟨v4, _, rfl, hco4⟩, s3.trans s4⟩⟩
        · rintro σ H2 ⟨⟨a1, a2, rfl, hco⟩, s3⟩
          rw [ld, show ps.length - 1 + 1 = ps.length by omega, List.take_length] at hco
          have em : mkN k ps = .node k ps := by
            match ps, hw.1 with
            | a :: b :: r, _ => rfl
          rw [em] at hco
          exact ⟨_, rfl, q a1 H2 ((s1.trans s2).trans s3) hco⟩
def spHand (K : PySem.W.Frag) : Sp := fun vs H Q _ => ∃ (b : Addr) (v : V) (c : Ci), vs = [.ref b, v] ∧ Bag H b ∧ Nd H v c ∧ Fit c ∧ ∀ (v' : V) (H' : Hp), Kp b H H' → CO (cC K) H' v' c → Q v' H'
theorem C__law_handed (TW : TxtW w K mg) : Cal P w K mg base 33 "_law_handed" (spHand K) [] := by
  have C__law_draw : Cal P w K mg base 1 "_law_draw" spDraw [] := C__law_draw TW.toTxt
  have C_read_circle : Cal P w K mg base 12 "read_circle" (spRead K) [] := C_read_circle TW
  have C__law_made : Cal P w K mg base 32 "_law_made" (spMade K 21) [] := C__law_made TW 21
  have T := TW.toTxt
  obtain ⟨fd, F⟩ := T.F__law_handed
  have b : Binds K fd ["_law_bag_here", "_law_c"] [] := FunD.bindsN F fun _ _ _ _ _ _ us hl => match us, hl with | [_, _], _ => rfl
  refine calD F T.g__law_handed b sc__law_handed (fun vs H Q E h => ?_) (fun cdv A outer s H vs Q E hr h => ?_)
  · obtain ⟨b, v, c, rfl, _⟩ := h
    rfl
  · obtain ⟨b, v, c, rfl, B, hnd, hf, q⟩ := h
    refine ⟨_, (pss_one (ps_ret (pe_ifExp (pt_cmpR op_eq (pe_c C__law_draw hr (by omega) rfl (pa_cons (pv 0) (pa_cons pe_int pa_nil))) pe_int (nomark _)) (pe_c C_read_circle hr (by omega) rfl (pa_cons (pe_ix ix_tup (pv 1) pe_int (fun _ _ => rfl)) pa_nil)) (pe_c C__law_made hr (by omega) rfl (pa_cons (pv 1) pa_nil))))), ?_⟩
    refine ⟨_, rfl, b, 2, rfl, B, by decide, by decide, fun d o _ _ k1 => ?_⟩
    have hnd1 := nd_mono (Kt.kp k1 B) hnd
    refine ⟨rfl, _, rfl, ite2 (fun _ => ?_) (fun _ => ?_)⟩
    · obtain ⟨a, y, rfl, ha⟩ := nd_three hnd1
      exact ⟨_, rfl, a, _, 2, _, rfl, rfl, sqT_of ha, rfl, c, rfl, hf, fun v' H' s' hco => q v' H' (k1.trans (Kp.of s')) hco⟩
    · exact ⟨_, rfl, v, c, rfl, hnd1, hf, by have := hf.depth; omega, fun v' H' s' hco => q v' H' (k1.trans (Kp.of s')) hco⟩

end
end K34
namespace K34
open PySem PySem.Spec PyProof.Rows L2 RZ LL LC LS LR LD LN LY LOr
open C8 (Cal Mak Met CalAt pe_c pe_mk pe_mt pe_mt0 pe_gc)
section
variable {P : Program} {w : World} {K : PySem.W.Frag} {mg : Str → Option Value} {base : Heap}
/-! ### out, and the names that it refuses -/
theorem name_ok {z : Str} (h : isName z = true) : z.length ≤ 100000 ∧ PyData.strOk z = true := by
  have w := text_ok (c := .eye z) (by rw [Ci.wf]; exact h)
  rw [Ci.text] at w
  refine ⟨?_, w⟩
  unfold isName at h
  rw [Bool.and_eq_true, Bool.and_eq_true] at h
  have := of_decide_eq_true h.1.2
  omega
theorem E_InvalidName (T : Txt K mg) (SP : LXs.SupP P "/claim/cut.py") : LXs.ErrK P w K mg base "InvalidName" (He.ga K "InvalidName") ["value"] := by
  obtain ⟨h, KX, G⟩ := T.here
  exact LXs.err_ok KX G SP T.x_e_InvalidName LXs.bok_value (.inl rfl) T.g_InvalidName
/-- the value that stands for an answer -/
def AnsV (C : Addr) (H : Hp) (v : V) : Option Ci → Prop
  | none => v = .non
  | some e => CO C H v e
theorem ansv_mono {C : Addr} {H H' : Hp} (k : Kc C H H') {v : V} : ∀ {o : Option Ci}, AnsV C H v o → AnsV C H' v o
  | none, h => h
  | some _, h => co_mono k h
/-- all names good: an answer; a wrong one: the first -/
def spOutX (K : PySem.W.Frag) : Sp := fun vs H Q E => ∃ (v : V) (t : Addr) (xs : List V) (up : Bool) (c : Ci), vs = [v, .bl up, .ref t] ∧ CO (cC K) H v c ∧ Fit c ∧ c.size ≤ 20 ∧ H t = some (.tup xs) ∧ xs.length ≤ 100 ∧
  ((∃ g : List Str, xs = g.map V.str ∧ (∀ z ∈ g, isName z = true) ∧ ∀ (v' : V) (H' : Hp) (o : Option Ci), Same H H' → AnsV (cC K) H' v' o → Res g up c o → Q v' H') ∨
   (∃ (g : List Str) (x : V) (rest : List V), xs = g.map V.str ++ x :: rest ∧ (∀ z ∈ g, isName z = true) ∧ NameJ K H x false ∧ ∀ (d : Addr) (H' : Hp), Same H H' → H' d = none → E (.ref (He.ga K "InvalidName")) (some d) (upd H' d (.xd [("value", x)]))))
theorem nameJ_mono {K : PySem.W.Frag} {H H' : Hp} {x : V} {b : Bool} (s : Same H H') (h : NameJ K H x b) : NameJ K H' x b := by
  rcases h with h | ⟨⟨t, ty, e⟩, h⟩
  · exact .inl h
  · exact .inr ⟨⟨t, tyx_same s ty, e⟩, h⟩
open LQ in
theorem out_body (TW : TxtW w K mg) (SP : LXs.SupP P "/claim/cut.py") {cdv : Value} {A : Around} {outer : List Env} {s : Shared} {H : Hp} {vs : List V} {Q : VK} {E : XK} (hr : Room 151 (A.deeper (envOfC d_out.qual d_out.scope s.heap.objs.size (He.fAd K d_out.at_) cdv))) (h : spOutX K vs H Q E) :
    ∃ t, PSs (cxOf (L2.CX P w) P w K mg base N_out d_out.qual d_out.scope (He.fAd K d_out.at_) cdv A outer s H E) d_out.body t ∧ t { nx := fun _ H' => Q .non H', rt := Q } (start N_out vs) H := by
  have T := TW.toTxt
  have C_is_name : Cal P w K mg base 1 "is_name" (spIsName K) [] := C_is_name T
  have C_put_eyes_out : Cal P w K mg base 32 "put_eyes_out" (spOut K 21) [] := C_put_eyes_out TW 21
  have C_key_of : Cal P w K mg base 151 "key_of" (spKeyOf K) [] := C_key_of TW
  have E_InvalidName : LXs.ErrK P w K mg base "InvalidName" (He.ga K "InvalidName") ["value"] := E_InvalidName T SP
  obtain ⟨v, t, xs, up, c, rfl, hc, hf, c20, ht, lx, hw⟩ := h
  refine ⟨_, (pss_cons (ps_for (passes_of rfl) rfl (pi_tup (pv 2)) (pg_name (i := 3) sc_out.nd rfl (Or.inl rfl))
    (pss_one (ps_if (pt_not (pt_val (pe_c C_is_name hr (by omega) rfl (pa_cons (pv 3) pa_nil))))
      (pss_one (LXs.ps_err (by rfl) (takes_of rfl rfl rfl rfl) E_InvalidName hr (by omega) rfl (pa_cons (pv 3) pa_nil)))
      pss_nil)))
  (pss_cons (ps_set (i := 4) sc_out.nd rfl (Or.inl rfl) (pe_c C_put_eyes_out hr (by omega) rfl (pa_cons (pv 0) (pa_cons (pe_callTy call_list_of (by rfl) T.z_list (by decide +kernel) (pa_cons (pv 2) pa_nil)) (pa_cons (pv 1) pa_nil)))))
  (pss_cons (ps_if (pt_cmpR op_isN (pv 4) pe_non (nomark _))
    (pss_one (ps_ret pe_non))
    pss_nil)
  (pss_one (ps_ret (pe_c C_key_of hr (by omega) rfl (pa_cons (pv 4) pa_nil))))))), ?_⟩
  refine ⟨_, rfl, t, rfl, ⟨_, sqT_of ht⟩, ?_⟩
  rcases hw with ⟨g, rfl, hg, q⟩ | ⟨g, x0, rest, rfl, hg, hx0, q⟩
  · have lg : g.length ≤ 100 := by rw [List.length_map] at lx; exact lx
    refine for_it (walk_tup (K := K) (a := t) (xs := g.map V.str)) (fun i σ H2 => (∃ a3, σ = [some v, some (.bl up), some (.ref t), a3, none]) ∧ Same H H2) ⟨⟨none, rfl⟩, Same.refl _⟩ (fun i σ H2 _ z => sqT_of (z.2 _ _ ht)) ?_ ?_
    · rintro i x σ H2 H3 hi ⟨⟨a3, rfl⟩, s2⟩ ⟨rfl, hx⟩
      rw [List.getElem?_map] at hx
      cases gn : g[i]? with
      | none => rw [gn] at hx; cases hx
      | some z =>
        rw [gn] at hx
        cases hx
        have hz := hg z (List.mem_of_getElem? gn)
        obtain ⟨z1, z2⟩ := name_ok hz
        refine ⟨_, rfl, .str z, true, rfl, .inl ⟨z, rfl, z1, z2, hz.symm⟩, fun H4 s4 => ⟨_, rfl, iteF ⟨⟨_, rfl⟩, s2.trans s4⟩⟩⟩
    · rintro σ H2 ⟨⟨a3, rfl⟩, s2⟩
      refine ⟨_, rfl, _, rfl, t, _, rfl, .inr (sqT_of (s2 _ _ ht)), fun l nl => ?_⟩
      have s3 := same_upd (o := .lst (g.map V.str)) nl
      have hl3 : L2.upd H2 l (.lst (g.map V.str)) l = some (.lst (g.map V.str)) := upd_same
      generalize L2.upd H2 l (.lst (g.map V.str)) = H3 at *
      refine ⟨_, rfl, v, l, g, up, c, rfl, co_mono (Kc.of (s2.trans s3)) hc, hf, hl3, by have := hf.depth; omega, fun v4 H4 s4 ho4 => ?_⟩
      have s04 := (s2.trans s3).trans s4
      cases e : putO g up c with
      | none =>
        rw [e] at ho4
        have ho4 : v4 = .non := ho4
        subst ho4
        refine ⟨_, rfl, rfl, _, rfl, ?_⟩
        rw [show decide (V.non = V.non) = true by simp]
        exact iteT (q .non H4 none s04 rfl (res_non hf e))
      | some w =>
        rw [e] at ho4
        have ho4 : CO (cC K) H4 v4 w := ho4
        obtain ⟨aw, _, _, _, rfl, _⟩ := co_ref ho4
        have lf := putO_lf hf.wf w e
        refine ⟨_, rfl, rfl, _, rfl, ?_⟩
        rw [show decide (V.ref aw = V.non) = false by simp]
        refine iteF ⟨_, rfl, .ref aw, w, rfl, ho4, lf.fit hf, kcost_20 lf.wf (Nat.le_trans lf.size c20), fun v5 H5 k s5 hc5 n5 a5 t5 => ?_⟩
        exact q v5 H5 (some k) (s04.trans s5) hc5 (res_out hf e n5 a5 t5)
  · have lg : g.length + rest.length + 1 ≤ 100 := by rw [List.length_append, List.length_map, List.length_cons] at lx; omega
    refine for_it (walk_tup (K := K) (a := t) (xs := g.map V.str ++ x0 :: rest)) (fun i σ H2 => i ≤ g.length ∧ (∃ a3, σ = [some v, some (.bl up), some (.ref t), a3, none]) ∧ Same H H2) ⟨Nat.zero_le _, ⟨none, rfl⟩, Same.refl _⟩ (fun i σ H2 _ z => sqT_of (z.2.2 _ _ ht)) ?_ ?_
    · rintro i x σ H2 H3 hi ⟨hig, ⟨a3, rfl⟩, s2⟩ ⟨rfl, hx⟩
      by_cases hl : i < g.length
      · rw [List.getElem?_append_left (by rw [List.length_map]; exact hl), List.getElem?_map] at hx
        cases gn : g[i]? with
        | none => rw [gn] at hx; cases hx
        | some z =>
          rw [gn] at hx
          cases hx
          have hz := hg z (List.mem_of_getElem? gn)
          obtain ⟨z1, z2⟩ := name_ok hz
          refine ⟨_, rfl, .str z, true, rfl, .inl ⟨z, rfl, z1, z2, hz.symm⟩, fun H4 s4 => ⟨_, rfl, iteF ⟨hl, ⟨_, rfl⟩, s2.trans s4⟩⟩⟩
      · have ei : i = g.length := by omega
        subst ei
        rw [List.getElem?_append_right (by rw [List.length_map]; exact Nat.le_refl _), List.length_map, Nat.sub_self] at hx
        cases hx
        refine ⟨_, rfl, x0, false, rfl, nameJ_mono s2 hx0, fun H4 s4 => ⟨_, rfl, iteT ?_⟩⟩
        exact ⟨_, rfl, rfl, (show 1 ≤ 1000 by decide), fun d nd => q d H4 (s2.trans s4) nd⟩
    · rintro σ H2 ⟨hig, _⟩
      rw [List.length_append, List.length_map, List.length_cons] at hig
      omega
theorem CX_out (TW : TxtW w K mg) (SP : LXs.SupP P "/claim/cut.py") : LO.CalRX P w K mg base 152 "out" (LO.spSK (spOutX K) (.bl true)) := by
  obtain ⟨fd, F⟩ := TW.toTxt.F_out
  refine ⟨_, LO.skx_run0 StX.cxUp (pk := "above") (pv := "eyes") (p1 := "circle") (sp := spOutX K) F sc_out (fun D doc pm an cdv ct u d us => ?_) (fun cdv A outer s H vs Q E hr h => out_body TW SP hr h), TW.toTxt.g_out, F.kp⟩
  match us with
  | [] => exact ⟨_, _, _, _, _, _, rfl, rfl, rfl⟩
  | a :: r => exact ⟨_, _, _, _, _, _, rfl, rfl, rfl⟩
theorem CXK_out (TW : TxtW w K mg) (SP : LXs.SupP P "/claim/cut.py") : LO.CalRKX P w K mg base 152 "out" "above" (spOutX K) := by
  obtain ⟨fd, F⟩ := TW.toTxt.F_out
  refine ⟨_, LO.skx_runK StX.cxUp (pk := "above") (pv := "eyes") (p1 := "circle") (sp := spOutX K) F sc_out (fun kV doc pm an cdv ct u d us => ?_) (fun cdv A outer s H vs Q E hr h => out_body TW SP hr h), TW.toTxt.g_out, F.kp⟩
  match us with
  | [] => rfl
  | a :: r => rfl
/-- where nothing is raised -/
theorem CK_out (TW : TxtW w K mg) (SP : LXs.SupP P "/claim/cut.py") : LO.CalRK P w K mg base 152 "out" "above" (fun vs H Q _ => spOutX K vs H Q fun _ _ _ => False) := by
  obtain ⟨f, F, hm, kp⟩ := (CXK_out (P := P) (w := w) (base := base) TW SP).ex
  refine ⟨f, fun A outer s H us vs wv zv Q E hr e0 r rv h => codeAny_mono (F A outer s H us vs wv zv Q (fun _ _ _ => False) hr e0 r rv h) fun rr s' q => ?_, hm, kp⟩
  cases rr with
  | error e =>
    obtain ⟨_, _, _, _, _, _, _, _, _, _, _, _, z⟩ := q
    exact z.elim
  | ok fl =>
    cases fl with
    | ret u => exact q
    | next => exact q
    | brk => exact q
    | cont => exact q

end
end K34
namespace K34
open PySem PySem.Spec PyProof.Rows L2 RZ LL LC LS LR LD LN LY LOr
open C8 (Cal Mak Met CalAt pe_c pe_mk pe_mt pe_mt0 pe_gc)
section
variable {P : Program} {w : World} {K : PySem.W.Frag} {mg : Str → Option Value} {base : Heap}
/-! ### mirrored -/
theorem mirror_at (T : TxtW w K mg) (k : Bool) : KDct K w (He.ga K "MIRRORS") (kS k) (.str (kS (!k))) := by
  obtain ⟨es, n, D⟩ := T.tab 1
  cases k with
  | true =>
    obtain ⟨u, e, r⟩ := He.valsB_ok T.x_mp (q := ("pool", .str "common")) (by simp)
    exact ⟨es, n, u, D.at_, D.lit, e, r⟩
  | false =>
    obtain ⟨u, e, r⟩ := He.valsB_ok T.x_mc (q := ("common", .str "pool")) (by simp)
    exact ⟨es, n, u, D.at_, D.lit, e, r⟩
def spOfKind (K : PySem.W.Frag) : Sp := fun vs H Q _ => ∃ (k : Bool) (l : Addr) (rows : List V) (ps : List Ci), vs = [.str (kS k), .ref l] ∧ SqL K H l rows ∧ COs (cC K) H rows ps ∧ Fit (.node k ps) ∧ ∀ (v : V) (H' : Hp), Same H H' → CO (cC K) H' v (.node k ps) → Q v H'
theorem C_of_kind (TW : TxtW w K mg) : Cal P w K mg base 10 "of_kind" (spOfKind K) [] := by
  have T := TW.toTxt
  have C_pool : LO.CalR P w K mg base 9 "pool" (spPool K true) := C_pool TW
  have C_common : LO.CalR P w K mg base 9 "common" (spPool K false) := C_common TW
  obtain ⟨fd, F⟩ := T.F_of_kind
  have b : Binds K fd ["kind", "circles"] [] := FunD.bindsN F fun _ _ _ _ _ _ us hl => match us, hl with | [_, _], _ => rfl
  refine calD F T.g_of_kind b sc_of_kind (fun vs H Q E h => ?_) (fun cdv A outer s H vs Q E hr h => ?_)
  · obtain ⟨k, l, rows, ps, rfl, _⟩ := h
    rfl
  · obtain ⟨k, l, rows, ps, rfl, hS, hc, hf, q⟩ := h
    refine ⟨_, (pss_cons (ps_if (pt_cmpR op_eq (pv 0) pe_str (nomark _))
    (pss_one (ps_ret (LO.pe_cR1 C_pool hr (by omega) rfl (pv 1))))
    pss_nil)
  (pss_one (ps_ret (LO.pe_cR1 C_common hr (by omega) rfl (pv 1))))), ?_⟩
    have w := wf_node.mp hf.wf
    have e := LY.mkC_node hf.wf
    have sz : sizes ps ≤ 900 := by
      have z := hf.size
      rw [Ci.size] at z
      omega
    have n0 : ps ≠ [] := fun z => by
      rw [z] at w
      exact absurd w.1 (by decide)
    have lr : rows.length ≤ sizeLine := by
      have z := cos_len hc
      have z2 := sizes_len fun c hc => (w.2.1 c hc).1
      rw [sizeLine_eq]
      omega
    have fin : spPool K k rows H Q C8.E0 := ⟨ps, hc, n0, sz, fun c hc => (w.2.1 c hc).1, by rw [e]; exact hf, fun v H' s hv => q v H' s (by rw [e] at hv; exact hv)⟩
    cases k with
    | true =>
      refine ⟨_, rfl, rfl, _, rfl, ?_⟩
      rw [show decide (V.str (kS true) = V.str "pool") = true by decide +kernel]
      exact iteT ⟨_, rfl, l, rows, rfl, .inr hS, fin⟩
    | false =>
      refine ⟨_, rfl, rfl, _, rfl, ?_⟩
      rw [show decide (V.str (kS false) = V.str "pool") = false by decide +kernel]
      exact iteF ⟨_, rfl, l, rows, rfl, .inr hS, fin⟩
def spMir (K : PySem.W.Frag) (n : Nat) : Sp := fun vs H Q _ => ∃ (v : V) (c : Ci), vs = [v] ∧ CO (cC K) H v c ∧ Fit c ∧ c.depth < n ∧ ∀ (v' : V) (H' : Hp), Same H H' → CO (cC K) H' v' (mir c) → Q v' H'
theorem C_mirrored (TW : TxtW w K mg) : ∀ n : Nat, Cal P w K mg base (n + 11) "mirrored" (spMir K n) [] := by
  have T := TW.toTxt
  have C_of_kind : Cal P w K mg base 10 "of_kind" (spOfKind K) [] := C_of_kind TW
  have M_Circle_parts : Met P w K mg base 1 (cC K) "parts" (spParts K) [] := M_Circle_parts T
  have cc := T_cls T
  intro n
  induction n with
  | zero =>
    obtain ⟨fd, F⟩ := T.F_mirrored
    have b : Binds K fd ["circle"] [] := FunD.bindsN F fun _ _ _ _ _ _ us hl => match us, hl with | [_], _ => rfl
    refine calD F T.g_mirrored b sc_mirrored (fun vs H Q E h => ?_) (fun cdv A outer s H vs Q E hr h => ?_)
    · obtain ⟨v, c, rfl, _⟩ := h
      rfl
    · obtain ⟨v, c, rfl, _, _, hd, _⟩ := h
      exact absurd hd (Nat.not_lt_zero _)
  | succ n ih =>
    have C_mirrored := ih
    obtain ⟨fd, F⟩ := T.F_mirrored
    have b : Binds K fd ["circle"] [] := FunD.bindsN F fun _ _ _ _ _ _ us hl => match us, hl with | [_], _ => rfl
    refine calD F T.g_mirrored b sc_mirrored (fun vs H Q E h => ?_) (fun cdv A outer s H vs Q E hr h => ?_)
    · obtain ⟨v, c, rfl, _⟩ := h
      rfl
    · obtain ⟨v, c, rfl, hc, hf, hd, q⟩ := h
      refine ⟨_, (pss_cons (ps_if (pt_cmpR op_eq (pe_fld (pv 0) (by rfl)) pe_str (nomark _))
    (pss_one (ps_ret (pv 0)))
    pss_nil)
  (pss_one (ps_ret (pe_c C_of_kind hr (by omega) rfl (pa_cons (pe_ix ix_kdict (pe_gc rfl T.v_MIRRORS) (pe_fld (pv 0) (by rfl)) (fun _ _ => rfl)) (pa_cons (pe_lc (own := [("part", 1)]) (g := gName 1) (tt := tYes) rfl sc_mirrored.nd (pi_list (pe_mt0 M_Circle_parts hr (by omega) (pv 0))) (blkOk_by (N := N_mirrored) (sc := defScope s_mirrored) (by decide +kernel)) (fun _ _ _ _ _ => pg_name (i := 1) sc_mirrored.nd rfl (Or.inl rfl)) (fun _ _ _ _ _ => pts_nil) (fun _ _ _ _ _ => (pe_c C_mirrored hr (by omega) rfl (pa_cons (pv 1) pa_nil)))) pa_nil)))))), ?_⟩
      obtain ⟨a, ax, ar, at', rfl, ha⟩ := co_ref hc
      refine ⟨_, rfl, a, _, ax, _, _, rfl, ha, cc, T_no T T.f_no_Circle_kind, rfl, rfl, _, rfl, ?_⟩
      rw [kind_eye]
      cases c with
      | eye m => exact iteT ⟨_, rfl, q _ _ (Same.refl H) hc⟩
      | node k ps =>
        refine iteF ?_
        have hwf := wf_node.mp hf.wf
        have fps : ∀ p ∈ ps, Fit p := fun p hp => hf.part (c := .node k ps) hp
        have h60 := hf.size
        rw [Ci.size] at h60
        have lps : ps.length ≤ 60 := by
          have z := sizes_len fun p hp => (fps p hp).wf
          omega
        have fm : Fit (mir (.node k ps)) := mir_fit _ (Nat.le_refl _) hf
        rw [mir, mirs_eq] at fm q
        refine ⟨_, rfl, a, _, ax, _, _, rfl, ha, cc, T_no T T.f_no_Circle_kind, rfl, He.ga K "MIRRORS", kS k, .str (kS (!k)), rfl, rfl, mirror_at TW k, ?_⟩
        refine ⟨_, rfl, a, ax, _, rfl, ha, rfl, _, .node k ps, rfl, hc, fun p crows hp hr2 => ?_⟩
        have s4 := same_upd (o := .lst crows) hp
        have lenc : crows.length = ps.length := cos_len hr2
        refine ⟨p, rfl, ⟨_, sqL_of upd_same⟩, fun D nD => ?_⟩
        have npD : p ≠ D := fun e => by rw [← e, upd_same] at nD; cases nD
        have nDH : H D = none := by
          cases z : H D with
          | none => rfl
          | some o => rw [s4 _ _ z] at nD; cases nD
        refine lc_st (walk_list (K := K) (a := p) (xs := crows)) (fun i acc H5 => Same H H5 ∧ H5 p = some (.lst crows) ∧ COs (cC K) H5 acc ((ps.take i).map mir)) (by omega) (fun i acc H5 _ z => sqL_of z.2.1) ⟨fun x o e => by rw [upd_ne (ne_of_none e nDH)]; exact s4 _ _ e, by rw [upd_ne npD]; exact upd_same, .nil⟩ ?_ ?_
        · rintro i x1 H5 H6 acc Nx hi hD5 hlen ⟨s5, hp5, hacc⟩ ⟨rfl, hx1⟩ hN
          obtain ⟨ci, g1, g2⟩ := cos_get hr2 hx1
          have hmem := List.mem_of_getElem? g1
          have hdi := pdepth (c := .node k ps) hmem
          refine ⟨rfl, _, rfl, x1, ci, rfl, co_mono (Kc.of s5) g2, fps ci hmem, by omega, fun v7 H7 s7 hv7 => ?_⟩
          have hD7 := s7 _ _ hD5
          have kD : Kc (cC K) H7 (upd H7 D (.lst (acc ++ [v7]))) := Kc.put hD7 (by intro _ _ _ z; cases z) (by intro _ z; cases z)
          refine hN _ H7 hD7 ⟨fun x o e => by rw [upd_ne (ne_of_none e nDH)]; exact s7 _ _ (s5 _ _ e), by rw [upd_ne npD]; exact s7 _ _ hp5, ?_⟩
          rw [take_one (ps := ps) g1, List.map_append]
          exact cos_app (cos_mono ((Kc.of s7).trans kD) hacc) (cos_one (co_mono kD hv7))
        · rintro H5 acc hD5 hlen ⟨s5, hp5, hacc⟩
          rw [lenc, List.take_length] at hacc
          exact ⟨!k, D, acc, ps.map mir, rfl, sqL_of hD5, hacc, fm, fun v H' s hv => q v H' (s5.trans s) hv⟩

end
end K34
namespace K34
open PySem PySem.Spec PyProof.Rows L2 RZ LL LC LS LR LD LN LY LOr
open C8 (Cal Mak Met CalAt pe_c pe_mk pe_mt pe_mt0 pe_gc)
section
variable {P : Program} {w : World} {K : PySem.W.Frag} {mg : Str → Option Value} {base : Heap}
/-! ### the law's words -/
def wordO : Option Ci → Str
  | none => ""
  | some e => e.text
def spWord (K : PySem.W.Frag) : Sp := fun vs H Q _ => ∃ (v : V) (o : Option Ci), vs = [v] ∧ AnsV (cC K) H v o ∧ Q (.str (wordO o)) H
theorem C__law_word (T : Txt K mg) : Cal P w K mg base 6 "_law_word" (spWord K) [] := by
  have M_Circle___str__ : Met P w K mg base 1 (cC K) "__str__" (spStr K) [] := M_Circle___str__ T
  obtain ⟨fd, F⟩ := T.F__law_word
  have b : Binds K fd ["_law_found"] [] := FunD.bindsN F fun _ _ _ _ _ _ us hl => match us, hl with | [_], _ => rfl
  refine calD F T.g__law_word b sc__law_word (fun vs H Q E h => ?_) (fun cdv A outer s H vs Q E hr h => ?_)
  · obtain ⟨v, o, rfl, _⟩ := h
    rfl
  · obtain ⟨v, o, rfl, ho, q⟩ := h
    refine ⟨_, (pss_one (ps_ret (pe_ifExp (pt_cmpR op_isN (pv 0) pe_non (nomark _)) pe_str (pe_callTy (LO.cr_strO M_Circle___str__ hr (by omega)) (by rfl) T.z_str (by decide +kernel) (pa_cons (pv 0) pa_nil))))), ?_⟩
    cases o with
    | none =>
      have ho : v = .non := ho
      subst ho
      refine ⟨_, rfl, rfl, _, rfl, ?_⟩
      rw [show decide (V.non = V.non) = true by simp]
      exact iteT q
    | some e =>
      have ho : CO (cC K) H v e := ho
      obtain ⟨a, ax, ar, at', rfl, ha⟩ := co_ref ho
      refine ⟨_, rfl, rfl, _, rfl, ?_⟩
      rw [show decide (V.ref a = V.non) = false by simp]
      exact iteF ⟨_, rfl, a, ax, _, rfl, ha, _, e, rfl, ho, e.text, rfl, q⟩
/-- some names, as they stand in a list -/
structure Gone (H : Hp) (l : Addr) (g : List Str) : Prop where
  at_ : H l = some (.lst (g.map V.str))
  nm : ∀ z ∈ g, isName z = true
  two : g.length = 2 ∨ g.length = 3
theorem Gone.same {H H' : Hp} {l : Addr} {g : List Str} (h : Gone H l g) (s : Same H H') : Gone H' l g := ⟨s _ _ h.at_, h.nm, h.two⟩
def spOnce (K : PySem.W.Frag) : Sp := fun vs H Q _ => ∃ (v : V) (l : Addr) (g : List Str) (up : Bool) (c : Ci), vs = [v, .ref l, .bl up] ∧ CO (cC K) H v c ∧ Fit c ∧ c.size ≤ 20 ∧ Gone H l g ∧ ∀ (v' : V) (H' : Hp) (o : Option Ci), Same H H' → AnsV (cC K) H' v' o → Res g up c o → Q v' H'
/-- a call of out by a keyword -/
theorem out_sk {H : Hp} {Q : VK} {E : XK} {v : V} {up : Bool} {c : Ci} {g : List Str} (hc : CO (cC K) H v c) (hf : Fit c) (c20 : c.size ≤ 20) (hg : ∀ z ∈ g, isName z = true) (lg : g.length ≤ 3) (q : ∀ (v' : V) (H' : Hp) (o : Option Ci), Same H H' → AnsV (cC K) H' v' o → Res g up c o → Q v' H') :
    LO.spSK (fun vs H Q _ => spOutX K vs H Q fun _ _ _ => False) (.bl up) (v :: g.map V.str) H Q E :=
  ⟨v, g.map V.str, rfl, by rw [List.length_map, sizeLine_eq]; omega, fun p np => ⟨v, p, g.map V.str, up, c, rfl, co_mono (Kc.of (same_upd np)) hc, hf, c20, upd_same, by rw [List.length_map]; omega, .inl ⟨g, rfl, hg, fun v' H' o s a r => q v' H' o ((same_upd np).trans s) a r⟩⟩⟩
theorem C__law_at_once (TW : TxtW w K mg) (SP : LXs.SupP P "/claim/cut.py") : Cal P w K mg base 153 "_law_at_once" (spOnce K) [] := by
  have T := TW.toTxt
  have CK_out : LO.CalRK P w K mg base 152 "out" "above" (fun vs H Q _ => spOutX K vs H Q fun _ _ _ => False) := CK_out TW SP
  obtain ⟨fd, F⟩ := T.F__law_at_once
  have b : Binds K fd ["_law_handed_here", "_law_gone", "_law_up"] [] := FunD.bindsN F fun _ _ _ _ _ _ us hl => match us, hl with | [_, _, _], _ => rfl
  refine calD F T.g__law_at_once b sc__law_at_once (fun vs H Q E h => ?_) (fun cdv A outer s H vs Q E hr h => ?_)
  · obtain ⟨v, l, g, up, c, rfl, _⟩ := h
    rfl
  · obtain ⟨v, l, g, up, c, rfl, hc, hf, c20, hg, q⟩ := h
    refine ⟨_, (pss_cons (ps_if (pt_cmpR op_eq (pe_callB call_len_seq (by rfl) T.z_len PySem.boot_len (pa_cons (pv 1) pa_nil)) pe_int (nomark _))
    (pss_one (ps_ret (LO.pe_skK CK_out hr (by omega) rfl (pa_cons (pv 0) (pa_cons (pe_ix ix_list (pv 1) pe_int (fun _ _ => rfl)) (pa_cons (pe_ix ix_list (pv 1) pe_int (fun _ _ => rfl)) pa_nil))) (pk_cons (pv 2) pk_nil))))
    pss_nil)
  (pss_one (ps_ret (LO.pe_skK CK_out hr (by omega) rfl (pa_cons (pv 0) (pa_cons (pe_ix ix_list (pv 1) pe_int (fun _ _ => rfl)) (pa_cons (pe_ix ix_list (pv 1) pe_int (fun _ _ => rfl)) (pa_cons (pe_ix ix_list (pv 1) pe_int (fun _ _ => rfl)) pa_nil)))) (pk_cons (pv 2) pk_nil))))), ?_⟩
    have hl := sqL_of (K := K) hg.at_
    match g, hg, hl, q with
    | [a, b'], hg, hl, q =>
      refine ⟨_, rfl, l, _, rfl, .inl hl, rfl, _, rfl, ?_⟩
      rw [show decide (V.int ((([a, b'] : List Str).map V.str).length : Int) = V.int 2) = true by simp]
      exact iteT ⟨_, rfl, _, rfl, l, _, 0, _, rfl, rfl, hl, rfl, _, rfl, l, _, 1, _, rfl, rfl, hl, rfl, _, rfl, _, rfl, out_sk (g := [a, b']) hc hf c20 hg.nm (show 2 ≤ 3 by decide) q⟩
    | [a, b', c'], hg, hl, q =>
      refine ⟨_, rfl, l, _, rfl, .inl hl, rfl, _, rfl, ?_⟩
      rw [show decide (V.int ((([a, b', c'] : List Str).map V.str).length : Int) = V.int 2) = false by simp]
      exact iteF ⟨_, rfl, _, rfl, l, _, 0, _, rfl, rfl, hl, rfl, _, rfl, l, _, 1, _, rfl, rfl, hl, rfl, _, rfl, l, _, 2, _, rfl, rfl, hl, rfl, _, rfl, _, rfl, out_sk (g := [a, b', c']) hc hf c20 hg.nm (show 3 ≤ 3 by decide) q⟩
    | [], hg, _, _ => exact absurd hg.two (by simp)
    | [_], hg, _, _ => exact absurd hg.two (by simp)
    | _ :: _ :: _ :: _ :: _, hg, _, _ => exact absurd hg.two (by simp)
theorem C__law_one_by_one (TW : TxtW w K mg) (SP : LXs.SupP P "/claim/cut.py") : Cal P w K mg base 153 "_law_one_by_one" (spOnce K) [] := by
  have T := TW.toTxt
  have CK_out : LO.CalRK P w K mg base 152 "out" "above" (fun vs H Q _ => spOutX K vs H Q fun _ _ _ => False) := CK_out TW SP
  obtain ⟨fd, F⟩ := T.F__law_one_by_one
  have b : Binds K fd ["_law_handed_here", "_law_gone", "_law_up"] [] := FunD.bindsN F fun _ _ _ _ _ _ us hl => match us, hl with | [_, _, _], _ => rfl
  refine calD F T.g__law_one_by_one b sc__law_one_by_one (fun vs H Q E h => ?_) (fun cdv A outer s H vs Q E hr h => ?_)
  · obtain ⟨v, l, g, up, c, rfl, _⟩ := h
    rfl
  · obtain ⟨v, l, g, up, c, rfl, hc, hf, c20, hg, q⟩ := h
    refine ⟨_, (pss_cons (ps_set (i := 3) sc__law_one_by_one.nd rfl (Or.inl rfl) (pv 0))
  (pss_cons (ps_for PassesOwn.never rfl (pi_list (pv 1)) (pg_name (i := 4) sc__law_one_by_one.nd rfl (Or.inl rfl))
    (pss_one (ps_if (pt_cmpR op_notN (pv 3) pe_non (nomark _))
      (pss_one (ps_set (i := 3) sc__law_one_by_one.nd rfl (Or.inl rfl) (LO.pe_skK CK_out hr (by omega) rfl (pa_cons (pv 3) (pa_cons (pv 4) pa_nil)) (pk_cons (pv 2) pk_nil))))
      pss_nil)))
  (pss_one (ps_ret (pv 3))))), ?_⟩
    have hl := sqL_of (K := K) hg.at_
    refine ⟨_, rfl, _, rfl, l, rfl, ⟨_, hl⟩, ?_⟩
    refine for_it (walk_list (K := K) (a := l) (xs := g.map V.str)) (fun i σ H2 => ∃ (v' : V) (a4 : Option V) (o : Option Ci), σ = [some v, some (.ref l), some (.bl up), some v', a4] ∧ Same H H2 ∧ AnsV (cC K) H2 v' o ∧ Way (g.take i) up c o) ⟨v, none, some c, rfl, Same.refl _, hc, Way.start hf⟩ (fun i σ H2 _ z => by
      obtain ⟨_, _, _, _, s, _⟩ := z
      exact sqL_of (s _ _ hg.at_)) ?_ ?_
    · rintro i x σ H2 H3 hi ⟨v', a4, o, rfl, s2, ho, wy⟩ ⟨rfl, hx⟩
      rw [List.getElem?_map] at hx
      cases gn : g[i]? with
      | none => rw [gn] at hx; cases hx
      | some z =>
        rw [gn] at hx
        cases hx
        have et : g.take (i + 1) = g.take i ++ [z] := by rw [List.take_add_one, gn]; rfl
        cases o with
        | none =>
          have ho : v' = .non := ho
          subst ho
          refine ⟨_, rfl, rfl, _, rfl, ?_⟩
          rw [show (!decide (V.non = V.non)) = false by simp]
          exact iteF ⟨.non, _, none, rfl, s2, rfl, by rw [et]; exact wy.gone⟩
        | some e =>
          have ho : CO (cC K) H3 v' e := ho
          obtain ⟨a, _, _, _, rfl, _⟩ := co_ref ho
          refine ⟨_, rfl, rfl, _, rfl, ?_⟩
          rw [show (!decide (V.ref a = V.non)) = true by simp]
          refine iteT ⟨_, rfl, _, rfl, _, rfl, _, rfl, out_sk (g := [z]) ho wy.is.1 (Nat.le_trans (wy.sz e rfl) c20) (fun y hy => by rw [List.mem_singleton.mp hy]; exact hg.nm z (List.mem_of_getElem? gn)) (show 1 ≤ 3 by decide) fun v5 H5 o5 s5 a5 r5 => ?_⟩
          exact ⟨v5, _, o5, rfl, s2.trans s5, a5, by rw [et]; exact wy.step r5⟩
    · rintro σ H2 ⟨v', a4, o, rfl, s2, ho, wy⟩
      rw [List.length_map, List.take_length] at wy
      refine ⟨_, rfl, q v' H2 o s2 ho (wy.res fun z => ?_)⟩
      have := hg.two
      rw [z] at this
      exact absurd this (by simp)

end
end K34
namespace K34
open PySem PySem.Spec PyProof.Rows L2 RZ LL LC LS LR LD LN LY LOr
open C8 (Cal Mak Met CalAt pe_c pe_mk pe_mt pe_mt0 pe_gc)
section
variable {P : Program} {w : World} {K : PySem.W.Frag} {mg : Str → Option Value} {base : Heap}
/-! ### what is refused, and why -/
open LamX in
/-- the attribute of the error that the lambda's reading lets out, in a list -/
def TWhy (CN : Addr) : (XK → Hp → VK → Prop) → Hp → VK → Prop := fun tl H Q => ∀ l, H l = none → ∀ Q' : VK, (∀ v H', Q (.ref l) H' → Q' v H') →
  tl (fun cls d H' => ∃ (dd : Addr) (fs : List (Str × V)) (v : V), cls = .ref CN ∧ d = some dd ∧ H' dd = some (.xd fs) ∧ fs.lookup ("value" : Str) = some v ∧ ∀ p, H' p = none → Q (.ref p) (upd H' p (.lst [v]))) (upd H l (.lst [])) Q'
def TCaught (CN : Addr) : (XK → Hp → VK → Prop) → Hp → VK → Prop := fun tl H Q => ∀ Q' : VK, (∀ v H', Q (.bl false) H' → Q' v H') →
  tl (fun cls d H' => ∃ (dd : Addr) (fs : List (Str × V)), cls = .ref CN ∧ d = some dd ∧ H' dd = some (.xd fs) ∧ Q (.bl true) H') H Q'
theorem G__law_why (T : Txt K mg) : LLm.Giv P w K mg base "_law_why" (TWhy (He.ga K "InvalidName")) := by
  obtain ⟨fd, F⟩ := T.F__law_why
  have b : Binds K fd ["_law_ask"] [] := FunD.bindsN F fun _ _ _ _ _ _ us hl => match us, hl with | [_], _ => rfl
  obtain ⟨oc, od, dV, kV, doc, pm, an, cdv, ct, osl, efd, lk, hcd, _, _⟩ := id F.ex
  subst efd
  refine ⟨_, "_law_ask", _, _, _, _, _, doc, pm, cdv, ct, oc, an, od, osl, N__law_why, T.g__law_why, F.kp, lk, hcd, b, sc__law_why, rfl, .inl (by decide +kernel), rfl, rfl, ?_⟩
  intro X q eP ew eK em eb
  subst eP ew eK em eb
  intro f c' s H Q tl act hc h
  refine ⟨_, (pss_cons (ps_set (i := 1) sc__law_why.nd rfl (Or.inl rfl) (pe_lst pa_nil))
  (pss_cons (LTy.ps_try_hs rfl rfl sc__law_why.nd LamX.takes0 (fun W pn xe tk ps => (LLm.act_ss (n := N__law_why.length) rfl fun E hW => act _ pn xe E _ _ (LLm.takes_len tk) hW))
    (LTy.HsOk.nm (i := 2) rfl rfl (by exact ⟨rfl, by decide, .inl T.g_InvalidName⟩) (fun a oe cls d pn hz hf => (pss_one (ps_set (i := 1) sc__law_why.nd rfl (Or.inl rfl) (pe_lst (pa_cons (pe_xf (C := He.ga _ "InvalidName") (xfB_ok T.x_xf_InvalidName) (LXs.fld_no T.x_e_InvalidName (by decide)) hz hf (pv 2)) pa_nil))))) LTy.HsOk.nil))
  (pss_one (ps_ret (pv 1))))), ?_⟩
  refine ⟨(show 0 ≤ sizeLine by decide), fun l nl => ?_⟩
  refine ⟨fun cls d H' => ∃ (dd : Addr) (fs : List (Str × V)) (v : V), cls = .ref (He.ga X.K "InvalidName") ∧ d = some dd ∧ H' dd = some (.xd fs) ∧ fs.lookup ("value" : Str) = some v ∧ ∀ p, H' p = none → Q (.ref p) (upd H' p (.lst [v])), ?_, rfl, ?_, h l nl _ fun v H' z => ⟨_, rfl, z⟩⟩
  · rintro cls d σ' H' ⟨dd, fs, v, rfl, rfl, hdd, hv, hQ⟩ len
    match σ', len with
    | [a0, a1, a2], _ =>
    refine ⟨true, of_decide_eq_true T.x_m_InvalidName, fun _ a na => ?_, fun z => by cases z⟩
    exact ⟨_, rfl, rfl, rfl, dd, fs, v, rfl, hdd, hv, (show 1 ≤ sizeLine by decide), fun p np => ⟨_, rfl, hQ p np⟩⟩
  · rw [upd_ne (ne_of_none hc nl)]
    exact hc
theorem G__law_caught (T : Txt K mg) : LLm.Giv P w K mg base "_law_caught" (TCaught (He.ga K "InvalidName")) := by
  obtain ⟨fd, F⟩ := T.F__law_caught
  have b : Binds K fd ["_law_ask"] [] := FunD.bindsN F fun _ _ _ _ _ _ us hl => match us, hl with | [_], _ => rfl
  obtain ⟨oc, od, dV, kV, doc, pm, an, cdv, ct, osl, efd, lk, hcd, _, _⟩ := id F.ex
  subst efd
  refine ⟨_, "_law_ask", _, _, _, _, _, doc, pm, cdv, ct, oc, an, od, osl, N__law_caught, T.g__law_caught, F.kp, lk, hcd, b, sc__law_caught, rfl, .inl (by decide +kernel), rfl, rfl, ?_⟩
  intro X q eP ew eK em eb
  subst eP ew eK em eb
  intro f c' s H Q tl act hc h
  refine ⟨_, (pss_cons (ps_set (i := 1) sc__law_caught.nd rfl (Or.inl rfl) pe_bl)
  (pss_cons (LTy.ps_try_hs rfl rfl sc__law_caught.nd LamX.takes0 (fun W pn xe tk ps => (LLm.act_ss (n := N__law_caught.length) rfl fun E hW => act _ pn xe E _ _ (LLm.takes_len tk) hW))
    (LTy.HsOk.nm (i := 2) rfl rfl (by exact ⟨rfl, by decide, .inl T.g_PooledError⟩) (fun a oe cls d pn hz hf => (pss_one (ps_set (i := 1) sc__law_caught.nd rfl (Or.inl rfl) (pe_callB (LXs.call_isX (LXs.excC_ok T.x_ie_InvalidName) hz hf) (by rfl) T.z_isinstance (by decide +kernel) (pa_cons (pv 2) (pa_cons (pe_bltn (v := .ty "ValueError") rfl T.z_ValueError (by decide +kernel) rfl) pa_nil)))))) LTy.HsOk.nil))
  (pss_one (ps_ret (pv 1))))), ?_⟩
  refine ⟨fun cls d H' => ∃ (dd : Addr) (fs : List (Str × V)), cls = .ref (He.ga X.K "InvalidName") ∧ d = some dd ∧ H' dd = some (.xd fs) ∧ Q (.bl true) H', ?_, rfl, hc, h _ fun v H' z => ⟨_, rfl, z⟩⟩
  rintro cls d σ' H' ⟨dd, fs, rfl, rfl, hdd, hQ⟩ len
  match σ', len with
  | [a0, a1, a2], _ =>
  refine ⟨true, of_decide_eq_true T.x_m_PooledError, fun _ a na => ?_, fun z => by cases z⟩
  exact ⟨_, rfl, .ty "ValueError", .type "ValueError", true, dd, fs, rfl, rfl, rfl, hdd, fun u r => r, of_decide_eq_true T.x_is_ve, _, rfl, hQ⟩

end
end K34
namespace K34
open PySem PySem.Spec PyProof.Rows L2 RZ LL LC LS LR LD LN LY LOr
open C8 (Cal Mak Met CalAt pe_c pe_mk pe_mt pe_mt0 pe_gc)
section
variable {P : Program} {w : World} {K : PySem.W.Frag} {mg : Str → Option Value} {base : Heap}
/-! ### the wrong names that are refused -/
open LamX (ExtN)
/-- all but the bag and the tables stay -/
def Kx (b : Addr) (H H' : Hp) : Prop := ∀ a o, a ≠ b → (∀ ps, o ≠ .tbl ps) → H a = some o → H' a = some o
theorem Kx.ext {b : Addr} {H H' : Hp} (h : ExtN H H') : Kx b H H' := fun a o _ n e => h a o e n
theorem Kx.kp {b : Addr} {H H' : Hp} (h : Kp b H H') : Kx b H H' := fun a o n _ e => h.1 a o n e
theorem Kx.trans {b : Addr} {H H1 H2 : Hp} (h : Kx b H H1) (k : Kx b H1 H2) : Kx b H H2 := fun a o n m e => k a o n m (h a o n m e)
theorem Kx.same {b : Addr} {H H' : Hp} (h : Same H H') : Kx b H H' := fun a o _ _ e => h a o e
theorem ext_same {H H' : Hp} (h : Same H H') : ExtN H H' := fun a o e _ => h a o e
theorem ext_kc {C : Addr} {H H' : Hp} (h : ExtN H H') : Kc C H H' := ⟨fun a dx fs _ e => h a _ e (fun _ z => by cases z), fun a xs e => h a _ e (fun _ z => by cases z)⟩
theorem kx_kc {C b : Addr} {H H' : Hp} (k : Kx b H H') (B : Bag H b) : Kc C H H' := by
  obtain ⟨l, ns, i, r, m, c, h1, _⟩ := B
  unfold bagX at h1
  exact ⟨fun a dx fs _ e => k a _ (fun z => by rw [z, h1] at e; cases e) (fun _ z => by cases z) e, fun a xs e => k a _ (fun z => by rw [z, h1] at e; cases e) (fun _ z => by cases z) e⟩
theorem bag_ext {H H' : Hp} {b : Addr} (B : Bag H b) (e : ExtN H H') : Bag H' b := by
  obtain ⟨l, ns, i, r, m, c, h1, h2, h3⟩ := B
  exact ⟨l, ns, i, r, m, c, e _ _ h1 (fun _ z => by unfold bagX at z; cases z), e _ _ h2 (fun _ z => by cases z), h3⟩
/-- what is no name -/
def odds (t1 l2 t3 : Addr) : List V := [.non, .bl true, .int 0, .int 7, .str "", .str "A", .str "abcdefg", .str "a b", .str "a1", .ref t1, .ref l2, .str " a", .ref t3, .str "a\n"]
structure Odd (K : PySem.W.Frag) (H : Hp) (x : V) : Prop where
  no : NameJ K H x false
  dp : ∃ d, Dp K H x d ∧ LL.Fit 1 d = true
theorem odd_at {K : PySem.W.Frag} {H : Hp} {t1 l2 t3 : Addr} (h1 : H t1 = some (.tup [.str "a"])) (h2 : H l2 = some (.lst [.str "a"])) (h3 : H t3 = some (.tup [])) : ∀ x ∈ odds t1 l2 t3, Odd K H x := by
  have st : ∀ z : Str, z.length ≤ 100000 → PyData.strOk z = true → isName z = false → Odd K H (.str z) := fun z a b c => ⟨.inl ⟨z, rfl, a, b, c.symm⟩, .str z, .str z, rfl⟩
  have no : ∀ {x : V} {d : PyData}, Dp K H x d → LL.Fit 1 d = true → PySem.W.kitOne K (.type (dty d)) (.type "str") = some false → Odd K H x := fun {x d} a b c => ⟨.inr ⟨⟨_, dp_ty a, c⟩, rfl⟩, d, a, b⟩
  intro x hx
  simp only [odds, List.mem_cons, List.not_mem_nil, or_false] at hx
  rcases hx with rfl | rfl | rfl | rfl | rfl | rfl | rfl | rfl | rfl | rfl | rfl | rfl | rfl | rfl
  · exact no .non rfl (kit_ty (by decide +kernel))
  · exact no (.bl true) rfl (kit_ty (by decide +kernel))
  · exact no (.int 0) rfl (kit_ty (by decide +kernel))
  · exact no (.int 7) rfl (kit_ty (by decide +kernel))
  · exact st _ (by decide +kernel) (by decide +kernel) (by decide +kernel)
  · exact st _ (by decide +kernel) (by decide +kernel) (by decide +kernel)
  · exact st _ (by decide +kernel) (by decide +kernel) (by decide +kernel)
  · exact st _ (by decide +kernel) (by decide +kernel) (by decide +kernel)
  · exact st _ (by decide +kernel) (by decide +kernel) (by decide +kernel)
  · exact no (.tup (sqT_of h1) (.cons (.str "a") .nil)) rfl (kit_ty (by decide +kernel))
  · exact no (.lst (sqL_of h2) (.cons (.str "a") .nil)) rfl (kit_ty (by decide +kernel))
  · exact st _ (by decide +kernel) (by decide +kernel) (by decide +kernel)
  · exact no (.tup (sqT_of h3) .nil) rfl (kit_ty (by decide +kernel))
  · exact st _ (by decide +kernel) (by decide +kernel) (by decide +kernel)
/-- a call of out with a wrong name -/
theorem out_bad {H : Hp} {Q : VK} {E : XK} {v : V} {up : Bool} {c : Ci} {g : List Str} {x : V} {rest : List V} (hc : CO (cC K) H v c) (hf : Fit c) (c20 : c.size ≤ 20) (hg : ∀ z ∈ g, isName z = true) (hx : NameJ K H x false) (lg : g.length + rest.length ≤ 10)
    (q : ∀ (d : Addr) (H' : Hp), Same H H' → H' d = none → E (.ref (He.ga K "InvalidName")) (some d) (upd H' d (.xd [("value", x)]))) : LO.spSK (spOutX K) (.bl up) (v :: (g.map V.str ++ x :: rest)) H Q E :=
  ⟨v, g.map V.str ++ x :: rest, rfl, by rw [List.length_append, List.length_map, List.length_cons, sizeLine_eq]; omega, fun p np => ⟨v, p, g.map V.str ++ x :: rest, up, c, rfl, co_mono (Kc.of (same_upd np)) hc, hf, c20, upd_same, by rw [List.length_append, List.length_map, List.length_cons]; omega,
    .inr ⟨g, x, rest, rfl, hg, nameJ_mono (same_upd np) hx, fun d H' s nd => q d H' ((same_upd np).trans s) nd⟩⟩⟩
/-- a call of out with good names, where an error could be let out -/
theorem out_good {H : Hp} {Q : VK} {E : XK} {v : V} {up : Bool} {c : Ci} {g : List Str} (hc : CO (cC K) H v c) (hf : Fit c) (c20 : c.size ≤ 20) (hg : ∀ z ∈ g, isName z = true) (lg : g.length ≤ 3) (q : ∀ (v' : V) (H' : Hp), Same H H' → Q v' H') : LO.spSK (spOutX K) (.bl up) (v :: g.map V.str) H Q E :=
  ⟨v, g.map V.str, rfl, by rw [List.length_map, sizeLine_eq]; omega, fun p np => ⟨v, p, g.map V.str, up, c, rfl, co_mono (Kc.of (same_upd np)) hc, hf, c20, upd_same, by rw [List.length_map]; omega, .inl ⟨g, rfl, hg, fun v' H' o s a r => q v' H' ((same_upd np).trans s)⟩⟩⟩
/-- what stays while the lambdas are made and called -/
structure Refd (K : PySem.W.Frag) (b l t1 l2 t3 : Addr) (v : V) (c : Ci) (g : List Str) (H : Hp) : Prop where
  bag : Bag H b
  co : CO (cC K) H v c
  gone : Gone H l g
  h1 : H t1 = some (.tup [.str "a"])
  h2 : H l2 = some (.lst [.str "a"])
  h3 : H t3 = some (.tup [])
  tabs : LamX.Tabs (LLm.tabsOf K mkrN) H
theorem Refd.same {b l t1 l2 t3 : Addr} {v : V} {c : Ci} {g : List Str} {H H' : Hp} (R : Refd K b l t1 l2 t3 v c g H) (s : Same H H') : Refd K b l t1 l2 t3 v c g H' :=
  ⟨bag_ext R.bag (ext_same s), co_mono (Kc.of s) R.co, R.gone.same s, s _ _ R.h1, s _ _ R.h2, s _ _ R.h3, R.tabs.ext fun a o e => s a o e⟩
theorem Refd.ext {b l t1 l2 t3 : Addr} {v : V} {c : Ci} {g : List Str} {H H' : Hp} (R : Refd K b l t1 l2 t3 v c g H) (s : ExtN H H') (T : LamX.Tabs (LLm.tabsOf K mkrN) H') : Refd K b l t1 l2 t3 v c g H' :=
  ⟨bag_ext R.bag s, co_mono (ext_kc s) R.co, ⟨s _ _ R.gone.at_ (fun _ z => by cases z), R.gone.nm, R.gone.two⟩, s _ _ R.h1 (fun _ z => by cases z), s _ _ R.h2 (fun _ z => by cases z), s _ _ R.h3 (fun _ z => by cases z), T⟩
theorem Refd.odd {b l t1 l2 t3 : Addr} {v : V} {c : Ci} {g : List Str} {H : Hp} (R : Refd K b l t1 l2 t3 v c g H) {x : V} (hx : x ∈ odds t1 l2 t3) : Odd K H x := odd_at R.h1 R.h2 R.h3 x hx
theorem tabs_kp {b : Addr} {T : List (Addr × Str)} {H H' : Hp} (hT : LamX.Tabs T H) (B : Bag H b) (k : Kp b H H') : LamX.Tabs T H' := fun p hp => by
  obtain ⟨ps, z1, z2, z3⟩ := hT p hp
  obtain ⟨bl, ns, bi, br, bm, bc, w1, _⟩ := B
  unfold bagX at w1
  refine ⟨ps, k.1 _ _ (fun e => ?_) z1, z2, fun pos cv hcv => ?_⟩
  · rw [e, w1] at z1
    cases z1
  · obtain ⟨cc, e1, e2⟩ := z3 pos cv hcv
    refine ⟨cc, e1, k.1 _ _ (fun e => ?_) e2⟩
    rw [e, w1] at e2
    unfold LamX.CodeO at e2
    cases e2
section
variable {b l t1 l2 t3 : Addr} {v : V} {c : Ci} {g : List Str} {H : Hp} {Q : VK} {x : V}
/-- the lambda raises for x: the answer is [x] -/
theorem why_bad (R : Refd K b l t1 l2 t3 v c g H) (tl : XK → Hp → VK → Prop)
    (ht : ∀ (E : XK) (H' : Hp) (Q' : VK), Refd K b l t1 l2 t3 v c g H' → (∀ (d : Addr) (H2 : Hp), Same H' H2 → H2 d = none → E (.ref (He.ga K "InvalidName")) (some d) (upd H2 d (.xd [("value", x)]))) → tl E H' Q')
    (k : ∀ (p : Addr) (H2 : Hp), ExtN H H2 → Refd K b l t1 l2 t3 v c g H2 → H2 p = some (.lst [x]) → Q (.ref p) H2) :
    LamX.Tabs (LLm.tabsOf K mkrN) H ∧ ∀ H1, ExtN H H1 → LamX.Tabs (LLm.tabsOf K mkrN) H1 → TWhy (He.ga K "InvalidName") tl H1 Q := by
  refine ⟨R.tabs, fun H1 e1 T1 m nm Q' _ => ?_⟩
  have R1 := R.ext e1 T1
  have s2 : Same H1 (upd H1 m (.lst [])) := same_upd nm
  refine ht _ _ _ (R1.same s2) fun d H2 s3 nd => ⟨d, _, x, rfl, rfl, upd_same, rfl, fun p np => ?_⟩
  have s4 : Same H1 (upd (upd H2 d (.xd [("value", x)])) p (.lst [x])) := ((s2.trans s3).trans (same_upd nd)).trans (same_upd np)
  exact k p _ (fun a o e n => s4 _ _ (e1 a o e n)) (R1.same s4) upd_same
/-- nothing is raised: the answer is [] -/
theorem why_good (R : Refd K b l t1 l2 t3 v c g H) (tl : XK → Hp → VK → Prop)
    (ht : ∀ (E : XK) (H' : Hp) (Q' : VK), Refd K b l t1 l2 t3 v c g H' → (∀ (v' : V) (H2 : Hp), Same H' H2 → Q' v' H2) → tl E H' Q')
    (k : ∀ (p : Addr) (H2 : Hp), ExtN H H2 → Refd K b l t1 l2 t3 v c g H2 → H2 p = some (.lst []) → Q (.ref p) H2) :
    LamX.Tabs (LLm.tabsOf K mkrN) H ∧ ∀ H1, ExtN H H1 → LamX.Tabs (LLm.tabsOf K mkrN) H1 → TWhy (He.ga K "InvalidName") tl H1 Q := by
  refine ⟨R.tabs, fun H1 e1 T1 m nm Q' hq => ?_⟩
  have R1 := R.ext e1 T1
  have s2 : Same H1 (upd H1 m (.lst [])) := same_upd nm
  refine ht _ _ _ (R1.same s2) fun v' H2 s3 => hq v' H2 (k m H2 (fun a o e n => (s2.trans s3) _ _ (e1 a o e n)) (R1.same (s2.trans s3)) (s3 _ _ upd_same))
theorem caught_bad (R : Refd K b l t1 l2 t3 v c g H) (tl : XK → Hp → VK → Prop)
    (ht : ∀ (E : XK) (H' : Hp) (Q' : VK), Refd K b l t1 l2 t3 v c g H' → (∀ (d : Addr) (H2 : Hp), Same H' H2 → H2 d = none → E (.ref (He.ga K "InvalidName")) (some d) (upd H2 d (.xd [("value", x)]))) → tl E H' Q')
    (k : ∀ (H2 : Hp), ExtN H H2 → Refd K b l t1 l2 t3 v c g H2 → Q (.bl true) H2) :
    LamX.Tabs (LLm.tabsOf K mkrN) H ∧ ∀ H1, ExtN H H1 → LamX.Tabs (LLm.tabsOf K mkrN) H1 → TCaught (He.ga K "InvalidName") tl H1 Q := by
  refine ⟨R.tabs, fun H1 e1 T1 Q' _ => ?_⟩
  have R1 := R.ext e1 T1
  refine ht _ _ _ R1 fun d H2 s3 nd => ⟨d, _, rfl, rfl, upd_same, ?_⟩
  have s4 : Same H1 (upd H2 d (.xd [("value", x)])) := s3.trans (same_upd nd)
  exact k _ (fun a o e n => s4 _ _ (e1 a o e n)) (R1.same s4)
/-- .. and is compared with [x] -/
theorem one_dp (R : Refd K b l t1 l2 t3 v c g H) (hx : x ∈ odds t1 l2 t3) {p q : Addr} (hp : H p = some (.lst [x])) (hq : H q = some (.lst [x])) : ∃ d, Dp K H (.ref p) (.list [d]) ∧ Dp K H (.ref q) (.list [d]) ∧ LL.Fit 2 (.list [d]) = true := by
  obtain ⟨d, h1, h2⟩ := (R.odd hx).dp
  refine ⟨d, .lst (sqL_of hp) (.cons h1 .nil), .lst (sqL_of hq) (.cons h1 .nil), ?_⟩
  unfold LL.Fit
  simp [h2]
end
def spRef (K : PySem.W.Frag) : Sp := fun vs H Q _ => ∃ (b : Addr) (v : V) (l : Addr) (g : List Str) (up : Bool) (c : Ci), vs = [.ref b, v, .ref l, .bl up] ∧ Bag H b ∧ CO (cC K) H v c ∧ Fit c ∧ c.size ≤ 20 ∧ Gone H l g ∧ l ≠ b ∧ LamX.Tabs (LLm.tabsOf K mkrN) H ∧
  ∀ H', Kx b H H' → Bag H' b → LamX.Tabs (LLm.tabsOf K mkrN) H' → Q (.bl true) H'
theorem C__law_refused_so (TW : TxtW w K mg) (SP : LXs.SupP P "/claim/cut.py") (TB : LLm.TBs K mg base mkrN) : Cal P w K mg base 160 "_law_refused_so" (spRef K) [] := by
  have T := TW.toTxt
  have TB : ∀ x ∈ mkrN, LamX.TabB base mg (LLm.codF K (He.ga K x)) (LLm.tabF K (He.ga K x)) := TB
  have C__law_of : Cal P w K mg base 2 "_law_of" (spOf K) [] := C__law_of T
  have C__law_same : Cal P w K mg base 3 "_law_same" (spSame K 3) [] := C__law_same T 3
  have C_out : LO.CalRX P w K mg base 152 "out" (LO.spSK (spOutX K) (.bl true)) := CX_out TW SP
  have CK_out : LO.CalRKX P w K mg base 152 "out" "above" (spOutX K) := CXK_out TW SP
  have G__law_why : LLm.Giv P w K mg base "_law_why" (TWhy (He.ga K "InvalidName")) := G__law_why T
  have G__law_caught : LLm.Giv P w K mg base "_law_caught" (TCaught (He.ga K "InvalidName")) := G__law_caught T
  obtain ⟨fd, F⟩ := T.F__law_refused_so
  have b : Binds K fd ["_law_bag_here", "_law_handed_here", "_law_gone", "_law_up"] [] := FunD.bindsN F fun _ _ _ _ _ _ us hl => match us, hl with | [_, _, _, _], _ => rfl
  refine LLm.calM F T.g__law_refused_so b sc__law_refused_so (fun vs H Q E h => ?_) (fun A outer s H vs Q E hr h => ?_)
  · obtain ⟨b, v, l, g, up, c, rfl, _⟩ := h
    rfl
  · obtain ⟨b, v, l, g, up, c, rfl, B, hc, hf, c20, hg, nlb, hT, q⟩ := h
    refine ⟨_, (pss_cons (ps_set (i := 4) sc__law_refused_so.nd rfl (Or.inl rfl) (pe_lst (pa_cons pe_non (pa_cons pe_bl (pa_cons pe_int (pa_cons pe_int (pa_cons pe_str (pa_cons pe_str (pa_cons pe_str (pa_cons pe_str (pa_cons pe_str (pa_cons (pe_tup (pa_cons pe_str pa_nil)) (pa_cons (pe_lst (pa_cons pe_str pa_nil)) (pa_cons pe_str (pa_cons (pe_tup pa_nil) (pa_cons pe_str pa_nil))))))))))))))))
  (pss_cons (ps_asg (pe_tup (pa_cons (pe_c C__law_of hr (by omega) rfl (pa_cons (pv 0) (pa_cons (pv 4) pa_nil))) (pa_cons (pe_c C__law_of hr (by omega) rfl (pa_cons (pv 0) (pa_cons (pv 4) pa_nil))) (pa_cons (pe_ix ix_list (pv 2) pe_int (fun _ _ => rfl)) pa_nil)))) (pg_tup rfl (pgs_cons (pg_name (i := 5) sc__law_refused_so.nd rfl (Or.inr rfl)) (pgs_cons (pg_name (i := 6) sc__law_refused_so.nd rfl (Or.inr rfl)) (pgs_cons (pg_name (i := 7) sc__law_refused_so.nd rfl (Or.inr rfl)) pgs_nil)))))
  (pss_cons (ps_if (pt_not (pt_val (pe_c C__law_same hr (by omega) rfl (pa_cons (LLm.pe_giv (k := 153) (T := LLm.tabsOf K mkrN) G__law_why rfl (TB "_law_refused_so" (by unfold mkrN; simp)) rfl (LLm.tabs_uniq T.x_mk (x := "_law_refused_so") (by unfold mkrN; simp)).1 (LLm.tabs_uniq T.x_mk (x := "_law_refused_so") (by unfold mkrN; simp)).2 hr (by omega) (LamX.lamS_by (sc := defScope s__law_refused_so) (by decide +kernel)) rfl (fun _ _ _ _ _ => rfl) (fun A outer s H E f c2 hr => (LO.pe_skKX CK_out hr (by omega) rfl (passes_call (takes_of rfl rfl rfl rfl) (fun _ _ _ _ h => h)) (pa_cons (pv 1) (pa_cons (pv 5) pa_nil)) (pk_cons (pv 3) pk_nil)))) (pa_cons (pe_lst (pa_cons (pv 5) pa_nil)) pa_nil)))))
    (pss_one (ps_ret pe_bl))
    pss_nil)
  (pss_cons (ps_if (pt_not (pt_val (pe_c C__law_same hr (by omega) rfl (pa_cons (LLm.pe_giv (k := 153) (T := LLm.tabsOf K mkrN) G__law_why rfl (TB "_law_refused_so" (by unfold mkrN; simp)) rfl (LLm.tabs_uniq T.x_mk (x := "_law_refused_so") (by unfold mkrN; simp)).1 (LLm.tabs_uniq T.x_mk (x := "_law_refused_so") (by unfold mkrN; simp)).2 hr (by omega) (LamX.lamS_by (sc := defScope s__law_refused_so) (by decide +kernel)) rfl (fun _ _ _ _ _ => rfl) (fun A outer s H E f c2 hr => (LO.pe_skKX CK_out hr (by omega) rfl (passes_call (takes_of rfl rfl rfl rfl) (fun _ _ _ _ h => h)) (pa_cons (pv 1) (pa_cons (pv 7) (pa_cons (pv 5) pa_nil))) (pk_cons (pv 3) pk_nil)))) (pa_cons (pe_lst (pa_cons (pv 5) pa_nil)) pa_nil)))))
    (pss_one (ps_ret pe_bl))
    pss_nil)
  (pss_cons (ps_if (pt_not (pt_val (pe_c C__law_same hr (by omega) rfl (pa_cons (LLm.pe_giv (k := 153) (T := LLm.tabsOf K mkrN) G__law_why rfl (TB "_law_refused_so" (by unfold mkrN; simp)) rfl (LLm.tabs_uniq T.x_mk (x := "_law_refused_so") (by unfold mkrN; simp)).1 (LLm.tabs_uniq T.x_mk (x := "_law_refused_so") (by unfold mkrN; simp)).2 hr (by omega) (LamX.lamS_by (sc := defScope s__law_refused_so) (by decide +kernel)) rfl (fun _ _ _ _ _ => rfl) (fun A outer s H E f c2 hr => (LO.pe_skKX CK_out hr (by omega) rfl (passes_call (takes_of rfl rfl rfl rfl) (fun _ _ _ _ h => h)) (pa_cons (pv 1) (pa_cons (pv 5) (pa_cons (pv 7) (pa_cons (pv 6) pa_nil)))) (pk_cons (pv 3) pk_nil)))) (pa_cons (pe_lst (pa_cons (pv 5) pa_nil)) pa_nil)))))
    (pss_one (ps_ret pe_bl))
    pss_nil)
  (pss_cons (ps_if (pt_not (pt_val (pe_c C__law_same hr (by omega) rfl (pa_cons (LLm.pe_giv (k := 153) (T := LLm.tabsOf K mkrN) G__law_why rfl (TB "_law_refused_so" (by unfold mkrN; simp)) rfl (LLm.tabs_uniq T.x_mk (x := "_law_refused_so") (by unfold mkrN; simp)).1 (LLm.tabs_uniq T.x_mk (x := "_law_refused_so") (by unfold mkrN; simp)).2 hr (by omega) (LamX.lamS_by (sc := defScope s__law_refused_so) (by decide +kernel)) rfl (fun _ _ _ _ _ => rfl) (fun A outer s H E f c2 hr => (LO.pe_cRX C_out hr (by omega) rfl (passes_call (takes_of rfl rfl rfl rfl) (fun _ _ _ _ h => h)) (pa_cons (pv 1) (pa_cons (pv 6) (pa_cons (pv 5) pa_nil)))))) (pa_cons (pe_lst (pa_cons (pv 6) pa_nil)) pa_nil)))))
    (pss_one (ps_ret pe_bl))
    pss_nil)
  (pss_cons (ps_if (pt_not (pt_val (LLm.pe_giv (k := 153) (T := LLm.tabsOf K mkrN) G__law_caught rfl (TB "_law_refused_so" (by unfold mkrN; simp)) rfl (LLm.tabs_uniq T.x_mk (x := "_law_refused_so") (by unfold mkrN; simp)).1 (LLm.tabs_uniq T.x_mk (x := "_law_refused_so") (by unfold mkrN; simp)).2 hr (by omega) (LamX.lamS_by (sc := defScope s__law_refused_so) (by decide +kernel)) rfl (fun _ _ _ _ _ => rfl) (fun A outer s H E f c2 hr => (LO.pe_cRX C_out hr (by omega) rfl (passes_call (takes_of rfl rfl rfl rfl) (fun _ _ _ _ h => h)) (pa_cons (pv 1) (pa_cons (pv 7) (pa_cons (pv 6) pa_nil))))))))
    (pss_one (ps_ret pe_bl))
    pss_nil)
  (pss_one (ps_ret (pe_cmpR (op_eqD hr.units) (LLm.pe_giv (k := 153) (T := LLm.tabsOf K mkrN) G__law_why rfl (TB "_law_refused_so" (by unfold mkrN; simp)) rfl (LLm.tabs_uniq T.x_mk (x := "_law_refused_so") (by unfold mkrN; simp)).1 (LLm.tabs_uniq T.x_mk (x := "_law_refused_so") (by unfold mkrN; simp)).2 hr (by omega) (LamX.lamS_by (sc := defScope s__law_refused_so) (by decide +kernel)) rfl (fun _ _ _ _ _ => rfl) (fun A outer s H E f c2 hr => (LO.pe_skKX CK_out hr (by omega) rfl (passes_call (takes_of rfl rfl rfl rfl) (fun _ _ _ _ h => h)) (pa_cons (pv 1) (pa_cons (pv 7) pa_nil)) (pk_cons (pv 3) pk_nil)))) (pe_lst pa_nil) (nomark _))))))))))), ?_⟩
    -- the wrong names
    obtain ⟨a0, g', rfl⟩ : ∃ a r, g = a :: r := by
      match g, hg.two with
      | a :: r, _ => exact ⟨a, r, rfl⟩
      | [], z => exact absurd z (by simp)
    have ha0 : isName a0 = true := hg.nm a0 List.mem_cons_self
    refine ⟨(show 1 ≤ sizeLine by decide), fun t1 n1 => ⟨(show 1 ≤ sizeLine by decide), fun l2 n2 => ⟨(show 0 ≤ sizeLine by decide), fun t3 n3 => ⟨(show 14 ≤ sizeLine by decide), fun o no => ?_⟩⟩⟩⟩
    have u1 := same_upd n1 (o := .tup [.str "a"])
    have u2 := same_upd n2 (o := .lst [.str "a"])
    have u3 := same_upd n3 (o := .tup [])
    have u4 := same_upd no (o := .lst (odds t1 l2 t3))
    have s4 := ((u1.trans u2).trans u3).trans u4
    have B4 := (Kp.of (b := b) s4).bag B
    have nob : o ≠ b := ((Kp.of (b := b) ((u1.trans u2).trans u3)).bag B).ne no
    have nt1 : t1 ≠ b := B.ne n1
    have nl2 : l2 ≠ b := ((Kp.of (b := b) u1).bag B).ne n2
    have nt3 : t3 ≠ b := ((Kp.of (b := b) (u1.trans u2)).bag B).ne n3
    have f1 := ((u2.trans u3).trans u4) _ _ upd_same
    have f2 := (u3.trans u4) _ _ upd_same
    have f3 := u4 _ _ upd_same
    have lo : 0 < (odds t1 l2 t3).length ∧ (odds t1 l2 t3).length ≤ 1000000 := ⟨Nat.lt_of_lt_of_le (by decide) (show 14 ≤ 14 from Nat.le_refl _), Nat.le_trans (show 14 ≤ 14 from Nat.le_refl _) (by decide)⟩
    -- three of them, the first two drawn
    refine ⟨_, rfl, _, rfl, b, .ref o, rfl, B4, .inl ⟨o, odds t1 l2 t3, rfl, nob, sqL_of upd_same, lo.1, lo.2, fun j1 x1 o1 hj1 k1 => ?_⟩⟩
    refine ⟨_, rfl, _, rfl, b, .ref o, rfl, k1.bag B4, .inl ⟨o, odds t1 l2 t3, rfl, nob, sqL_kp k1 nob (sqL_of upd_same), lo.1, lo.2, fun j2 x2 o2 hj2 k2 => ?_⟩⟩
    have hx1 := List.mem_of_getElem? hj1
    have hx2 := List.mem_of_getElem? hj2
    have k12 := k1.trans k2
    refine ⟨_, rfl, l, (a0 :: g').map V.str, ((0 : Nat) : Int), .str a0, rfl, rfl, sqL_of (k12.1 _ _ nlb (s4 _ _ hg.at_)), atI_nat rfl, ?_⟩
    refine ⟨(show 3 ≤ sizeLine by decide), fun t nt => ?_⟩
    have u5 := same_upd nt (o := .tup [x1, x2, .str a0])
    refine ⟨t, _, rfl, sqT_of upd_same, rfl, _, _, rfl, _, _, rfl, _, _, rfl, rfl, ?_⟩
    have kx7 : Kx b H _ := ((Kx.same s4).trans (Kx.kp k12)).trans (Kx.same u5)
    have R7 : Refd K b l t1 l2 t3 v c (a0 :: g') _ := ⟨(Kp.of (b := b) u5).bag (k12.bag B4), co_mono (Kc.of u5) (co_mono (Kc.kp k12 B4) (co_mono (Kc.of s4) hc)), ⟨u5 _ _ (k12.1 _ _ nlb (s4 _ _ hg.at_)), hg.nm, hg.two⟩,
      u5 _ _ (k12.1 _ _ nt1 f1), u5 _ _ (k12.1 _ _ nl2 f2), u5 _ _ (k12.1 _ _ nt3 f3), tabs_kp hT B (((Kp.of (b := b) s4).trans k12).trans (Kp.of u5))⟩
    generalize upd _ t (.tup [x1, x2, .str a0]) = H7 at *
    have nmf : ∀ z ∈ [a0], isName z = true := fun z hz => by rw [List.mem_singleton.mp hz]; exact ha0
    clear f1 f2 f3 u5 nt k12 k1 k2 B4 s4 u1 u2 u3 u4
    -- the first is wrong
    refine why_bad (x := x1) R7 _ (fun E H' Q' R' q' => ⟨_, rfl, _, rfl, _, rfl, _, rfl, out_bad (g := []) (rest := []) R'.co hf c20 (fun _ z => nomatch z) (R'.odd hx1).no (show 0 ≤ 10 by decide) q'⟩) fun p H8 e8 R8 hp => ?_
    refine ⟨_, rfl, (show 1 ≤ sizeLine by decide), fun p2 np2 => ?_⟩
    have s9 := same_upd np2 (o := .lst [x1])
    obtain ⟨d, g1, g2, g3⟩ := one_dp (R8.same s9) hx1 (s9 _ _ hp) upd_same
    refine ⟨.ref p, .ref p2, .list [d], rfl, g1, g2, g3, fun H9 s9' => ⟨_, rfl, iteF ?_⟩⟩
    have R9 := (R8.same s9).same s9'
    clear g1 g2 g3 d
    have e79 := (e8.trans (ext_same s9)).trans (ext_same s9')
    clear hp e8 R8 s9 s9' np2 R7
    -- the second is wrong
    refine why_bad (x := x1) R9 _ (fun E H' Q' R' q' => ⟨_, rfl, _, rfl, _, rfl, _, rfl, _, rfl, out_bad (g := [a0]) (rest := []) R'.co hf c20 nmf (R'.odd hx1).no (show 1 ≤ 10 by decide) q'⟩) fun p H10 e10 R10 hp => ?_
    refine ⟨_, rfl, (show 1 ≤ sizeLine by decide), fun p2 np2 => ?_⟩
    have s11 := same_upd np2 (o := .lst [x1])
    obtain ⟨d, g1, g2, g3⟩ := one_dp (R10.same s11) hx1 (s11 _ _ hp) upd_same
    refine ⟨.ref p, .ref p2, .list [d], rfl, g1, g2, g3, fun H11 s11' => ⟨_, rfl, iteF ?_⟩⟩
    have R11 := (R10.same s11).same s11'
    clear g1 g2 g3 d
    have e711 := ((e79.trans e10).trans (ext_same s11)).trans (ext_same s11')
    clear hp e10 R10 s11 s11' np2 R9 e79
    -- the first and the third are wrong
    refine why_bad (x := x1) R11 _ (fun E H' Q' R' q' => ⟨_, rfl, _, rfl, _, rfl, _, rfl, _, rfl, _, rfl, out_bad (g := []) (rest := [.str a0, x2]) R'.co hf c20 (fun _ z => nomatch z) (R'.odd hx1).no (show 2 ≤ 10 by decide) q'⟩) fun p H12 e12 R12 hp => ?_
    refine ⟨_, rfl, (show 1 ≤ sizeLine by decide), fun p2 np2 => ?_⟩
    have s13 := same_upd np2 (o := .lst [x1])
    obtain ⟨d, g1, g2, g3⟩ := one_dp (R12.same s13) hx1 (s13 _ _ hp) upd_same
    refine ⟨.ref p, .ref p2, .list [d], rfl, g1, g2, g3, fun H13 s13' => ⟨_, rfl, iteF ?_⟩⟩
    have R13 := (R12.same s13).same s13'
    clear g1 g2 g3 d
    have e713 := ((e711.trans e12).trans (ext_same s13)).trans (ext_same s13')
    clear hp e12 R12 s13 s13' np2 R11 e711
    -- both are wrong
    refine why_bad (x := x2) R13 _ (fun E H' Q' R' q' => ⟨_, rfl, _, rfl, _, rfl, out_bad (g := []) (rest := [x1]) R'.co hf c20 (fun _ z => nomatch z) (R'.odd hx2).no (show 1 ≤ 10 by decide) q'⟩) fun p H14 e14 R14 hp => ?_
    refine ⟨_, rfl, (show 1 ≤ sizeLine by decide), fun p2 np2 => ?_⟩
    have s15 := same_upd np2 (o := .lst [x2])
    obtain ⟨d, g1, g2, g3⟩ := one_dp (R14.same s15) hx2 (s15 _ _ hp) upd_same
    refine ⟨.ref p, .ref p2, .list [d], rfl, g1, g2, g3, fun H15 s15' => ⟨_, rfl, iteF ?_⟩⟩
    have R15 := (R14.same s15).same s15'
    clear g1 g2 g3 d
    have e715 := ((e713.trans e14).trans (ext_same s15)).trans (ext_same s15')
    clear hp e14 R14 s15 s15' np2 R13 e713
    -- it is an error of ours, and a ValueError
    refine caught_bad (x := x2) R15 _ (fun E H' Q' R' q' => ⟨_, rfl, _, rfl, _, rfl, out_bad (g := [a0]) (rest := []) R'.co hf c20 nmf (R'.odd hx2).no (show 1 ≤ 10 by decide) q'⟩) fun H16 e16 R16 => ⟨_, rfl, iteF ?_⟩
    have e716 := e715.trans e16
    -- nothing is wrong
    refine why_good R16 _ (fun E H' Q' R' q' => ⟨_, rfl, _, rfl, _, rfl, _, rfl, out_good (g := [a0]) R'.co hf c20 nmf (show 1 ≤ 3 by decide) q'⟩) fun p H17 e17 R17 hp => ⟨(show 0 ≤ sizeLine by decide), fun p2 np2 => ?_⟩
    have s18 := same_upd np2 (o := .lst [])
    have R18 := R17.same s18
    refine ⟨.list [], .list [], .lst (sqL_of (s18 _ _ hp)) .nil, .lst (sqL_of upd_same) .nil, rfl, rfl, ?_⟩
    exact q _ (kx7.trans (Kx.ext ((e716.trans e17).trans (ext_same s18)))) R18.bag R18.tabs

end
end K34
namespace K34
open PySem PySem.Spec PyProof.Rows L2 RZ LL LC LS LR LD LN LY LOr
open C8 (Cal Mak Met CalAt pe_c pe_mk pe_mt pe_mt0 pe_gc)
section
variable {P : Program} {w : World} {K : PySem.W.Frag} {mg : Str → Option Value} {base : Heap}
/-! ### the law -/
def spOrder (K : PySem.W.Frag) : Sp := fun vs H Q _ => ∃ (b : Addr) (v : V) (l : Addr) (g : List Str) (up : Bool) (c : Ci), vs = [.ref b, v, .ref l, .bl up] ∧ Bag H b ∧ CO (cC K) H v c ∧ Fit c ∧ c.size ≤ 20 ∧ Gone H l g ∧ l ≠ b ∧ ∀ H', Kp b H H' → Q (.bl true) H'
theorem Gone.kp {b : Addr} {H H' : Hp} {l : Addr} {g : List Str} (h : Gone H l g) (n : l ≠ b) (k : Kp b H H') : Gone H' l g := ⟨k.1 _ _ n h.at_, h.nm, h.two⟩
theorem Gone.perm {H : Hp} {l : Addr} {g : List Str} {H' : Hp} {p : Addr} {ys : List V} (h : Gone H l g) (hp : H' p = some (.lst ys)) (e : ys.Perm (g.map V.str)) : ∃ g', Gone H' p g' ∧ ys = g'.map V.str ∧ ∀ x, x ∈ g' ↔ x ∈ g := by
  obtain ⟨g', rfl, pm⟩ := perm_map_inv e g rfl
  exact ⟨g', ⟨hp, fun z hz => h.nm z (pm.mem_iff.mp hz), by rw [pm.length_eq]; exact h.two⟩, rfl, fun x => pm.mem_iff⟩
theorem C__law_order_so (TW : TxtW w K mg) (SP : LXs.SupP P "/claim/cut.py") : Cal P w K mg base 160 "_law_order_so" (spOrder K) [] := by
  have T := TW.toTxt
  have C__law_mixed : Cal P w K mg base 2 "_law_mixed" (spMixed K) [] := C__law_mixed T
  have C__law_word : Cal P w K mg base 6 "_law_word" (spWord K) [] := C__law_word T
  have C__law_at_once : Cal P w K mg base 153 "_law_at_once" (spOnce K) [] := C__law_at_once TW SP
  have C__law_one_by_one : Cal P w K mg base 153 "_law_one_by_one" (spOnce K) [] := C__law_one_by_one TW SP
  have CK_out : LO.CalRK P w K mg base 152 "out" "above" (fun vs H Q _ => spOutX K vs H Q fun _ _ _ => False) := CK_out TW SP
  obtain ⟨fd, F⟩ := T.F__law_order_so
  have b : Binds K fd ["_law_bag_here", "_law_handed_here", "_law_gone", "_law_up"] [] := FunD.bindsN F fun _ _ _ _ _ _ us hl => match us, hl with | [_, _, _, _], _ => rfl
  refine calD F T.g__law_order_so b sc__law_order_so (fun vs H Q E h => ?_) (fun cdv A outer s H vs Q E hr h => ?_)
  · obtain ⟨b, v, l, g, up, c, rfl, _⟩ := h
    rfl
  · obtain ⟨b, v, l, g, up, c, rfl, B, hc, hf, c20, hg, nlb, q⟩ := h
    refine ⟨_, (pss_cons (ps_set (i := 4) sc__law_order_so.nd rfl (Or.inl rfl) (pe_c C__law_word hr (by omega) rfl (pa_cons (pe_c C__law_at_once hr (by omega) rfl (pa_cons (pv 1) (pa_cons (pv 2) (pa_cons (pv 3) pa_nil)))) pa_nil)))
  (pss_cons (ps_for PassesOwn.never rfl (pi_range1 rfl T.z_range (pa_cons pe_int pa_nil)) (pg_name (i := 5) sc__law_order_so.nd rfl (Or.inl rfl))
    (pss_cons (ps_set (i := 6) sc__law_order_so.nd rfl (Or.inl rfl) (pe_c C__law_mixed hr (by omega) rfl (pa_cons (pv 0) (pa_cons (pv 2) pa_nil))))
    (pss_cons (ps_if (pt_cmpR op_ne (pe_c C__law_word hr (by omega) rfl (pa_cons (pe_c C__law_at_once hr (by omega) rfl (pa_cons (pv 1) (pa_cons (pv 6) (pa_cons (pv 3) pa_nil)))) pa_nil)) (pv 4) (nomark _))
      (pss_one (ps_ret pe_bl))
      pss_nil)
    (pss_one (ps_if (pt_cmpR op_ne (pe_c C__law_word hr (by omega) rfl (pa_cons (pe_c C__law_one_by_one hr (by omega) rfl (pa_cons (pv 1) (pa_cons (pv 6) (pa_cons (pv 3) pa_nil)))) pa_nil)) (pv 4) (nomark _))
      (pss_one (ps_ret pe_bl))
      pss_nil)))))
  (pss_cons (ps_set (i := 7) sc__law_order_so.nd rfl (Or.inl rfl) (LO.pe_skK CK_out hr (by omega) rfl (pa_cons (pv 1) (pa_cons (pe_ix ix_list (pv 2) pe_int (fun _ _ => rfl)) pa_nil)) (pk_cons (pv 3) pk_nil)))
  (pss_one (ps_ret (pe_or (pe_cmpR op_eq (pv 4) pe_str (nomark _)) (pe_one (pe_and (pe_cmpR op_notN (pv 7) pe_non (nomark _)) (pe_one (pe_cmpR op_eq (pe_c C__law_word hr (by omega) rfl (pa_cons (pe_c C__law_at_once hr (by omega) rfl (pa_cons (pv 7) (pa_cons (pv 2) (pa_cons (pv 3) pa_nil)))) pa_nil)) (pv 4) (nomark _))))))))))), ?_⟩
    obtain ⟨a0, g', rfl⟩ : ∃ a r, g = a :: r := by
      match g, hg.two with
      | a :: r, _ => exact ⟨a, r, rfl⟩
      | [], z => exact absurd z (by simp)
    have ha0 : isName a0 = true := hg.nm a0 List.mem_cons_self
    have l3 : (a0 :: g').length ≤ 3 := by
      rcases hg.two with z | z <;> omega
    refine ⟨_, rfl, _, rfl, _, rfl, v, l, a0 :: g', up, c, rfl, hc, hf, c20, hg, fun v1 H1 o s1 ho1 r1 => ⟨v1, o, rfl, ho1, ?_⟩⟩
    have B1 := (Kp.of (b := b) s1).bag B
    refine ⟨2, rfl, by decide, by decide, ?_⟩
    refine for_it (walk_range (lo := 0) (n := (2 : Int).toNat)) (fun i σ H2 => (∃ a5 a6, σ = [some (.ref b), some v, some (.ref l), some (.bl up), some (.str (wordO o)), a5, a6, none]) ∧ Kp b H H2) ⟨⟨none, none, rfl⟩, Kp.of s1⟩ (fun _ _ _ _ _ => True.intro) ?_ ?_
    · rintro i x σ H2 H3 hi ⟨⟨a5, a6, rfl⟩, k3⟩ ⟨rfl, rfl⟩
      have B3 := k3.bag B
      have hg3 := hg.kp nlb k3
      refine ⟨_, rfl, _, rfl, b, _, _, rfl, B3, .inl ⟨l, rfl, nlb, sqL_of hg3.at_⟩, by rw [List.length_map]; omega, fun H4 p ys k4 np hp perm => ?_⟩
      obtain ⟨g4, hg4, rfl, m4⟩ := hg3.perm hp perm
      have k04 := k3.trans k4
      have hc4 := co_mono (Kc.kp k04 B) hc
      refine ⟨_, rfl, _, rfl, _, rfl, v, p, g4, up, c, rfl, hc4, hf, c20, hg4, fun v5 H5 o5 s5 ho5 r5 => ⟨v5, o5, rfl, ho5, _, rfl, rfl, _, rfl, ?_⟩⟩
      have e5 : o5 = o := (r5.ext m4).one r1
      subst e5
      rw [show (!decide (V.str (wordO o5) = V.str (wordO o5))) = false by simp]
      refine iteF ?_
      refine ⟨_, rfl, _, rfl, _, rfl, v, p, g4, up, c, rfl, co_mono (Kc.of s5) hc4, hf, c20, hg4.same s5, fun v6 H6 o6 s6 ho6 r6 => ⟨v6, o6, rfl, ho6, _, rfl, rfl, _, rfl, ?_⟩⟩
      have e6 : o6 = o5 := (r6.ext m4).one r1
      subst e6
      rw [show (!decide (V.str (wordO o6) = V.str (wordO o6))) = false by simp]
      exact iteF ⟨⟨_, _, rfl⟩, (k04.trans (Kp.of s5)).trans (Kp.of s6)⟩
    · rintro σ H2 ⟨⟨a5, a6, rfl⟩, k2⟩
      have hg2 := hg.kp nlb k2
      have hc2 := co_mono (Kc.kp k2 B) hc
      refine ⟨_, rfl, _, rfl, l, (a0 :: g').map V.str, ((0 : Nat) : Int), .str a0, rfl, rfl, sqL_of hg2.at_, atI_nat rfl, _, rfl, _, rfl, out_sk (g := [a0]) hc2 hf c20 (fun z hz => by rw [List.mem_singleton.mp hz]; exact ha0) (show 1 ≤ 3 by decide) fun v6 H6 o6 s6 ho6 r6 => ?_⟩
      have k6 := k2.trans (Kp.of s6)
      have in1 : ∀ x ∈ [a0], x ∈ a0 :: g' := fun x hx => by rw [List.mem_singleton.mp hx]; exact List.mem_cons_self
      refine ⟨_, rfl, rfl, _, rfl, ?_⟩
      cases hb : decide (V.str (wordO o) = V.str "") with
      | true => exact iteT (q H6 k6)
      | false =>
        refine iteF ?_
        cases o with
        | none => exact absurd hb (by simp [wordO])
        | some e =>
          obtain ⟨w6, rfl⟩ := r6.some_of in1 r1
          have ho6 : CO (cC K) H6 v6 w6 := ho6
          obtain ⟨aw, _, _, _, rfl, _⟩ := co_ref ho6
          refine ⟨_, rfl, rfl, _, rfl, ?_⟩
          rw [show (!decide (V.ref aw = V.non)) = true by simp]
          refine iteT ⟨_, rfl, _, rfl, _, rfl, .ref aw, l, a0 :: g', up, w6, rfl, ho6, r6.fit, Nat.le_trans (r6.sz w6 rfl) c20, hg2.same s6, fun v7 H7 o7 s7 ho7 r7 => ⟨v7, o7, rfl, ho7, _, rfl, rfl, ?_⟩⟩
          have e7 : o7 = some e := (r6.comp in1 r7).one r1
          subst e7
          rw [show decide (V.str (wordO (some e)) = V.str (wordO (some e))) = true by simp]
          exact q H7 (k6.trans (Kp.of s7))
def spMirSo (K : PySem.W.Frag) : Sp := fun vs H Q _ => ∃ (v : V) (l : Addr) (g : List Str) (c : Ci), vs = [v, .ref l] ∧ CO (cC K) H v c ∧ Fit c ∧ c.size ≤ 20 ∧ Gone H l g ∧ ∀ H', Same H H' → Q (.bl true) H'
theorem C__law_mirror_so (TW : TxtW w K mg) (SP : LXs.SupP P "/claim/cut.py") : Cal P w K mg base 160 "_law_mirror_so" (spMirSo K) [] := by
  have T := TW.toTxt
  have C__law_word : Cal P w K mg base 6 "_law_word" (spWord K) [] := C__law_word T
  have C__law_at_once : Cal P w K mg base 153 "_law_at_once" (spOnce K) [] := C__law_at_once TW SP
  have C_mirrored : Cal P w K mg base 32 "mirrored" (spMir K 21) [] := C_mirrored TW 21
  have C_key_of : Cal P w K mg base 151 "key_of" (spKeyOf K) [] := C_key_of TW
  have M_Circle___str__ : Met P w K mg base 1 (cC K) "__str__" (spStr K) [] := M_Circle___str__ T
  obtain ⟨fd, F⟩ := T.F__law_mirror_so
  have b : Binds K fd ["_law_handed_here", "_law_gone"] [] := FunD.bindsN F fun _ _ _ _ _ _ us hl => match us, hl with | [_, _], _ => rfl
  refine calD F T.g__law_mirror_so b sc__law_mirror_so (fun vs H Q E h => ?_) (fun cdv A outer s H vs Q E hr h => ?_)
  · obtain ⟨v, l, g, c, rfl, _⟩ := h
    rfl
  · obtain ⟨v, l, g, c, rfl, hc, hf, c20, hg, q⟩ := h
    refine ⟨_, (pss_cons (ps_set (i := 2) sc__law_mirror_so.nd rfl (Or.inl rfl) (pe_c C__law_at_once hr (by omega) rfl (pa_cons (pe_c C_mirrored hr (by omega) rfl (pa_cons (pv 0) pa_nil)) (pa_cons (pv 1) (pa_cons pe_bl pa_nil)))))
  (pss_cons (ps_set (i := 3) sc__law_mirror_so.nd rfl (Or.inl rfl) (pe_ifExp (pt_cmpR op_isN (pv 2) pe_non (nomark _)) pe_str (pe_callTy (LO.cr_strO M_Circle___str__ hr (by omega)) (by rfl) T.z_str (by decide +kernel) (pa_cons (pe_c C_key_of hr (by omega) rfl (pa_cons (pe_c C_mirrored hr (by omega) rfl (pa_cons (pv 2) pa_nil)) pa_nil)) pa_nil))))
  (pss_one (ps_ret (pe_cmpR op_eq (pe_c C__law_word hr (by omega) rfl (pa_cons (pe_c C__law_at_once hr (by omega) rfl (pa_cons (pv 0) (pa_cons (pv 1) (pa_cons pe_bl pa_nil)))) pa_nil)) (pv 3) (nomark _)))))), ?_⟩
    have fm := mir_fit _ (Nat.le_refl _) hf
    have hd := hf.depth
    refine ⟨_, rfl, v, c, rfl, hc, hf, by omega, fun v1 H1 s1 hm => ⟨_, rfl, v1, l, g, true, mir c, rfl, hm, fm, by rw [mir_size]; exact c20, hg.same s1, fun v2 H2 o s2 ho r2 => ?_⟩⟩
    have s12 := s1.trans s2
    cases o with
    | none =>
      have ho : v2 = .non := ho
      subst ho
      refine ⟨_, rfl, rfl, _, rfl, ?_⟩
      rw [show decide (V.non = V.non) = true by simp]
      refine iteT ⟨_, rfl, _, rfl, v, l, g, false, c, rfl, co_mono (Kc.of s12) hc, hf, c20, hg.same s12, fun v3 H3 o3 s3 ho3 r3 => ⟨v3, o3, rfl, ho3, _, rfl, rfl, ?_⟩⟩
      have e3 : o3 = none := r3.one (res_mirn r2)
      subst e3
      rw [show decide (V.str (wordO none) = V.str "") = true by decide +kernel]
      exact q H3 (s12.trans s3)
    | some e =>
      have ho : CO (cC K) H2 v2 e := ho
      obtain ⟨ae, _, _, _, rfl, _⟩ := co_ref ho
      have fe := r2.fit
      have de := fe.depth
      have e20 : e.size ≤ 20 := by
        have z := r2.sz e rfl
        rw [mir_size] at z
        omega
      have fme := mir_fit _ (Nat.le_refl _) fe
      refine ⟨_, rfl, rfl, _, rfl, ?_⟩
      rw [show decide (V.ref ae = V.non) = false by simp]
      refine iteF ⟨_, rfl, .ref ae, e, rfl, ho, fe, by omega, fun v4 H4 s4 hm4 => ⟨v4, mir e, rfl, hm4, fme, kcost_20 fme.wf (by rw [mir_size]; exact e20), fun v5 H5 k s5 hc5 n5 a5 t5 => ?_⟩⟩
      obtain ⟨ak, ax, ar, at', rfl, hak⟩ := co_ref hc5
      refine ⟨ak, ax, _, rfl, hak, _, k, rfl, hc5, k.text, rfl, ?_⟩
      have s15 := (s12.trans s4).trans s5
      refine ⟨_, rfl, _, rfl, v, l, g, false, c, rfl, co_mono (Kc.of s15) hc, hf, c20, hg.same s15, fun v3 H3 o3 s3 ho3 r3 => ⟨v3, o3, rfl, ho3, _, rfl, rfl, ?_⟩⟩
      have e3 : o3 = some k := r3.one (res_mir r2 hf n5 a5 t5)
      subst e3
      rw [show decide (V.str (wordO (some k)) = V.str k.text) = true by simp [wordO]]
      exact q H3 (s15.trans s3)
def spLaw (K : PySem.W.Frag) : Sp := fun vs H Q _ => ∃ (a : Addr) (ns : List Int), vs = [.ref a] ∧ SqL K H a (ns.map V.int) ∧ ns.length ≤ 63 ∧ LamX.Tabs (LLm.tabsOf K mkrN) H ∧ ∀ H', Q (.bl true) H'
theorem O_law (TW : TxtW w K mg) (SP : LXs.SupP P "/claim/cut.py") (TB : LLm.TBs K mg base mkrN) : ∃ fd, FunD K d_law.name d_law.qual d_law.params d_law.body d_law.scope (d_law.dvs K) (d_law.kws K) (He.fAd K d_law.at_) fd ∧ FnOk P w K mg base CX0 170 (He.fAd K d_law.at_) fd ["_law_script"] (spLaw K) := by
  have T := TW.toTxt
  have C__law_bag : Cal P w K mg base 1 "_law_bag" (spBag K) [] := C__law_bag T
  have C__law_draw : Cal P w K mg base 1 "_law_draw" spDraw [] := C__law_draw T
  have C__law_of : Cal P w K mg base 2 "_law_of" (spOf K) [] := C__law_of T
  have C__law_names : Cal P w K mg base 3 "_law_names" (spNames K) [] := C__law_names T
  have C__law_any : Cal P w K mg base 9 "_law_any" (spAny K) [] := C__law_any T
  have C__law_handed : Cal P w K mg base 33 "_law_handed" (spHand K) [] := C__law_handed TW
  have C__law_word : Cal P w K mg base 6 "_law_word" (spWord K) [] := C__law_word T
  have C__law_order_so : Cal P w K mg base 160 "_law_order_so" (spOrder K) [] := C__law_order_so TW SP
  have C__law_mirror_so : Cal P w K mg base 160 "_law_mirror_so" (spMirSo K) [] := C__law_mirror_so TW SP
  have C__law_refused_so : Cal P w K mg base 160 "_law_refused_so" (spRef K) [] := C__law_refused_so TW SP TB
  have C_key_of : Cal P w K mg base 151 "key_of" (spKeyOf K) [] := C_key_of TW
  have CK_out : LO.CalRK P w K mg base 152 "out" "above" (fun vs H Q _ => spOutX K vs H Q fun _ _ _ => False) := CK_out TW SP
  have M_Circle___str__ : Met P w K mg base 1 (cC K) "__str__" (spStr K) [] := M_Circle___str__ T
  obtain ⟨fd, F⟩ := T.F_law
  refine ⟨fd, F, fnD F sc_law (fun vs H Q E h => ?_) (fun cdv A outer s H vs Q E hr h => ?_)⟩
  · obtain ⟨a, ns, rfl, _⟩ := h
    rfl
  · obtain ⟨a, ns, rfl, hS, hl, hT, q⟩ := h
    refine ⟨_, (pss_cons (ps_set (i := 1) sc_law.nd rfl (Or.inr rfl) (pe_c C__law_bag hr (by omega) rfl (pa_cons (pv 0) pa_nil)))
  (pss_cons (ps_set (i := 2) sc_law.nd rfl (Or.inr rfl) (pe_c C__law_names hr (by omega) rfl (pa_cons (pv 1) (pa_cons pe_int pa_nil))))
  (pss_cons (ps_for PassesOwn.never rfl (pi_range1 rfl T.z_range (pa_cons pe_int pa_nil)) (pg_name (i := 3) sc_law.nd rfl (Or.inl rfl))
    (pss_cons (ps_set (i := 4) sc_law.nd rfl (Or.inl rfl) (pe_c C__law_any hr (by omega) rfl (pa_cons (pv 1) (pa_cons (pe_slice sl_list (pv 2) po_none (po_some pe_int)) pa_nil))))
    (pss_cons (ps_set (i := 5) sc_law.nd rfl (Or.inl rfl) (pe_c C__law_handed hr (by omega) rfl (pa_cons (pv 1) (pa_cons (pv 4) pa_nil))))
    (pss_cons (ps_setLc (i := 6) (own := [("_law_k", 7)]) (g := gName 7) (tt := tYes) rfl sc_law.nd rfl rfl (sw_true rfl rfl rfl (by decide +kernel)) (pi_range1 rfl T.z_range (pa_cons (pe_op op_add pe_int (pe_c C__law_draw hr (by omega) rfl (pa_cons (pv 1) (pa_cons pe_int pa_nil)))) pa_nil)) (blkOk_by (N := N_law) (sc := defScope s_law) (by decide +kernel)) (fun _ _ _ _ _ => pg_name (i := 7) sc_law.nd rfl (Or.inl rfl)) (fun _ _ _ _ _ => pts_nil) (fun _ _ _ _ _ => (pe_c C__law_of hr (by omega) rfl (pa_cons (pv 1) (pa_cons (pv 2) pa_nil)))))
    (pss_cons (ps_for PassesOwn.never rfl (pi_list (pe_lst (pa_cons pe_bl (pa_cons pe_bl pa_nil)))) (pg_name (i := 8) sc_law.nd rfl (Or.inl rfl))
      (pss_cons (ps_if (PW.pt (pw_or (pt_not (pt_val (pe_c C__law_order_so hr (by omega) rfl (pa_cons (pv 1) (pa_cons (pv 5) (pa_cons (pv 6) (pa_cons (pv 8) pa_nil))))))) (pw_or1 (pt_not (pt_val (pe_c C__law_refused_so hr (by omega) rfl (pa_cons (pv 1) (pa_cons (pv 5) (pa_cons (pv 6) (pa_cons (pv 8) pa_nil))))))))))
        (pss_one (ps_ret pe_bl))
        pss_nil)
      (pss_cons (ps_if (pt_cmpR op_ne (pe_c C__law_word hr (by omega) rfl (pa_cons (LO.pe_skK CK_out hr (by omega) rfl (pa_cons (pv 5) (pa_cons (pe_ix ix_list (pv 2) pe_int (fun _ _ => rfl)) pa_nil)) (pk_cons (pv 8) pk_nil)) pa_nil)) (pe_callTy (LO.cr_strO M_Circle___str__ hr (by omega)) (by rfl) T.z_str (by decide +kernel) (pa_cons (pe_c C_key_of hr (by omega) rfl (pa_cons (pv 5) pa_nil)) pa_nil)) (nomark _))
        (pss_one (ps_ret pe_bl))
        pss_nil)
      (pss_one (ps_if (pt_cmpR op_ne (pe_callTy (LO.cr_strO M_Circle___str__ hr (by omega)) (by rfl) T.z_str (by decide +kernel) (pa_cons (LO.pe_skK CK_out hr (by omega) rfl (pa_cons (pv 5) pa_nil) (pk_cons (pv 8) pk_nil)) pa_nil)) (pe_callTy (LO.cr_strO M_Circle___str__ hr (by omega)) (by rfl) T.z_str (by decide +kernel) (pa_cons (pe_c C_key_of hr (by omega) rfl (pa_cons (pv 5) pa_nil)) pa_nil)) (nomark _))
        (pss_one (ps_ret pe_bl))
        pss_nil)))))
    (pss_one (ps_if (PW.pt (pw_or (pt_not (pt_val (pe_c C__law_mirror_so hr (by omega) rfl (pa_cons (pv 5) (pa_cons (pv 6) pa_nil))))) (pw_or1 (pt_cmpR op_ne (pe_callTy (LO.cr_strO M_Circle___str__ hr (by omega)) (by rfl) T.z_str (by decide +kernel) (pa_cons (pv 5) pa_nil)) (pe_ix ix_tup (pv 4) pe_int (fun _ _ => rfl)) (nomark _)))))
      (pss_one (ps_ret pe_bl))
      pss_nil)))))))
  (pss_one (ps_ret pe_bl))))), ?_⟩
    refine ⟨_, rfl, a, ns, rfl, hS, hl, fun b H1 s1 nb B1 => ?_⟩
    have T1 : LamX.Tabs (LLm.tabsOf K mkrN) H1 := hT.ext fun a o e => s1 a o e
    refine ⟨_, rfl, b, 5, rfl, B1, by decide, fun H2 nl zs k2 nnl hnl hzl hzn hnd => ?_⟩
    have B2 := k2.bag B1
    have T2 := tabs_kp T1 B1 k2
    have nlb : nl ≠ b := B1.ne nnl
    obtain ⟨z0, z1, z2, z3, z4, rfl⟩ : ∃ z0 z1 z2 z3 z4, zs = [z0, z1, z2, z3, z4] := by
      match zs, hzl with
      | [z0, z1, z2, z3, z4], _ => exact ⟨z0, z1, z2, z3, z4, rfl⟩
    refine ⟨2, rfl, by decide, by decide, ?_⟩
    refine for_it (walk_range (lo := 0) (n := (2 : Int).toNat)) (fun i σ H3 => (∃ a3 a4 a5 a6 a7 a8, σ = [some (.ref a), some (.ref b), some (.ref nl), a3, a4, a5, a6, a7, a8]) ∧ Bag H3 b ∧ LamX.Tabs (LLm.tabsOf K mkrN) H3 ∧ H3 nl = some (.lst (([z0, z1, z2, z3, z4] : List Str).map V.str))) ⟨⟨none, none, none, none, none, none, rfl⟩, B2, T2, hnl⟩ (fun _ _ _ _ _ => True.intro) ?_ ?_
    · rintro i x σ H2' H3 hi ⟨⟨a3, a4, a5, a6, a7, a8, rfl⟩, B3, T3, hnl3⟩ ⟨rfl, rfl⟩
      -- a circle over four of the names
      refine ⟨_, rfl, _, rfl, _, rfl, nl, _, rfl, sqL_of hnl3, fun p1 np1 => ?_⟩
      rw [show cutV (([z0, z1, z2, z3, z4] : List Str).map V.str) none (some (4 : Int)) = ([z0, z1, z2, z3] : List Str).map V.str by rw [show (4 : Int) = ((4 : Nat) : Int) from rfl, cutV_to]; rfl]
      have s4 := same_upd (o := .lst (([z0, z1, z2, z3] : List Str).map V.str)) np1
      have p1b := B3.ne np1
      have hp4 : L2.upd H3 p1 (.lst (([z0, z1, z2, z3] : List Str).map V.str)) p1 = some (.lst (([z0, z1, z2, z3] : List Str).map V.str)) := upd_same
      generalize L2.upd H3 p1 (.lst (([z0, z1, z2, z3] : List Str).map V.str)) = H4 at *
      have B4 := (Kp.of (b := b) s4).bag B3
      have hz4 : ∀ z ∈ [z0, z1, z2, z3], isName z = true := fun z hz => hzn z (List.mem_append_left [z4] hz)
      refine ⟨b, p1, [z0, z1, z2, z3], rfl, B4, ⟨p1b, sqL_of hp4, (show 0 < 4 by decide), (show 4 ≤ 100 by decide), hz4⟩, fun v c H5 k5 hv5 nc => ?_⟩
      have B5 := k5.bag B4
      have fc := nc.fit
      have c20 : c.size ≤ 20 := Nat.le_trans nc.size (by decide)
      have k35 := (Kp.of (b := b) s4).trans k5
      refine ⟨_, rfl, _, rfl, b, v, c, rfl, B5, hv5, fc, fun hv H6 k6 hco => ?_⟩
      have B6 := k6.bag B5
      have k36 := k35.trans k6
      have hnl6 := k36.1 _ _ nlb hnl3
      have hv6 := nd_mono (Kt.kp k6 B5) hv5
      -- two or three names
      refine ⟨_, rfl, b, 2, rfl, B6, by decide, by decide, fun d o7 d0 d1 k7 => ⟨_, _, rfl, rfl, ?_⟩⟩
      obtain ⟨d', rfl⟩ := Int.eq_ofNat_of_zero_le d0
      have B7 := k7.bag B6
      generalize L2.upd H6 b o7 = H7 at *
      have k37 := k36.trans k7
      have hnl7 := k37.1 _ _ nlb hnl3
      refine ⟨2 + ((d' : Nat) : Int), rfl, by omega, by omega, fun D nD => ?_⟩
      have nDb := B7.ne nD
      have eN : (2 + ((d' : Nat) : Int)).toNat = 2 + d' := by omega
      refine lc_st (walk_range (lo := 0) (n := (2 + ((d' : Nat) : Int)).toNat)) (fun i acc H8 => Kp b H7 H8 ∧ ∃ g : List Str, acc = g.map V.str ∧ g.length = i ∧ ∀ z ∈ g, isName z = true) (by omega) (fun _ _ _ _ _ => True.intro) ⟨(Kp.refl b H7).mut B7 nD, [], rfl, rfl, fun z hz => nomatch hz⟩ ?_ ?_
      · rintro i x H8 H9 acc Nx hi hL hlen ⟨k8, g, rfl, lg, hgn⟩ ⟨rfl, rfl⟩ hN
        have B8 := k8.bag B7
        refine ⟨rfl, _, rfl, _, rfl, b, .ref nl, rfl, B8, .inl ⟨nl, ([z0, z1, z2, z3, z4] : List Str).map V.str, rfl, nlb, sqL_of (k8.1 _ _ nlb hnl7), (show 0 < 5 by decide), (show 5 ≤ 1000000 by decide), fun j u o9 hj k9 => ?_⟩⟩
        rw [List.getElem?_map] at hj
        obtain ⟨z, hz, rfl⟩ := Option.map_eq_some_iff.mp hj
        refine hN _ _ (k9.1 _ _ nDb hL) ⟨(k8.trans k9).mut B7 nD, g ++ [z], by rw [List.map_append]; rfl, by rw [List.length_append, lg]; rfl, fun y hy => ?_⟩
        rcases List.mem_append.mp hy with e | e
        · exact hgn y e
        · rw [List.mem_singleton.mp e]
          exact hzn z (List.mem_of_getElem? hz)
      · rintro H8 acc hD8 hlen ⟨k8, g, rfl, lg, hgn⟩
        have B8 := k8.bag B7
        have k38 := k37.trans k8
        have T8 := tabs_kp T3 B3 k38
        have hg8 : Gone H8 D g := ⟨hD8, hgn, by omega⟩
        have hco8 := co_mono (Kc.kp (k7.trans k8) B6) hco
        have hv8 := nd_mono (Kt.kp (k7.trans k8) B6) hv6
        have hnl8 := k38.1 _ _ nlb hnl3
        have k78 := k7.trans k8
        refine ⟨(show 2 ≤ sizeLine by decide), fun p np => ?_⟩
        have s9 := same_upd (o := .lst [.bl true, .bl false]) np
        have hp9 : L2.upd H8 p (.lst [.bl true, .bl false]) p = some (.lst [.bl true, .bl false]) := upd_same
        have pb := B8.ne np
        generalize L2.upd H8 p (.lst [.bl true, .bl false]) = H9 at *
        have B9 := (Kp.of (b := b) s9).bag B8
        have T9 := T8.ext fun a o e => s9 a o e
        have hg9 := hg8.same s9
        have hco9 := co_mono (Kc.of s9) hco8
        have hv9 := nd_mono (Kt.of s9) hv8
        have hnl9 := s9 _ _ hnl8
        have nt : ∀ {xs : List V} (ps), HO.lst xs ≠ .tbl ps := fun ps z => by cases z
        refine ⟨p, rfl, ⟨_, sqL_of hp9⟩, ?_⟩
        refine for_it (walk_list (K := K) (a := p) (xs := [.bl true, .bl false])) (fun j σ H' => (∃ a7 a8, σ = [some (.ref a), some (.ref b), some (.ref nl), some (.int (0 + ((i : Nat) : Int))), some v, some hv, some (.ref D), a7, a8]) ∧ Kx b H9 H' ∧ Bag H' b ∧ LamX.Tabs (LLm.tabsOf K mkrN) H') ⟨⟨_, _, rfl⟩, fun _ _ _ _ e => e, B9, T9⟩ (fun j σ H' _ z => sqL_of (z.2.1 _ _ pb nt hp9)) ?_ ?_
        · rintro j x σ H10 H11 hj ⟨⟨a7, a8, rfl⟩, x11, B11, T11⟩ ⟨rfl, hx⟩
          obtain ⟨up, rfl⟩ : ∃ up, x = .bl up := by
            match j, hx with
            | 0, h => cases h; exact ⟨true, rfl⟩
            | 1, h => cases h; exact ⟨false, rfl⟩
            | _ + 2, h => simp at h
          have hg11 : Gone H11 D g := ⟨x11 _ _ nDb nt hg9.at_, hg9.nm, hg9.two⟩
          have hco11 := co_mono (kx_kc x11 B9) hco9
          refine ⟨_, rfl, _, rfl, _, rfl, _, rfl, b, hv, D, g, up, c, rfl, B11, hco11, fc, c20, hg11, nDb, fun H12 k12 => ⟨_, rfl, iteF ?_⟩⟩
          have B12 := k12.bag B11
          refine ⟨_, rfl, _, rfl, _, rfl, _, rfl, b, hv, D, g, up, c, rfl, B12, co_mono (Kc.kp k12 B11) hco11, fc, c20, hg11.kp nDb k12, nDb, tabs_kp T11 B11 k12, fun H13 x13 B13 T13 => ⟨_, rfl, iteF ?_⟩⟩
          have x913 := (x11.trans (Kx.kp k12)).trans x13
          have hco13 := co_mono (kx_kc x913 B9) hco9
          have hnl13 := x913 _ _ nlb nt hnl9
          have off4 : LOr.Off [z4] c := fun y hy hm => by
            rw [List.mem_singleton.mp hm] at hy
            have z := nc.ov z4 hy
            simp only [List.nodup_cons, List.mem_cons, List.not_mem_nil, or_false, not_or] at hnd z
            rcases z with z | z | z | z <;> simp_all
          have offN : LOr.Off [] c := fun y hy hm => nomatch hm
          -- a name that is not in the circle
          refine ⟨_, rfl, _, rfl, nl, _, ((4 : Nat) : Int), .str z4, rfl, rfl, sqL_of hnl13, atI_nat rfl, _, rfl, _, rfl, out_sk (g := [z4]) hco13 fc c20 (fun z hz => by rw [List.mem_singleton.mp hz]; exact hzn z4 (by simp)) (show 1 ≤ 3 by decide) fun v14 H14 o14 s14 ho14 r14 => ⟨v14, o14, rfl, ho14, ?_⟩⟩
          have hco14 := co_mono (Kc.of s14) hco13
          refine ⟨_, rfl, hv, c, rfl, hco14, fc, kcost_20 fc.wf c20, fun v15 H15 k s15 hck n15 a15 t15 => ?_⟩
          obtain ⟨ak, ax, ar, at', rfl, hak⟩ := co_ref hck
          refine ⟨ak, ax, _, rfl, hak, _, k, rfl, hck, k.text, rfl, rfl, _, rfl, ?_⟩
          have e14 : o14 = some k := r14.one (res_key fc off4 n15 a15 t15)
          subst e14
          rw [show (!decide (V.str (wordO (some k)) = V.str k.text)) = false by simp [wordO]]
          refine iteF ?_
          -- no name at all
          have hco15 := co_mono (Kc.of s15) hco14
          refine ⟨_, rfl, _, rfl, _, rfl, out_sk (g := []) hco15 fc c20 (fun _ z => nomatch z) (show 0 ≤ 3 by decide) fun v16 H16 o16 s16 ho16 r16 => ?_⟩
          have ok : ∃ e, o16 = some e := by
            match o16, r16 with
            | some e, _ => exact ⟨e, rfl⟩
            | none, r => exact absurd (LOr.Dir.refl up c) (r.is c fc offN)
          obtain ⟨e, rfl⟩ := ok
          have ho16 : CO (cC K) H16 v16 e := ho16
          obtain ⟨ae, aex, aer, aet, rfl, hae⟩ := co_ref ho16
          refine ⟨ae, aex, _, rfl, hae, _, e, rfl, ho16, e.text, rfl, ?_⟩
          refine ⟨_, rfl, hv, c, rfl, co_mono (Kc.of s16) hco15, fc, kcost_20 fc.wf c20, fun v17 H17 k2 s17 hck2 n17 a17 t17 => ?_⟩
          obtain ⟨ak2, ax2, ar2, at2, rfl, hak2⟩ := co_ref hck2
          refine ⟨ak2, ax2, _, rfl, hak2, _, k2, rfl, hck2, k2.text, rfl, rfl, _, rfl, ?_⟩
          have e17 : some e = some k2 := r16.one (res_key fc offN n17 a17 t17)
          cases e17
          rw [show (!decide (V.str e.text = V.str e.text)) = false by simp]
          have s1317 := ((s14.trans s15).trans s16).trans s17
          exact iteF ⟨⟨_, _, rfl⟩, x913.trans (Kx.same s1317), (Kp.of (b := b) s1317).bag B13, T13.ext fun a o e => s1317 a o e⟩
        · rintro σ H11 ⟨⟨a7, a8, rfl⟩, x11, B11, T11⟩
          have hg11 : Gone H11 D g := ⟨x11 _ _ nDb nt hg9.at_, hg9.nm, hg9.two⟩
          have hco11 := co_mono (kx_kc x11 B9) hco9
          have hv11 := nd_mono (fun a xs e => (kx_kc (C := cC K) x11 B9).2 a xs e) hv9
          refine ⟨_, rfl, _, rfl, hv, D, g, c, rfl, hco11, fc, c20, hg11, fun H12 s12 => ⟨_, rfl, iteF ?_⟩⟩
          obtain ⟨ac, acx, acr, act, rfl, hac⟩ := co_ref (co_mono (Kc.of s12) hco11)
          obtain ⟨av, y, rfl, hav⟩ := nd_three (nd_mono (Kt.of s12) hv11)
          refine ⟨_, rfl, ac, acx, _, rfl, hac, _, c, rfl, co_mono (Kc.of s12) hco11, c.text, rfl, _, rfl, av, _, 2, _, rfl, rfl, sqT_of hav, rfl, rfl, _, rfl, ?_⟩
          rw [show (!decide (V.str c.text = V.str c.text)) = false by simp]
          exact iteF ⟨⟨_, _, _, _, _, _, rfl⟩, (Kp.of (b := b) s12).bag B11, T11.ext (fun a o e => s12 a o e), s12 _ _ (x11 _ _ nlb nt hnl9)⟩
    · rintro σ H3 _
      exact q H3

end
end K34
namespace K34
open PySem PySem.Spec PyProof.Rows L2 RZ LL LC LS LR LD LN LY LOr
open C8 (Cal Mak Met CalAt pe_c pe_mk pe_mt pe_mt0 pe_gc)
section
variable {P : Program} {w : World} {K : PySem.W.Frag} {mg : Str → Option Value} {base : Heap}
/-! ### the end, with tables of code objects -/
theorem law_end {l : PySem.W.OpenLaw} {h : Heap} {fa : Addr} (KX : K.In h) (T : TxtW w K mg) (c3 : TabsE K h) (SP : LXs.SupP l.prog "/claim/cut.py") (hmg : mg ("law" : Str) = some (.ref fa)) : LamX.LawAtS l w K CX0 170 63 "_law_script" mg fa h := by
  obtain ⟨fd, F⟩ := T.F_law
  have e := hmg.symm.trans T.g_law
  cases e
  have hB := Bool.and_eq_true_iff.mp T.x_mk
  have one : ∀ x ∈ mkrN, PySem.W.codeHdIn K (LLm.codF K (He.ga K x)) (LLm.tabF K (He.ga K x)) = true ∧ (K.lookup (LLm.tabF K (He.ga K x))).isNone = true := fun x hx => Bool.and_eq_true_iff.mp (List.all_eq_true.mp hB.1 x hx)
  refine ⟨fd, mkrN.map fun x => (LLm.codF K (He.ga K x), LLm.tabF K (He.ga K x)), spLaw K, fun p hp => ?_, fun p hp => ?_, fun p hp => ?_, fun s u => ?_, fun H a ns hl _ hH hS => ⟨a, ns, rfl, hS, hl, ?_, fun _ => rfl⟩, fun base _ _ TB => ?_⟩
  · obtain ⟨x, hx, rfl⟩ := List.mem_map.mp hp
    exact c3 x hx
  · obtain ⟨x, hx, rfl⟩ := List.mem_map.mp hp
    exact Option.isNone_iff_eq_none.mp (one x hx).2
  · obtain ⟨x, hx, rfl⟩ := List.mem_map.mp hp
    exact PySem.W.codeHd_of_K KX (one x hx).1
  · exact FunD.bindsA (ps := ["_law_script"]) F (fun _ _ _ _ _ _ us hl => match us, hl with | [_], _ => rfl) s [u] rfl
  · intro p hp
    obtain ⟨x, hx, rfl⟩ := List.mem_map.mp hp
    exact LamX.TabS.nil (hH _ (List.mem_map.mpr ⟨x, hx, rfl⟩))
  · obtain ⟨fd2, F2, G⟩ := O_law (P := l.prog) (w := w) (base := base) T SP fun x hx => TB _ (List.mem_map.mpr ⟨x, hx, rfl⟩)
    rw [fd_one F F2]
    exact G

end
end K34
open PySem PySem.W PySem.Calls PyProof.Rows
theorem PySem.Challenge.cw_pooledeyes_k34_put_out_in_any_order_holds : PySem.Challenge.rw_pooledeyes_k34_put_out_in_any_order.Holds := by
  w_on; o_law
  refine HandSHeadRun.head_any (r := OpenLaw.row PySem.Challenge.rw_pooledeyes_k34_put_out_in_any_order) (q := view (OpenLaw.row PySem.Challenge.rw_pooledeyes_k34_put_out_in_any_order).prog [71]) (H := K34.hk) (ob := K34.ob) (M := 16000) (loose := K34.loose) (d := HandSHeadRun.topDef (OpenLaw.row PySem.Challenge.rw_pooledeyes_k34_put_out_in_any_order).prog 71) (kwd := []) K34.ob_eq
    (by kernel_rfl) (fun s => by kernel_rfl) K34.run (by kernel_rfl) (by kernel_rfl) (by kernel_rfl) (by rfl) (by first | assumption | decide +kernel) (by decide +kernel) ⟨rfl, rfl, rfl, rfl, rfl, by decide +kernel⟩ ?hw ?hc
  case hw => w_witness2
  case hc =>
    refine LamX.walk_ofTsE (l := PySem.Challenge.rw_pooledeyes_k34_put_out_in_any_order) (n := 63) (k := 170) (x := "_law_script") (CX := fun _ => L2.CX0) rfl (by decide) (by kernel_rfl) ⟨rfl, by decide, by decide⟩ ?F (fun _ _ _ _ _ z => z)
    intro w mg fa h Y G hmg0
    obtain ⟨K, KX, c, c2, c3⟩ := Y
    have hmg : mg ("law" : PySem.Str) = some (.ref fa) := by
      have e : (HandSHeadRun.topDef (OpenLaw.row PySem.Challenge.rw_pooledeyes_k34_put_out_in_any_order).prog 71).name = ("law" : PySem.Str) := by kernel_rfl
      rw [← e]
      exact hmg0
    have T : K34.TxtW w K mg := ⟨⟨⟨h, KX, G⟩, c⟩, c2⟩
    exact ⟨K, KX, K34.law_end (l := PySem.Challenge.rw_pooledeyes_k34_put_out_in_any_order) KX T c3 ⟨by decide +kernel, by decide +kernel⟩ hmg⟩
#print axioms PySem.Challenge.cw_pooledeyes_k34_put_out_in_any_order_holds
