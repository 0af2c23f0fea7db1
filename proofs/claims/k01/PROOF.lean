import PyProof.Rows.All
import Wide.All
import OpenK.AllK
import Wide.FinOn
import KE.KStateDown
import HandS.ForMost
import HandS.Exc
import HandS.IsInst
import HandS.Codes
import HandS.Defaults
import HandS.Wide
import HandS.Head0
import HandS.Head1
import HandS.Head2
import HandS.HeadEnd
import HandS.HeadHook1
import HandS.HeadHook2
import HandS.Zip
import HandS.Walk
import PySem.Challenge.RW_pooledeyes_k01_names_and_numbers_judged
set_option Elab.async false
set_option linter.all false
set_option maxRecDepth 100000
set_option maxHeartbeats 4000000
/-! Own lemmas for the laws' common text: heaps behind draws, data that draws leave, calls by keywords alone. -/
namespace LL
open PySem PySem.Spec PyProof.Rows L2
open C8 (Cal Mak Met CalAt pe_c pe_mk pe_mt pe_mt0 pe_gc)

/-! ### heaps -/
theorem same_upd {H : Hp} {p : Addr} {o : HO} (h : H p = none) : Same H (upd H p o) := fun b x e => by
  rw [upd_ne (ne_of_none e h)]
  exact e
theorem same_upd2 {H H' : Hp} {p : Addr} {o : HO} (s : Same H H') (h : H' p = none) : Same H (upd H' p o) := s.trans (same_upd h)
/-! ### the bag of draws -/
def bagX (l : Addr) (i : Nat) (r m c : Int) : HO := .lst [.ref l, .int (i : Int), .int r, .int m, .int c]
def BagV (H : Hp) (b l : Addr) (ns : List Int) (i : Nat) (r m c : Int) : Prop :=
  H b = some (bagX l i r m c) ∧ H l = some (.lst (ns.map V.int)) ∧ 0 ≤ r ∧ 0 ≤ m ∧ m < 2147483648
/-- a bag stands at b, its cells at l -/
def BagL (H : Hp) (b l : Addr) : Prop := ∃ ns i r m c, BagV H b l ns i r m c
def Bag (H : Hp) (b : Addr) : Prop := ∃ l, BagL H b l
theorem BagV.ne {H : Hp} {b l : Addr} {ns : List Int} {i : Nat} {r m c : Int} (B : BagV H b l ns i r m c) : l ≠ b := by
  intro e
  have h1 := B.1
  have h2 := B.2.1
  rw [e, h1] at h2
  unfold bagX at h2
  injection h2 with h2
  injection h2 with h2
  cases ns with
  | nil => cases h2
  | cons n ns =>
    injection h2 with h3 h4
    cases h3
theorem BagV.same {H : Hp} {b l l' : Addr} {ns ns' : List Int} {i i' : Nat} {r m c r' m' c' : Int} (B : BagV H b l ns i r m c) (B' : BagV H b l' ns' i' r' m' c') : l = l' := by
  have h := B.1.symm.trans B'.1
  unfold bagX at h
  injection h with h
  injection h with h
  injection h with h _
  injection h
theorem Bag.some {H : Hp} {b : Addr} (B : Bag H b) : ∃ o, H b = some o := by
  obtain ⟨l, ns, i, r, m, c, h1, _⟩ := B
  exact ⟨_, h1⟩
/-- the bag as it stands behind a store -/
theorem BagV.put {H : Hp} {b l : Addr} {ns : List Int} {i : Nat} {r m c : Int} (B : BagV H b l ns i r m c) {i' : Nat} {r' m' c' : Int} (h1 : 0 ≤ r') (h2 : 0 ≤ m') (h3 : m' < 2147483648) :
    BagV (upd H b (bagX l i' r' m' c')) b l ns i' r' m' c' := ⟨upd_same, by rw [upd_ne B.ne]; exact B.2.1, h1, h2, h3⟩
theorem Bag.ne {H : Hp} {b p : Addr} (B : Bag H b) (h : H p = none) : p ≠ b := by
  intro e
  obtain ⟨o, ho⟩ := B.some
  rw [e, ho] at h
  cases h
theorem BagL.to {H H' : Hp} {b l : Addr} (B : BagL H b l) (hb : ∀ o, H b = some o → H' b = some o) (hl : ∀ o, H l = some o → H' l = some o) : BagL H' b l := by
  obtain ⟨ns, i, r, m, c, h1, h2, h3⟩ := B
  exact ⟨ns, i, r, m, c, hb _ h1, hl _ h2, h3⟩
theorem BagL.cells {H : Hp} {b l : Addr} (B : BagL H b l) : ∃ o, H l = some o := by
  obtain ⟨ns, i, r, m, c, h1, h2, h3⟩ := B
  exact ⟨_, h2⟩

/-- all but b is kept, and the bag at b stays one -/
def Kp (b : Addr) (H H' : Hp) : Prop := (∀ a o, a ≠ b → H a = some o → H' a = some o) ∧ ∀ l, BagL H b l → BagL H' b l
theorem Kp.refl (b : Addr) (H : Hp) : Kp b H H := ⟨fun _ _ _ h => h, fun _ h => h⟩
theorem Kp.trans {b : Addr} {H H1 H2 : Hp} (h : Kp b H H1) (h' : Kp b H1 H2) : Kp b H H2 := ⟨fun a o n e => h'.1 a o n (h.1 a o n e), fun l B => h'.2 l (h.2 l B)⟩
theorem Kp.of {b : Addr} {H H' : Hp} (h : Same H H') : Kp b H H' := ⟨fun a o _ e => h a o e, fun _ B => B.to (fun o e => h _ o e) fun o e => h _ o e⟩
theorem Kp.new {b : Addr} {H H' : Hp} {p : Addr} {o : HO} (h : Kp b H H') (n : H' p = none) : Kp b H (upd H' p o) := h.trans (Kp.of (same_upd n))
theorem Kp.bag {b : Addr} {H H' : Hp} (h : Kp b H H') (B : Bag H b) : Bag H' b := by
  obtain ⟨l, B⟩ := B
  exact ⟨l, h.2 l B⟩
theorem Kp.set {b l : Addr} {H : Hp} {ns : List Int} {i i' : Nat} {r m c r' m' c' : Int} (B : BagV H b l ns i r m c) (B' : BagV (upd H b (bagX l i' r' m' c')) b l ns i' r' m' c') : Kp b H (upd H b (bagX l i' r' m' c')) := by
  refine ⟨fun a o n e => by rw [upd_ne n]; exact e, fun l' h => ?_⟩
  obtain ⟨ns2, i2, r2, m2, c2, B2⟩ := h
  have e := B.same B2
  rw [← e]
  exact ⟨ns, i', r', m', c', B'⟩
theorem Kp.none {b : Addr} {H H' : Hp} (h : Kp b H H') (B : Bag H b) {p : Addr} (e : H' p = none) : H p = none := by
  have hb := (h.bag B).ne e
  cases q : H p with
  | none => rfl
  | some o =>
    rw [h.1 p o hb q] at e
    cases e
/-- a place that was free changes -/
theorem Kp.mut {b : Addr} {H H' : Hp} {D : Addr} {o : HO} (h : Kp b H H') (B : Bag H b) (n : H D = Option.none) : Kp b H (upd H' D o) := by
  have nb := B.ne n
  refine ⟨fun a u na e => by rw [upd_ne (ne_of_none e n)]; exact h.1 a u na e, fun l BL => ?_⟩
  obtain ⟨u, hu⟩ := BL.cells
  exact (h.2 l BL).to (fun o e => by rw [upd_ne (Ne.symm nb)]; exact e) fun o e => by rw [upd_ne (ne_of_none hu n)]; exact e
theorem sqL_of {K : PySem.W.Frag} {H : Hp} {a : Addr} {xs : List V} (h : H a = some (.lst xs)) : SqL K H a xs := .inl (.inl h)
theorem sqT_of {K : PySem.W.Frag} {H : Hp} {a : Addr} {xs : List V} (h : H a = some (.tup xs)) : SqT K H a xs := .inl (.inl h)
theorem sqL_kp {K : PySem.W.Frag} {b : Addr} {H H' : Hp} {a : Addr} {xs : List V} (h : Kp b H H') (n : a ≠ b) (s : SqL K H a xs) : SqL K H' a xs := by
  rcases s with (s | ⟨o, s⟩) | s
  · exact .inl (.inl (h.1 _ _ n s))
  · exact .inl (.inr ⟨o, h.1 _ _ n s⟩)
  · exact .inr s
theorem sqT_kp {K : PySem.W.Frag} {b : Addr} {H H' : Hp} {a : Addr} {xs : List V} (h : Kp b H H') (n : a ≠ b) (s : SqT K H a xs) : SqT K H' a xs := by
  rcases s with (s | ⟨o, s⟩) | s
  · exact .inl (.inl (h.1 _ _ n s))
  · exact .inl (.inr ⟨o, h.1 _ _ n s⟩)
  · exact .inr s
theorem sqT_same {K : PySem.W.Frag} {H H' : Hp} {a : Addr} {xs : List V} (e : Same H H') (h : SqT K H a xs) : SqT K H' a xs := by
  rcases h with (h | ⟨o, h⟩) | h
  · exact .inl (.inl (e _ _ h))
  · exact .inl (.inr ⟨o, e _ _ h⟩)
  · exact .inr h

/-! ### data that draws leave as it is -/
section
variable {K : PySem.W.Frag} {H H' : Hp}
mutual
theorem dp_mono (hl : ∀ a xs, SqL K H a xs → SqL K H' a xs) (ht : ∀ a xs, SqT K H a xs → SqT K H' a xs) : ∀ (d : PyData) (v : V), Dp K H v d → Dp K H' v d
  | .none, _, h => by cases h; exact .non
  | .bool b, _, h => by cases h; exact .bl b
  | .int i, _, h => by cases h; exact .int i
  | .str x, _, h => by cases h; exact .str x
  | .list ds, _, h => by
    cases h with
    | lst hs ha => exact .lst (hl _ _ hs) (dpAll_mono hl ht ds _ ha)
  | .tuple ds, _, h => by
    cases h with
    | tup hs ha => exact .tup (ht _ _ hs) (dpAll_mono hl ht ds _ ha)
  | .dict _, _, h => by cases h
theorem dpAll_mono (hl : ∀ a xs, SqL K H a xs → SqL K H' a xs) (ht : ∀ a xs, SqT K H a xs → SqT K H' a xs) : ∀ (ds : List PyData) (vs : List V), DpAll K H vs ds → DpAll K H' vs ds
  | [], _, h => by cases h; exact .nil
  | d :: ds, _, h => by
    cases h with
    | cons h1 h2 => exact .cons (dp_mono hl ht d _ h1) (dpAll_mono hl ht ds _ h2)
end
theorem dp_same {v : V} {d : PyData} (s : Same H H') (h : Dp K H v d) : Dp K H' v d := dp_mono (fun _ _ => s.seq) (fun _ _ => sqT_same s) d v h
theorem dpAll_same {vs : List V} {ds : List PyData} (s : Same H H') (h : DpAll K H vs ds) : DpAll K H' vs ds := dpAll_mono (fun _ _ => s.seq) (fun _ _ => sqT_same s) ds vs h
theorem dpAll_len : ∀ {vs : List V} {ds : List PyData}, DpAll K H vs ds → vs.length = ds.length
  | _, _, .nil => rfl
  | _, _, .cons _ t => congrArg Nat.succ (dpAll_len t)
theorem dpAll_get : ∀ {vs : List V} {ds : List PyData} {i : Nat} {v : V}, DpAll K H vs ds → vs[i]? = some v → ∃ d, ds[i]? = some d ∧ Dp K H v d
  | _, _, _, _, .nil, e => by simp at e
  | _, _, 0, _, .cons r _, e => by
    simp at e
    subst e
    exact ⟨_, rfl, r⟩
  | _, _, i + 1, _, .cons _ t, e => by
    obtain ⟨d, h1, h2⟩ := dpAll_get (i := i) t (by simpa using e)
    exact ⟨d, by simpa using h1, h2⟩
theorem dpAll_bools : ∀ bs : List Bool, DpAll K H (bs.map V.bl) (bs.map PyData.bool)
  | [] => .nil
  | b :: bs => .cons (.bl b) (dpAll_bools bs)
theorem dpAll_ints : ∀ ns : List Int, DpAll K H (ns.map V.int) (ns.map PyData.int)
  | [] => .nil
  | n :: ns => .cons (.int n) (dpAll_ints ns)
end
end LL

namespace LL
open PySem PySem.Spec PyProof.Rows L2
open C8 (Cal Mak Met CalAt pe_c pe_mk pe_mt pe_mt0 pe_gc)
/-! ### a def without defaults, as a constant of the module -/
section
variable {P : Program} {w : World} {K : PySem.W.Frag} {mg : Str → Option Value} {base : Heap} {x qual : Str} {params : Arguments} {body : List Stmt} {scope : Scope} {f : Addr} {fd : FuncData} {N ps : List Str} {k : Nat} {sp : Sp} {kws : List (Str × V)}
theorem calD (F : FunD K x qual params body scope [] kws f fd) (hm : mg x = some (.ref f)) (b : Binds K fd ps []) (S : FnScope N ps scope) (len : ∀ vs H Q E, sp vs H Q E → vs.length = ps.length)
    (hbody : ∀ (cdv : Value) (A : Around) (outer : List Env) (s : Shared) (H : Hp) (vs : List V) (Q : VK) (E : XK), Room k (A.deeper (envOfC qual scope s.heap.objs.size f cdv)) → sp vs H Q E →
      ∃ t, PSs (cxOf CX0 P w K mg base N qual scope f cdv A outer s H E).nox body t ∧ t { nx := fun _ H' => Q .non H', rt := Q } (start N vs) H) : Cal P w K mg base (k + 1) x sp [] :=
  ⟨f, fd, ps, [], F.ok S len fun cdv A outer s H vs Q E hr h => by
    obtain ⟨t, h1, h2⟩ := hbody cdv A outer s H vs Q E hr h
    exact ⟨t, h1.nox, h2⟩, hm, F.kp, b, .nil⟩
/-- a def that is called by keywords too -/
structure CalK (P : Program) (w : World) (K : PySem.W.Frag) (mg : Str → Option Value) (base : Heap) (k : Nat) (x : Str) (sp : Sp) (ks : List Str) (g : List Value → List Value → List Value) (gV : List V → List V → List V) : Prop where
  ex : ∃ (f : Addr) (fd : FuncData) (ps : List Str), FnOk P w K mg base CX0 k f fd ps sp ∧ mg x = some (.ref f) ∧ PySem.W.keepIn K (.ref f) = true ∧ KBinds K fd ps ks g gV
end
section
variable {X : Cx} {CX : CXT} {k j : Nat} {f : Addr} {fd : FuncData} {ps ks : List Str} {sp : Sp} {E : XK} {x : Str} {p pos : Pos} {e : Expr} {es : List Expr} {kws : List Keyword} {t tk : TA} {g : List Value → List Value → List Value} {gV : List V → List V → List V}
/-- f(k = v, ..), nothing by place -/
theorem pe_callK0 (F : FnOk X.prog X.w X.K X.mg X.base CX k f fd ps sp) (hr : Room k X.A) (hg : Gl X x) (hm : X.mg x = some (.ref f)) (hk : PySem.W.keepIn X.K (.ref f) = true) (hb : KBinds X.K fd ps ks g gV) (hx : Passes CX X E)
    (hkw : PK X kws tk) (hall : (backToKw pos (keywordEach kws X.env)).all (·.1.isSome) = true := by rfl) (hks : (backToKw pos (keywordEach kws X.env)).filterMap (·.1) = ks := by rfl)
    (hdb : (x == ("__debug__" : Str)) = false := by decide) (hpl : ((backTo pos (starEach [] X.env)).any (·.1) || (backToKw pos (keywordEach kws X.env)).any (·.1.isNone)) = false := by rfl) :
    PE X (.Call (.Name x p) [] kws pos) (tCallK sp gV E tNil tk) := by
  refine ⟨fun pins s σ H Q I h => ?_⟩
  refine wpAny_Call_Name_kw (ld_glob I hg hm ?_ hdb)
  refine PySem.W.callWith_KW0 (h₀ := X.base) I.ok.mod.kin hk hall (thn (hkw.run pos pins s σ H _ I h) fun ws s2 ⟨zs, H2, I2, rz, q2⟩ => ⟨I2.kIn, ?_⟩) hpl
  rw [hks]
  exact run_fnk (us := []) (vs := []) F hr hb hx I2 .nil rz q2
theorem pe_cK0 (c : CalK X.prog X.w X.K X.mg X.base k x sp ks g gV) (hr : Room j X.A) (hk : k ≤ j) (hg : Gl X x) (hkw : PK X kws tk)
    (hall : (backToKw pos (keywordEach kws X.env)).all (·.1.isSome) = true := by rfl) (hks : (backToKw pos (keywordEach kws X.env)).filterMap (·.1) = ks := by rfl)
    (hdb : (x == ("__debug__" : Str)) = false := by decide) (hpl : ((backTo pos (starEach [] X.env)).any (·.1) || (backToKw pos (keywordEach kws X.env)).any (·.1.isNone)) = false := by rfl) :
    PE X (.Call (.Name x p) [] kws pos) (tCallK sp gV E0 tNil tk) := by
  obtain ⟨f, fd, ps, F, hm, kp, b⟩ := c.ex
  exact pe_callK0 F (hr.mono hk) hg hm kp b pass0 hkw hall hks hdb hpl
theorem pe_cK (c : CalK X.prog X.w X.K X.mg X.base k x sp ks g gV) (hr : Room j X.A) (hk : k ≤ j) (hg : Gl X x) (ha : PA X (e :: es) t) (hkw : PK X kws tk)
    (hall : (backToKw pos (keywordEach kws X.env)).all (·.1.isSome) = true := by rfl) (hks : (backToKw pos (keywordEach kws X.env)).filterMap (·.1) = ks := by rfl)
    (hdb : (x == ("__debug__" : Str)) = false := by decide) (he : starEach (e :: es) X.env = (false, eval e X.env) :: starEach es X.env := by rfl)
    (hpl : ((backTo pos (starEach (e :: es) X.env)).any (·.1) || (backToKw pos (keywordEach kws X.env)).any (·.1.isNone)) = false := by rfl) :
    PE X (.Call (.Name x p) (e :: es) kws pos) (tCallK sp gV E0 t tk) := by
  obtain ⟨f, fd, ps, F, hm, kp, b⟩ := c.ex
  exact pe_callK F (hr.mono hk) hg hm kp b pass0 ha hkw hall hks hdb he hpl
end
end LL

namespace LL
open PySem PySem.Spec PyProof.Rows L2
theorem cut_head (xs : List V) (n : Nat) (h : xs.length ≤ n) : cutV xs none (some (n : Int)) = xs := by
  unfold cutV
  rw [HT.sIx_none, HT.sIx_nat]
  rw [Nat.min_eq_right h, Nat.sub_zero, List.drop_zero]
  exact List.take_length
theorem fmod_lo (i : Int) {j : Int} (h : 0 < j) : 0 ≤ i.fmod j := by
  rw [Int.fmod_eq_emod_of_nonneg i (by omega)]
  exact Int.emod_nonneg i (by omega)
theorem fmod_hi (i : Int) {j : Int} (h : 0 < j) : i.fmod j < j := by
  rw [Int.fmod_eq_emod_of_nonneg i (by omega)]
  exact Int.emod_lt_of_pos i h
theorem fdiv_lo {i j : Int} (hi : 0 ≤ i) (h : 0 < j) : 0 ≤ i.fdiv j := by
  rw [Int.fdiv_eq_ediv_of_nonneg i (by omega)]
  exact Int.ediv_nonneg hi (by omega)
end LL

namespace LL
open PySem PySem.Spec PyProof.Rows L2
/-! ### the bag's items read and stored -/
section
variable {K : PySem.W.Frag} {σ : L2.St} {H : Hp} {Q : VK} {b l : Addr} {i : Nat} {r m c z : Int} {j : Nat} {Qn : L2.St → Hp → Prop}
theorem ixB0 (hs : σ[j]? = some (some (.ref b))) (h : Q (.ref l) (upd H b (bagX l i r m c))) : tOp (rIxL K) (tVar j) (tC (.int 0)) σ (upd H b (bagX l i r m c)) Q := ⟨_, hs, b, _, 0, _, rfl, rfl, sqL_of upd_same, rfl, h⟩
theorem ixB1 (hs : σ[j]? = some (some (.ref b))) (h : Q (.int (i : Int)) (upd H b (bagX l i r m c))) : tOp (rIxL K) (tVar j) (tC (.int 1)) σ (upd H b (bagX l i r m c)) Q := ⟨_, hs, b, _, 1, _, rfl, rfl, sqL_of upd_same, rfl, h⟩
theorem ixB2 (hs : σ[j]? = some (some (.ref b))) (h : Q (.int r) (upd H b (bagX l i r m c))) : tOp (rIxL K) (tVar j) (tC (.int 2)) σ (upd H b (bagX l i r m c)) Q := ⟨_, hs, b, _, 2, _, rfl, rfl, sqL_of upd_same, rfl, h⟩
theorem ixB3 (hs : σ[j]? = some (some (.ref b))) (h : Q (.int m) (upd H b (bagX l i r m c))) : tOp (rIxL K) (tVar j) (tC (.int 3)) σ (upd H b (bagX l i r m c)) Q := ⟨_, hs, b, _, 3, _, rfl, rfl, sqL_of upd_same, rfl, h⟩
theorem ixB4 (hs : σ[j]? = some (some (.ref b))) (h : Q (.int c) (upd H b (bagX l i r m c))) : tOp (rIxL K) (tVar j) (tC (.int 4)) σ (upd H b (bagX l i r m c)) Q := ⟨_, hs, b, _, 4, _, rfl, rfl, sqL_of upd_same, rfl, h⟩
theorem stB1 (hs : σ[j]? = some (some (.ref b))) (h : Qn σ (upd H b (bagX l (i + 1) r m c))) : gSub (tVar j) (tC (.int 1)) rSetL (.int ((i : Int) + 1)) σ (upd H b (bagX l i r m c)) Qn :=
  ⟨_, hs, b, _, 1, 1, rfl, rfl, upd_same, rfl, by rw [upd_upd]; exact h⟩
theorem stB2 (hs : σ[j]? = some (some (.ref b))) (h : Qn σ (upd H b (bagX l i z m c))) : gSub (tVar j) (tC (.int 2)) rSetL (.int z) σ (upd H b (bagX l i r m c)) Qn :=
  ⟨_, hs, b, _, 2, 2, rfl, rfl, upd_same, rfl, by rw [upd_upd]; exact h⟩
theorem stB3 (hs : σ[j]? = some (some (.ref b))) (h : Qn σ (upd H b (bagX l i r z c))) : gSub (tVar j) (tC (.int 3)) rSetL (.int z) σ (upd H b (bagX l i r m c)) Qn :=
  ⟨_, hs, b, _, 3, 3, rfl, rfl, upd_same, rfl, by rw [upd_upd]; exact h⟩
theorem stB4 (hs : σ[j]? = some (some (.ref b))) (h : Qn σ (upd H b (bagX l i r m z))) : gSub (tVar j) (tC (.int 4)) rSetL (.int z) σ (upd H b (bagX l i r m c)) Qn :=
  ⟨_, hs, b, _, 4, 4, rfl, rfl, upd_same, rfl, by rw [upd_upd]; exact h⟩
theorem upd_self {a : Addr} {o : HO} (h : H a = some o) : upd H a o = H := by
  funext x
  unfold upd
  split
  · rename_i e
    rw [e, h]
  · rfl
end
theorem abs_lo (i : Int) : 0 ≤ (if i < 0 then -i else i) := by
  split <;> omega
end LL

namespace LL
open PySem PySem.Spec PyProof.Rows L2
open C8 (Cal Mak Met CalAt pe_c pe_mk pe_mt pe_mt0 pe_gc)
/-! ### kinds of values -/
section
variable {K : PySem.W.Frag} {H H' : Hp} {x : V}
theorem tyx_list {a : Addr} {xs : List V} (h : SqL K H a xs) : TyX K H (.ref a) (.type "list") := by
  rcases h with (h | ⟨o, h⟩) | ⟨o, its, n, e, c, _⟩
  · exact .base (.lst h)
  · exact .base (.frz h)
  · exact .kList e c
theorem tyx_tup {a : Addr} {xs : List V} (h : SqT K H a xs) : TyX K H (.ref a) (.type "tuple") := by
  rcases h with (h | ⟨o, h⟩) | ⟨o, its, n, e, c, _⟩
  · exact .base (.tup h)
  · exact .fTuple h
  · exact .kTuple e c
def dty : PyData → String
  | .none => "NoneType"
  | .bool _ => "bool"
  | .int _ => "int"
  | .str _ => "str"
  | .list _ => "list"
  | .tuple _ => "tuple"
  | .dict _ => "dict"
theorem dp_ty {d : PyData} (h : Dp K H x d) : TyX K H x (.type (dty d)) := by
  cases h with
  | non => exact .base .non
  | bl b => exact .base (.bl b)
  | int i => exact .base (.int i)
  | str z => exact .base (.str z)
  | lst h _ => exact tyx_list h
  | tup h _ => exact tyx_tup h
/-- isinstance of a value of a built-in kind -/
theorem isi_ty {a n : String} {b : Bool} {Q : VK} (ty : TyX K H x (.type a)) (h : kitB a n = some b) (q : Q (.bl b) H) : rIsi K [x, .ty n] H Q := ⟨x, .ty n, _, _, b, rfl, .ty n, ty, kit_ty h, q⟩
theorem isiT_ty {a n m : String} {b : Bool} {p : Addr} {Q : VK} (ty : TyX K H x (.type a)) (hp : H p = some (.tup [.ty n, .ty m])) (h : PySem.W.kitAny K (.type a) [.type n, .type m] = some b) (q : Q (.bl b) H) : rIsiT K [x, .ref p] H Q :=
  ⟨x, p, _, _, _, b, rfl, hp, .cons (.ty n) (.cons (.ty m) .nil), ty, h, q⟩
theorem tyx_same {t : Value} (s : Same H H') (h : TyX K H x t) : TyX K H' x t := by
  cases h with
  | base h =>
    cases h with
    | non => exact .base .non
    | bl b => exact .base (.bl b)
    | int i => exact .base (.int i)
    | str z => exact .base (.str z)
    | flt z => exact .base (.flt z)
    | lst e => exact .base (.lst (s _ _ e))
    | frz e => exact .base (.frz (s _ _ e))
    | tup e => exact .base (.tup (s _ _ e))
    | dK e => exact .base (.dK (s _ _ e))
    | dT e => exact .base (.dT (s _ _ e))
    | ins e c a b d f => exact .base (.ins (s _ _ e) c a b d f)
  | byt b => exact .byt b
  | set e => exact .set (s _ _ e)
  | kList e c => exact .kList e c
  | kTuple e c => exact .kTuple e c
  | kDict e c => exact .kDict e c
  | fTuple e => exact .fTuple (s _ _ e)
  | fDict e => exact .fDict (s _ _ e)
end
/-- a list or a tuple -/
def isSeq : PyData → Bool
  | .list _ => true
  | .tuple _ => true
  | _ => false
/-- nested at most n deep, no list or tuple too long -/
def Fit : Nat → PyData → Bool
  | 0, .list _ => false
  | 0, .tuple _ => false
  | n + 1, .list ds => decide (ds.length ≤ 1000000) && ds.all (Fit n)
  | n + 1, .tuple ds => decide (ds.length ≤ 1000000) && ds.all (Fit n)
  | _, .dict _ => false
  | _, _ => true
def kinds : List String := ["NoneType", "bool", "int", "str", "list", "tuple", "dict"]
theorem dty_mem (d : PyData) : dty d ∈ kinds := by
  unfold kinds
  cases d <;> simp [dty]
/-- what isinstance tells of each kind -/
def kitD (d : PyData) (n : String) : Bool := (kitB (dty d) n).getD false
theorem kit_some : ∀ a ∈ kinds, ∀ n ∈ kinds, kitB a n = some ((kitB a n).getD false) := by
  intro a ha n hn
  have h : (kinds.all fun a => kinds.all fun n => (kitB a n).isSome) = true := by decide +kernel
  have h1 := List.all_eq_true.mp (List.all_eq_true.mp h a ha) n hn
  cases q : kitB a n with
  | none =>
    rw [q] at h1
    cases h1
  | some b => rfl
theorem kitD_ok (d : PyData) {n : String} (h : n ∈ kinds) : kitB (dty d) n = some (kitD d n) := kit_some _ (dty_mem d) n h
theorem kitD_seq (d : PyData) : isSeq d = (kitD d "list" || kitD d "tuple") := by
  have h : (kinds.all fun a => ((kitB a "list").getD false || (kitB a "tuple").getD false) == (a == "list" || a == "tuple")) = true := by decide +kernel
  have h1 := eq_of_beq (List.all_eq_true.mp h (dty d) (dty_mem d))
  unfold kitD
  rw [h1]
  cases d <;> simp [isSeq, dty]
theorem kitAny_seq {K : PySem.W.Frag} (d : PyData) : PySem.W.kitAny K (.type (dty d)) [.type "list", .type "tuple"] = some (isSeq d) := by
  rw [kitD_seq]
  refine kitAny_cons (kit_ty (kitD_ok d (by decide))) (fun e => ?_) (fun e => by rw [e, Bool.true_or])
  rw [e, Bool.false_or]
  refine kitAny_cons (kit_ty (kitD_ok d (by decide))) (fun e => ?_) (fun e => e)
  rw [e]
  exact kitAny_nil
/-- a promise that is never asked -/
def spNo : Sp := fun _ _ _ _ => False
theorem cal_no {P : Program} {w : World} {K : PySem.W.Frag} {mg : Str → Option Value} {base : Heap} {x qual : Str} {params : Arguments} {body : List Stmt} {scope : Scope} {f : Addr} {fd : FuncData} {ps : List Str} {kws : List (Str × V)}
    (F : FunD K x qual params body scope [] kws f fd) (hm : mg x = some (.ref f)) (b : Binds K fd ps []) : Cal P w K mg base 0 x spNo [] :=
  ⟨f, fd, ps, [], ⟨fun _ _ _ _ h => h.elim, fun _ _ _ _ _ _ _ _ _ _ _ _ _ h => h.elim⟩, hm, F.kp, b, .nil⟩
end LL

namespace LL
open PySem PySem.Spec PyProof.Rows L2 RZ
/-! ### comprehensions over a walk -/
section
variable {K : PySem.W.Frag} {J : It} {n : Nat} {G : Hp → Prop} {Y : Nat → Hp → V → Hp → Prop} {g : TG} {te : TE} {vs : List Nat} {σ : L2.St} {H1 : Hp} {D : Addr} {Qd : Hp → Prop}
theorem walk_zipT {a b : Addr} {xs ys : List V} {n : Nat} (hn : n = min xs.length ys.length) : Walk (ItzT K a b) n (fun H => SqT K H a xs ∧ SqT K H b ys) (YPair (fun i => xs[i]?) (fun i => ys[i]?)) := by
  subst hn
  constructor
  · intro i H hi q
    have h1 : i < xs.length := by omega
    have h2 : i < ys.length := by omega
    exact ⟨xs, ys, xs[i], ys[i], q.1, q.2, List.getElem?_eq_getElem h1, List.getElem?_eq_getElem h2⟩
  · intro H q
    exact ⟨xs, ys, q.1, q.2, by omega⟩
  · intro i H v H' _ q y
    obtain ⟨T, x, z, h1, h2, h3, h4, h5⟩ := y
    exact ⟨T, x, z, h1, h2, h3, h4 xs q.1, h5 ys q.2⟩
theorem tYes_eq (R : Nat → Hp → Prop) (i : Nat) (vs : List Nat) (σ : L2.St) :
    (fun (σ2 : L2.St) (H2 : Hp) => wipe σ2 vs = wipe σ vs ∧ tYes σ2 H2 fun b H3 => if b = true then te σ2 H3 fun y H4 => ∃ acc, H4 D = some (.lst acc) ∧ acc.length < sizeLine ∧ R (i + 1) (upd H4 D (.lst (acc ++ [y]))) else R (i + 1) H3) =
    (fun (σ2 : L2.St) (H2 : Hp) => wipe σ2 vs = wipe σ vs ∧ te σ2 H2 fun y H4 => ∃ acc, H4 D = some (.lst acc) ∧ acc.length < sizeLine ∧ R (i + 1) (upd H4 D (.lst (acc ++ [y])))) := by
  funext σ2 H2
  unfold tYes
  simp only [if_true]
/-- [e for x in ..]: e tells f i at turn i, and only new things are made -/
theorem lc_map (w : Walk J n G Y) (f : Nat → V) (hn : n ≤ 1000000) (hD : H1 D = none) (hG : ∀ H, Same H1 H → G H)
    (hs : ∀ (i : Nat) (x : V) (H H' : Hp) (Nx : VK), i < n → Same H1 H → Y i H x H' → (∀ H4, Same H H4 → Nx (f i) H4) → g x (wipe σ vs) H' fun σ2 H2 => wipe σ2 vs = wipe σ vs ∧ te σ2 H2 Nx)
    (hd : ∀ H, Same H1 H → H D = some (.lst ((List.range n).map f)) → Qd H) :
    ∃ W : Nat → Nat → Hp → Prop, (∃ m, W 0 m (upd H1 D (.lst []))) ∧ ∀ i m H, W i m H →
      (J.stop i H ∧ Qd H) ∨ (J.go i H ∧ ∃ Nx : Hp → Prop, (∀ H', Nx H' → ∃ m', m' < m ∧ W (i + 1) m' H') ∧ ∀ x H', J.yld i H x H' → g x (wipe σ vs) H' fun σ2 H2 => wipe σ2 vs = wipe σ vs ∧ tYes σ2 H2 fun b H3 =>
        if b = true then te σ2 H3 fun y H4 => ∃ acc, H4 D = some (.lst acc) ∧ acc.length < sizeLine ∧ Nx (upd H4 D (.lst (acc ++ [y]))) else Nx H3) := by
  refine lc_it w (fun i H => Same H1 H ∧ H D = some (.lst ((List.range i).map f))) ⟨same_upd hD, upd_same⟩ (fun i H _ p => hG H p.1) ?_ (fun H p => hd H p.1 p.2)
  rintro i x H H' hi ⟨s1, hL⟩ hy
  rw [tYes_eq (fun i H => Same H1 H ∧ H D = some (.lst ((List.range i).map f)))]
  refine hs i x H H' _ hi s1 hy fun H4 s4 => ⟨(List.range i).map f, s4 _ _ hL, ?_, ?_, ?_⟩
  · rw [List.length_map, List.length_range]
    exact Nat.lt_of_lt_of_le (Nat.lt_of_lt_of_le hi hn) (by decide)
  · intro a o e
    rw [upd_ne (ne_of_none e hD)]
    exact s4 _ _ (s1 _ _ e)
  · rw [upd_same, List.range_succ, List.map_append]
    rfl
/-- .. where the bag at b changes too; every item is such that P -/
theorem lc_bag {b : Addr} (w : Walk J n G Y) (P : V → Prop) (hn : n ≤ 1000000) (hD : H1 D = none) (hB : Bag H1 b) (hG : ∀ H, Kp b H1 H → G H)
    (hs : ∀ (i : Nat) (x : V) (H H' : Hp) (Nx : VK), i < n → Kp b H1 H → Y i H x H' → (∀ y H4, Kp b H H4 → P y → Nx y H4) → g x (wipe σ vs) H' fun σ2 H2 => wipe σ2 vs = wipe σ vs ∧ te σ2 H2 Nx)
    (hd : ∀ H ys, Kp b H1 H → H D = some (.lst ys) → ys.length = n → (∀ y ∈ ys, P y) → Qd H) :
    ∃ W : Nat → Nat → Hp → Prop, (∃ m, W 0 m (upd H1 D (.lst []))) ∧ ∀ i m H, W i m H →
      (J.stop i H ∧ Qd H) ∨ (J.go i H ∧ ∃ Nx : Hp → Prop, (∀ H', Nx H' → ∃ m', m' < m ∧ W (i + 1) m' H') ∧ ∀ x H', J.yld i H x H' → g x (wipe σ vs) H' fun σ2 H2 => wipe σ2 vs = wipe σ vs ∧ tYes σ2 H2 fun b H3 =>
        if b = true then te σ2 H3 fun y H4 => ∃ acc, H4 D = some (.lst acc) ∧ acc.length < sizeLine ∧ Nx (upd H4 D (.lst (acc ++ [y]))) else Nx H3) := by
  have nD : D ≠ b := hB.ne hD
  refine lc_it w (fun i H => Kp b H1 H ∧ ∃ ys, H D = some (.lst ys) ∧ ys.length = i ∧ ∀ y ∈ ys, P y) ⟨(Kp.refl b H1).mut hB hD, [], upd_same, rfl, fun _ q => nomatch q⟩ (fun i H _ p => hG H p.1) ?_ (fun H p => ?_)
  · rintro i x H H' hi ⟨k1, ys, hL, hl, hP⟩ hy
    rw [tYes_eq (fun i H => Kp b H1 H ∧ ∃ ys, H D = some (.lst ys) ∧ ys.length = i ∧ ∀ y ∈ ys, P y)]
    refine hs i x H H' _ hi k1 hy fun y H4 k4 py => ⟨ys, k4.1 _ _ nD hL, ?_, (k1.trans k4).mut hB hD, ys ++ [y], upd_same, ?_, ?_⟩
    · rw [hl]
      exact Nat.lt_of_lt_of_le (Nat.lt_of_lt_of_le hi hn) (by decide)
    · rw [List.length_append, hl]
      rfl
    · intro z hz
      rcases List.mem_append.mp hz with hz | hz
      · exact hP z hz
      · rw [List.mem_singleton.mp hz]
        exact py
  · obtain ⟨k1, ys, hL, hl, hP⟩ := p
    exact hd H ys k1 hL hl hP
end
end LL

namespace LL
open PySem PySem.Spec PyProof.Rows L2 RZ
theorem all_true (n : Nat) : (((List.range n).map fun _ => true).all id) = true := by
  rw [List.all_eq_true]
  intro b hb
  obtain ⟨_, _, e⟩ := List.mem_map.mp hb
  rw [← e]
  rfl
theorem map_bl (n : Nat) (f : Nat → Bool) : ((List.range n).map fun i => V.bl (f i)) = ((List.range n).map f).map V.bl := by
  rw [List.map_map]
  rfl
theorem dp_scal {K : PySem.W.Frag} {H : Hp} {d : PyData} {x y : V} (hx : Dp K H x d) (hy : Dp K H y d) (hs : isSeq d = false) : x = y ∧ scal x y = true := by
  cases d with
  | none => cases hx; cases hy; exact ⟨rfl, rfl⟩
  | bool b => cases hx; cases hy; exact ⟨rfl, rfl⟩
  | int i => cases hx; cases hy; exact ⟨rfl, rfl⟩
  | str z => cases hx; cases hy; exact ⟨rfl, rfl⟩
  | list ds => cases hs
  | tuple ds => cases hs
  | dict kvs => cases hx
end LL

namespace LL
open PySem PySem.Spec PyProof.Rows L2
theorem fit_zero : ∀ {d : PyData}, isSeq d = true → Fit 0 d = true → False
  | .list _, _, h => by cases h
  | .tuple _, _, h => by cases h
  | .none, h, _ => by cases h
  | .bool _, h, _ => by cases h
  | .int _, h, _ => by cases h
  | .str _, h, _ => by cases h
  | .dict _, h, _ => by cases h
theorem fit_nodict {n : Nat} {d : PyData} (h : Fit n d = true) : kitD d "dict" = false := by
  have h1 : (["NoneType", "bool", "int", "str", "list", "tuple"].all fun a => !((kitB a "dict").getD false)) = true := by decide +kernel
  have h2 : dty d ∈ ["NoneType", "bool", "int", "str", "list", "tuple"] := by
    cases d with
    | dict kvs => cases n <;> cases h
    | _ => simp [dty]
  have h3 := List.all_eq_true.mp h1 _ h2
  unfold kitD
  cases q : (kitB (dty d) "dict").getD false with
  | false => rfl
  | true =>
    rw [q] at h3
    cases h3
end LL

namespace LL
open PySem PySem.Spec PyProof.Rows L2
/-! ### names, numbers -/
def LET : Str := "abcdefghijklmnopqrstuvwxyz"
def isName (z : Str) : Bool := (decide (1 ≤ z.length) && decide (z.length ≤ 6)) && z.cps.toList.all fun c => decide (c ∈ LET.cps.toList)
def NotStr (K : PySem.W.Frag) (H : Hp) (x : V) : Prop := ∃ t, TyX K H x t ∧ PySem.W.kitOne K t (.type "str") = some false
def NotInt (K : PySem.W.Frag) (H : Hp) (x : V) : Prop := ∃ t, TyX K H x t ∧ PySem.W.kitOne K t (.type "bool") = some false ∧ PySem.W.kitOne K t (.type "int") = some false
/-- judged as a name: nm -/
def NameJ (K : PySem.W.Frag) (H : Hp) (x : V) (nm : Bool) : Prop := (∃ z : Str, x = .str z ∧ z.length ≤ 100000 ∧ PyData.strOk z = true ∧ nm = isName z) ∨ (NotStr K H x ∧ nm = false)
/-- judged as a number from lo to hi: nu -/
def NumJ (K : PySem.W.Frag) (H : Hp) (x : V) (lo hi : Int) (nu : Bool) : Prop :=
  (∃ i : Int, x = .int i ∧ nu = (decide (lo ≤ i) && decide (i ≤ hi))) ∨ ((∃ c : Bool, x = .bl c) ∧ nu = false) ∨ (NotInt K H x ∧ nu = false)
theorem idx_map {α : Type} (p : Nat → Bool) : ∀ l : List Nat, ((List.range l.length).map fun i => (l[i]?.map p).getD false) = l.map p := by
  intro l
  refine List.ext_getElem? fun i => ?_
  rw [List.getElem?_map, List.getElem?_map]
  by_cases h : i < l.length
  · rw [List.getElem?_range h, List.getElem?_eq_getElem h]
    simp [List.getElem?_eq_getElem h]
  · rw [List.getElem?_eq_none (by rw [List.length_range]; omega), List.getElem?_eq_none (by omega)]
    rfl
theorem all_cps (z : Str) (p : Nat → Bool) : (((List.range z.cps.size).map fun i => (z.cps[i]?.map p).getD false).all id) = z.cps.toList.all p := by
  have h := idx_map (α := Nat) p z.cps.toList
  have e : z.cps.toList.length = z.cps.size := by simp
  rw [e] at h
  have h2 : ((List.range z.cps.size).map fun i => (z.cps[i]?.map p).getD false) = z.cps.toList.map p := by
    rw [← h]
    refine List.map_congr_left fun i _ => ?_
    simp
  rw [h2, List.all_map]
  rfl
end LL

namespace LL
open PySem PySem.Spec PyProof.Rows L2
open C8 (Cal Mak Met CalAt pe_c pe_mk pe_mt pe_mt0 pe_gc)
section
variable {P : Program} {w : World} {K : PySem.W.Frag} {mg : Str → Option Value} {base : Heap} {x qual : Str} {params : Arguments} {body : List Stmt} {scope : Scope} {f : Addr} {fd : FuncData} {N ps : List Str} {k : Nat} {sp : Sp} {dvs : List V} {kws : List (Str × V)}
theorem fnD (F : FunD K x qual params body scope dvs kws f fd) (S : FnScope N ps scope) (len : ∀ vs H Q E, sp vs H Q E → vs.length = ps.length)
    (hbody : ∀ (cdv : Value) (A : Around) (outer : List Env) (s : Shared) (H : Hp) (vs : List V) (Q : VK) (E : XK), Room k (A.deeper (envOfC qual scope s.heap.objs.size f cdv)) → sp vs H Q E →
      ∃ t, PSs (cxOf CX0 P w K mg base N qual scope f cdv A outer s H E).nox body t ∧ t { nx := fun _ H' => Q .non H', rt := Q } (start N vs) H) : FnOk P w K mg base CX0 (k + 1) f fd ps sp :=
  F.ok S len fun cdv A outer s H vs Q E hr h => by
    obtain ⟨t, h1, h2⟩ := hbody cdv A outer s H vs Q E hr h
    exact ⟨t, h1.nox, h2⟩
/-- how keywords bind where all parameters are written: g by the very lengths -/
theorem kbD {n m : Nat} {ks : List Str} {g : {α : Type} → List α → List α → List α} (F : FunD K x qual params body scope [] kws f fd)
    (hg : ∀ {α : Type} (us ws : List α), (g us ws).length = ps.length → us.length = n ∧ ws.length = m)
    (hrel : ∀ {vs : List V} {us : List Value} {zs : List V} {ws : List Value}, Vals vs us → Vals zs ws → Vals (g vs zs) (g us ws))
    (h : ∀ (kV doc pm : Value) (an : Option Addr) (cdv ct : Value) (us ws : List Value), us.length = n → ws.length = m → bindArgs (PySem.W.fnOf x qual params body scope .none kV doc pm an cdv ct) ⟨us, ks.zip ws⟩ = pure (ps.zip (g us ws))) :
    KBinds K fd ps ks (fun us ws => g us ws) (fun us ws => g us ws) := by
  obtain ⟨oc, od, dV, kV, doc, pm, an, cdv, ct, osl, rfl, lk, hcd, hD, hK⟩ := F.ex
  rcases hD with ⟨_, rfl⟩ | ⟨e, _⟩
  · refine ⟨fun s us ws _ hl => ?_, hrel⟩
    obtain ⟨h1, h2⟩ := hg us ws hl
    exact .of_eq (h kV doc pm an cdv ct us ws h1 h2)
  · exact absurd rfl e
end
end LL

namespace LL
open PySem PySem.Spec PyProof.Rows L2
/-! ### instances of own classes as isinstance sees them -/
def insB (K : PySem.W.Frag) (C : Addr) : Bool := decide (PySem.W.findIn K (.ref C) "__class__" = some (some (.builtin "object.__class__"))) &&
  (decide (PySem.W.specialIn K (.builtin "object.__class__") "__get__" = some (some (.builtin "getset_descriptor.__get__"))) &&
  (decide (PySem.W.takesIn K (.builtin "object.__class__") = some true) && decide (PySem.W.mroIn K C (.type "object") = some true)))
def kitIs (K : PySem.W.Frag) (C : Addr) (n : String) (b : Bool) : Bool := decide (PySem.W.kitOne K (.ref C) (.type n) = some b)
theorem kitIs_ok {K : PySem.W.Frag} {C : Addr} {n : String} {b : Bool} (h : kitIs K C n b = true) : PySem.W.kitOne K (.ref C) (.type n) = some b := of_decide_eq_true h
theorem tyx_ins {K : PySem.W.Frag} {H : Hp} {a C dx : Addr} {fs : List (Str × V)} (c : Cls K C) (h : insB K C = true) (e : H a = some (.ins C dx fs)) : TyX K H (.ref a) (.ref C) := by
  obtain ⟨h1, h⟩ := Bool.and_eq_true_iff.mp h
  obtain ⟨h2, h⟩ := Bool.and_eq_true_iff.mp h
  obtain ⟨h3, h4⟩ := Bool.and_eq_true_iff.mp h
  exact .base (.ins e c (of_decide_eq_true h1) (of_decide_eq_true h2) (of_decide_eq_true h3) (of_decide_eq_true h4))
/-- x changes, all else stays -/
def But (x : Addr) (H H' : Hp) : Prop := ∀ a o, a ≠ x → H a = some o → H' a = some o
theorem But.refl (x : Addr) (H : Hp) : But x H H := fun _ _ _ h => h
theorem But.upd {x : Addr} {H H' : Hp} {o : HO} (h : But x H H') : But x H (upd H' x o) := fun a u n e => by
  rw [upd_ne n]
  exact h a u n e
theorem But.new {x p : Addr} {H H' : Hp} {o : HO} (h : But x H H') (n : H' p = none) : But x H (L2.upd H' p o) := fun a u na e => by
  rw [upd_ne (ne_of_none (h a u na e) n)]
  exact h a u na e
end LL

namespace LL
open PySem PySem.Spec PyProof.Rows L2
/-! ### how many attributes -/
theorem fl0 : ([] : List (Str × V)).length ≤ 0 := Nat.le_refl _
theorem flS {f : Str} {v : V} : ∀ {fs : List (Str × V)} {n : Nat}, fs.length ≤ n → (putF f v fs).length ≤ n + 1
  | [], n, _ => Nat.succ_le_succ (Nat.zero_le _)
  | (g, u) :: fs, 0, h => absurd h (by simp)
  | (g, u) :: fs, n + 1, h => by
    unfold putF
    split
    · exact Nat.le_succ_of_le h
    · exact Nat.succ_le_succ (flS (Nat.le_of_succ_le_succ h))
theorem fl_lt {fs : List (Str × V)} {n : Nat} (h : fs.length ≤ n) (hn : n < 1000 := by decide) : fs.length < 1000 := Nat.lt_of_le_of_lt h hn
end LL

namespace LL
open PySem PySem.Spec PyProof.Rows L2
/-! ### comprehensions with a test -/
section
variable {J : It} {n : Nat} {G : Hp → Prop} {Y : Nat → Hp → V → Hp → Prop} {g : TG} {tt : TT} {te : TE} {vs : List Nat} {σ : L2.St} {H1 : Hp} {D : Addr} {Qd : Hp → Prop}
theorem lc_filt (w : Walk J n G Y) (p : Nat → Bool) (f : Nat → V) (hn : n ≤ 1000000) (hD : H1 D = none) (hG : ∀ H, Same H1 H → G H)
    (hs : ∀ (i : Nat) (x : V) (H H' : Hp) (A : VK) (B : Hp → Prop), i < n → Same H1 H → Y i H x H' → (∀ H4, Same H H4 → p i = true → A (f i) H4) → (∀ H4, Same H H4 → p i = false → B H4) →
      g x (wipe σ vs) H' fun σ2 H2 => wipe σ2 vs = wipe σ vs ∧ tt σ2 H2 fun b H3 => if b = true then te σ2 H3 A else B H3)
    (hd : ∀ H, Same H1 H → H D = some (.lst (((List.range n).filter p).map f)) → Qd H) :
    ∃ W : Nat → Nat → Hp → Prop, (∃ m, W 0 m (upd H1 D (.lst []))) ∧ ∀ i m H, W i m H →
      (J.stop i H ∧ Qd H) ∨ (J.go i H ∧ ∃ Nx : Hp → Prop, (∀ H', Nx H' → ∃ m', m' < m ∧ W (i + 1) m' H') ∧ ∀ x H', J.yld i H x H' → g x (wipe σ vs) H' fun σ2 H2 => wipe σ2 vs = wipe σ vs ∧ tt σ2 H2 fun b H3 =>
        if b = true then te σ2 H3 fun y H4 => ∃ acc, H4 D = some (.lst acc) ∧ acc.length < sizeLine ∧ Nx (upd H4 D (.lst (acc ++ [y]))) else Nx H3) := by
  refine lc_it w (fun i H => Same H1 H ∧ H D = some (.lst (((List.range i).filter p).map f))) ⟨same_upd hD, upd_same⟩ (fun i H _ q => hG H q.1) ?_ (fun H q => hd H q.1 q.2)
  rintro i x H H' hi ⟨s1, hL⟩ hy
  refine hs i x H H' _ _ hi s1 hy (fun H4 s4 hp => ⟨_, s4 _ _ hL, ?_, ?_, ?_⟩) fun H4 s4 hp => ⟨s1.trans s4, ?_⟩
  · rw [List.length_map]
    have q := List.length_filter_le p (List.range i)
    rw [List.length_range] at q
    exact Nat.lt_of_le_of_lt q (Nat.lt_of_lt_of_le (Nat.lt_of_lt_of_le hi hn) (by decide))
  · intro a o e
    rw [upd_ne (ne_of_none e hD)]
    exact s4 _ _ (s1 _ _ e)
  · rw [upd_same, List.range_succ, List.filter_append, List.map_append, List.filter_cons, if_pos hp]
    rfl
  · rw [List.range_succ, List.filter_append, List.map_append, List.filter_cons, if_neg (by rw [hp]; decide)]
    rw [s4 _ _ hL]
    simp
end
theorem range_get {α : Type} (d : α) : ∀ l : List α, (List.range l.length).map (fun i => l[i]?.getD d) = l := by
  intro l
  refine List.ext_getElem? fun i => ?_
  rw [List.getElem?_map]
  by_cases h : i < l.length
  · rw [List.getElem?_range h, List.getElem?_eq_getElem h]
    simp [List.getElem?_eq_getElem h]
  · rw [List.getElem?_eq_none (by rw [List.length_range]; omega), List.getElem?_eq_none (by omega)]
    rfl
theorem filt_get {α β : Type} (d : α) (q : α → Bool) (g : α → β) (l : List α) : (((List.range l.length).filter fun i => q (l[i]?.getD d)).map fun i => g (l[i]?.getD d)) = (l.filter q).map g := by
  have h := range_get d l
  have e : (l.filter q) = (((List.range l.length).map fun i => l[i]?.getD d).filter q) := by rw [h]
  rw [e, List.filter_map, List.map_map]
  rfl
theorem map_get {α β : Type} (d : α) (g : α → β) (l : List α) : ((List.range l.length).map fun i => g (l[i]?.getD d)) = l.map g := by
  have h := range_get d l
  have e : l.map g = ((List.range l.length).map fun i => l[i]?.getD d).map g := by rw [h]
  rw [e, List.map_map]
  rfl
/-! ### texts -/
theorem joinL_mem {S : List Nat} : ∀ {ps : List (List Nat)} {c : Nat}, c ∈ TL.joinL S ps → c ∈ S ∨ ∃ p ∈ ps, c ∈ p
  | [], c, h => by cases h
  | [p], c, h => .inr ⟨p, List.mem_singleton.mpr rfl, h⟩
  | p :: q :: r, c, h => by
    rcases List.mem_append.mp (show c ∈ p ++ (S ++ TL.joinL S (q :: r)) from h) with h | h
    · exact .inr ⟨p, List.mem_cons_self, h⟩
    · rcases List.mem_append.mp h with h | h
      · exact .inl h
      · rcases joinL_mem h with h | ⟨p', h1, h2⟩
        · exact .inl h
        · exact .inr ⟨p', List.mem_cons_of_mem _ h1, h2⟩
theorem joinL_len {S : List Nat} (k : Nat) : ∀ {ps : List (List Nat)}, (∀ p ∈ ps, p.length ≤ k) → (TL.joinL S ps).length ≤ ps.length * (k + S.length)
  | [], _ => Nat.zero_le _
  | [p], h => by
    have := h p (List.mem_singleton.mpr rfl)
    show p.length ≤ 1 * (k + S.length)
    omega
  | p :: q :: r, h => by
    have h1 := h p List.mem_cons_self
    have h2 := joinL_len (S := S) k (ps := q :: r) fun x hx => h x (List.mem_cons_of_mem _ hx)
    show (p ++ (S ++ TL.joinL S (q :: r))).length ≤ (q :: r).length.succ * (k + S.length)
    rw [List.length_append, List.length_append, Nat.succ_mul]
    omega
/-- all signs of a text -/
def Sg (P : Nat → Prop) (z : Str) : Prop := ∀ c ∈ z.cps.toList, P c
theorem str_len (z : Str) : z.length = z.cps.toList.length := by simp [Str.length]
theorem sg_append {P : Nat → Prop} {a b : Str} (ha : Sg P a) (hb : Sg P b) : Sg P (a ++ b) := by
  intro c hc
  have e : (a ++ b).cps.toList = a.cps.toList ++ b.cps.toList := TL.tl_append a b
  rw [e] at hc
  rcases List.mem_append.mp hc with h | h
  · exact ha c h
  · exact hb c h
theorem len_append (a b : Str) : (a ++ b).length = a.length + b.length := by
  have e : (a ++ b).cps.toList = a.cps.toList ++ b.cps.toList := TL.tl_append a b
  rw [str_len, str_len, str_len, e, List.length_append]
theorem sg_cut {P : Nat → Prop} {a : Str} (ha : Sg P a) (lo hi : Option Int) : Sg P (cutS a lo hi) := by
  intro c hc
  have e : (cutS a lo hi).cps.toList = (a.cps.toList.drop (HT.sIx a.length 0 lo)).take (HT.sIx a.length a.length hi - HT.sIx a.length 0 lo) := by
    unfold cutS
    simp
  rw [e] at hc
  exact ha c (List.mem_of_mem_drop (List.mem_of_mem_take hc))
theorem len_cut (a : Str) (lo hi : Option Int) : (cutS a lo hi).length ≤ a.length := by
  have e : (cutS a lo hi).cps.toList = (a.cps.toList.drop (HT.sIx a.length 0 lo)).take (HT.sIx a.length a.length hi - HT.sIx a.length 0 lo) := by
    unfold cutS
    simp
  rw [str_len, e, List.length_take, List.length_drop, ← str_len]
  omega
theorem sg_ok {z : Str} (h : Sg (fun c => c < 128) z) : PyData.strOk z = true := by
  unfold PyData.strOk
  rw [← Array.all_toList]
  rw [List.all_eq_true]
  intro c hc
  exact decide_eq_true (Nat.lt_of_lt_of_le (h c hc) (by decide))
/-- a list of one-sign texts, joined with nothing between -/
theorem join_signs {ys : List V} {P : Nat → Prop} (h : ∀ y ∈ ys, ∃ c, y = V.str ⟨#[c]⟩ ∧ P c) : ∃ zs : List Str, ys = zs.map V.str ∧ (zs.map (·.length)).sum = zs.length ∧ (Txt.join "" zs).length ≤ zs.length ∧ Sg P (Txt.join "" zs) := by
  have h1 : ∃ cs : List Nat, ys = (cs.map fun c => (⟨#[c]⟩ : Str)).map V.str ∧ ∀ c ∈ cs, P c := by
    induction ys with
    | nil => exact ⟨[], rfl, fun _ q => nomatch q⟩
    | cons y ys ih =>
      obtain ⟨cs, e, hp⟩ := ih fun z hz => h z (List.mem_cons_of_mem _ hz)
      obtain ⟨c, rfl, pc⟩ := h y List.mem_cons_self
      refine ⟨c :: cs, by rw [e]; rfl, fun d hd => ?_⟩
      rcases List.mem_cons.mp hd with hd | hd
      · rw [hd]
        exact pc
      · exact hp d hd
  obtain ⟨cs, e, hp⟩ := h1
  have et : TL.tl (Txt.join "" (cs.map fun c => (⟨#[c]⟩ : Str))) = TL.joinL [] (cs.map fun c => [c]) := by
    rw [TL.join_eq, TL.tl_join, List.map_map]
    rfl
  refine ⟨_, e, ?_, ?_, ?_⟩
  · rw [List.map_map, List.length_map]
    clear e hp et
    induction cs with
    | nil => rfl
    | cons c cs ih =>
      rw [List.map_cons, List.sum_cons, ih]
      show 1 + cs.length = cs.length + 1
      omega
  · rw [str_len]
    show (TL.tl (Txt.join "" (cs.map fun c => (⟨#[c]⟩ : Str)))).length ≤ _
    rw [et]
    have q := joinL_len (S := []) 1 (ps := cs.map fun c => [c]) (by
      intro p hp
      obtain ⟨c, _, e⟩ := List.mem_map.mp hp
      rw [← e]
      exact Nat.le_refl _)
    rw [List.length_map] at q ⊢
    simpa using q
  · intro c hc
    have hc2 : c ∈ TL.joinL [] (cs.map fun c => [c]) := by
      rw [← et]
      exact hc
    rcases joinL_mem hc2 with h | ⟨p, h1, h2⟩
    · cases h
    · obtain ⟨d, hd, e⟩ := List.mem_map.mp h1
      rw [← e] at h2
      rw [List.mem_singleton.mp h2]
      exact hp d hd
end LL

namespace LL
open PySem PySem.Spec PyProof.Rows L2
theorem eqv_nil (ds : List PyData) : PyData.eqv (.list ds) (.list []) = ds.isEmpty := by
  cases ds <;> simp [PyData.eqv, PyData.eqvAll]
theorem shaped_strs {ss : List Str} (h : ∀ z ∈ ss, PyData.strOk z = true) : SeqAt.shaped (.list (ss.map .str)) = true := by
  have h1 : ss.all PyData.strOk = true := List.all_eq_true.mpr h
  simp [SeqAt.shaped, PyData.canLay0, PyProof.Rows.canLayAll_strs', PyData.depth, PyProof.Rows.depthAll_strs', h1]
theorem dpAll_strs {K : PySem.W.Frag} {H : Hp} : ∀ ss : List Str, DpAll K H (ss.map V.str) (ss.map PyData.str)
  | [] => .nil
  | z :: ss => .cons (.str z) (dpAll_strs ss)
theorem get_int {ns : List Int} {j : Nat} {v : V} (h : (ns.map V.int)[j]? = some v) : ∃ i, v = .int i := by
  rw [List.getElem?_map] at h
  cases q : ns[j]? with
  | none =>
    rw [q] at h
    cases h
  | some i =>
    rw [q] at h
    exact ⟨i, (Option.some.inj h).symm⟩
theorem get_str {ss : List Str} {j : Nat} {v : V} (h : (ss.map V.str)[j]? = some v) : ∃ z ∈ ss, v = .str z := by
  rw [List.getElem?_map] at h
  cases q : ss[j]? with
  | none =>
    rw [q] at h
    cases h
  | some z =>
    rw [q] at h
    exact ⟨z, List.mem_of_getElem? q, (Option.some.inj h).symm⟩
theorem tyx_kp {K : PySem.W.Frag} {H H' : Hp} {b : Addr} {x : V} {t : Value} (k : Kp b H H') (B : Bag H b) (h : TyX K H x t) : TyX K H' x t := by
  obtain ⟨l, ns, i, r, m, c, hb, hl⟩ := B
  obtain ⟨ns', i', r', m', c', hb', hl'⟩ := k.2 l ⟨ns, i, r, m, c, hb, hl⟩
  have at_ : ∀ {a : Addr} {o : HO}, H a = some o → (∀ xs, o ≠ .lst xs) → H' a = some o := fun {a o} e no => k.1 a o (fun z => by
    subst z
    rw [hb] at e
    exact no _ (Option.some.inj e).symm) e
  cases h with
  | base h =>
    cases h with
    | non => exact .base .non
    | bl b => exact .base (.bl b)
    | int i => exact .base (.int i)
    | str z => exact .base (.str z)
    | flt z => exact .base (.flt z)
    | @lst a xs e =>
      by_cases hab : a = b
      · rw [hab]
        exact .base (.lst hb')
      · exact .base (.lst (k.1 _ _ hab e))
    | frz e => exact .base (.frz (at_ e (fun _ q => nomatch q)))
    | tup e => exact .base (.tup (at_ e (fun _ q => nomatch q)))
    | dK e => exact .base (.dK (at_ e (fun _ q => nomatch q)))
    | dT e => exact .base (.dT (at_ e (fun _ q => nomatch q)))
    | ins e c a b d f => exact .base (.ins (at_ e (fun _ q => nomatch q)) c a b d f)
  | byt b => exact .byt b
  | set e => exact .set (at_ e (fun _ q => nomatch q))
  | kList e c => exact .kList e c
  | kTuple e c => exact .kTuple e c
  | kDict e c => exact .kDict e c
  | fTuple e => exact .fTuple (at_ e (fun _ q => nomatch q))
  | fDict e => exact .fDict (at_ e (fun _ q => nomatch q))
/-! ### displays whose items are such that P -/
section
variable {P : V → Hp → Prop} {σ : L2.St} {H0 : Hp} {te : TE} {ta : TA} {n : Nat}
def VO (P : V → Hp → Prop) (te : TE) (σ : L2.St) (H0 : Hp) : Prop := ∀ H, Same H0 H → ∀ Q : VK, (∀ v H', Same H H' → P v H' → Q v H') → te σ H Q
def AO (n : Nat) (P : V → Hp → Prop) (ta : TA) (σ : L2.St) (H0 : Hp) : Prop := ∀ H, Same H0 H → ∀ Q : List V → Hp → Prop, (∀ vs H', Same H H' → vs.length = n → (∀ v ∈ vs, P v H') → Q vs H') → ta σ H Q
theorem vo_c {v : V} (h : ∀ H, P v H) : VO P (tC v) σ H0 := fun H _ Q k => k v H (Same.refl H) (h H)
theorem vo_var {i : Nat} {v : V} (hs : σ[i]? = some (some v)) (h : ∀ H, Same H0 H → P v H) : VO P (tVar i) σ H0 := fun H s Q k => ⟨v, hs, k v H (Same.refl H) (h H s)⟩
theorem ao_nil : AO 0 P tNil σ H0 := fun H _ Q k => k [] H (Same.refl H) rfl fun _ q => nomatch q
theorem ao_cons (hP : ∀ v H H', Same H H' → P v H → P v H') (h : VO P te σ H0) (hr : AO n P ta σ H0) : AO (n + 1) P (tCons te ta) σ H0 := fun H s Q k =>
  h H s _ fun v H1 s1 p1 => hr H1 (s.trans s1) _ fun vs H2 s2 l2 p2 => k (v :: vs) H2 (s1.trans s2) (congrArg Nat.succ l2) fun u hu => by
    rcases List.mem_cons.mp hu with hu | hu
    · rw [hu]
      exact hP v H1 H2 s2 p1
    · exact p2 u hu
theorem vo_lst {P' : V → Hp → Prop} (h : AO n P' ta σ H0) (hP : ∀ p H xs, H p = some (.lst xs) → P (.ref p) H) (hn : n ≤ 1000 := by decide) : VO P (tLst ta) σ H0 := fun H s Q k =>
  h H s _ fun vs H1 s1 l1 _ => ⟨by rw [l1]; exact Nat.le_trans hn (by decide), fun p np => k (.ref p) _ (same_upd2 s1 np) (hP p _ vs upd_same)⟩
theorem vo_tup {P' : V → Hp → Prop} (h : AO n P' ta σ H0) (hP : ∀ p H xs, H p = some (.tup xs) → P (.ref p) H) (hn : n ≤ 1000 := by decide) : VO P (tTup ta) σ H0 := fun H s Q k =>
  h H s _ fun vs H1 s1 l1 _ => ⟨by rw [l1]; exact Nat.le_trans hn (by decide), fun p np => k (.ref p) _ (same_upd2 s1 np) (hP p _ vs upd_same)⟩
end
/-- any value -/
def AnyV : V → Hp → Prop := fun _ _ => True
theorem anyS : ∀ v H H', Same H H' → AnyV v H → AnyV v H' := fun _ _ _ _ _ => True.intro
end LL

namespace LL
open PySem PySem.Spec PyProof.Rows L2
/-- a list display as the last argument -/
theorem arg_lst {P : V → Hp → Prop} {σ : L2.St} {H0 H : Hp} {ta : TA} {n : Nat} {Q : List V → Hp → Prop} (h : AO n P ta σ H0) (s : Same H0 H) (hn : n ≤ 1000000)
    (k : ∀ (vs : List V) (p : Addr) (H' : Hp), Same H H' → H' p = none → vs.length = n → (∀ v ∈ vs, P v H') → Q [.ref p] (upd H' p (.lst vs))) : tCons (tLst ta) tNil σ H Q :=
  h H s _ fun vs H1 s1 l1 p1 => ⟨by rw [l1]; exact Nat.le_trans hn (by decide), fun p np => k vs p H1 s1 np l1 p1⟩
end LL

namespace LL
open PySem PySem.Spec PyProof.Rows L2
theorem fd_one {K : PySem.W.Frag} {x qual : Str} {params : Arguments} {body : List Stmt} {scope : Scope} {dvs : List V} {kws : List (Str × V)} {f : Addr} {fd fd' : FuncData} (F : FunD K x qual params body scope dvs kws f fd) (F' : FunD K x qual params body scope dvs kws f fd') : fd = fd' := by
  obtain ⟨_, _, _, _, _, _, _, _, _, _, _, e, _⟩ := F.ex
  obtain ⟨_, _, _, _, _, _, _, _, _, _, _, e', _⟩ := F'.ex
  rw [e] at e'
  injection e' with e'
  injection e' with _ _ e' _
  injection e'
end LL
namespace K01
open PySem PySem.Spec PyProof.Rows L2 RZ LL
open C8 (Cal Mak Met CalAt pe_c pe_mk pe_mt pe_mt0 pe_gc)
def topS (i : Nat) : Stmt := PySem.Challenge.pw_pooledeyes_k01_names_and_numbers_judged.main.body.getD i (.Pass ⟨0, 0, 0, 0⟩)
abbrev s_is_name : Stmt := topS 3
abbrev s_is_number : Stmt := topS 4
abbrev s_Circle___init__ : Stmt := inClass (topS 13) 1
abbrev s_eye : Stmt := topS 15
abbrev s__law_bag : Stmt := topS 22
abbrev s__law_draw : Stmt := topS 23
abbrev s__law_of : Stmt := topS 24
abbrev s__law_same : Stmt := topS 25
abbrev s__law_is_title : Stmt := topS 26
abbrev s__law_cut_to : Stmt := topS 27
abbrev s__law_end : Stmt := topS 28
abbrev s__law_word : Stmt := topS 29
abbrev s__law_other : Stmt := topS 30
abbrev s__law_value : Stmt := topS 31
abbrev s_law : Stmt := topS 32
abbrev N_is_name : List Str := ["value", "letter"]
theorem sc_is_name : FnScope ["value", "letter"] ["value"] (defScope s_is_name) := ⟨rfl, rfl, rfl, by decide +kernel, rfl, by decide +kernel, by decide +kernel⟩
abbrev N_is_number : List Str := ["value", "least", "most"]
theorem sc_is_number : FnScope ["value", "least", "most"] ["value", "least", "most"] (defScope s_is_number) := ⟨rfl, rfl, rfl, by decide +kernel, rfl, by decide +kernel, by decide +kernel⟩
abbrev N_Circle___init__ : List Str := ["self", "kind", "name", "rows", "part", "names", "each"]
theorem sc_Circle___init__ : FnScope ["self", "kind", "name", "rows", "part", "names", "each"] ["self", "kind", "name", "rows"] (defScope s_Circle___init__) := ⟨rfl, rfl, rfl, by decide +kernel, rfl, by decide +kernel, by decide +kernel⟩
abbrev N_eye : List Str := ["name"]
theorem sc_eye : FnScope ["name"] ["name"] (defScope s_eye) := ⟨rfl, rfl, rfl, by decide +kernel, rfl, by decide +kernel, by decide +kernel⟩
abbrev N__law_bag : List Str := ["_law_script", "_law_mixed", "_law_piece"]
theorem sc__law_bag : FnScope ["_law_script", "_law_mixed", "_law_piece"] ["_law_script"] (defScope s__law_bag) := ⟨rfl, rfl, rfl, by decide +kernel, rfl, by decide +kernel, by decide +kernel⟩
abbrev N__law_draw : List Str := ["_law_bag_here", "_law_sides", "_law_piece", "_law_digit", "_law_state"]
theorem sc__law_draw : FnScope ["_law_bag_here", "_law_sides", "_law_piece", "_law_digit", "_law_state"] ["_law_bag_here", "_law_sides"] (defScope s__law_draw) := ⟨rfl, rfl, rfl, by decide +kernel, rfl, by decide +kernel, by decide +kernel⟩
abbrev N__law_of : List Str := ["_law_bag_here", "_law_things"]
theorem sc__law_of : FnScope ["_law_bag_here", "_law_things"] ["_law_bag_here", "_law_things"] (defScope s__law_of) := ⟨rfl, rfl, rfl, by decide +kernel, rfl, by decide +kernel, by decide +kernel⟩
abbrev N__law_same : List Str := ["_law_found", "_law_due", "_law_x", "_law_y", "_law_mark"]
theorem sc__law_same : FnScope ["_law_found", "_law_due", "_law_x", "_law_y", "_law_mark"] ["_law_found", "_law_due"] (defScope s__law_same) := ⟨rfl, rfl, rfl, by decide +kernel, rfl, by decide +kernel, by decide +kernel⟩
abbrev N__law_is_title : List Str := ["_law_thing", "_law_sign"]
theorem sc__law_is_title : FnScope ["_law_thing", "_law_sign"] ["_law_thing"] (defScope s__law_is_title) := ⟨rfl, rfl, rfl, by decide +kernel, rfl, by decide +kernel, by decide +kernel⟩
abbrev N__law_cut_to : List Str := ["_law_number_here"]
theorem sc__law_cut_to : FnScope ["_law_number_here"] ["_law_number_here"] (defScope s__law_cut_to) := ⟨rfl, rfl, rfl, by decide +kernel, rfl, by decide +kernel, by decide +kernel⟩
abbrev N__law_end : List Str := ["_law_bag_here", "_law_far"]
theorem sc__law_end : FnScope ["_law_bag_here", "_law_far"] ["_law_bag_here"] (defScope s__law_end) := ⟨rfl, rfl, rfl, by decide +kernel, rfl, by decide +kernel, by decide +kernel⟩
abbrev N__law_word : List Str := ["_law_bag_here", "_law_turn", "_law_size", "_law_good", "_law_k", "_law_spot", "_law_sign"]
theorem sc__law_word : FnScope ["_law_bag_here", "_law_turn", "_law_size", "_law_good", "_law_k", "_law_spot", "_law_sign"] ["_law_bag_here"] (defScope s__law_word) := ⟨rfl, rfl, rfl, by decide +kernel, rfl, by decide +kernel, by decide +kernel⟩
abbrev N__law_other : List Str := ["_law_bag_here", "_law_x"]
theorem sc__law_other : FnScope ["_law_bag_here", "_law_x"] ["_law_bag_here"] (defScope s__law_other) := ⟨rfl, rfl, rfl, by decide +kernel, rfl, by decide +kernel, by decide +kernel⟩
abbrev N__law_value : List Str := ["_law_bag_here", "_law_low", "_law_high", "_law_turn"]
theorem sc__law_value : FnScope ["_law_bag_here", "_law_low", "_law_high", "_law_turn"] ["_law_bag_here", "_law_low", "_law_high"] (defScope s__law_value) := ⟨rfl, rfl, rfl, by decide +kernel, rfl, by decide +kernel, by decide +kernel⟩
abbrev N_law : List Str := ["_law_script", "_law_bag_here", "_law_turn", "_law_low", "_law_high", "_law_x", "_law_due", "_law_told", "_law_word_here"]
theorem sc_law : FnScope ["_law_script", "_law_bag_here", "_law_turn", "_law_low", "_law_high", "_law_x", "_law_due", "_law_told", "_law_word_here"] ["_law_script"] (defScope s_law) := ⟨rfl, rfl, rfl, by decide +kernel, rfl, by decide +kernel, by decide +kernel⟩
def d_is_name : He.DefD := ⟨("is_name", none), "is_name", "is_name", defArgs s_is_name, defBody s_is_name, defScope s_is_name, [], []⟩
def d_is_number : He.DefD := ⟨("is_number", none), "is_number", "is_number", defArgs s_is_number, defBody s_is_number, defScope s_is_number, [], []⟩
def d_Circle___init__ : He.DefD := ⟨("Circle", some "__init__"), "__init__", "Circle.__init__", defArgs s_Circle___init__, defBody s_Circle___init__, defScope s_Circle___init__, [], []⟩
def d_eye : He.DefD := ⟨("eye", none), "eye", "eye", defArgs s_eye, defBody s_eye, defScope s_eye, [], []⟩
def d__law_bag : He.DefD := ⟨("_law_bag", none), "_law_bag", "_law_bag", defArgs s__law_bag, defBody s__law_bag, defScope s__law_bag, [], []⟩
def d__law_draw : He.DefD := ⟨("_law_draw", none), "_law_draw", "_law_draw", defArgs s__law_draw, defBody s__law_draw, defScope s__law_draw, [], []⟩
def d__law_of : He.DefD := ⟨("_law_of", none), "_law_of", "_law_of", defArgs s__law_of, defBody s__law_of, defScope s__law_of, [], []⟩
def d__law_same : He.DefD := ⟨("_law_same", none), "_law_same", "_law_same", defArgs s__law_same, defBody s__law_same, defScope s__law_same, [], []⟩
def d__law_is_title : He.DefD := ⟨("_law_is_title", none), "_law_is_title", "_law_is_title", defArgs s__law_is_title, defBody s__law_is_title, defScope s__law_is_title, [], []⟩
def d__law_cut_to : He.DefD := ⟨("_law_cut_to", none), "_law_cut_to", "_law_cut_to", defArgs s__law_cut_to, defBody s__law_cut_to, defScope s__law_cut_to, [], []⟩
def d__law_end : He.DefD := ⟨("_law_end", none), "_law_end", "_law_end", defArgs s__law_end, defBody s__law_end, defScope s__law_end, [], []⟩
def d__law_word : He.DefD := ⟨("_law_word", none), "_law_word", "_law_word", defArgs s__law_word, defBody s__law_word, defScope s__law_word, [], []⟩
def d__law_other : He.DefD := ⟨("_law_other", none), "_law_other", "_law_other", defArgs s__law_other, defBody s__law_other, defScope s__law_other, [], []⟩
def d__law_value : He.DefD := ⟨("_law_value", none), "_law_value", "_law_value", defArgs s__law_value, defBody s__law_value, defScope s__law_value, [], []⟩
def d_law : He.DefD := ⟨("law", none), "law", "law", defArgs s_law, defBody s_law, defScope s_law, [], []⟩
def fn : List He.DefD := [d_is_name, d_is_number, d_Circle___init__, d_eye, d__law_bag, d__law_draw, d__law_of, d__law_same, d__law_is_title, d__law_cut_to, d__law_end, d__law_word, d__law_other, d__law_value, d_law]
def fa0 : List He.Fa := [.free "isinstance", .free "str", .int "LONGEST" 6, .free "len", .free "all", .str "LETTERS" "abcdefghijklmnopqrstuvwxyz", .free "bool", .free "int", .free "tuple", .free "sum", .free "max", .free "sorted", .glo "SIGNS", .glo "written_part", .free "set", .glo "is_name", .glo "InvalidName", .glo "Circle", .free "list", .free "abs", .glo "_law_draw", .glo "_law_same", .free "zip", .free "dict", .free "min", .glo "_law_of", .free "range", .glo "eye", .glo "_law_cut_to", .glo "_law_word"]
def fa1 : List He.Fa := [.glo "_law_other", .glo "_law_end", .glo "_law_bag", .glo "_law_value", .glo "_law_is_title", .glo "is_number", .glo "law", .cls "Circle", .mkr "Circle", .noat "Circle" "kind", .noat "Circle" "name", .noat "Circle" "_rows", .noat "Circle" "size", .noat "Circle" "depth", .noat "Circle" "_text", .noat "Circle" "_names"]
def fa : List He.Fa := fa0 ++ (fa1)
def ex (K : PySem.W.Frag) : Bool := LL.insB K (He.ga K "Circle") && (LL.kitIs K (He.ga K "Circle") "str" false && (LL.kitIs K (He.ga K "Circle") "bool" false && LL.kitIs K (He.ga K "Circle") "int" false))
/-! the hook: the facts, the defs, one more Bool -/
abbrev AlE : Type := He.AlD × Bool
def obsE (g : Addr → Option Obj) : AlE := (He.obsDG 5 fa fn g, ex (He.frG g (He.asD g 5)))
def Says (K : PySem.W.Frag) : Prop := He.SaysD fa fn K ∧ ex K = true
def hk : PySem.W.Hook where
  α := AlE
  obs := fun s => obsE s.heap.get?
  val := fun _ => (He.valD fn, true)
  says := fun _ h => ∃ K : PySem.W.Frag, K.In h ∧ Says K
  of := fun _ _ e => ⟨_, He.frG_in, congrArg (fun z : AlE => z.1) e, congrArg (fun z : AlE => z.2) e⟩
  keeps := fun _ _ _ ⟨K, hK, c⟩ k => ⟨K, PySem.W.Frag.In.keeps hK k, c⟩
def ob (s : PySem.W.SharedT) : AlE := obsE (HandSHeadRun.getT s)
theorem ob_eq (s : PySem.W.SharedT) : ob s = hk.obs s.abs := by
  have e : HandSHeadRun.getT s = s.abs.heap.get? := funext (HandSHeadRun.getT_eq s)
  show obsE (HandSHeadRun.getT s) = obsE s.abs.heap.get?
  rw [e]
/-- what is known of the top: its objects stand in K, its names in mg -/
structure Txt (K : PySem.W.Frag) (mg : Str → Option Value) : Prop where
  here : ∃ h : Heap, K.In h ∧ h.Ns mainGlobals mg
  says : Says K
section
variable {K : PySem.W.Frag} {mg : Str → Option Value}
theorem Txt.fact (T : Txt K mg) (i : Nat) {f : He.Fa} (h : fa[i]? = some f) : f.ok K = true := T.says.1.fact i h
theorem Txt.glo (T : Txt K mg) (i : Nat) {x : Str} (h : fa[i]? = some (.glo x)) : mg x = some (.ref (He.ga K x)) := by
  obtain ⟨_, X, G⟩ := T.here
  exact He.glo_ok X G (T.fact i h)
theorem Txt.free (T : Txt K mg) (i : Nat) {x : Str} (h : fa[i]? = some (.free x)) : mg x = none := by
  obtain ⟨_, X, G⟩ := T.here
  exact He.free_ok X G (T.fact i h)
theorem Txt.int (T : Txt K mg) (i : Nat) {x : Str} {n : Int} (h : fa[i]? = some (.int x n)) : ∃ u, mg x = some u ∧ RelV (.int n) u := by
  obtain ⟨_, X, G⟩ := T.here
  obtain ⟨t, e⟩ := He.int_ok X G (T.fact i h)
  exact ⟨_, e, t, rfl⟩
theorem Txt.str (T : Txt K mg) (i : Nat) {x z : Str} (h : fa[i]? = some (.str x z)) : ∃ u, mg x = some u ∧ RelV (.str z) u := by
  obtain ⟨_, X, G⟩ := T.here
  obtain ⟨t, e⟩ := He.str_ok X G (T.fact i h)
  exact ⟨_, e, t, rfl⟩
theorem Txt.def_ (T : Txt K mg) (i : Nat) {d : He.DefD} (h : fn[i]? = some d) : ∃ fd, FunD K d.name d.qual d.params d.body d.scope (d.dvs K) (d.kws K) (He.fAd K d.at_) fd := T.says.1.def_ i h

theorem Txt.z_isinstance (T : Txt K mg) : mg "isinstance" = none := T.free 0 rfl
theorem Txt.z_str (T : Txt K mg) : mg "str" = none := T.free 1 rfl
theorem Txt.v_LONGEST (T : Txt K mg) : ∃ u, mg "LONGEST" = some u ∧ RelV (.int 6) u := T.int 2 rfl
theorem Txt.z_len (T : Txt K mg) : mg "len" = none := T.free 3 rfl
theorem Txt.z_all (T : Txt K mg) : mg "all" = none := T.free 4 rfl
theorem Txt.v_LETTERS (T : Txt K mg) : ∃ u, mg "LETTERS" = some u ∧ RelV (.str "abcdefghijklmnopqrstuvwxyz") u := T.str 5 rfl
theorem Txt.z_bool (T : Txt K mg) : mg "bool" = none := T.free 6 rfl
theorem Txt.z_int (T : Txt K mg) : mg "int" = none := T.free 7 rfl
theorem Txt.z_tuple (T : Txt K mg) : mg "tuple" = none := T.free 8 rfl
theorem Txt.z_sum (T : Txt K mg) : mg "sum" = none := T.free 9 rfl
theorem Txt.z_max (T : Txt K mg) : mg "max" = none := T.free 10 rfl
theorem Txt.z_sorted (T : Txt K mg) : mg "sorted" = none := T.free 11 rfl
theorem Txt.g_SIGNS (T : Txt K mg) : mg "SIGNS" = some (.ref (He.ga K "SIGNS")) := T.glo 12 rfl
theorem Txt.v_SIGNS (T : Txt K mg) : ∃ u, mg "SIGNS" = some u ∧ RelV (.ref (He.ga K "SIGNS")) u := ⟨_, T.g_SIGNS, rfl⟩
theorem Txt.g_written_part (T : Txt K mg) : mg "written_part" = some (.ref (He.ga K "written_part")) := T.glo 13 rfl
theorem Txt.v_written_part (T : Txt K mg) : ∃ u, mg "written_part" = some u ∧ RelV (.ref (He.ga K "written_part")) u := ⟨_, T.g_written_part, rfl⟩
theorem Txt.z_set (T : Txt K mg) : mg "set" = none := T.free 14 rfl
theorem Txt.g_is_name (T : Txt K mg) : mg "is_name" = some (.ref (He.ga K "is_name")) := T.glo 15 rfl
theorem Txt.v_is_name (T : Txt K mg) : ∃ u, mg "is_name" = some u ∧ RelV (.ref (He.ga K "is_name")) u := ⟨_, T.g_is_name, rfl⟩
theorem Txt.g_InvalidName (T : Txt K mg) : mg "InvalidName" = some (.ref (He.ga K "InvalidName")) := T.glo 16 rfl
theorem Txt.v_InvalidName (T : Txt K mg) : ∃ u, mg "InvalidName" = some u ∧ RelV (.ref (He.ga K "InvalidName")) u := ⟨_, T.g_InvalidName, rfl⟩
theorem Txt.g_Circle (T : Txt K mg) : mg "Circle" = some (.ref (He.ga K "Circle")) := T.glo 17 rfl
theorem Txt.v_Circle (T : Txt K mg) : ∃ u, mg "Circle" = some u ∧ RelV (.ref (He.ga K "Circle")) u := ⟨_, T.g_Circle, rfl⟩
theorem Txt.z_list (T : Txt K mg) : mg "list" = none := T.free 18 rfl
theorem Txt.z_abs (T : Txt K mg) : mg "abs" = none := T.free 19 rfl
theorem Txt.g__law_draw (T : Txt K mg) : mg "_law_draw" = some (.ref (He.ga K "_law_draw")) := T.glo 20 rfl
theorem Txt.v__law_draw (T : Txt K mg) : ∃ u, mg "_law_draw" = some u ∧ RelV (.ref (He.ga K "_law_draw")) u := ⟨_, T.g__law_draw, rfl⟩
theorem Txt.g__law_same (T : Txt K mg) : mg "_law_same" = some (.ref (He.ga K "_law_same")) := T.glo 21 rfl
theorem Txt.v__law_same (T : Txt K mg) : ∃ u, mg "_law_same" = some u ∧ RelV (.ref (He.ga K "_law_same")) u := ⟨_, T.g__law_same, rfl⟩
theorem Txt.z_zip (T : Txt K mg) : mg "zip" = none := T.free 22 rfl
theorem Txt.z_dict (T : Txt K mg) : mg "dict" = none := T.free 23 rfl
theorem Txt.z_min (T : Txt K mg) : mg "min" = none := T.free 24 rfl
theorem Txt.g__law_of (T : Txt K mg) : mg "_law_of" = some (.ref (He.ga K "_law_of")) := T.glo 25 rfl
theorem Txt.v__law_of (T : Txt K mg) : ∃ u, mg "_law_of" = some u ∧ RelV (.ref (He.ga K "_law_of")) u := ⟨_, T.g__law_of, rfl⟩
theorem Txt.z_range (T : Txt K mg) : mg "range" = none := T.free 26 rfl
theorem Txt.g_eye (T : Txt K mg) : mg "eye" = some (.ref (He.ga K "eye")) := T.glo 27 rfl
theorem Txt.v_eye (T : Txt K mg) : ∃ u, mg "eye" = some u ∧ RelV (.ref (He.ga K "eye")) u := ⟨_, T.g_eye, rfl⟩
theorem Txt.g__law_cut_to (T : Txt K mg) : mg "_law_cut_to" = some (.ref (He.ga K "_law_cut_to")) := T.glo 28 rfl
theorem Txt.v__law_cut_to (T : Txt K mg) : ∃ u, mg "_law_cut_to" = some u ∧ RelV (.ref (He.ga K "_law_cut_to")) u := ⟨_, T.g__law_cut_to, rfl⟩
theorem Txt.g__law_word (T : Txt K mg) : mg "_law_word" = some (.ref (He.ga K "_law_word")) := T.glo 29 rfl
theorem Txt.v__law_word (T : Txt K mg) : ∃ u, mg "_law_word" = some u ∧ RelV (.ref (He.ga K "_law_word")) u := ⟨_, T.g__law_word, rfl⟩
theorem Txt.g__law_other (T : Txt K mg) : mg "_law_other" = some (.ref (He.ga K "_law_other")) := T.glo 30 rfl
theorem Txt.v__law_other (T : Txt K mg) : ∃ u, mg "_law_other" = some u ∧ RelV (.ref (He.ga K "_law_other")) u := ⟨_, T.g__law_other, rfl⟩
theorem Txt.g__law_end (T : Txt K mg) : mg "_law_end" = some (.ref (He.ga K "_law_end")) := T.glo 31 rfl
theorem Txt.v__law_end (T : Txt K mg) : ∃ u, mg "_law_end" = some u ∧ RelV (.ref (He.ga K "_law_end")) u := ⟨_, T.g__law_end, rfl⟩
theorem Txt.g__law_bag (T : Txt K mg) : mg "_law_bag" = some (.ref (He.ga K "_law_bag")) := T.glo 32 rfl
theorem Txt.v__law_bag (T : Txt K mg) : ∃ u, mg "_law_bag" = some u ∧ RelV (.ref (He.ga K "_law_bag")) u := ⟨_, T.g__law_bag, rfl⟩
theorem Txt.g__law_value (T : Txt K mg) : mg "_law_value" = some (.ref (He.ga K "_law_value")) := T.glo 33 rfl
theorem Txt.v__law_value (T : Txt K mg) : ∃ u, mg "_law_value" = some u ∧ RelV (.ref (He.ga K "_law_value")) u := ⟨_, T.g__law_value, rfl⟩
theorem Txt.g__law_is_title (T : Txt K mg) : mg "_law_is_title" = some (.ref (He.ga K "_law_is_title")) := T.glo 34 rfl
theorem Txt.v__law_is_title (T : Txt K mg) : ∃ u, mg "_law_is_title" = some u ∧ RelV (.ref (He.ga K "_law_is_title")) u := ⟨_, T.g__law_is_title, rfl⟩
theorem Txt.g_is_number (T : Txt K mg) : mg "is_number" = some (.ref (He.ga K "is_number")) := T.glo 35 rfl
theorem Txt.v_is_number (T : Txt K mg) : ∃ u, mg "is_number" = some u ∧ RelV (.ref (He.ga K "is_number")) u := ⟨_, T.g_is_number, rfl⟩
theorem Txt.g_law (T : Txt K mg) : mg "law" = some (.ref (He.ga K "law")) := T.glo 36 rfl
theorem Txt.v_law (T : Txt K mg) : ∃ u, mg "law" = some u ∧ RelV (.ref (He.ga K "law")) u := ⟨_, T.g_law, rfl⟩
theorem Txt.f_cls_Circle (T : Txt K mg) : (He.Fa.cls "Circle").ok K = true := T.fact 37 rfl
theorem Txt.f_mkr_Circle (T : Txt K mg) : (He.Fa.mkr "Circle").ok K = true := T.fact 38 rfl
theorem Txt.f_no_Circle_kind (T : Txt K mg) : (He.Fa.noat "Circle" "kind").ok K = true := T.fact 39 rfl
theorem Txt.f_no_Circle_name (T : Txt K mg) : (He.Fa.noat "Circle" "name").ok K = true := T.fact 40 rfl
theorem Txt.f_no_Circle__rows (T : Txt K mg) : (He.Fa.noat "Circle" "_rows").ok K = true := T.fact 41 rfl
theorem Txt.f_no_Circle_size (T : Txt K mg) : (He.Fa.noat "Circle" "size").ok K = true := T.fact 42 rfl
theorem Txt.f_no_Circle_depth (T : Txt K mg) : (He.Fa.noat "Circle" "depth").ok K = true := T.fact 43 rfl
theorem Txt.f_no_Circle__text (T : Txt K mg) : (He.Fa.noat "Circle" "_text").ok K = true := T.fact 44 rfl
theorem Txt.f_no_Circle__names (T : Txt K mg) : (He.Fa.noat "Circle" "_names").ok K = true := T.fact 45 rfl
theorem Txt.F_is_name (T : Txt K mg) : ∃ fd, FunD K d_is_name.name d_is_name.qual d_is_name.params d_is_name.body d_is_name.scope (d_is_name.dvs K) (d_is_name.kws K) (He.fAd K d_is_name.at_) fd := T.def_ 0 rfl
theorem Txt.F_is_number (T : Txt K mg) : ∃ fd, FunD K d_is_number.name d_is_number.qual d_is_number.params d_is_number.body d_is_number.scope (d_is_number.dvs K) (d_is_number.kws K) (He.fAd K d_is_number.at_) fd := T.def_ 1 rfl
theorem Txt.F_Circle___init__ (T : Txt K mg) : ∃ fd, FunD K d_Circle___init__.name d_Circle___init__.qual d_Circle___init__.params d_Circle___init__.body d_Circle___init__.scope (d_Circle___init__.dvs K) (d_Circle___init__.kws K) (He.fAd K d_Circle___init__.at_) fd := T.def_ 2 rfl
theorem Txt.F_eye (T : Txt K mg) : ∃ fd, FunD K d_eye.name d_eye.qual d_eye.params d_eye.body d_eye.scope (d_eye.dvs K) (d_eye.kws K) (He.fAd K d_eye.at_) fd := T.def_ 3 rfl
theorem Txt.F__law_bag (T : Txt K mg) : ∃ fd, FunD K d__law_bag.name d__law_bag.qual d__law_bag.params d__law_bag.body d__law_bag.scope (d__law_bag.dvs K) (d__law_bag.kws K) (He.fAd K d__law_bag.at_) fd := T.def_ 4 rfl
theorem Txt.F__law_draw (T : Txt K mg) : ∃ fd, FunD K d__law_draw.name d__law_draw.qual d__law_draw.params d__law_draw.body d__law_draw.scope (d__law_draw.dvs K) (d__law_draw.kws K) (He.fAd K d__law_draw.at_) fd := T.def_ 5 rfl
theorem Txt.F__law_of (T : Txt K mg) : ∃ fd, FunD K d__law_of.name d__law_of.qual d__law_of.params d__law_of.body d__law_of.scope (d__law_of.dvs K) (d__law_of.kws K) (He.fAd K d__law_of.at_) fd := T.def_ 6 rfl
theorem Txt.F__law_same (T : Txt K mg) : ∃ fd, FunD K d__law_same.name d__law_same.qual d__law_same.params d__law_same.body d__law_same.scope (d__law_same.dvs K) (d__law_same.kws K) (He.fAd K d__law_same.at_) fd := T.def_ 7 rfl
theorem Txt.F__law_is_title (T : Txt K mg) : ∃ fd, FunD K d__law_is_title.name d__law_is_title.qual d__law_is_title.params d__law_is_title.body d__law_is_title.scope (d__law_is_title.dvs K) (d__law_is_title.kws K) (He.fAd K d__law_is_title.at_) fd := T.def_ 8 rfl
theorem Txt.F__law_cut_to (T : Txt K mg) : ∃ fd, FunD K d__law_cut_to.name d__law_cut_to.qual d__law_cut_to.params d__law_cut_to.body d__law_cut_to.scope (d__law_cut_to.dvs K) (d__law_cut_to.kws K) (He.fAd K d__law_cut_to.at_) fd := T.def_ 9 rfl
theorem Txt.F__law_end (T : Txt K mg) : ∃ fd, FunD K d__law_end.name d__law_end.qual d__law_end.params d__law_end.body d__law_end.scope (d__law_end.dvs K) (d__law_end.kws K) (He.fAd K d__law_end.at_) fd := T.def_ 10 rfl
theorem Txt.F__law_word (T : Txt K mg) : ∃ fd, FunD K d__law_word.name d__law_word.qual d__law_word.params d__law_word.body d__law_word.scope (d__law_word.dvs K) (d__law_word.kws K) (He.fAd K d__law_word.at_) fd := T.def_ 11 rfl
theorem Txt.F__law_other (T : Txt K mg) : ∃ fd, FunD K d__law_other.name d__law_other.qual d__law_other.params d__law_other.body d__law_other.scope (d__law_other.dvs K) (d__law_other.kws K) (He.fAd K d__law_other.at_) fd := T.def_ 12 rfl
theorem Txt.F__law_value (T : Txt K mg) : ∃ fd, FunD K d__law_value.name d__law_value.qual d__law_value.params d__law_value.body d__law_value.scope (d__law_value.dvs K) (d__law_value.kws K) (He.fAd K d__law_value.at_) fd := T.def_ 13 rfl
theorem Txt.F_law (T : Txt K mg) : ∃ fd, FunD K d_law.name d_law.qual d_law.params d_law.body d_law.scope (d_law.dvs K) (d_law.kws K) (He.fAd K d_law.at_) fd := T.def_ 14 rfl
end
end K01
namespace K01
open PySem PySem.Spec PyProof.Rows L2 RZ LL
open C8 (Cal Mak Met CalAt pe_c pe_mk pe_mt pe_mt0 pe_gc)
section
variable {P : Program} {w : World} {K : PySem.W.Frag} {mg : Str → Option Value} {base : Heap}
/-! ### the bag and the draws -/
def spBag (K : PySem.W.Frag) : Sp := fun vs H Q _ => ∃ (a : Addr) (ns : List Int), vs = [.ref a] ∧ SqL K H a (ns.map V.int) ∧ ns.length ≤ 63 ∧ ∀ (b : Addr) (H' : Hp), Same H H' → H b = none → Bag H' b → Q (.ref b) H'
theorem C__law_bag (T : Txt K mg) : Cal P w K mg base 1 "_law_bag" (spBag K) [] := by
  obtain ⟨fd, F⟩ := T.F__law_bag
  have b : Binds K fd ["_law_script"] [] := FunD.bindsN F fun _ _ _ _ _ _ us hl => match us, hl with | [_], _ => rfl
  refine calD F T.g__law_bag b sc__law_bag (fun vs H Q E h => ?_) (fun cdv A outer s H vs Q E hr h => ?_)
  · obtain ⟨a, ns, rfl, _⟩ := h
    rfl
  · obtain ⟨a, ns, rfl, hS, hl, k⟩ := h
    have hl2 : (ns.map V.int).length ≤ 63 := by rw [List.length_map]; exact hl
    refine ⟨_, (pss_cons (ps_set (i := 1) sc__law_bag.nd rfl (Or.inl rfl) pe_int)
  (pss_cons (ps_for PassesOwn.never rfl (pi_list (pe_slice sl_list (pv 0) po_none (po_some pe_int))) (pg_name (i := 2) sc__law_bag.nd rfl (Or.inl rfl))
    (pss_one (ps_set (i := 1) sc__law_bag.nd rfl (Or.inl rfl) (pe_op op_modN (pe_callTy call_int1 (by rfl) T.z_int (by decide +kernel) (pa_cons (pe_op op_add (pe_op op_add (pe_op op_mul (pv 1) pe_int) (pe_op op_mul (pe_op op_modN (pe_callTy call_int1 (by rfl) T.z_int (by decide +kernel) (pa_cons (pv 2) pa_nil)) pe_int) pe_int)) pe_int) pa_nil)) pe_int))))
  (pss_one (ps_ret (pe_lst (pa_cons (pe_callTy call_list_of (by rfl) T.z_list (by decide +kernel) (pa_cons (pe_slice sl_list (pv 0) po_none (po_some pe_int)) pa_nil)) (pa_cons pe_int (pa_cons pe_int (pa_cons (pv 1) (pa_cons pe_int pa_nil)))))))))), ?_⟩
    refine ⟨_, rfl, 63, rfl, a, ns.map V.int, rfl, hS, fun p np => ?_⟩
    have ec : cutV (ns.map V.int) none (some 63) = ns.map V.int := cut_head _ 63 hl2
    rw [ec]
    have s1 : Same H (upd H p (.lst (ns.map V.int))) := same_upd np
    refine ⟨p, rfl, ⟨_, sqL_of upd_same⟩, for_list (K := K) (a := p) (xs := ns.map V.int) (fun i σ H' => ∃ (m : Int) (v : Option V), σ = [some (.ref a), some (.int m), v] ∧ 0 ≤ m ∧ m < 2147483587 ∧ H' = upd H p (.lst (ns.map V.int)))
      ⟨43001, none, rfl, by decide, by decide, rfl⟩ (fun i σ H' _ ⟨_, _, _, _, _, e⟩ => e ▸ sqL_of upd_same) ?_ ?_⟩
    · rintro i x σ H' hx ⟨m, v, rfl, m0, m1, rfl⟩
      obtain ⟨n, rfl⟩ : ∃ n, x = V.int n := by
        rw [List.getElem?_map] at hx
        cases q : ns[i]? with
        | none => rw [q] at hx; cases hx
        | some n => rw [q] at hx; exact ⟨n, (Option.some.inj hx).symm⟩
      refine ⟨_, rfl, _, _, rfl, rfl, .inr ⟨by decide, by decide⟩, ?_⟩
      refine ⟨_, rfl, .inl ⟨_, rfl, ?_⟩⟩
      refine ⟨_, _, rfl, rfl, (show (999979 : Int) ≠ 0 by decide), ?_⟩
      refine ⟨_, _, rfl, rfl, .inr ⟨by decide, by decide⟩, ?_⟩
      refine ⟨_, _, rfl, rfl, _, _, rfl, rfl, .inl ⟨_, rfl, ?_⟩⟩
      refine ⟨_, _, rfl, rfl, (show (2147483587 : Int) ≠ 0 by decide), ?_⟩
      exact ⟨_, _, rfl, fmod_lo _ (by decide), fmod_hi _ (by decide), rfl⟩
    · rintro σ H' ⟨m, v, rfl, m0, m1, rfl⟩
      -- return [list(script[:63]), 0, 0, mixed, 0]
      refine ⟨_, rfl, 63, rfl, a, ns.map V.int, rfl, s1.seq hS, fun q nq => ?_⟩
      rw [ec]
      have s2 : Same H (upd (upd H p (.lst (ns.map V.int))) q (.lst (ns.map V.int))) := same_upd2 s1 nq
      refine ⟨q, _, rfl, .inl (sqL_of upd_same), fun l nl => ?_⟩
      refine ⟨_, rfl, ?_⟩
      refine ⟨(show 5 ≤ sizeLine by decide), fun b nb => ?_⟩
      have s3 : Same H (upd (upd (upd H p (.lst (ns.map V.int))) q (.lst (ns.map V.int))) l (.lst (ns.map V.int))) := same_upd2 s2 nl
      have nlb : l ≠ b := by
        intro e
        rw [e, upd_same] at nb
        cases nb
      refine k b _ (same_upd2 s3 nb) (s3.free nb) ⟨l, ns, 0, 0, m, 0, upd_same, by rw [upd_ne nlb, upd_same], by decide, m0, by omega⟩
/-- a draw below n: nothing but the bag changes -/
def spDraw : Sp := fun vs H Q _ => ∃ (b : Addr) (n : Int), vs = [.ref b, .int n] ∧ Bag H b ∧ 0 < n ∧ n < 1073741824 ∧ ∀ (d : Int) (o : HO), 0 ≤ d → d < n → Kp b H (upd H b o) → Q (.int d) (upd H b o)
theorem C__law_draw (T : Txt K mg) : Cal P w K mg base 1 "_law_draw" spDraw [] := by
  obtain ⟨fd, F⟩ := T.F__law_draw
  have b : Binds K fd ["_law_bag_here", "_law_sides"] [] := FunD.bindsN F fun _ _ _ _ _ _ us hl => match us, hl with | [_, _], _ => rfl
  refine calD F T.g__law_draw b sc__law_draw (fun vs H Q E h => ?_) (fun cdv A outer s H vs Q E hr h => ?_)
  · obtain ⟨b, n, rfl, _⟩ := h
    rfl
  · obtain ⟨b, n, rfl, ⟨l, ns, i, r, m, c, B⟩, n0, n1, k⟩ := h
    refine ⟨_, (pss_cons (ps_asg (pe_op op_add (pe_ix ix_list (pv 0) pe_int (fun _ _ => rfl)) pe_int) (pg_sub (pv 0) pe_int set_list))
  (C8.pss_cut (ps_if (PW.pt (pw_and (pt_cmpR op_eq (pe_ix ix_list (pv 0) pe_int (fun _ _ => rfl)) pe_int (nomark _)) (pw_and1 (pt_cmpR op_lt (pe_ix ix_list (pv 0) pe_int (fun _ _ => rfl)) (pe_callB call_len_seq (by rfl) T.z_len PySem.boot_len (pa_cons (pe_ix ix_list (pv 0) pe_int (fun _ _ => rfl)) pa_nil)) (nomark _)))))
    (pss_cons (ps_set (i := 2) sc__law_draw.nd rfl (Or.inl rfl) (pe_callB call_abs (by rfl) T.z_abs (by decide +kernel) (pa_cons (pe_callTy call_int1 (by rfl) T.z_int (by decide +kernel) (pa_cons (pe_ix ix_list (pe_ix ix_list (pv 0) pe_int (fun _ _ => rfl)) (pe_ix ix_list (pv 0) pe_int (fun _ _ => rfl)) (fun _ _ => rfl)) pa_nil)) pa_nil)))
    (pss_cons (ps_asg (pe_op op_add (pe_ix ix_list (pv 0) pe_int (fun _ _ => rfl)) pe_int) (pg_sub (pv 0) pe_int set_list))
    (pss_one (ps_if (pt_cmpR op_ge (pv 2) (pe_op op_pow pe_int pe_int) (nomark _))
      (pss_one (ps_asg (pv 2) (pg_sub (pv 0) pe_int set_list)))
      (pss_one (ps_asg (pe_op op_modN (pe_callTy call_int1 (by rfl) T.z_int (by decide +kernel) (pa_cons (pe_op op_add (pe_op op_add (pe_op op_mul (pe_ix ix_list (pv 0) pe_int (fun _ _ => rfl)) pe_int) (pe_op op_mul (pe_op op_modN (pv 2) pe_int) pe_int)) pe_int) pa_nil)) pe_int) (pg_sub (pv 0) pe_int set_list)))))))
    pss_nil)
  (pss_cons (ps_if (pt_cmpR op_gt (pe_ix ix_list (pv 0) pe_int (fun _ _ => rfl)) pe_int (nomark _))
    (pss_cons (ps_set (i := 3) sc__law_draw.nd rfl (Or.inl rfl) (pe_op op_modN (pe_callTy call_int1 (by rfl) T.z_int (by decide +kernel) (pa_cons (pe_ix ix_list (pv 0) pe_int (fun _ _ => rfl)) pa_nil)) (pv 1)))
    (pss_cons (ps_asg (pe_op op_fdivN (pe_ix ix_list (pv 0) pe_int (fun _ _ => rfl)) (pv 1)) (pg_sub (pv 0) pe_int set_list))
    (pss_one (ps_ret (pv 3)))))
    pss_nil)
  (pss_cons (ps_set (i := 4) sc__law_draw.nd rfl (Or.inl rfl) (pe_callTy call_int1 (by rfl) T.z_int (by decide +kernel) (pa_cons (pe_ix ix_list (pv 0) pe_int (fun _ _ => rfl)) pa_nil)))
  (pss_cons (ps_asg (pe_op op_modN (pe_callTy call_int1 (by rfl) T.z_int (by decide +kernel) (pa_cons (pe_op op_add (pe_op op_add (pe_op op_add (pe_op op_mul (pe_op op_mul (pv 4) (pv 4)) pe_int) (pe_op op_mul (pv 4) pe_int)) (pe_op op_mul (pe_ix ix_list (pv 0) pe_int (fun _ _ => rfl)) pe_int)) pe_int) pa_nil)) pe_int) (pg_sub (pv 0) pe_int set_list))
  (pss_one (ps_ret (pe_op op_modN (pe_callTy call_int1 (by rfl) T.z_int (by decide +kernel) (pa_cons (pe_op op_add (pe_op op_fdivN (pe_ix ix_list (pv 0) pe_int (fun _ _ => rfl)) pe_int) (pe_op op_mul (pe_op op_modN (pe_callTy call_int1 (by rfl) T.z_int (by decide +kernel) (pa_cons (pe_ix ix_list (pv 0) pe_int (fun _ _ => rfl)) pa_nil)) pe_int) pe_int)) pa_nil)) (pv 1))))))))), ?_⟩
    have fin : ∀ (d : Int) (i' : Nat) (r' m' c' : Int), 0 ≤ d → d < n → 0 ≤ r' → 0 ≤ m' → m' < 2147483648 → Q (.int d) (upd H b (bagX l i' r' m' c')) := fun d i' r' m' c' h0 h1 h2 h3 h4 => k d _ h0 h1 (Kp.set B (B.put h2 h3 h4))
    clear k
    rw [← upd_self B.1]
    obtain ⟨Bb, Bl, r0, m0, m1⟩ := id B
    have nlb := B.ne
    have hL : ∀ o, SqL K (upd H b o) l (ns.map V.int) := fun o => sqL_of (by rw [upd_ne nlb]; exact Bl)
    have nn : n ≠ 0 := by omega
    -- one draw more
    refine ixB4 rfl ?_
    refine ⟨_, _, rfl, rfl, stB4 rfl ?_⟩
    refine ⟨fun σ' H' => ∃ (i : Nat) (r m : Int) (v : Option V), σ' = [some (.ref b), some (.int n), v, none, none] ∧ H' = upd H b (bagX l i r m (c + 1)) ∧ 0 ≤ r ∧ 0 ≤ m ∧ m < 2147483648, ?_, ?_⟩
    · -- the next cell, if there is one and no great one is left
      refine ixB2 rfl ?_
      refine ⟨rfl, _, rfl, ite2 (fun e1 => ?_) (fun _ => ?_)⟩
      · refine ixB1 rfl (ixB0 rfl ?_)
        refine ⟨_, _, rfl, .inl (hL _), ?_⟩
        refine ⟨_, _, rfl, rfl, _, rfl, ite2 (fun e2 => ?_) (fun _ => ?_)⟩
        · have hi : i < ns.length := by
            have q := of_decide_eq_true e2
            rw [List.length_map] at q
            omega
          refine ixB0 rfl (ixB1 rfl ?_)
          refine ⟨l, _, _, .int ns[i], rfl, rfl, hL _, atI_nat (by rw [List.getElem?_map, List.getElem?_eq_getElem hi] <;> rfl), ?_⟩
          refine .inl ⟨_, rfl, _, rfl, ?_⟩
          refine ixB1 rfl ?_
          refine ⟨_, _, rfl, rfl, stB1 rfl ?_⟩
          refine ⟨_, rfl, _, _, rfl, rfl, ⟨by decide, by decide, by decide⟩, _, _, rfl, rfl, _, rfl, ite2 (fun _ => ?_) (fun _ => ?_)⟩
          · refine ⟨_, rfl, stB2 rfl ?_⟩
            exact ⟨i + 1, _, m, _, rfl, rfl, abs_lo _, m0, m1⟩
          · refine ixB3 rfl ?_
            refine ⟨_, _, rfl, rfl, .inr ⟨by decide, by decide⟩, ?_⟩
            refine ⟨_, rfl, _, _, rfl, rfl, (show (999979 : Int) ≠ 0 by decide), ?_⟩
            refine ⟨_, _, rfl, rfl, .inr ⟨by decide, by decide⟩, ?_⟩
            refine ⟨_, _, rfl, rfl, _, _, rfl, rfl, .inl ⟨_, rfl, ?_⟩⟩
            refine ⟨_, _, rfl, rfl, (show (2147483579 : Int) ≠ 0 by decide), stB3 rfl ?_⟩
            refine ⟨i + 1, r, _, _, rfl, rfl, r0, fmod_lo _ (by decide), ?_⟩
            have q := fmod_hi (m * 40014 + (if ns[i] < 0 then -ns[i] else ns[i]).fmod 999979 * 613 + 29) (j := 2147483579) (by decide)
            omega
        · exact ⟨i, r, m, none, rfl, rfl, r0, m0, m1⟩
      · exact ⟨i, r, m, none, rfl, rfl, r0, m0, m1⟩
    · rintro σ' H' ⟨i, r, m, v, rfl, rfl, r0, m0, m1⟩
      refine ixB2 rfl ?_
      refine ⟨_, _, rfl, rfl, _, rfl, ite2 (fun _ => ?_) (fun _ => ?_)⟩
      · -- a digit of the great cell
        refine ixB2 rfl ?_
        refine .inl ⟨_, rfl, _, rfl, _, _, rfl, rfl, nn, ?_⟩
        refine ixB2 rfl ?_
        refine ⟨_, rfl, _, _, rfl, rfl, ⟨nn, by omega⟩, stB2 rfl ?_⟩
        refine ⟨_, rfl, ?_⟩
        exact fin _ _ _ _ _ (fmod_lo _ n0) (fmod_hi _ n0) (fdiv_lo r0 n0) m0 m1
      · -- a mixed number
        refine ixB3 rfl ?_
        refine .inl ⟨_, rfl, ?_⟩
        refine ⟨_, rfl, _, rfl, _, _, rfl, rfl, .inl ⟨by omega, by omega⟩, ?_⟩
        refine ⟨_, _, rfl, rfl, .inr ⟨by decide, by decide⟩, ?_⟩
        refine ⟨_, rfl, _, _, rfl, rfl, .inr ⟨by decide, by decide⟩, ?_⟩
        refine ⟨_, _, rfl, rfl, ixB4 rfl ?_⟩
        refine ⟨_, _, rfl, rfl, .inr ⟨by decide, by decide⟩, ?_⟩
        refine ⟨_, _, rfl, rfl, _, _, rfl, rfl, .inl ⟨_, rfl, ?_⟩⟩
        refine ⟨_, _, rfl, rfl, (show (2147483629 : Int) ≠ 0 by decide), stB3 rfl ?_⟩
        refine ixB3 rfl ?_
        refine ⟨_, _, rfl, rfl, ⟨by decide, by decide⟩, ?_⟩
        refine ixB3 rfl ?_
        refine .inl ⟨_, rfl, ?_⟩
        refine ⟨_, _, rfl, rfl, (show (9001 : Int) ≠ 0 by decide), ?_⟩
        refine ⟨_, _, rfl, rfl, .inr ⟨by decide, by decide⟩, ?_⟩
        refine ⟨_, _, rfl, rfl, .inl ⟨_, rfl, ?_⟩⟩
        refine ⟨_, rfl, _, _, rfl, rfl, nn, ?_⟩
        have q := fmod_hi (m * m * 31 + m * 52774 + (c + 1) * 130363 + 70001) (j := 2147483629) (by decide)
        exact fin _ _ _ _ _ (fmod_lo _ n0) (fmod_hi _ n0) r0 (fmod_lo _ (by decide)) (by omega)
/-- an item of a list or a sign of a text, drawn -/
def spOf (K : PySem.W.Frag) : Sp := fun vs H Q _ => ∃ (b : Addr) (t : V), vs = [.ref b, t] ∧ Bag H b ∧
  ((∃ (a : Addr) (xs : List V), t = .ref a ∧ a ≠ b ∧ SqL K H a xs ∧ 0 < xs.length ∧ xs.length ≤ 1000000 ∧ ∀ (j : Nat) (v : V) (o : HO), xs[j]? = some v → Kp b H (upd H b o) → Q v (upd H b o)) ∨
   (∃ z : Str, t = .str z ∧ 0 < z.length ∧ z.length ≤ 1000000 ∧ ∀ (j c : Nat) (o : HO), z.cps.toList[j]? = some c → Kp b H (upd H b o) → Q (.str ⟨#[c]⟩) (upd H b o)))
theorem C__law_of (T : Txt K mg) : Cal P w K mg base 2 "_law_of" (spOf K) [] := by
  have C__law_draw : Cal P w K mg base 1 "_law_draw" spDraw [] := C__law_draw T
  obtain ⟨fd, F⟩ := T.F__law_of
  have b : Binds K fd ["_law_bag_here", "_law_things"] [] := FunD.bindsN F fun _ _ _ _ _ _ us hl => match us, hl with | [_, _], _ => rfl
  refine calD F T.g__law_of b sc__law_of (fun vs H Q E h => ?_) (fun cdv A outer s H vs Q E hr h => ?_)
  · obtain ⟨b, t, rfl, _⟩ := h
    rfl
  · obtain ⟨b, t, rfl, B, h⟩ := h
    refine ⟨_, (pss_one (ps_ret (pe_ix ix_seq (pv 1) (pe_c C__law_draw hr (by decide) rfl (pa_cons (pv 0) (pa_cons (pe_callB call_len (by rfl) T.z_len PySem.boot_len (pa_cons (pv 1) pa_nil)) pa_nil))) (fun _ _ => rfl)))), ?_⟩
    rcases h with ⟨a, xs, rfl, na, hS, l0, l1, k⟩ | ⟨z, rfl, l0, l1, k⟩
    · refine ⟨_, rfl, _, rfl, _, rfl, _, _, rfl, .inl ⟨_, hS, rfl⟩, ?_⟩
      refine ⟨b, _, rfl, B, by omega, by omega, fun d o d0 d1 B1 => ?_⟩
      obtain ⟨j, rfl⟩ := Int.eq_ofNat_of_zero_le d0
      have hj : j < xs.length := by omega
      exact .inl ⟨a, xs, _, xs[j], rfl, rfl, sqL_kp B1 na hS, atI_nat (List.getElem?_eq_getElem hj), k j _ o (List.getElem?_eq_getElem hj) B1⟩
    · refine ⟨_, rfl, _, rfl, _, rfl, _, _, rfl, ⟨Nat.le_trans l1 (by decide), rfl⟩, ?_⟩
      refine ⟨b, _, rfl, B, by omega, by omega, fun d o d0 d1 B1 => ?_⟩
      obtain ⟨j, rfl⟩ := Int.eq_ofNat_of_zero_le d0
      have hj : j < z.cps.toList.length := by
        have q : z.cps.toList.length = z.length := by simp [Str.length]
        omega
      exact .inr (.inr ⟨z, _, z.cps.toList[j], rfl, rfl, Nat.le_trans l1 (by decide), atI_nat (List.getElem?_eq_getElem hj), k j _ o (List.getElem?_eq_getElem hj) B1⟩)

end
end K01
namespace K01
open PySem PySem.Spec PyProof.Rows L2 RZ LL
open C8 (Cal Mak Met CalAt pe_c pe_mk pe_mt pe_mt0 pe_gc)
section
variable {P : Program} {w : World} {K : PySem.W.Frag} {mg : Str → Option Value} {base : Heap}
/-! ### the look at equal values: asked of equal data it tells True -/
def spSame (K : PySem.W.Frag) : Nat → Sp
  | 0 => spNo
  | n + 1 => fun vs H Q _ => ∃ (x y : V) (d : PyData), vs = [x, y] ∧ Dp K H x d ∧ Dp K H y d ∧ Fit n d = true ∧ ∀ H', Same H H' → Q (.bl true) H'
theorem C__law_same (T : Txt K mg) : ∀ n : Nat, Cal P w K mg base n "_law_same" (spSame K n) [] := by
  intro n
  induction n with
  | zero =>
    obtain ⟨fd, F⟩ := T.F__law_same
    have b : Binds K fd ["_law_found", "_law_due"] [] := FunD.bindsN F fun _ _ _ _ _ _ us hl => match us, hl with | [_, _], _ => rfl
    exact cal_no F T.g__law_same b
  | succ n ih =>
    obtain ⟨fd, F⟩ := T.F__law_same
    have b : Binds K fd ["_law_found", "_law_due"] [] := FunD.bindsN F fun _ _ _ _ _ _ us hl => match us, hl with | [_, _], _ => rfl
    refine calD F T.g__law_same b sc__law_same (fun vs H Q E h => ?_) (fun cdv A outer s H vs Q E hr h => ?_)
    · obtain ⟨x, y, d, rfl, _⟩ := h
      rfl
    · obtain ⟨x, y, d, rfl, hx, hy, hf, k⟩ := h
      refine ⟨_, (pss_cons (ps_if (PW.pt (pw_or (pt_cmpR op_isN (pv 1) pe_non (nomark _)) (pw_or1 (pt_cmpR op_isN (pv 0) pe_non (nomark _)))))
    (pss_one (ps_ret (pe_and (pe_cmpR op_isN (pv 1) pe_non (nomark _)) (pe_one (pe_cmpR op_isN (pv 0) pe_non (nomark _))))))
    pss_nil)
  (pss_cons (ps_if (pt_val (pe_callB call_isiT (by rfl) T.z_isinstance (by decide +kernel) (pa_cons (pv 1) (pa_cons (pe_tup (pa_cons (pe_bltn (v := .ty "list") rfl T.z_list (by decide +kernel) rfl) (pa_cons (pe_bltn (v := .ty "tuple") rfl T.z_tuple (by decide +kernel) rfl) pa_nil))) pa_nil))))
    (pss_cons (ps_if (PW.pt (pw_or (pt_cmpR op_ne (pe_callB call_isi (by rfl) T.z_isinstance (by decide +kernel) (pa_cons (pv 0) (pa_cons (pe_bltn (v := .ty "list") rfl T.z_list (by decide +kernel) rfl) pa_nil))) (pe_callB call_isi (by rfl) T.z_isinstance (by decide +kernel) (pa_cons (pv 1) (pa_cons (pe_bltn (v := .ty "list") rfl T.z_list (by decide +kernel) rfl) pa_nil))) (nomark _)) (pw_or1 (pt_cmpR op_ne (pe_callB call_isi (by rfl) T.z_isinstance (by decide +kernel) (pa_cons (pv 0) (pa_cons (pe_bltn (v := .ty "tuple") rfl T.z_tuple (by decide +kernel) rfl) pa_nil))) (pe_callB call_isi (by rfl) T.z_isinstance (by decide +kernel) (pa_cons (pv 1) (pa_cons (pe_bltn (v := .ty "tuple") rfl T.z_tuple (by decide +kernel) rfl) pa_nil))) (nomark _)))))
      (pss_one (ps_ret pe_bl))
      pss_nil)
    (pss_one (ps_ret (pe_and (pe_cmpR op_eq (pe_callB call_len (by rfl) T.z_len PySem.boot_len (pa_cons (pv 0) pa_nil)) (pe_callB call_len (by rfl) T.z_len PySem.boot_len (pa_cons (pv 1) pa_nil)) (nomark _)) (pe_one (pe_callB (cr_all rfl) (by rfl) T.z_all (by decide +kernel) (pa_cons (pe_lc (own := [("_law_x", 2), ("_law_y", 3)]) (g := (gTup K 2 (gCons (gName 2) (gCons (gName 3) gNil)))) (tt := tYes) rfl sc__law_same.nd (pi_zipA (by rfl) T.z_zip (pa_cons (pv 0) (pa_cons (pv 1) pa_nil))) (blkOk_by (N := N__law_same) (sc := defScope s__law_same) (by decide +kernel)) (fun _ _ _ _ _ => (pg_tup rfl (pgs_cons (pg_name (i := 2) sc__law_same.nd rfl (Or.inl rfl)) (pgs_cons (pg_name (i := 3) sc__law_same.nd rfl (Or.inl rfl)) pgs_nil)))) (fun _ _ _ _ _ => pts_nil) (fun _ _ _ _ _ => (pe_c ih hr (Nat.le_refl _) rfl (pa_cons (pv 2) (pa_cons (pv 3) pa_nil))))) pa_nil)))))))
    pss_nil)
  (pss_cons (ps_if (pt_val (pe_callB call_isi (by rfl) T.z_isinstance (by decide +kernel) (pa_cons (pv 1) (pa_cons (pe_bltn (v := .ty "dict") rfl T.z_dict (by decide +kernel) rfl) pa_nil))))
    (pss_cons ps_never
    (pss_one ps_never))
    pss_nil)
  (pss_cons (ps_if (PW.pt (pw_or (pt_cmpR op_ne (pe_callB call_isi (by rfl) T.z_isinstance (by decide +kernel) (pa_cons (pv 1) (pa_cons (pe_bltn (v := .ty "bool") rfl T.z_bool (by decide +kernel) rfl) pa_nil))) (pe_callB call_isi (by rfl) T.z_isinstance (by decide +kernel) (pa_cons (pv 0) (pa_cons (pe_bltn (v := .ty "bool") rfl T.z_bool (by decide +kernel) rfl) pa_nil))) (nomark _)) (pw_or1 (pt_cmpR op_ne (pe_callB call_isi (by rfl) T.z_isinstance (by decide +kernel) (pa_cons (pv 1) (pa_cons (pe_bltn (v := .ty "int") rfl T.z_int (by decide +kernel) rfl) pa_nil))) (pe_callB call_isi (by rfl) T.z_isinstance (by decide +kernel) (pa_cons (pv 0) (pa_cons (pe_bltn (v := .ty "int") rfl T.z_int (by decide +kernel) rfl) pa_nil))) (nomark _)))))
    (pss_one (ps_ret pe_bl))
    pss_nil)
  (pss_one (ps_ret (pe_and (pe_cmpR op_eq (pe_callB call_isi (by rfl) T.z_isinstance (by decide +kernel) (pa_cons (pv 1) (pa_cons (pe_bltn (v := .ty "str") rfl T.z_str (by decide +kernel) rfl) pa_nil))) (pe_callB call_isi (by rfl) T.z_isinstance (by decide +kernel) (pa_cons (pv 0) (pa_cons (pe_bltn (v := .ty "str") rfl T.z_str (by decide +kernel) rfl) pa_nil))) (nomark _)) (pe_one (pe_cmpR op_eq (pv 0) (pv 1) (nomark _)))))))))), ?_⟩
      have tx := dp_ty hx
      have ty := dp_ty hy
      by_cases hn : d = .none
      · -- None
        subst hn
        cases hx
        cases hy
        refine ⟨_, rfl, rfl, _, rfl, iteT (iteT ?_)⟩
        refine ⟨_, rfl, rfl, _, rfl, iteT ?_⟩
        exact ⟨_, rfl, rfl, k H (Same.refl H)⟩
      · have nx : x ≠ .non := by
          rintro rfl
          cases hx
          exact hn rfl
        have ny : y ≠ .non := by
          rintro rfl
          cases hy
          exact hn rfl
        refine ⟨_, rfl, rfl, _, rfl, ?_⟩
        rw [decide_eq_false ny]
        refine iteF ⟨_, rfl, rfl, _, rfl, ?_⟩
        rw [decide_eq_false nx]
        refine iteF ?_
        -- isinstance(due, (list, tuple))
        refine ⟨_, rfl, (show 2 ≤ sizeLine by decide), fun p np => ?_⟩
        have s1 : Same H (upd H p (.tup [.ty "list", .ty "tuple"])) := same_upd np
        refine ⟨_, _, _, _, _, _, rfl, upd_same, .cons (.ty _) (.cons (.ty _) .nil), tyx_same s1 ty, kitAny_seq d, ?_⟩
        refine ⟨_, rfl, ?_⟩
        have tx1 := tyx_same s1 tx
        have ty1 := tyx_same s1 ty
        have hx1 := dp_same s1 hx
        have hy1 := dp_same s1 hy
        generalize upd H p (.tup [.ty "list", .ty "tuple"]) = H1 at *
        cases hq : isSeq d with
        | true =>
          refine iteT ?_
          refine ⟨_, rfl, ⟨_, _, _, _, _, rfl, .ty _, tx1, kit_ty (kitD_ok d (by decide)), ?_⟩⟩
          refine ⟨_, rfl, ⟨_, _, _, _, _, rfl, .ty _, ty1, kit_ty (kitD_ok d (by decide)), ?_⟩⟩
          refine ⟨rfl, _, rfl, iteNS rfl ?_⟩
          refine ⟨_, rfl, ⟨_, _, _, _, _, rfl, .ty _, tx1, kit_ty (kitD_ok d (by decide)), ?_⟩⟩
          refine ⟨_, rfl, ⟨_, _, _, _, _, rfl, .ty _, ty1, kit_ty (kitD_ok d (by decide)), ?_⟩⟩
          refine ⟨rfl, _, rfl, iteNS rfl ?_⟩
          cases n with
          | zero => exact (fit_zero hq hf).elim
          | succ m =>
            -- the items one by one
            have turn : ∀ (ds : List PyData) (xs ys : List V), ds.all (Fit m) = true → DpAll K H1 xs ds → DpAll K H1 ys ds → ∀ (i : Nat) (x1 x2 : V) (H2 : Hp) (Nx : VK), Same H1 H2 → xs[i]? = some x1 → ys[i]? = some x2 →
                (∀ H4, Same H2 H4 → Nx (.bl true) H4) → spSame K (m + 1) [x1, x2] H2 Nx E0 := by
              intro ds xs ys hall ax ay i x1 x2 H2 Nx s2 e1 e2 hN
              obtain ⟨d1, g1, q1⟩ := dpAll_get ax e1
              obtain ⟨d2, g2, q2⟩ := dpAll_get ay e2
              have e : d1 = d2 := Option.some.inj (g1.symm.trans g2)
              subst e
              exact ⟨x1, x2, d1, rfl, dp_same s2 q1, dp_same s2 q2, List.all_eq_true.mp hall d1 (List.mem_of_getElem? g1), hN⟩
            cases d with
            | list ds =>
              obtain ⟨hl, hall⟩ := Bool.and_eq_true_iff.mp hf
              have hl := of_decide_eq_true hl
              cases hx1 with
              | @lst a xs _ qx ax =>
                cases hy1 with
                | @lst c ys _ qy ay =>
                  have lx := dpAll_len ax
                  have ly := dpAll_len ay
                  refine ⟨_, rfl, _, _, rfl, .inl ⟨_, qx, rfl⟩, ?_⟩
                  refine ⟨_, rfl, _, _, rfl, .inl ⟨_, qy, rfl⟩, ?_⟩
                  refine ⟨rfl, true, by rw [lx, ly, decide_eq_true rfl], iteT ?_⟩
                  refine ⟨_, rfl, _, rfl, a, c, xs, ys, rfl, .inl ⟨qx, qy, fun D hD => ?_⟩⟩
                  refine lc_map (walk_zip (n := ds.length) (by omega)) (fun _ => .bl true) hl hD (fun H2 s2 => ⟨s2.seq qx, s2.seq qy⟩) ?_ ?_
                  · rintro i x H2 H3 Nx hi s2 ⟨T, x1, x2, rfl, nT, rfl, e1, e2⟩ hN
                    have s3 : Same H2 (upd H2 T (.tup [x1, x2])) := same_upd nT
                    exact ⟨T, [x1, x2], rfl, sqT_of upd_same, rfl, x1, [x2], rfl, x2, [], rfl, rfl, rfl, _, rfl, _, rfl, turn ds xs ys hall ax ay i x1 x2 _ Nx (s2.trans s3) e1 e2 fun H4 s4 => hN H4 (s3.trans s4)⟩
                  · intro H2 s2 hL
                    refine ⟨D, (List.range ds.length).map fun _ => true, rfl, sqL_of (by rw [hL, map_bl _ (fun _ => true)]), ?_⟩
                    rw [all_true]
                    exact k H2 (s1.trans s2)
            | tuple ds =>
              obtain ⟨hl, hall⟩ := Bool.and_eq_true_iff.mp hf
              have hl := of_decide_eq_true hl
              cases hx1 with
              | @tup a xs _ qx ax =>
                cases hy1 with
                | @tup c ys _ qy ay =>
                  have lx := dpAll_len ax
                  have ly := dpAll_len ay
                  refine ⟨_, rfl, _, _, rfl, .inr ⟨_, qx, rfl⟩, ?_⟩
                  refine ⟨_, rfl, _, _, rfl, .inr ⟨_, qy, rfl⟩, ?_⟩
                  refine ⟨rfl, true, by rw [lx, ly, decide_eq_true rfl], iteT ?_⟩
                  refine ⟨_, rfl, _, rfl, a, c, xs, ys, rfl, .inr ⟨qx, qy, fun D hD => ?_⟩⟩
                  refine lc_map (walk_zipT (n := ds.length) (by omega)) (fun _ => .bl true) hl hD (fun H2 s2 => ⟨sqT_same s2 qx, sqT_same s2 qy⟩) ?_ ?_
                  · rintro i x H2 H3 Nx hi s2 ⟨T, x1, x2, rfl, nT, rfl, e1, e2⟩ hN
                    have s3 : Same H2 (upd H2 T (.tup [x1, x2])) := same_upd nT
                    exact ⟨T, [x1, x2], rfl, sqT_of upd_same, rfl, x1, [x2], rfl, x2, [], rfl, rfl, rfl, _, rfl, _, rfl, turn ds xs ys hall ax ay i x1 x2 _ Nx (s2.trans s3) e1 e2 fun H4 s4 => hN H4 (s3.trans s4)⟩
                  · intro H2 s2 hL
                    refine ⟨D, (List.range ds.length).map fun _ => true, rfl, sqL_of (by rw [hL, map_bl _ (fun _ => true)]), ?_⟩
                    rw [all_true]
                    exact k H2 (s1.trans s2)
            | none => cases hq
            | bool _ => cases hq
            | int _ => cases hq
            | str _ => cases hq
            | dict _ => cases hq
        | false =>
          refine iteF ?_
          obtain ⟨exy, sc⟩ := dp_scal hx1 hy1 hq
          -- no dict
          have nd : kitD d "dict" = false := fit_nodict hf
          refine ⟨_, rfl, ⟨_, _, _, _, _, rfl, .ty _, ty1, kit_ty ((kitD_ok d (by decide)).trans (congrArg some nd)), ?_⟩⟩
          refine ⟨_, rfl, iteF ?_⟩
          refine ⟨_, rfl, ⟨_, _, _, _, _, rfl, .ty _, ty1, kit_ty (kitD_ok d (by decide)), ?_⟩⟩
          refine ⟨_, rfl, ⟨_, _, _, _, _, rfl, .ty _, tx1, kit_ty (kitD_ok d (by decide)), ?_⟩⟩
          refine ⟨rfl, _, rfl, iteNS rfl ?_⟩
          refine ⟨_, rfl, ⟨_, _, _, _, _, rfl, .ty _, ty1, kit_ty (kitD_ok d (by decide)), ?_⟩⟩
          refine ⟨_, rfl, ⟨_, _, _, _, _, rfl, .ty _, tx1, kit_ty (kitD_ok d (by decide)), ?_⟩⟩
          refine ⟨rfl, _, rfl, iteNS rfl ?_⟩
          refine ⟨_, rfl, ⟨_, _, _, _, _, rfl, .ty _, ty1, kit_ty (kitD_ok d (by decide)), ?_⟩⟩
          refine ⟨_, rfl, ⟨_, _, _, _, _, rfl, .ty _, tx1, kit_ty (kitD_ok d (by decide)), ?_⟩⟩
          refine ⟨rfl, true, by rw [decide_eq_true rfl], iteT ?_⟩
          refine ⟨_, rfl, _, rfl, sc, ?_⟩
          rw [exy, decide_eq_true rfl]
          exact k H1 s1

end
end K01
namespace K01
open PySem PySem.Spec PyProof.Rows L2 RZ LL
open C8 (Cal Mak Met CalAt pe_c pe_mk pe_mt pe_mt0 pe_gc)
section
variable {P : Program} {w : World} {K : PySem.W.Frag} {mg : Str → Option Value} {base : Heap}
/-! ### names and numbers -/
def spIsName (K : PySem.W.Frag) : Sp := fun vs H Q _ => ∃ (x : V) (nm : Bool), vs = [x] ∧ NameJ K H x nm ∧ ∀ H', Same H H' → Q (.bl nm) H'
theorem O_is_name (T : Txt K mg) : ∃ fd, FunD K d_is_name.name d_is_name.qual d_is_name.params d_is_name.body d_is_name.scope (d_is_name.dvs K) (d_is_name.kws K) (He.fAd K d_is_name.at_) fd ∧ FnOk P w K mg base CX0 1 (He.fAd K d_is_name.at_) fd ["value"] (spIsName K) := by
  obtain ⟨fd, F⟩ := T.F_is_name
  refine ⟨fd, F, fnD F sc_is_name (fun vs H Q E h => ?_) (fun cdv A outer s H vs Q E hr h => ?_)⟩
  · obtain ⟨x, nm, rfl, _⟩ := h
    rfl
  · obtain ⟨x, nm, rfl, hj, k⟩ := h
    refine ⟨_, (pss_cons (ps_if (pt_not (pt_val (pe_callB call_isi (by rfl) T.z_isinstance (by decide +kernel) (pa_cons (pv 0) (pa_cons (pe_bltn (v := .ty "str") rfl T.z_str (by decide +kernel) rfl) pa_nil)))))
    (pss_one (ps_ret pe_bl))
    pss_nil)
  (pss_cons (ps_if (pt_not (pt_chain op_le op_le pe_int (pe_callB call_len_str (by rfl) T.z_len PySem.boot_len (pa_cons (pv 0) pa_nil)) (pe_gc rfl T.v_LONGEST)))
    (pss_one (ps_ret pe_bl))
    pss_nil)
  (pss_one (ps_ret (pe_callB (cr_all rfl) (by rfl) T.z_all (by decide +kernel) (pa_cons (pe_lc (own := [("letter", 1)]) (g := gName 1) (tt := tYes) rfl sc_is_name.nd (pi_str (pv 0)) (blkOk_by (N := N_is_name) (sc := defScope s_is_name) (by decide +kernel)) (fun _ _ _ _ _ => pg_name (i := 1) sc_is_name.nd rfl (Or.inl rfl)) (fun _ _ _ _ _ => pts_nil) (fun _ _ _ _ _ => (pe_cmpR op_in_sign (pv 1) (pe_gc rfl T.v_LETTERS) (by rfl)))) pa_nil)))))), ?_⟩
    rcases hj with ⟨z, rfl, hz, _, rfl⟩ | ⟨⟨t, ty, e⟩, rfl⟩
    · refine ⟨_, rfl, _, _, _, _, true, rfl, .ty _, .base (.str z), kit_ty (by decide +kernel), _, rfl, iteF ?_⟩
      have hz1 : z.length ≤ sizeLine := Nat.le_trans hz (by decide)
      refine ⟨_, rfl, z, rfl, hz1, _, _, rfl, rfl, _, rfl, ?_⟩
      by_cases h1 : (1 : Int) ≤ (z.length : Int)
      · rw [decide_eq_true h1]
        refine iteT ?_
        by_cases h2 : (z.length : Int) ≤ 6
        · refine ⟨_, _, rfl, rfl, _, rfl, ?_⟩
          rw [decide_eq_true h2]
          refine iteF ?_
          refine ⟨_, rfl, z, rfl, fun D hD => ?_⟩
          refine lc_map walk_str (fun i => .bl ((z.cps[i]?.map fun c => decide (c ∈ LET.cps.toList)).getD false)) (by have q : z.cps.size = z.length := rfl; omega) hD (fun _ _ => True.intro) ?_ ?_
          · rintro i x H2 H3 Nx hi s2 ⟨rfl, c, hc, rfl⟩ hN
            refine ⟨rfl, _, rfl, c, LET, rfl, rfl, ?_⟩
            have q := hN H3 (Same.refl _)
            simp only [hc, Option.map_some, Option.getD_some] at q
            exact q
          · intro H2 s2 hL
            refine ⟨D, _, rfl, sqL_of (by rw [hL, map_bl]), ?_⟩
            rw [all_cps z fun c => decide (c ∈ LET.cps.toList)]
            have e : isName z = z.cps.toList.all fun c => decide (c ∈ LET.cps.toList) := by
              unfold isName
              rw [decide_eq_true (by omega : 1 ≤ z.length), decide_eq_true (by omega : z.length ≤ 6)]
              rfl
            rw [← e]
            exact k H2 s2
        · refine ⟨_, _, rfl, rfl, _, rfl, ?_⟩
          rw [decide_eq_false h2]
          refine iteT ?_
          have e : isName z = false := by
            unfold isName
            rw [decide_eq_false (by omega : ¬ z.length ≤ 6), Bool.and_false, Bool.false_and]
          rw [e] at k
          exact k H (Same.refl H)
      · rw [decide_eq_false h1]
        refine iteF ?_
        refine ⟨_, rfl, iteT ?_⟩
        have e : isName z = false := by
          unfold isName
          rw [decide_eq_false (by omega : ¬ 1 ≤ z.length), Bool.false_and, Bool.false_and]
        rw [e] at k
        exact k H (Same.refl H)
    · refine ⟨_, rfl, _, _, _, _, false, rfl, .ty _, ty, e, _, rfl, iteT ?_⟩
      exact k H (Same.refl H)
theorem C_is_name (T : Txt K mg) : Cal P w K mg base 1 "is_name" (spIsName K) [] := by
  obtain ⟨fd, F, G⟩ := O_is_name (P := P) (w := w) (base := base) T
  exact ⟨_, fd, _, [], G, T.g_is_name, F.kp, FunD.bindsN F fun _ _ _ _ _ _ us hl => match us, hl with | [_], _ => rfl, .nil⟩
def gk1 {α : Type} : List α → List α → List α
  | [], [a] => [a]
  | _, _ => []
theorem K_is_name (T : Txt K mg) : CalK P w K mg base 1 "is_name" (spIsName K) ["value"] gk1 gk1 := by
  obtain ⟨fd, F, G⟩ := O_is_name (P := P) (w := w) (base := base) T
  refine ⟨_, fd, _, G, T.g_is_name, F.kp, kbD (n := 0) (m := 1) (g := gk1) F ?_ ?_ ?_⟩
  · intro α us ws h
    match us, ws, h with
    | [], [a], _ => exact ⟨rfl, rfl⟩
  · intro vs us zs ws h1 h2
    match vs, us, zs, ws, h1, h2 with
    | [], [], [], [], .nil, .nil => exact .nil
    | [], [], [a], [b], .nil, .cons r .nil => exact .cons r .nil
    | [], [], _ :: _ :: _, _ :: _ :: _, .nil, .cons _ (.cons _ _) => exact .nil
    | _ :: _, _ :: _, _, _, .cons _ _, _ => exact .nil
  · intro kV doc pm an cdv ct us ws h1 h2
    match us, ws, h1, h2 with
    | [], [a], _, _ => rfl
def spIsNumber (K : PySem.W.Frag) : Sp := fun vs H Q _ => ∃ (x : V) (lo hi : Int) (nu : Bool), vs = [x, .int lo, .int hi] ∧ NumJ K H x lo hi nu ∧ Q (.bl nu) H
theorem O_is_number (T : Txt K mg) : ∃ fd, FunD K d_is_number.name d_is_number.qual d_is_number.params d_is_number.body d_is_number.scope (d_is_number.dvs K) (d_is_number.kws K) (He.fAd K d_is_number.at_) fd ∧ FnOk P w K mg base CX0 1 (He.fAd K d_is_number.at_) fd ["value", "least", "most"] (spIsNumber K) := by
  obtain ⟨fd, F⟩ := T.F_is_number
  refine ⟨fd, F, fnD F sc_is_number (fun vs H Q E h => ?_) (fun cdv A outer s H vs Q E hr h => ?_)⟩
  · obtain ⟨x, lo, hi, nu, rfl, _⟩ := h
    rfl
  · obtain ⟨x, lo, hi, nu, rfl, hj, k⟩ := h
    refine ⟨_, (pss_cons (ps_if (PW.pt (pw_or (pt_val (pe_callB call_isi (by rfl) T.z_isinstance (by decide +kernel) (pa_cons (pv 0) (pa_cons (pe_bltn (v := .ty "bool") rfl T.z_bool (by decide +kernel) rfl) pa_nil)))) (pw_or1 (pt_not (pt_val (pe_callB call_isi (by rfl) T.z_isinstance (by decide +kernel) (pa_cons (pv 0) (pa_cons (pe_bltn (v := .ty "int") rfl T.z_int (by decide +kernel) rfl) pa_nil))))))))
    (pss_one (ps_ret pe_bl))
    pss_nil)
  (pss_one (ps_ret (pe_chain op_le op_le (pv 1) (pv 0) (pv 2))))), ?_⟩
    rcases hj with ⟨i, rfl, rfl⟩ | ⟨⟨c, rfl⟩, rfl⟩ | ⟨⟨t, ty, e1, e2⟩, rfl⟩
    · refine ⟨_, rfl, _, _, _, _, false, rfl, .ty _, .base (.int i), kit_ty (by decide +kernel), _, rfl, iteF ?_⟩
      refine ⟨_, rfl, _, _, _, _, true, rfl, .ty _, .base (.int i), kit_ty (by decide +kernel), _, rfl, iteF ?_⟩
      refine ⟨_, rfl, _, rfl, _, _, rfl, rfl, _, rfl, ?_⟩
      by_cases h1 : lo ≤ i
      · rw [decide_eq_true h1] at k ⊢
        exact iteT ⟨_, rfl, _, _, rfl, rfl, k⟩
      · rw [decide_eq_false h1] at k ⊢
        exact iteF k
    · refine ⟨_, rfl, _, _, _, _, true, rfl, .ty _, .base (.bl c), kit_ty (by decide +kernel), _, rfl, iteT (iteT ?_)⟩
      exact k
    · refine ⟨_, rfl, _, _, _, _, false, rfl, .ty _, ty, e1, _, rfl, iteF ?_⟩
      refine ⟨_, rfl, _, _, _, _, false, rfl, .ty _, ty, e2, _, rfl, iteT ?_⟩
      exact k
theorem C_is_number (T : Txt K mg) : Cal P w K mg base 1 "is_number" (spIsNumber K) [] := by
  obtain ⟨fd, F, G⟩ := O_is_number (P := P) (w := w) (base := base) T
  exact ⟨_, fd, _, [], G, T.g_is_number, F.kp, FunD.bindsN F fun _ _ _ _ _ _ us hl => match us, hl with | [_, _, _], _ => rfl, .nil⟩

end
end K01
namespace K01
open PySem PySem.Spec PyProof.Rows L2 RZ LL
open C8 (Cal Mak Met CalAt pe_c pe_mk pe_mt pe_mt0 pe_gc)
section
variable {P : Program} {w : World} {K : PySem.W.Frag} {mg : Str → Option Value} {base : Heap}
/-! ### k01: keywords -/
def gk3 {α : Type} : List α → List α → List α
  | [], [m, v, l] => [v, l, m]
  | _, _ => []
def gk21 {α : Type} : List α → List α → List α
  | [v, l], [m] => [v, l, m]
  | _, _ => []
theorem K3_is_number (T : Txt K mg) : CalK P w K mg base 1 "is_number" (spIsNumber K) ["most", "value", "least"] gk3 gk3 := by
  obtain ⟨fd, F, G⟩ := O_is_number (P := P) (w := w) (base := base) T
  refine ⟨_, fd, _, G, T.g_is_number, F.kp, kbD (n := 0) (m := 3) (g := gk3) F ?_ ?_ ?_⟩
  · intro α us ws h
    match us, ws, h with
    | [], [_, _, _], _ => exact ⟨rfl, rfl⟩
  · intro vs us zs ws h1 h2
    match vs, us, zs, ws, h1, h2 with
    | [], [], [], [], .nil, .nil => exact .nil
    | [], [], [_], [_], .nil, .cons _ .nil => exact .nil
    | [], [], [_, _], [_, _], .nil, .cons _ (.cons _ .nil) => exact .nil
    | [], [], [_, _, _], [_, _, _], .nil, .cons a (.cons b (.cons c .nil)) => exact .cons b (.cons c (.cons a .nil))
    | [], [], _ :: _ :: _ :: _ :: _, _ :: _ :: _ :: _ :: _, .nil, .cons _ (.cons _ (.cons _ (.cons _ _))) => exact .nil
    | _ :: _, _ :: _, _, _, .cons _ _, _ => exact .nil
  · intro kV doc pm an cdv ct us ws h1 h2
    match us, ws, h1, h2 with
    | [], [_, _, _], _, _ => rfl
theorem K21_is_number (T : Txt K mg) : CalK P w K mg base 1 "is_number" (spIsNumber K) ["most"] gk21 gk21 := by
  obtain ⟨fd, F, G⟩ := O_is_number (P := P) (w := w) (base := base) T
  refine ⟨_, fd, _, G, T.g_is_number, F.kp, kbD (n := 2) (m := 1) (g := gk21) F ?_ ?_ ?_⟩
  · intro α us ws h
    match us, ws, h with
    | [_, _], [_], _ => exact ⟨rfl, rfl⟩
  · intro vs us zs ws h1 h2
    match vs, us, zs, ws, h1, h2 with
    | [], [], _, _, .nil, _ => exact .nil
    | [_], [_], _, _, .cons _ .nil, _ => exact .nil
    | [_, _], [_, _], [], [], .cons _ (.cons _ .nil), .nil => exact .nil
    | [_, _], [_, _], [_], [_], .cons a (.cons b .nil), .cons c .nil => exact .cons a (.cons b (.cons c .nil))
    | [_, _], [_, _], _ :: _ :: _, _ :: _ :: _, .cons _ (.cons _ .nil), .cons _ (.cons _ _) => exact .nil
    | _ :: _ :: _ :: _, _ :: _ :: _ :: _, _, _, .cons _ (.cons _ (.cons _ _)), _ => exact .nil
  · intro kV doc pm an cdv ct us ws h1 h2
    match us, ws, h1, h2 with
    | [_, _], [_], _, _ => rfl

end
end K01
namespace K01
open PySem PySem.Spec PyProof.Rows L2 RZ LL
open C8 (Cal Mak Met CalAt pe_c pe_mk pe_mt pe_mt0 pe_gc)
section
variable {P : Program} {w : World} {K : PySem.W.Frag} {mg : Str → Option Value} {base : Heap}
/-! ### an eye -/
abbrev cC (K : PySem.W.Frag) : Addr := He.ga K "Circle"
theorem T_cls (T : Txt K mg) : Cls K (cC K) := He.cls_ok T.f_cls_Circle
theorem T_no (T : Txt K mg) {f : Str} (h : (He.Fa.noat "Circle" f).ok K = true) : NoAttr K (cC K) f := He.noat_ok h
theorem T_ins (T : Txt K mg) : insB K (cC K) = true := (Bool.and_eq_true_iff.mp T.says.2).1
theorem T_kit (T : Txt K mg) : PySem.W.kitOne K (.ref (cC K)) (.type "str") = some false ∧ PySem.W.kitOne K (.ref (cC K)) (.type "bool") = some false ∧ PySem.W.kitOne K (.ref (cC K)) (.type "int") = some false := by
  obtain ⟨_, h⟩ := Bool.and_eq_true_iff.mp T.says.2
  obtain ⟨h1, h⟩ := Bool.and_eq_true_iff.mp h
  obtain ⟨h2, h3⟩ := Bool.and_eq_true_iff.mp h
  exact ⟨kitIs_ok h1, kitIs_ok h2, kitIs_ok h3⟩
def spCircle (K : PySem.W.Frag) : Sp := fun vs H Q _ => ∃ (p dx t : Addr) (z : Str), vs = [.ref p, .str "eye", .str z, .ref t] ∧ H p = some (.ins (cC K) dx []) ∧ H t = some (.tup []) ∧
  ∀ (fs : List (Str × V)) (H' : Hp), H' p = some (.ins (cC K) dx fs) → But p H H' → Q .non H'
theorem M_Circle (T : Txt K mg) : Mak P w K mg base 1 "Circle" (cC K) (spCircle K) [] := by
  obtain ⟨fd, F⟩ := T.F_Circle___init__
  have b : Binds K fd ["self", "kind", "name", "rows"] [] := FunD.bindsN F fun _ _ _ _ _ _ us hl => match us, hl with | [_, _, _, _], _ => rfl
  refine ⟨_, fd, _, [], He.mkr_ok T.f_mkr_Circle, fnD F sc_Circle___init__ (fun vs H Q E h => ?_) (fun cdv A outer s H vs Q E hr h => ?_), T.g_Circle, b, .nil⟩
  · obtain ⟨p, dx, t, z, rfl, _⟩ := h
    rfl
  · obtain ⟨p, dx, t, z, rfl, hp, ht, k⟩ := h
    have cl := T_cls T
    refine ⟨_, (pss_cons (ps_fld (pv 0) (pv 1) rfl)
  (pss_cons (ps_fld (pv 0) (pv 2) rfl)
  (pss_cons (ps_fld (pv 0) (pe_callTy call_tuple_of (by rfl) T.z_tuple (by decide +kernel) (pa_cons (pv 3) pa_nil)) rfl)
  (pss_cons (ps_fld (pv 0) pe_int rfl)
  (pss_cons (ps_fld (pv 0) pe_int rfl)
  (pss_cons (ps_fld (pv 0) (pv 2) rfl)
  (pss_cons (ps_fld (pv 0) (pe_tup (pa_cons (pv 2) pa_nil)) rfl)
  (pss_one (ps_if (pt_cmpR op_ne (pv 1) pe_str (nomark _))
    (pss_cons ps_never
    (pss_cons ps_never
    (pss_cons ps_never
    (pss_cons ps_never
    (pss_one ps_never)))))
    pss_nil))))))))), ?_⟩
    refine ⟨_, rfl, _, rfl, p, _, dx, _, rfl, hp, cl, T_no T T.f_no_Circle_kind, fl_lt fl0, ?_⟩
    refine ⟨_, rfl, _, rfl, p, _, dx, _, rfl, upd_same, cl, T_no T T.f_no_Circle_name, fl_lt (flS fl0), ?_⟩
    have b2 : But p H (upd (upd H p (.ins (cC K) dx (putF "kind" (.str "eye") []))) p (.ins (cC K) dx (putF "name" (.str z) (putF "kind" (.str "eye") [])))) := (But.refl p H).upd.upd
    have ntp : t ≠ p := ne_of ht hp (by intro q; cases q)
    refine ⟨_, rfl, t, _, rfl, .inr ⟨sqT_of (b2 _ _ ntp ht), ?_⟩⟩
    refine ⟨_, rfl, p, _, dx, _, rfl, upd_same, cl, T_no T T.f_no_Circle__rows, fl_lt (flS (flS fl0)), ?_⟩
    refine ⟨_, rfl, p, _, dx, _, rfl, upd_same, cl, T_no T T.f_no_Circle_size, fl_lt (flS (flS (flS fl0))), ?_⟩
    refine ⟨_, rfl, p, _, dx, _, rfl, upd_same, cl, T_no T T.f_no_Circle_depth, fl_lt (flS (flS (flS (flS fl0)))), ?_⟩
    refine ⟨_, rfl, _, rfl, p, _, dx, _, rfl, upd_same, cl, T_no T T.f_no_Circle__text, fl_lt (flS (flS (flS (flS (flS fl0))))), ?_⟩
    have b3 := b2.upd (o := .ins (cC K) dx (putF "_rows" (.ref t) (putF "name" (.str z) (putF "kind" (.str "eye") [])))) |>.upd (o := .ins (cC K) dx (putF "size" (.int 1) (putF "_rows" (.ref t) (putF "name" (.str z) (putF "kind" (.str "eye") [])))))
      |>.upd (o := .ins (cC K) dx (putF "depth" (.int 0) (putF "size" (.int 1) (putF "_rows" (.ref t) (putF "name" (.str z) (putF "kind" (.str "eye") []))))))
      |>.upd (o := .ins (cC K) dx (putF "_text" (.str z) (putF "depth" (.int 0) (putF "size" (.int 1) (putF "_rows" (.ref t) (putF "name" (.str z) (putF "kind" (.str "eye") [])))))))
    refine ⟨_, rfl, (show 1 ≤ sizeLine by decide), fun q nq => ?_⟩
    have npq : p ≠ q := by
      rintro rfl
      rw [upd_same] at nq
      cases nq
    refine ⟨_, rfl, p, _, dx, _, rfl, by rw [upd_ne npq, upd_same], cl, T_no T T.f_no_Circle__names, fl_lt (flS (flS (flS (flS (flS (flS fl0)))))), ?_⟩
    refine ⟨_, rfl, rfl, _, rfl, iteF ?_⟩
    exact k _ _ upd_same (b3.new nq).upd
/-- an eye with a name: a new thing that is no text, no truth, no number -/
def Oth (K : PySem.W.Frag) (H : Hp) (v : V) : Prop := ∃ t, TyX K H v t ∧ PySem.W.kitOne K t (.type "str") = some false ∧ ((∃ c, v = .bl c) ∨ (PySem.W.kitOne K t (.type "bool") = some false ∧ PySem.W.kitOne K t (.type "int") = some false))
theorem Oth.same {K : PySem.W.Frag} {H H' : Hp} {v : V} (s : Same H H') (h : Oth K H v) : Oth K H' v := by
  obtain ⟨t, ty, e⟩ := h
  exact ⟨t, tyx_same s ty, e⟩
theorem oth_tup {K : PySem.W.Frag} {H : Hp} {a : Addr} {xs : List V} (h : H a = some (.tup xs)) : Oth K H (.ref a) := ⟨_, .base (.tup h), kit_ty (by decide +kernel), .inr ⟨kit_ty (by decide +kernel), kit_ty (by decide +kernel)⟩⟩
theorem oth_lst {K : PySem.W.Frag} {H : Hp} {a : Addr} {xs : List V} (h : H a = some (.lst xs)) : Oth K H (.ref a) := ⟨_, .base (.lst h), kit_ty (by decide +kernel), .inr ⟨kit_ty (by decide +kernel), kit_ty (by decide +kernel)⟩⟩
theorem oth_non {K : PySem.W.Frag} {H : Hp} : Oth K H .non := ⟨_, .base .non, kit_ty (by decide +kernel), .inr ⟨kit_ty (by decide +kernel), kit_ty (by decide +kernel)⟩⟩
theorem oth_bl {K : PySem.W.Frag} {H : Hp} (c : Bool) : Oth K H (.bl c) := ⟨_, .base (.bl c), kit_ty (by decide +kernel), .inl ⟨c, rfl⟩⟩
theorem oth_circle (T : Txt K mg) {H : Hp} {a dx : Addr} {fs : List (Str × V)} (h : H a = some (.ins (cC K) dx fs)) : Oth K H (.ref a) := by
  obtain ⟨h1, h2, h3⟩ := T_kit T
  exact ⟨_, tyx_ins (T_cls T) (T_ins T) h, h1, .inr ⟨h2, h3⟩⟩
def spEye (K : PySem.W.Frag) : Sp := fun vs H Q _ => ∃ (z : Str), vs = [.str z] ∧ z.length ≤ 100000 ∧ PyData.strOk z = true ∧ isName z = true ∧ ∀ (x : Addr) (H' : Hp), Same H H' → Oth K H' (.ref x) → Q (.ref x) H'
theorem C_eye (T : Txt K mg) : Cal P w K mg base 3 "eye" (spEye K) [] := by
  have C_is_name : Cal P w K mg base 1 "is_name" (spIsName K) [] := C_is_name T
  have M_Circle : Mak P w K mg base 1 "Circle" (cC K) (spCircle K) [] := M_Circle T
  obtain ⟨fd, F⟩ := T.F_eye
  have b : Binds K fd ["name"] [] := FunD.bindsN F fun _ _ _ _ _ _ us hl => match us, hl with | [_], _ => rfl
  refine calD F T.g_eye b sc_eye (fun vs H Q E h => ?_) (fun cdv A outer s H vs Q E hr h => ?_)
  · obtain ⟨z, rfl, _⟩ := h
    rfl
  · obtain ⟨z, rfl, hz, hok, hn, k⟩ := h
    refine ⟨_, (pss_cons (ps_if (pt_not (pt_val (pe_c C_is_name hr (by decide) rfl (pa_cons (pv 0) pa_nil))))
    (pss_one ps_never)
    pss_nil)
  (pss_one (ps_ret (pe_mk M_Circle hr (by decide) rfl (pa_cons pe_str (pa_cons (pv 0) (pa_cons (pe_tup pa_nil) pa_nil))))))), ?_⟩
    refine ⟨_, rfl, .str z, true, rfl, .inl ⟨z, rfl, hz, hok, hn.symm⟩, fun H1 s1 => ⟨_, rfl, iteF ?_⟩⟩
    refine ⟨_, rfl, (show 0 ≤ sizeLine by decide), fun t nt => ?_⟩
    intro x dx nx ndx nex
    have s2 : Same H (upd H1 t (.tup [])) := same_upd2 s1 nt
    have ntx : t ≠ x := by
      rintro rfl
      rw [upd_same] at nx
      cases nx
    have ntd : t ≠ dx := by
      rintro rfl
      rw [upd_same] at ndx
      cases ndx
    refine ⟨x, dx, t, z, rfl, upd_same, by rw [upd_ne ntx, upd_ne ntd, upd_same], fun fs H2 h2 b2 => ⟨rfl, ?_⟩⟩
    refine k x H2 (fun a o e => ?_) (oth_circle T h2)
    have e1 := s2 a o e
    have nax : a ≠ x := ne_of_none e1 nx
    refine b2 a o nax ?_
    rw [upd_ne nax, upd_ne (ne_of_none e1 ndx)]
    exact e1

end
end K01
namespace K01
open PySem PySem.Spec PyProof.Rows L2 RZ LL
open C8 (Cal Mak Met CalAt pe_c pe_mk pe_mt pe_mt0 pe_gc)
section
variable {P : Program} {w : World} {K : PySem.W.Frag} {mg : Str → Option Value} {base : Heap}
/-! ### k01: the law's own helpers -/
def spTitle (K : PySem.W.Frag) : Sp := fun vs H Q _ => ∃ (x : V) (nm : Bool), vs = [x] ∧ NameJ K H x nm ∧ ∀ H', Same H H' → Q (.bl nm) H'
theorem C__law_is_title (T : Txt K mg) : Cal P w K mg base 1 "_law_is_title" (spTitle K) [] := by
  obtain ⟨fd, F⟩ := T.F__law_is_title
  have b : Binds K fd ["_law_thing"] [] := FunD.bindsN F fun _ _ _ _ _ _ us hl => match us, hl with | [_], _ => rfl
  refine calD F T.g__law_is_title b sc__law_is_title (fun vs H Q E h => ?_) (fun cdv A outer s H vs Q E hr h => ?_)
  · obtain ⟨x, nm, rfl, _⟩ := h
    rfl
  · obtain ⟨x, nm, rfl, hj, k⟩ := h
    refine ⟨_, (pss_cons (ps_if (PW.pt (pw_or (pt_not (pt_val (pe_callB call_isi (by rfl) T.z_isinstance (by decide +kernel) (pa_cons (pv 0) (pa_cons (pe_bltn (v := .ty "str") rfl T.z_str (by decide +kernel) rfl) pa_nil))))) (pw_or (pt_cmpR op_lt (pe_callB call_len_str (by rfl) T.z_len PySem.boot_len (pa_cons (pv 0) pa_nil)) pe_int (nomark _)) (pw_or1 (pt_cmpR op_gt (pe_callB call_len_str (by rfl) T.z_len PySem.boot_len (pa_cons (pv 0) pa_nil)) pe_int (nomark _))))))
    (pss_one (ps_ret pe_bl))
    pss_nil)
  (pss_one (ps_ret (pe_cmpR (op_eqD hr.units) (pe_lc (own := [("_law_sign", 1)]) (g := gName 1) (tt := _) rfl sc__law_is_title.nd (pi_str (pv 0)) (blkOk_by (N := N__law_is_title) (sc := defScope s__law_is_title) (by decide +kernel)) (fun _ _ _ _ _ => pg_name (i := 1) sc__law_is_title.nd rfl (Or.inl rfl)) (fun _ _ _ _ _ => (pts_one (pt_cmpR op_notIn_sign (pv 1) pe_str (by rfl)))) (fun _ _ _ _ _ => (pv 1))) (pe_lst pa_nil) (nomark _))))), ?_⟩
    rcases hj with ⟨z, rfl, hz, hok, rfl⟩ | ⟨⟨t, ty, e⟩, rfl⟩
    · have hz1 : z.length ≤ sizeLine := Nat.le_trans hz (by decide)
      refine ⟨_, rfl, _, _, _, _, true, rfl, .ty _, .base (.str z), kit_ty (by decide +kernel), _, rfl, iteF ?_⟩
      refine ⟨_, rfl, z, rfl, hz1, _, _, rfl, rfl, _, rfl, ?_⟩
      by_cases h1 : ((z.length : Nat) : Int) < 1
      · rw [decide_eq_true h1]
        refine iteT (iteT ?_)
        have e : isName z = false := by
          unfold isName
          rw [decide_eq_false (by omega : ¬ 1 ≤ z.length), Bool.false_and, Bool.false_and]
        rw [e] at k
        exact k H (Same.refl H)
      · rw [decide_eq_false h1]
        refine iteF ?_
        refine ⟨_, rfl, z, rfl, hz1, _, _, rfl, rfl, _, rfl, ?_⟩
        by_cases h2 : (6 : Int) < ((z.length : Nat) : Int)
        · rw [decide_eq_true h2]
          refine iteT ?_
          have e : isName z = false := by
            unfold isName
            rw [decide_eq_false (by omega : ¬ z.length ≤ 6), Bool.and_false, Bool.false_and]
          rw [e] at k
          exact k H (Same.refl H)
        · rw [decide_eq_false h2]
          refine iteF ?_
          refine ⟨_, rfl, z, rfl, fun D hD => ?_⟩
          have el : z.cps.size = z.cps.toList.length := by simp
          have es : z.cps.size = z.length := rfl
          refine lc_filt walk_str (fun i => !decide (z.cps.toList[i]?.getD 0 ∈ LET.cps.toList)) (fun i => .str ⟨#[z.cps.toList[i]?.getD 0]⟩) (by omega) hD (fun _ _ => True.intro) ?_ ?_
          · rintro i x H2 H3 A B hi s2 ⟨rfl, c, hc, rfl⟩ hA hB
            have ec : z.cps.toList[i]?.getD 0 = c := by simp [hc]
            have hA1 := hA H3 (Same.refl _)
            have hB1 := hB H3 (Same.refl _)
            simp only [ec] at hA1 hB1
            refine ⟨rfl, _, rfl, c, LET, rfl, rfl, _, rfl, ?_⟩
            cases q : (!decide (c ∈ LET.cps.toList)) with
            | true => exact iteT ⟨_, rfl, hA1 q⟩
            | false => exact iteF (hB1 q)
          · intro H2 s2 hL
            rw [el, filt_get 0 (fun c => !decide (c ∈ LET.cps.toList)) (fun c => V.str ⟨#[c]⟩)] at hL
            refine ⟨(show 0 ≤ sizeLine by decide), fun q nq => ?_⟩
            have s3 : Same H2 (upd H2 q (.lst [])) := same_upd nq
            have el2 : (z.cps.toList.filter fun c => !decide (c ∈ LET.cps.toList)).map (fun c => V.str ⟨#[c]⟩) = ((z.cps.toList.filter fun c => !decide (c ∈ LET.cps.toList)).map fun c => (⟨#[c]⟩ : Str)).map V.str := by
              rw [List.map_map]
              rfl
            rw [el2] at hL
            refine ⟨_, _, .lst (sqL_of (s3 _ _ hL)) (dpAll_strs _), .lst (sqL_of upd_same) .nil, shaped_strs ?_, by decide, ?_⟩
            · intro y hy
              obtain ⟨c, hc, rfl⟩ := List.mem_map.mp hy
              have hc2 : c ∈ z.cps.toList := (List.mem_filter.mp hc).1
              have q := hok
              unfold PyData.strOk at q
              rw [← Array.all_toList, List.all_eq_true] at q
              have q2 := q c hc2
              unfold PyData.strOk
              rw [← Array.all_toList]
              simpa using q2
            · rw [eqv_nil]
              have e : isName z = (List.map PyData.str ((z.cps.toList.filter fun c => !decide (c ∈ LET.cps.toList)).map fun c => (⟨#[c]⟩ : Str))).isEmpty := by
                unfold isName
                rw [decide_eq_true (by omega : 1 ≤ z.length), decide_eq_true (by omega : z.length ≤ 6)]
                rw [Bool.true_and, Bool.true_and]
                generalize z.cps.toList = l
                induction l with
                | nil => rfl
                | cons c l ih =>
                  rw [List.all_cons, ih, List.filter_cons]
                  cases q : decide (c ∈ LET.cps.toList) with
                  | true => simp
                  | false => simp
              rw [← e]
              exact k _ (s2.trans s3)
    · refine ⟨_, rfl, _, _, _, _, false, rfl, .ty _, ty, e, _, rfl, iteT (iteT ?_)⟩
      exact k H (Same.refl H)
def spCut : Sp := fun vs H Q _ => ∃ n : Int, vs = [.int n] ∧ ∀ m : Int, Q (.int m) H
theorem C__law_cut_to (T : Txt K mg) : Cal P w K mg base 1 "_law_cut_to" spCut [] := by
  obtain ⟨fd, F⟩ := T.F__law_cut_to
  have b : Binds K fd ["_law_number_here"] [] := FunD.bindsN F fun _ _ _ _ _ _ us hl => match us, hl with | [_], _ => rfl
  refine calD F T.g__law_cut_to b sc__law_cut_to (fun vs H Q E h => ?_) (fun cdv A outer s H vs Q E hr h => ?_)
  · obtain ⟨n, rfl, _⟩ := h
    rfl
  · obtain ⟨n, rfl, k⟩ := h
    refine ⟨_, (pss_one (ps_ret (pe_callB (call_max2 rfl) (by rfl) T.z_max (by decide +kernel) (pa_cons (pe_un un_neg pe_int) (pa_cons (pe_callB (call_min2 rfl) (by rfl) T.z_min (by decide +kernel) (pa_cons pe_int (pa_cons (pv 0) pa_nil))) pa_nil))))), ?_⟩
    exact ⟨_, rfl, _, rfl, _, _, rfl, _, _, rfl, k _⟩
def spEnd : Sp := fun vs H Q _ => ∃ b : Addr, vs = [.ref b] ∧ Bag H b ∧ ∀ (i : Int) (H' : Hp), Kp b H H' → Q (.int i) H'
theorem C__law_end (T : Txt K mg) : Cal P w K mg base 3 "_law_end" spEnd [] := by
  have C__law_draw : Cal P w K mg base 1 "_law_draw" spDraw [] := C__law_draw T
  have C__law_of : Cal P w K mg base 2 "_law_of" (spOf K) [] := C__law_of T
  obtain ⟨fd, F⟩ := T.F__law_end
  have b : Binds K fd ["_law_bag_here"] [] := FunD.bindsN F fun _ _ _ _ _ _ us hl => match us, hl with | [_], _ => rfl
  refine calD F T.g__law_end b sc__law_end (fun vs H Q E h => ?_) (fun cdv A outer s H vs Q E hr h => ?_)
  · obtain ⟨b, rfl, _⟩ := h
    rfl
  · obtain ⟨b, rfl, B, k⟩ := h
    refine ⟨_, (pss_cons (ps_set (i := 1) sc__law_end.nd rfl (Or.inl rfl) (pe_c C__law_draw hr (by decide) rfl (pa_cons (pv 0) (pa_cons pe_int pa_nil))))
  (pss_one (ps_ret (pe_c C__law_of hr (by decide) rfl (pa_cons (pv 0) (pa_cons (pe_lst (pa_cons pe_int (pa_cons pe_int (pa_cons (pe_un un_neg pe_int) (pa_cons pe_int (pa_cons pe_int (pa_cons (pv 1) (pa_cons (pe_un un_neg (pv 1)) (pa_cons (pe_op op_sub pe_int (pv 1)) (pa_cons (pe_op op_sub (pv 1) pe_int) (pa_cons (pe_c C__law_draw hr (by decide) rfl (pa_cons (pv 0) (pa_cons (pe_op op_pow pe_int pe_int) pa_nil))) (pa_cons (pe_op op_sub pe_int (pe_c C__law_draw hr (by decide) rfl (pa_cons (pv 0) (pa_cons pe_int pa_nil)))) pa_nil)))))))))))) pa_nil)))))), ?_⟩
    refine ⟨_, rfl, b, 3, rfl, B, by decide, by decide, fun far o1 f0 f1 k1 => ?_⟩
    have B1 := k1.bag B
    generalize upd H b o1 = H1 at *
    refine ⟨_, rfl, _, rfl, _, rfl, _, rfl, _, rfl, _, rfl, _, _, rfl, rfl, ?_⟩
    refine ⟨_, rfl, _, _, rfl, rfl, ?_⟩
    refine ⟨_, rfl, _, _, rfl, rfl, ⟨by decide, by decide, by decide⟩, b, _, rfl, B1, by decide, by decide, fun d2 o2 _ _ k2 => ?_⟩
    have B2 := k2.bag B1
    generalize upd H1 b o2 = H2 at *
    refine ⟨_, rfl, b, _, rfl, B2, by decide, by decide, fun d3 o3 _ _ k3 => ?_⟩
    have B3 := k3.bag B2
    generalize upd H2 b o3 = H3 at *
    refine ⟨_, _, rfl, rfl, ?_⟩
    refine ⟨(show 11 ≤ sizeLine by decide), fun p np => ?_⟩
    have nb := B3.ne np
    have k4 : Kp b H3 (upd H3 p (.lst [.int 0, .int 1, .int (-1), .int 2, .int 60, .int far, .int (-far), .int (999999999 - far), .int (far - 999999999), .int d2, .int (10 - d3)])) := Kp.of (same_upd np)
    refine ⟨b, _, rfl, k4.bag B3, .inl ⟨p, _, rfl, nb, sqL_of upd_same, (show 0 < 11 by decide), (show 11 ≤ 1000000 by decide), fun j v o5 hv k5 => ?_⟩⟩
    obtain ⟨i, rfl⟩ := get_int (ns := [_, _, _, _, _, _, _, _, _, _, _]) hv
    exact k i _ (k1.trans (k2.trans (k3.trans (k4.trans k5))))

end
end K01
namespace K01
open PySem PySem.Spec PyProof.Rows L2 RZ LL
open C8 (Cal Mak Met CalAt pe_c pe_mk pe_mt pe_mt0 pe_gc)
section
variable {P : Program} {w : World} {K : PySem.W.Frag} {mg : Str → Option Value} {base : Heap}
/-! ### k01: words, other values, the law -/
def ok100 (z : Str) : Prop := z.length ≤ 100 ∧ Sg (fun c => c < 128) z
theorem LET_low : Sg (fun c => c < 128) LET := by
  intro c hc
  have h : (LET.cps.toList.all fun c => decide (c < 128)) = true := by decide +kernel
  exact of_decide_eq_true (List.all_eq_true.mp h c hc)
def spWord : Sp := fun vs H Q _ => ∃ b : Addr, vs = [.ref b] ∧ Bag H b ∧ ∀ (z : Str) (H' : Hp), Kp b H H' → ok100 z → Q (.str z) H'
theorem C__law_word (T : Txt K mg) : Cal P w K mg base 3 "_law_word" spWord [] := by
  have C__law_draw : Cal P w K mg base 1 "_law_draw" spDraw [] := C__law_draw T
  have C__law_of : Cal P w K mg base 2 "_law_of" (spOf K) [] := C__law_of T
  obtain ⟨fd, F⟩ := T.F__law_word
  have b : Binds K fd ["_law_bag_here"] [] := FunD.bindsN F fun _ _ _ _ _ _ us hl => match us, hl with | [_], _ => rfl
  refine calD F T.g__law_word b sc__law_word (fun vs H Q E h => ?_) (fun cdv A outer s H vs Q E hr h => ?_)
  · obtain ⟨b, rfl, _⟩ := h
    rfl
  · obtain ⟨b, rfl, B, k⟩ := h
    refine ⟨_, (pss_cons (ps_set (i := 1) sc__law_word.nd rfl (Or.inl rfl) (pe_c C__law_draw hr (by decide) rfl (pa_cons (pv 0) (pa_cons pe_int pa_nil))))
  (pss_cons (ps_set (i := 2) sc__law_word.nd rfl (Or.inl rfl) (pe_c C__law_draw hr (by decide) rfl (pa_cons (pv 0) (pa_cons pe_int pa_nil))))
  (pss_cons (ps_set (i := 3) sc__law_word.nd rfl (Or.inl rfl) (pe_join pe_str (pe_lc (own := [("_law_k", 4)]) (g := gName 4) (tt := tYes) rfl sc__law_word.nd (pi_range1 rfl T.z_range (pa_cons (pv 2) pa_nil)) (blkOk_by (N := N__law_word) (sc := defScope s__law_word) (by decide +kernel)) (fun _ _ _ _ _ => pg_name (i := 4) sc__law_word.nd rfl (Or.inl rfl)) (fun _ _ _ _ _ => pts_nil) (fun _ _ _ _ _ => (pe_c C__law_of hr (by decide) rfl (pa_cons (pv 0) (pa_cons pe_str pa_nil)))))))
  (pss_cons (ps_if (pt_cmpR op_eq (pv 1) pe_int (nomark _))
    (pss_one (ps_ret (pv 3)))
    pss_nil)
  (pss_cons (ps_set (i := 5) sc__law_word.nd rfl (Or.inl rfl) (pe_c C__law_draw hr (by decide) rfl (pa_cons (pv 0) (pa_cons (pe_op op_add (pv 2) pe_int) pa_nil))))
  (pss_cons (ps_set (i := 6) sc__law_word.nd rfl (Or.inl rfl) (pe_c C__law_of hr (by decide) rfl (pa_cons (pv 0) (pa_cons (pe_lst (pa_cons pe_str (pa_cons pe_str (pa_cons pe_str (pa_cons pe_str (pa_cons pe_str (pa_cons pe_str (pa_cons pe_str (pa_cons pe_str (pa_cons pe_str (pa_cons pe_str (pa_cons pe_str (pa_cons pe_str (pa_cons pe_str (pa_cons pe_str (pa_cons pe_str (pa_cons pe_str (pa_cons pe_str (pa_cons pe_str (pa_cons pe_str (pa_cons pe_str pa_nil))))))))))))))))))))) pa_nil))))
  (pss_one (ps_ret (pe_op op_add_str (pe_op op_add_str (pe_slice sl_str (pv 3) po_none (po_some (pv 5))) (pv 6)) (pe_slice sl_str (pv 3) (po_some (pe_op op_sub (pe_op op_add (pv 5) (pv 1)) pe_int)) po_none)))))))))), ?_⟩
    refine ⟨_, rfl, b, 3, rfl, B, by decide, by decide, fun turn o1 t0 t1 k1 => ?_⟩
    have B1 := k1.bag B
    generalize upd H b o1 = H1 at *
    refine ⟨_, rfl, b, 9, rfl, B1, by decide, by decide, fun size o2 s0 s1 k2 => ?_⟩
    have B2 := k2.bag B1
    generalize upd H1 b o2 = H2 at *
    have k12 := k1.trans k2
    obtain ⟨sz, rfl⟩ := Int.eq_ofNat_of_zero_le s0
    -- good
    refine ⟨⟨_, rfl⟩, _, rfl, sz, rfl, by omega, by omega, fun D hD => ?_⟩
    refine lc_bag (b := b) (walk_range (lo := 0) (n := (sz : Int).toNat)) (fun y => ∃ c, y = V.str ⟨#[c]⟩ ∧ c < 128) (by omega) hD B2 (fun _ _ => True.intro) ?_ ?_
    · rintro i x H3 H4 Nx hi k3 ⟨rfl, rfl⟩ hN
      refine ⟨rfl, _, rfl, b, _, rfl, (k3.bag B2), .inr ⟨LET, rfl, by decide +kernel, by decide +kernel, fun j c o hc k5 => ?_⟩⟩
      exact hN _ _ k5 ⟨c, rfl, LET_low c (List.mem_of_getElem? hc)⟩
    · intro H3 ys k3 hL hl hy
      obtain ⟨zs, rfl, e1, e2, e3⟩ := join_signs hy
      rw [List.length_map] at hl
      have hz : zs.length ≤ 9 := by omega
      refine ⟨_, D, zs, rfl, rfl, .inl (sqL_of hL), by rw [e1]; show zs.length + zs.length * 0 ≤ 16777216; omega, ?_⟩
      have ln : (Txt.join "" zs).length ≤ 9 := Nat.le_trans e2 hz
      have kk := k12.trans k3
      have B3 := k3.bag B2
      generalize Txt.join "" zs = good at *
      refine ⟨_, rfl, rfl, _, rfl, ite2 (fun _ => ?_) (fun _ => ?_)⟩
      · exact ⟨_, rfl, k good H3 kk ⟨by omega, e3⟩⟩
      · refine ⟨_, rfl, _, rfl, _, _, rfl, rfl, b, _, rfl, B3, by omega, by omega, fun spot o4 _ _ k4 => ?_⟩
        have B4 := k4.bag B3
        generalize upd H3 b o4 = H4 at *
        refine ⟨_, rfl, ?_⟩
        refine ⟨(show 20 ≤ sizeLine by decide), fun p np => ?_⟩
        have nb := B4.ne np
        refine ⟨b, _, rfl, (Kp.of (same_upd np)).bag B4, .inl ⟨p, _, rfl, nb, sqL_of upd_same, (show 0 < 20 by decide), (show 20 ≤ 1000000 by decide), fun j v o5 hv k5 => ?_⟩⟩
        obtain ⟨y, hy, rfl⟩ := get_str (ss := [_, _, _, _, _, _, _, _, _, _, _, _, _, _, _, _, _, _, _, _]) hv
        have oy : y.length ≤ 1 ∧ Sg (fun c => c < 128) y := by
          have h : ((["A", "Z", "0", "9", "_", " ", "\n", "{", "~", "-", "&", "|", "(", ")", ".", "/", "z", "a", "", "\\"] : List Str).all fun y => decide (y.length ≤ 1) && y.cps.toList.all fun c => decide (c < 128)) = true := by decide +kernel
          obtain ⟨h1, h2⟩ := Bool.and_eq_true_iff.mp (List.all_eq_true.mp h y hy)
          exact ⟨of_decide_eq_true h1, fun c hc => of_decide_eq_true (List.all_eq_true.mp h2 c hc)⟩
        have k6 := kk.trans (k4.trans ((Kp.of (same_upd np)).trans k5))
        generalize upd (upd H4 p _) b o5 = H5 at *
        -- good[:spot] + sign + good[spot + turn - 1:]
        have lg : good.length ≤ sizeLine := Nat.le_trans ln (by decide)
        refine ⟨_, rfl, _, rfl, _, rfl, good, rfl, lg, ?_⟩
        have c1 := len_cut good none (some spot)
        refine ⟨_, rfl, _, _, rfl, rfl, Nat.le_trans (Nat.add_le_add c1 oy.1) (Nat.le_trans (Nat.add_le_add_right ln 1) (by decide)), ?_⟩
        refine ⟨_, rfl, _, rfl, _, rfl, _, _, rfl, rfl, _, _, rfl, rfl, _, rfl, good, rfl, lg, ?_⟩
        have c2 := len_cut good (some (spot + turn - 1)) none
        have c3 := len_append (cutS good none (some spot)) y
        refine ⟨_, _, rfl, rfl, ?_, ?_⟩
        · rw [c3]
          exact Nat.le_trans (Nat.add_le_add (Nat.add_le_add c1 oy.1) c2) (Nat.le_trans (Nat.add_le_add (Nat.add_le_add_right ln 1) ln) (by decide))
        · refine k _ _ k6 ⟨?_, sg_append (sg_append (sg_cut e3 _ _) oy.2) (sg_cut e3 _ _)⟩
          rw [len_append, c3]
          have o1 := oy.1
          omega
abbrev OthV (K : PySem.W.Frag) : V → Hp → Prop := fun v H => Oth K H v
def spOther (K : PySem.W.Frag) : Sp := fun vs H Q _ => ∃ b : Addr, vs = [.ref b] ∧ Bag H b ∧ ∀ (v : V) (H' : Hp), Kp b H H' → Oth K H' v → Q v H'
theorem C__law_other (T : Txt K mg) : Cal P w K mg base 4 "_law_other" (spOther K) [] := by
  have C_eye : Cal P w K mg base 3 "eye" (spEye K) [] := C_eye T
  have C__law_of : Cal P w K mg base 2 "_law_of" (spOf K) [] := C__law_of T
  obtain ⟨fd, F⟩ := T.F__law_other
  have b : Binds K fd ["_law_bag_here"] [] := FunD.bindsN F fun _ _ _ _ _ _ us hl => match us, hl with | [_], _ => rfl
  refine calD F T.g__law_other b sc__law_other (fun vs H Q E h => ?_) (fun cdv A outer s H vs Q E hr h => ?_)
  · obtain ⟨b, rfl, _⟩ := h
    rfl
  · obtain ⟨b, rfl, B, k⟩ := h
    refine ⟨_, (pss_cons (ps_set (i := 1) sc__law_other.nd rfl (Or.inl rfl) (pe_c C_eye hr (by decide) rfl (pa_cons pe_str pa_nil)))
  (pss_one (ps_ret (pe_c C__law_of hr (by decide) rfl (pa_cons (pv 0) (pa_cons (pe_lst (pa_cons pe_non (pa_cons pe_bl (pa_cons pe_bl (pa_cons (pe_tup pa_nil) (pa_cons (pe_lst pa_nil) (pa_cons (pe_tup (pa_cons pe_str pa_nil)) (pa_cons (pe_lst (pa_cons pe_str pa_nil)) (pa_cons (pe_tup (pa_cons pe_int pa_nil)) (pa_cons (pe_lst (pa_cons pe_int pa_nil)) (pa_cons (pe_tup (pa_cons pe_str (pa_cons pe_str pa_nil))) (pa_cons (pe_lst (pa_cons (pe_lst (pa_cons pe_str pa_nil)) pa_nil)) (pa_cons (pv 1) (pa_cons (pe_tup (pa_cons (pv 1) pa_nil)) (pa_cons (pe_lst (pa_cons pe_non pa_nil)) (pa_cons (pe_tup (pa_cons pe_bl pa_nil)) (pa_cons (pe_tup (pa_cons (pe_tup (pa_cons pe_int pa_nil)) pa_nil)) pa_nil))))))))))))))))) pa_nil)))))), ?_⟩
    refine ⟨"a", rfl, by decide +kernel, by decide +kernel, by decide +kernel, fun x H1 s1 ox => ?_⟩
    have oS : ∀ v H H', Same H H' → OthV K v H → OthV K v H' := fun v H H' s h => h.same s
    have oT : ∀ p H xs, H p = some (.tup xs) → OthV K (.ref p) H := fun p H xs h => oth_tup h
    have oL : ∀ p H xs, H p = some (.lst xs) → OthV K (.ref p) H := fun p H xs h => oth_lst h
    have aN : ∀ p H (xs : List V), H p = some (.tup xs) → AnyV (.ref p) H := fun _ _ _ _ => True.intro
    have aL : ∀ p H (xs : List V), H p = some (.lst xs) → AnyV (.ref p) H := fun _ _ _ _ => True.intro
    have c : ∀ {v : V} {σ : L2.St}, VO AnyV (tC v) σ H1 := fun {v σ} => vo_c fun _ => True.intro
    have vx : ∀ {σ : L2.St}, σ[1]? = some (some (.ref x)) → VO AnyV (tVar 1) σ H1 := fun {σ} h => vo_var h fun _ _ => True.intro
    have dis : AO 16 (OthV K) _ [some (.ref b), some (.ref x)] H1 := ao_cons oS (vo_c fun _ => oth_non) (ao_cons oS (vo_c fun _ => oth_bl true) (ao_cons oS (vo_c fun _ => oth_bl false)
      (ao_cons oS (vo_tup (P' := AnyV) ao_nil oT) (ao_cons oS (vo_lst (P' := AnyV) ao_nil oL) (ao_cons oS (vo_tup (P' := AnyV) (ao_cons anyS (c (v := .str "a")) ao_nil) oT) (ao_cons oS (vo_lst (P' := AnyV) (ao_cons anyS (c (v := .str "a")) ao_nil) oL)
      (ao_cons oS (vo_tup (P' := AnyV) (ao_cons anyS (c (v := .int 1)) ao_nil) oT) (ao_cons oS (vo_lst (P' := AnyV) (ao_cons anyS (c (v := .int 1)) ao_nil) oL) (ao_cons oS (vo_tup (P' := AnyV) (ao_cons anyS (c (v := .str "a")) (ao_cons anyS (c (v := .str "b")) ao_nil)) oT)
      (ao_cons oS (vo_lst (P' := AnyV) (ao_cons anyS (vo_lst (P' := AnyV) (ao_cons anyS (c (v := .str "a")) ao_nil) aL) ao_nil) oL) (ao_cons oS (vo_var (i := 1) rfl fun H s => ox.same s) (ao_cons oS (vo_tup (P' := AnyV) (ao_cons anyS (vx rfl) ao_nil) oT)
      (ao_cons oS (vo_lst (P' := AnyV) (ao_cons anyS (c (v := .non)) ao_nil) oL) (ao_cons oS (vo_tup (P' := AnyV) (ao_cons anyS (c (v := .bl true)) ao_nil) oT) (ao_cons oS (vo_tup (P' := AnyV) (ao_cons anyS (vo_tup (P' := AnyV) (ao_cons anyS (c (v := .int 1)) ao_nil) aN) ao_nil) oT) ao_nil)))))))))))))))
    refine ⟨_, rfl, ?_⟩
    refine arg_lst dis (Same.refl _) (by decide) fun vs p H2 s2 np l2 p2 => ?_
    have s3 : Same H (upd H2 p (.lst vs)) := same_upd2 (s1.trans s2) np
    have s4 : Same H2 (upd H2 p (.lst vs)) := same_upd np
    have B3 : Bag (upd H2 p (.lst vs)) b := (Kp.of s3).bag B
    have B2 : Bag H2 b := (Kp.of (s1.trans s2)).bag B
    refine ⟨b, _, rfl, B3, .inl ⟨p, vs, rfl, B2.ne np, sqL_of upd_same, by omega, by omega, fun j v o5 hv k5 => ?_⟩⟩
    obtain ⟨t, ty, e⟩ := (p2 v (List.mem_of_getElem? hv)).same s4
    exact k v _ ((Kp.of s3).trans k5) ⟨t, tyx_kp k5 B3 ty, e⟩

end
end K01
namespace K01
open PySem PySem.Spec PyProof.Rows L2 RZ LL
open C8 (Cal Mak Met CalAt pe_c pe_mk pe_mt pe_mt0 pe_gc)
section
variable {P : Program} {w : World} {K : PySem.W.Frag} {mg : Str → Option Value} {base : Heap}
/-! ### k01: a value to be judged; the law -/
def Val3 (K : PySem.W.Frag) (H : Hp) (v : V) : Prop := (∃ i, v = .int i) ∨ (∃ z, v = .str z ∧ ok100 z) ∨ Oth K H v
theorem Val3.kp {K : PySem.W.Frag} {H H' : Hp} {b : Addr} {v : V} (k : Kp b H H') (B : Bag H b) (h : Val3 K H v) : Val3 K H' v := by
  rcases h with h | h | ⟨t, ty, e⟩
  · exact .inl h
  · exact .inr (.inl h)
  · exact .inr (.inr ⟨t, tyx_kp k B ty, e⟩)
theorem Val3.name {K : PySem.W.Frag} {H : Hp} {v : V} (h : Val3 K H v) : ∃ nm, ∀ H', (∀ t, TyX K H v t → TyX K H' v t) → NameJ K H' v nm := by
  rcases h with ⟨i, rfl⟩ | ⟨z, rfl, h1, h2⟩ | ⟨t, ty, e1, e2⟩
  · exact ⟨false, fun H' _ => .inr ⟨⟨_, .base (.int i), kit_ty (by decide +kernel)⟩, rfl⟩⟩
  · exact ⟨isName z, fun H' _ => .inl ⟨z, rfl, Nat.le_trans h1 (by decide), sg_ok h2, rfl⟩⟩
  · exact ⟨false, fun H' f => .inr ⟨⟨t, f t ty, e1⟩, rfl⟩⟩
theorem Val3.num {K : PySem.W.Frag} {H : Hp} {v : V} (h : Val3 K H v) (lo hi : Int) : ∃ nu, ∀ H', (∀ t, TyX K H v t → TyX K H' v t) → NumJ K H' v lo hi nu := by
  rcases h with ⟨i, rfl⟩ | ⟨z, rfl, h1, h2⟩ | ⟨t, ty, e1, ⟨c, rfl⟩ | e2⟩
  · exact ⟨_, fun H' _ => .inl ⟨i, rfl, rfl⟩⟩
  · exact ⟨false, fun H' _ => .inr (.inr ⟨⟨_, .base (.str z), kit_ty (by decide +kernel), kit_ty (by decide +kernel)⟩, rfl⟩)⟩
  · exact ⟨false, fun H' _ => .inr (.inl ⟨⟨c, rfl⟩, rfl⟩)⟩
  · exact ⟨false, fun H' f => .inr (.inr ⟨⟨t, f t ty, e2⟩, rfl⟩)⟩
def spValue (K : PySem.W.Frag) : Sp := fun vs H Q _ => ∃ (b : Addr) (lo hi : Int), vs = [.ref b, .int lo, .int hi] ∧ Bag H b ∧ ∀ (v : V) (H' : Hp), Kp b H H' → Val3 K H' v → Q v H'
theorem C__law_value (T : Txt K mg) : Cal P w K mg base 5 "_law_value" (spValue K) [] := by
  have C__law_draw : Cal P w K mg base 1 "_law_draw" spDraw [] := C__law_draw T
  have C__law_cut_to : Cal P w K mg base 1 "_law_cut_to" spCut [] := C__law_cut_to T
  have C__law_word : Cal P w K mg base 3 "_law_word" spWord [] := C__law_word T
  have C__law_other : Cal P w K mg base 4 "_law_other" (spOther K) [] := C__law_other T
  have C__law_end : Cal P w K mg base 3 "_law_end" spEnd [] := C__law_end T
  obtain ⟨fd, F⟩ := T.F__law_value
  have b : Binds K fd ["_law_bag_here", "_law_low", "_law_high"] [] := FunD.bindsN F fun _ _ _ _ _ _ us hl => match us, hl with | [_, _, _], _ => rfl
  refine calD F T.g__law_value b sc__law_value (fun vs H Q E h => ?_) (fun cdv A outer s H vs Q E hr h => ?_)
  · obtain ⟨b, lo, hi, rfl, _⟩ := h
    rfl
  · obtain ⟨b, lo, hi, rfl, B, k⟩ := h
    refine ⟨_, (pss_cons (ps_set (i := 3) sc__law_value.nd rfl (Or.inl rfl) (pe_c C__law_draw hr (by decide) rfl (pa_cons (pv 0) (pa_cons pe_int pa_nil))))
  (pss_cons (ps_if (pt_cmpR op_lt (pv 3) pe_int (nomark _))
    (pss_one (ps_ret (pe_c C__law_cut_to hr (by decide) rfl (pa_cons (pe_op op_sub (pe_op op_add (pe_ix ix_list (pe_lst (pa_cons (pv 1) (pa_cons (pv 2) pa_nil))) (pe_op op_modN (pv 3) pe_int) (fun _ _ => rfl)) (pe_c C__law_draw hr (by decide) rfl (pa_cons (pv 0) (pa_cons pe_int pa_nil)))) pe_int) pa_nil))))
    pss_nil)
  (pss_cons (ps_if (pt_cmpR op_lt (pv 3) pe_int (nomark _))
    (pss_one (ps_ret (pe_c C__law_word hr (by decide) rfl (pa_cons (pv 0) pa_nil))))
    pss_nil)
  (pss_one (ps_ret (pe_ifExp (pt_cmpR op_eq (pv 3) pe_int (nomark _)) (pe_c C__law_other hr (by decide) rfl (pa_cons (pv 0) pa_nil)) (pe_c C__law_end hr (by decide) rfl (pa_cons (pv 0) pa_nil)))))))), ?_⟩
    refine ⟨_, rfl, b, 8, rfl, B, by decide, by decide, fun turn o1 t0 t1 k1 => ?_⟩
    have B1 := k1.bag B
    generalize upd H b o1 = H1 at *
    refine ⟨_, rfl, _, _, rfl, rfl, _, rfl, ite2 (fun _ => ?_) (fun _ => ?_)⟩
    · refine ⟨_, rfl, _, rfl, (show 2 ≤ sizeLine by decide), fun p np => ?_⟩
      have k2 : Kp b H1 (upd H1 p (.lst [.int lo, .int hi])) := Kp.of (same_upd np)
      refine ⟨_, rfl, _, _, rfl, rfl, (show (2 : Int) ≠ 0 by decide), ?_⟩
      have h0 := fmod_lo turn (j := 2) (by decide)
      have h1 := fmod_hi turn (j := 2) (by decide)
      obtain ⟨j, hj⟩ := Int.eq_ofNat_of_zero_le h0
      have hj2 : j < 2 := by omega
      obtain ⟨i, hi2⟩ : ∃ i : Int, [V.int lo, V.int hi][j]? = some (.int i) := by
        match j, hj2 with
        | 0, _ => exact ⟨lo, rfl⟩
        | 1, _ => exact ⟨hi, rfl⟩
      refine ⟨p, _, _, _, rfl, rfl, sqL_of upd_same, by rw [hj]; exact atI_nat hi2, ?_⟩
      refine ⟨_, rfl, b, 3, rfl, k2.bag B1, by decide, by decide, fun d o2 _ _ k3 => ?_⟩
      refine ⟨_, _, rfl, rfl, _, _, rfl, rfl, _, rfl, fun m => ?_⟩
      exact k _ _ (k1.trans (k2.trans k3)) (.inl ⟨m, rfl⟩)
    · refine ⟨_, rfl, _, _, rfl, rfl, _, rfl, ite2 (fun _ => ?_) (fun _ => ?_)⟩
      · refine ⟨_, rfl, b, rfl, B1, fun z H2 k2 hz => ?_⟩
        exact k _ _ (k1.trans k2) (.inr (.inl ⟨z, rfl, hz⟩))
      · refine ⟨_, rfl, rfl, _, rfl, ite2 (fun _ => ?_) (fun _ => ?_)⟩
        · refine ⟨_, rfl, b, rfl, B1, fun v H2 k2 hv => ?_⟩
          exact k _ _ (k1.trans k2) (.inr (.inr hv))
        · refine ⟨_, rfl, b, rfl, B1, fun i H2 k2 => ?_⟩
          exact k _ _ (k1.trans k2) (.inl ⟨i, rfl⟩)
theorem dpB {K : PySem.W.Frag} {H : Hp} {p : Addr} (bs : List Bool) (hp : H p = some (.lst (bs.map V.bl))) : Dp K H (.ref p) (.list (bs.map PyData.bool)) := .lst (sqL_of hp) (dpAll_bools bs)
theorem fitB (bs : List Bool) (hl : bs.length ≤ 1000) : Fit 1 (.list (bs.map PyData.bool)) = true := by
  refine Bool.and_eq_true_iff.mpr ⟨decide_eq_true (by rw [List.length_map]; omega), List.all_eq_true.mpr fun d hd => ?_⟩
  obtain ⟨c, _, rfl⟩ := List.mem_map.mp hd
  rfl
def spLaw (K : PySem.W.Frag) : Sp := fun vs H Q _ => ∃ (a : Addr) (ns : List Int), vs = [.ref a] ∧ SqL K H a (ns.map V.int) ∧ ns.length ≤ 63 ∧ ∀ H', Q (.bl true) H'
theorem O_law (T : Txt K mg) : ∃ fd, FunD K d_law.name d_law.qual d_law.params d_law.body d_law.scope (d_law.dvs K) (d_law.kws K) (He.fAd K d_law.at_) fd ∧ FnOk P w K mg base CX0 6 (He.fAd K d_law.at_) fd ["_law_script"] (spLaw K) := by
  have C__law_bag : Cal P w K mg base 1 "_law_bag" (spBag K) [] := C__law_bag T
  have C__law_end : Cal P w K mg base 3 "_law_end" spEnd [] := C__law_end T
  have C__law_value : Cal P w K mg base 5 "_law_value" (spValue K) [] := C__law_value T
  have C__law_is_title : Cal P w K mg base 1 "_law_is_title" (spTitle K) [] := C__law_is_title T
  have C__law_same : Cal P w K mg base 2 "_law_same" (spSame K 2) [] := C__law_same T 2
  have C__law_word : Cal P w K mg base 3 "_law_word" spWord [] := C__law_word T
  have C_is_name : Cal P w K mg base 1 "is_name" (spIsName K) [] := C_is_name T
  have C_is_number : Cal P w K mg base 1 "is_number" (spIsNumber K) [] := C_is_number T
  have K_is_name : CalK P w K mg base 1 "is_name" (spIsName K) ["value"] gk1 gk1 := K_is_name T
  have K3_is_number : CalK P w K mg base 1 "is_number" (spIsNumber K) ["most", "value", "least"] gk3 gk3 := K3_is_number T
  have K21_is_number : CalK P w K mg base 1 "is_number" (spIsNumber K) ["most"] gk21 gk21 := K21_is_number T
  obtain ⟨fd, F⟩ := T.F_law
  refine ⟨fd, F, fnD F sc_law (fun vs H Q E h => ?_) (fun cdv A outer s H vs Q E hr h => ?_)⟩
  · obtain ⟨a, ns, rfl, _⟩ := h
    rfl
  · obtain ⟨a, ns, rfl, hS, hl, k⟩ := h
    refine ⟨_, (pss_cons (ps_set (i := 1) sc_law.nd rfl (Or.inl rfl) (pe_c C__law_bag hr (by decide) rfl (pa_cons (pv 0) pa_nil)))
  (pss_cons (ps_for PassesOwn.never rfl (pi_range1 rfl T.z_range (pa_cons pe_int pa_nil)) (pg_name (i := 2) sc_law.nd rfl (Or.inl rfl))
    (pss_cons (ps_par (i := 3) (j := 4) (by rfl) sc_law.nd rfl rfl (by decide) rfl rfl (pa_cons (pe_c C__law_end hr (by decide) rfl (pa_cons (pv 1) pa_nil)) (pa_cons (pe_c C__law_end hr (by decide) rfl (pa_cons (pv 1) pa_nil)) pa_nil)) (by rfl))
    (pss_cons (ps_set (i := 5) sc_law.nd rfl (Or.inl rfl) (pe_c C__law_value hr (by decide) rfl (pa_cons (pv 1) (pa_cons (pv 3) (pa_cons (pv 4) pa_nil)))))
    (pss_cons (ps_set (i := 6) sc_law.nd rfl (Or.inl rfl) (pe_c C__law_is_title hr (by decide) rfl (pa_cons (pv 5) pa_nil)))
    (pss_cons (ps_if (pt_not (pt_val (pe_c C__law_same hr (by decide) rfl (pa_cons (pe_lst (pa_cons (pe_c C_is_name hr (by decide) rfl (pa_cons (pv 5) pa_nil)) (pa_cons (pe_cK0 K_is_name hr (by decide) rfl (pk_cons (pv 5) pk_nil)) (pa_cons (pe_c C_is_name hr (by decide) rfl (pa_cons (pv 5) pa_nil)) pa_nil)))) (pa_cons (pe_lst (pa_cons (pv 6) (pa_cons (pv 6) (pa_cons (pv 6) pa_nil)))) pa_nil)))))
      (pss_one (ps_ret pe_bl))
      pss_nil)
    (pss_cons (ps_set (i := 6) sc_law.nd rfl (Or.inl rfl) (pe_and (pe_callB call_isi (by rfl) T.z_isinstance (by decide +kernel) (pa_cons (pv 5) (pa_cons (pe_bltn (v := .ty "int") rfl T.z_int (by decide +kernel) rfl) pa_nil))) (pe_and (pe_not (pe_callB call_isi (by rfl) T.z_isinstance (by decide +kernel) (pa_cons (pv 5) (pa_cons (pe_bltn (v := .ty "bool") rfl T.z_bool (by decide +kernel) rfl) pa_nil)))) (pe_and (pe_cmpR op_ge (pv 5) (pv 3) (nomark _)) (pe_one (pe_cmpR op_le (pv 5) (pv 4) (nomark _)))))))
    (pss_cons (ps_set (i := 7) sc_law.nd rfl (Or.inl rfl) (pe_lst (pa_cons (pe_c C_is_number hr (by decide) rfl (pa_cons (pv 5) (pa_cons (pv 3) (pa_cons (pv 4) pa_nil)))) (pa_cons (pe_cK0 K3_is_number hr (by decide) rfl (pk_cons (pv 4) (pk_cons (pv 5) (pk_cons (pv 3) pk_nil)))) (pa_cons (pe_cK K21_is_number hr (by decide) rfl (pa_cons (pv 5) (pa_cons (pv 3) pa_nil)) (pk_cons (pv 4) pk_nil)) pa_nil)))))
    (pss_cons (ps_if (pt_not (pt_val (pe_c C__law_same hr (by decide) rfl (pa_cons (pv 7) (pa_cons (pe_lst (pa_cons (pv 6) (pa_cons (pv 6) (pa_cons (pv 6) pa_nil)))) pa_nil)))))
      (pss_one (ps_ret pe_bl))
      pss_nil)
    (pss_cons (ps_set (i := 8) sc_law.nd rfl (Or.inl rfl) (pe_c C__law_word hr (by decide) rfl (pa_cons (pv 1) pa_nil)))
    (pss_cons (ps_if (pt_not (pt_val (pe_c C__law_same hr (by decide) rfl (pa_cons (pe_lst (pa_cons (pe_c C_is_name hr (by decide) rfl (pa_cons (pv 8) pa_nil)) (pa_cons (pe_c C_is_number hr (by decide) rfl (pa_cons (pv 8) (pa_cons (pv 3) (pa_cons (pv 4) pa_nil)))) pa_nil))) (pa_cons (pe_lst (pa_cons (pe_c C__law_is_title hr (by decide) rfl (pa_cons (pv 8) pa_nil)) (pa_cons pe_bl pa_nil))) pa_nil)))))
      (pss_one (ps_ret pe_bl))
      pss_nil)
    (pss_one (ps_if (pt_not (pt_val (pe_c C__law_same hr (by decide) rfl (pa_cons (pe_lst (pa_cons (pe_c C_is_number hr (by decide) rfl (pa_cons (pv 3) (pa_cons (pv 3) (pa_cons (pv 3) pa_nil)))) (pa_cons (pe_c C_is_number hr (by decide) rfl (pa_cons (pv 4) (pa_cons (pv 3) (pa_cons (pv 4) pa_nil)))) (pa_cons (pe_c C_is_number hr (by decide) rfl (pa_cons pe_bl (pa_cons pe_int (pa_cons pe_int pa_nil)))) pa_nil)))) (pa_cons (pe_lst (pa_cons pe_bl (pa_cons (pe_cmpR op_ge (pv 4) (pv 3) (nomark _)) (pa_cons pe_bl pa_nil)))) pa_nil)))))
      (pss_one (ps_ret pe_bl))
      pss_nil))))))))))))
  (pss_one (ps_ret (pe_c C__law_same hr (by decide) rfl (pa_cons (pe_lst (pa_cons (pe_c C_is_name hr (by decide) rfl (pa_cons pe_str pa_nil)) (pa_cons (pe_c C_is_name hr (by decide) rfl (pa_cons pe_str pa_nil)) (pa_cons (pe_c C_is_name hr (by decide) rfl (pa_cons pe_str pa_nil)) pa_nil)))) (pa_cons (pe_lst (pa_cons pe_bl (pa_cons pe_bl (pa_cons pe_bl pa_nil)))) pa_nil))))))), ?_⟩
    refine ⟨_, rfl, a, ns, rfl, hS, hl, fun b H1 s1 nb B1 => ?_⟩
    refine ⟨20, rfl, by decide, by decide, for_range (lo := 0) (n := 20) (fun i σ H' => ∃ o2 o3 o4 o5 o6 o7 o8, σ = [some (.ref a), some (.ref b), o2, o3, o4, o5, o6, o7, o8] ∧ Bag H' b)
      ⟨_, _, _, _, _, _, _, rfl, B1⟩ ?_ ?_⟩
    · rintro i σ H2 hi ⟨o2, o3, o4, o5, o6, o7, o8, rfl, B2⟩
      -- low, high
      refine ⟨_, rfl, b, rfl, B2, fun lo H3 k3 => ?_⟩
      have B3 := k3.bag B2
      refine ⟨_, rfl, b, rfl, B3, fun hi H4 k4 => ?_⟩
      have B4 := k4.bag B3
      refine ⟨_, _, rfl, ?_⟩
      -- x
      refine ⟨_, rfl, _, rfl, _, rfl, b, lo, hi, rfl, B4, fun x H5 k5 hx => ?_⟩
      have B5 := k5.bag B4
      obtain ⟨nm, hnm⟩ := hx.name
      obtain ⟨nu, hnu⟩ := hx.num lo hi
      clear k3 k4 k5
      -- due
      refine ⟨_, rfl, x, nm, rfl, hnm H5 fun _ h => h, fun H6 s6 => ?_⟩
      have st : ∀ {H' : Hp}, Same H5 H' → ∀ t, TyX K H5 x t → TyX K H' x t := fun s t ty => tyx_same s ty
      -- [is_name(x), is_name(value=x), is_name(x)]
      refine ⟨_, rfl, x, nm, rfl, hnm H6 (st s6), fun H7 s7 => ?_⟩
      have t7 := s6.trans s7
      refine ⟨_, rfl, x, nm, rfl, hnm H7 (st t7), fun H8 s8 => ?_⟩
      have t8 := t7.trans s8
      refine ⟨_, rfl, x, nm, rfl, hnm H8 (st t8), fun H9 s9 => ?_⟩
      have t9 := t8.trans s9
      refine ⟨(show 3 ≤ sizeLine by decide), fun p np => ?_⟩
      have t10 : Same H5 (upd H9 p (.lst [.bl nm, .bl nm, .bl nm])) := same_upd2 t9 np
      refine ⟨_, rfl, _, rfl, _, rfl, (show 3 ≤ sizeLine by decide), fun q nq => ?_⟩
      have npq : p ≠ q := by
        rintro rfl
        rw [upd_same] at nq
        cases nq
      refine ⟨_, _, .list (List.map PyData.bool [nm, nm, nm]), rfl, dpB [nm, nm, nm] (by rw [upd_ne npq, upd_same]; rfl), dpB [nm, nm, nm] (by rw [upd_same]; rfl), fitB [nm, nm, nm] (show 3 ≤ 1000 by decide), fun H11 s11 => ?_⟩
      have t11 : Same H5 H11 := (same_upd2 t10 nq).trans s11
      clear t7 s7 t8 s8 t9 s9 t10 s11 s6 np nq npq
      refine ⟨_, rfl, iteF ?_⟩
      -- due: isinstance(x, int) and not isinstance(x, bool) and x >= low and x <= high
      have due : ∀ Q : VK, Q (.bl nu) H11 → tAndV (tCB (rIsi K) (tCons (tVar 5) (tCons (tC (.ty "int")) tNil))) (tAndV (tNotV (tCB (rIsi K) (tCons (tVar 5) (tCons (tC (.ty "bool")) tNil)))) (tAndV (tOp (rI0 fun i j => .bl (decide (j ≤ i))) (tVar 5) (tVar 3)) (tOp (rI0 fun i j => .bl (decide (i ≤ j))) (tVar 5) (tVar 4))))
          [some (.ref a), some (.ref b), some (.int (0 + (i : Int))), some (.int lo), some (.int hi), some x, some (.bl nm), o7, o8] H11 Q := by
        intro Q hq
        rcases hnu H11 (st t11) with ⟨v, rfl, rfl⟩ | ⟨⟨c, rfl⟩, rfl⟩ | ⟨⟨t, ty, e1, e2⟩, rfl⟩
        · refine ⟨_, rfl, _, _, _, _, true, rfl, .ty _, .base (.int v), kit_ty (by decide +kernel), _, rfl, iteT ?_⟩
          refine ⟨_, rfl, _, _, _, _, false, rfl, .ty _, .base (.int v), kit_ty (by decide +kernel), _, rfl, _, rfl, iteT ?_⟩
          refine ⟨_, rfl, _, rfl, _, _, rfl, rfl, _, rfl, ?_⟩
          by_cases h1 : lo ≤ v
          · rw [decide_eq_true h1] at hq ⊢
            exact iteT ⟨_, rfl, _, rfl, _, _, rfl, rfl, hq⟩
          · rw [decide_eq_false h1] at hq ⊢
            exact iteF hq
        · refine ⟨_, rfl, _, _, _, _, true, rfl, .ty _, .base (.bl c), kit_ty (by decide +kernel), _, rfl, iteT ?_⟩
          exact ⟨_, rfl, _, _, _, _, true, rfl, .ty _, .base (.bl c), kit_ty (by decide +kernel), _, rfl, _, rfl, iteF hq⟩
        · exact ⟨_, rfl, _, _, _, _, false, rfl, .ty _, ty, e2, _, rfl, iteF hq⟩
      refine due _ ?_
      clear due
      -- told
      have num : ∀ {H' : Hp}, Same H5 H' → NumJ K H' x lo hi nu := fun s => hnu _ (st s)
      refine ⟨_, rfl, _, rfl, _, rfl, x, lo, hi, nu, rfl, num t11, ?_⟩
      refine ⟨_, rfl, _, rfl, _, rfl, x, lo, hi, nu, rfl, num t11, ?_⟩
      refine ⟨_, rfl, _, rfl, _, rfl, x, lo, hi, nu, rfl, num t11, ?_⟩
      refine ⟨(show 3 ≤ sizeLine by decide), fun p np => ?_⟩
      have t12 : Same H5 (upd H11 p (.lst [.bl nu, .bl nu, .bl nu])) := same_upd2 t11 np
      refine ⟨_, rfl, _, rfl, _, rfl, _, rfl, (show 3 ≤ sizeLine by decide), fun q nq => ?_⟩
      have npq : p ≠ q := by
        rintro rfl
        rw [upd_same] at nq
        cases nq
      refine ⟨_, _, .list (List.map PyData.bool [nu, nu, nu]), rfl, dpB [nu, nu, nu] (by rw [upd_ne npq, upd_same]; rfl), dpB [nu, nu, nu] (by rw [upd_same]; rfl), fitB [nu, nu, nu] (show 3 ≤ 1000 by decide), fun H13 s13 => ?_⟩
      have t13 : Same H5 H13 := (same_upd2 t12 nq).trans s13
      have B13 : Bag H13 b := (Kp.of t13).bag B5
      clear t12 s13 np nq npq
      refine ⟨_, rfl, iteF ?_⟩
      -- a word
      refine ⟨_, rfl, b, rfl, B13, fun z H14 k14 hz => ?_⟩
      have B14 := k14.bag B13
      have jz : ∀ H', NameJ K H' (.str z) (isName z) := fun H' => .inl ⟨z, rfl, Nat.le_trans hz.1 (by decide), sg_ok hz.2, rfl⟩
      refine ⟨_, rfl, .str z, isName z, rfl, jz _, fun H15 s15 => ?_⟩
      refine ⟨_, rfl, _, rfl, _, rfl, .str z, lo, hi, false, rfl, .inr (.inr ⟨⟨_, .base (.str z), kit_ty (by decide +kernel), kit_ty (by decide +kernel)⟩, rfl⟩), ?_⟩
      refine ⟨(show 2 ≤ sizeLine by decide), fun p np => ?_⟩
      refine ⟨_, rfl, .str z, isName z, rfl, jz _, fun H16 s16 => ?_⟩
      refine ⟨(show 2 ≤ sizeLine by decide), fun q nq => ?_⟩
      have npq : p ≠ q := ne_of_none (s16 _ _ upd_same) nq
      refine ⟨_, _, .list (List.map PyData.bool [isName z, false]), rfl, dpB [isName z, false] (by rw [upd_ne npq, s16 _ _ upd_same]; rfl), dpB [isName z, false] (by rw [upd_same]; rfl), fitB [isName z, false] (show 2 ≤ 1000 by decide), fun H17 s17 => ?_⟩
      have t17 : Same H14 H17 := ((same_upd2 s15 np).trans (same_upd2 s16 nq)).trans s17
      have B17 : Bag H17 b := (Kp.of t17).bag B14
      refine ⟨_, rfl, iteF ?_⟩
      -- [is_number(low, low, low), is_number(high, low, high), is_number(True, 0, 1)]
      refine ⟨_, rfl, _, rfl, _, rfl, .int lo, lo, lo, true, rfl, .inl ⟨lo, rfl, by simp⟩, ?_⟩
      refine ⟨_, rfl, _, rfl, _, rfl, .int hi, lo, hi, decide (lo ≤ hi), rfl, .inl ⟨hi, rfl, by simp⟩, ?_⟩
      refine ⟨.bl true, 0, 1, false, rfl, .inr (.inl ⟨⟨true, rfl⟩, rfl⟩), ?_⟩
      refine ⟨(show 3 ≤ sizeLine by decide), fun p2 np2 => ?_⟩
      refine ⟨_, rfl, _, rfl, _, _, rfl, rfl, (show 3 ≤ sizeLine by decide), fun q2 nq2 => ?_⟩
      have npq2 : p2 ≠ q2 := by
        rintro rfl
        rw [upd_same] at nq2
        cases nq2
      refine ⟨_, _, .list (List.map PyData.bool [true, decide (lo ≤ hi), false]), rfl, dpB [true, decide (lo ≤ hi), false] (by rw [upd_ne npq2, upd_same]; rfl), dpB [true, decide (lo ≤ hi), false] (by rw [upd_same]; rfl), fitB [true, decide (lo ≤ hi), false] (show 3 ≤ 1000 by decide), fun H18 s18 => ?_⟩
      have t18 : Same H17 H18 := (same_upd2 (same_upd np2) nq2).trans s18
      refine ⟨_, rfl, iteF ?_⟩
      exact ⟨_, _, _, _, _, _, _, rfl, (Kp.of t18).bag B17⟩
    · rintro σ H2 ⟨o2, o3, o4, o5, o6, o7, o8, rfl, B2⟩
      have jz : ∀ (z : Str) (nm : Bool) (H' : Hp), z.length ≤ 100000 → PyData.strOk z = true → nm = isName z → NameJ K H' (.str z) nm := fun z nm H' h1 h2 h3 => .inl ⟨z, rfl, h1, h2, h3⟩
      refine ⟨.str "abcdef", true, rfl, jz _ _ _ (by decide +kernel) (by decide +kernel) (by decide +kernel), fun H3 s3 => ?_⟩
      refine ⟨.str "abcdefg", false, rfl, jz _ _ _ (by decide +kernel) (by decide +kernel) (by decide +kernel), fun H4 s4 => ?_⟩
      refine ⟨.str "", false, rfl, jz _ _ _ (by decide +kernel) (by decide +kernel) (by decide +kernel), fun H5 s5 => ?_⟩
      refine ⟨(show 3 ≤ sizeLine by decide), fun p np => ?_⟩
      refine ⟨(show 3 ≤ sizeLine by decide), fun q nq => ?_⟩
      have npq : p ≠ q := by
        rintro rfl
        rw [upd_same] at nq
        cases nq
      refine ⟨_, _, .list (List.map PyData.bool [true, false, false]), rfl, dpB [true, false, false] (by rw [upd_ne npq, upd_same]; rfl), dpB [true, false, false] (by rw [upd_same]; rfl), fitB [true, false, false] (show 3 ≤ 1000 by decide), fun H6 s6 => ?_⟩
      exact k H6

end
end K01
namespace K01
open PySem PySem.Spec PyProof.Rows L2 RZ LL
open C8 (Cal Mak Met CalAt pe_c pe_mk pe_mt pe_mt0 pe_gc)
section
variable {P : Program} {w : World} {K : PySem.W.Frag} {mg : Str → Option Value} {base : Heap}
/-! ### the end -/
theorem law_end {h : Heap} {fa : Addr} (KX : K.In h) (T : Txt K mg) (hmg : mg ("law" : Str) = some (.ref fa)) : ∃ (K : PySem.W.Frag) (fd : FuncData) (sp : Sp), K.In h ∧ (∀ (s : Shared) (u : Value), BindsTo s fd ⟨[u], []⟩ [("_law_script", u)]) ∧
    (∀ (H : Hp) (a : Addr) (ns : List Int), ns.length ≤ 63 → Only H → SqL K H a (ns.map V.int) → sp [.ref a] H (fun v _ => v = .bl true) fun _ _ _ => False) ∧
    ∀ base : Heap, K.In base → base.Ns mainGlobals mg → FnOk P w K mg base CX0 6 fa fd ["_law_script"] sp := by
  obtain ⟨fd, F⟩ := T.F_law
  have e := hmg.symm.trans T.g_law
  cases e
  refine ⟨K, fd, spLaw K, KX, fun s u => ?_, fun H a ns hl _ hS => ⟨a, ns, rfl, hS, hl, fun _ => rfl⟩, fun base _ _ => ?_⟩
  · exact FunD.bindsA (ps := ["_law_script"]) F (fun _ _ _ _ _ _ us hl => match us, hl with | [_], _ => rfl) s [u] rfl
  · obtain ⟨fd2, F2, G⟩ := O_law (P := P) (w := w) (base := base) T
    rw [fd_one F F2]
    exact G

end
end K01
namespace K01
open PySem PySem.Spec PyProof.Rows L2 RZ LL
open C8 (Cal Mak Met CalAt pe_c pe_mk pe_mt pe_mt0 pe_gc)
def loose0 : List Str := ["LETTERS", "LONGEST", "is_name", "is_number", "PooledError", "InvalidName", "InvalidCircle", "TooMany", "DEEPEST", "SIGNS", "Circle", "written_part", "eye", "pool", "common", "built_circle", "flat_parts", "unlike_rows", "_law_bag", "_law_draw", "_law_of", "_law_same", "_law_is_title", "_law_cut_to", "_law_end", "_law_word", "_law_other", "_law_value"]
def loose : List Str := loose0
abbrev R : PySem.W.OpenRow := PySem.W.OpenLaw.row PySem.Challenge.rw_pooledeyes_k01_names_and_numbers_judged
theorem run0 (w : World) : HandSHeadRun.RunEq R (PySem.W.view R.prog [32]) hk ob 4000 loose (w.withFollow "special-get-raises" false) := by
  intro os
  kernel_rfl
theorem run1 (w : World) : HandSHeadRun.RunEq R (PySem.W.view R.prog [32]) hk ob 4000 loose (w.withFollow "special-get-raises" true) := by
  intro os
  kernel_rfl
theorem run (w : World) : HandSHeadRun.RunEq R (PySem.W.view R.prog [32]) hk ob 4000 loose w := PySem.W.byRow2 "special-get-raises" (P := fun w => HandSHeadRun.RunEq R (PySem.W.view R.prog [32]) hk ob 4000 loose w) run0 run1 w
end K01
open PySem PySem.W PySem.Calls PyProof.Rows
theorem PySem.Challenge.cw_pooledeyes_k01_names_and_numbers_judged_holds : PySem.Challenge.rw_pooledeyes_k01_names_and_numbers_judged.Holds := by
  w_on; o_law
  refine HandSHeadRun.head_any (r := OpenLaw.row PySem.Challenge.rw_pooledeyes_k01_names_and_numbers_judged) (q := view (OpenLaw.row PySem.Challenge.rw_pooledeyes_k01_names_and_numbers_judged).prog [32]) (H := K01.hk) (ob := K01.ob) (M := 4000) (loose := K01.loose) (d := HandSHeadRun.topDef (OpenLaw.row PySem.Challenge.rw_pooledeyes_k01_names_and_numbers_judged).prog 32) (kwd := []) K01.ob_eq
    (by kernel_rfl) (fun s => by kernel_rfl) K01.run (by kernel_rfl) (by kernel_rfl) (by kernel_rfl) (by rfl) (by first | assumption | decide +kernel) (by decide +kernel) ⟨rfl, rfl, rfl, rfl, rfl, by decide +kernel⟩ ?hw ?hc
  case hw => w_witness2
  case hc =>
    refine L2.walk_ofE (l := PySem.Challenge.rw_pooledeyes_k01_names_and_numbers_judged) (n := 63) (k := 6) (x := "_law_script") (CX := L2.CX0) rfl (by decide) (by kernel_rfl) ⟨rfl, by decide, by decide⟩ ?F (fun _ _ _ _ z => z)
    intro w mg fa h Y G hmg0
    obtain ⟨K, KX, c⟩ := Y
    have hmg : mg ("law" : PySem.Str) = some (.ref fa) := by
      have e : (HandSHeadRun.topDef (OpenLaw.row PySem.Challenge.rw_pooledeyes_k01_names_and_numbers_judged).prog 32).name = ("law" : PySem.Str) := by kernel_rfl
      rw [← e]
      exact hmg0
    have T : K01.Txt K mg := ⟨⟨h, KX, G⟩, c⟩
    exact K01.law_end KX T hmg
#print axioms PySem.Challenge.cw_pooledeyes_k01_names_and_numbers_judged_holds
