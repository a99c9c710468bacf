import PyProof.Rows.All
import Wide.All
import OpenK.AllK
import Wide.FinOn
import HandS.ForMost
import HandS.ForExc
import HandS.Wide
import HandS.Deep
import HandS.IsInst
import HandS.Codes
import HandS.Lambda
import HandS.ExcField
import HandS.TryOnly
import HandS.ExcOwn
import PySem.Challenge.RW_backsheet_k99_exceptions
import HandS.Defaults
import HandS.ExcInit
import HandS.Style
import HandS.NoneIn
import HandS.Conv
import HandS.StrSplit
import HandS.More
import HandS.Zip0
import PyProof.StrBlock2
import KE.KUnpackStar
import KE.KDictZip
import HandS.Walk
import HandS.Exc
import HandS.ExcIs
import HandS.ExcValue
import HandS.MakeKwOnly
import HandS.HotCalls
import HandS.ExcInitHot
import HandS.Comp
import KE.KExcIs
import KE.IntTextLaws
import PyProof.EqLayable
import PyProof.P3Eq
import KE.KStateDown
import HandS.Head0
import HandS.Head1
import HandS.Head2
import HandS.HeadEnd
import HandS.HeadHook1
import HandS.HeadHook2
set_option Elab.async false
set_option linter.all false
set_option maxRecDepth 100000
set_option maxHeartbeats 0
/-! Lay: data read beside the objects that change; packages of defs that may be called. -/
namespace My
open PySem PySem.Spec PyProof.Rows L2

theorem room65 {k : Nat} {A : Around} (r : Room k A) : A.units + 65 < cLine := by have := r.un; omega
theorem room1 {k : Nat} {A : Around} (r : Room k A) : A.units + 1 < cLine := by have := r.un; omega
/-! ### the heap without some addresses -/
def dl (S : List Addr) (H : Hp) : Hp := fun b => if b ∈ S then none else H b
theorem dl_in {S : List Addr} {H : Hp} {b : Addr} (h : b ∈ S) : dl S H b = none := if_pos h
theorem dl_out {S : List Addr} {H : Hp} {b : Addr} (h : b ∉ S) : dl S H b = H b := if_neg h
theorem dl_nil {H : Hp} : dl [] H = H := by funext b; exact dl_out (by simp)
theorem dl_none {S : List Addr} {H : Hp} {b : Addr} (h : H b = none) : dl S H b = none := by
  unfold dl; split
  · rfl
  · exact h
theorem dl_some {S : List Addr} {H : Hp} {b : Addr} {o : HO} (h : dl S H b = some o) : H b = some o ∧ b ∉ S := by
  by_cases hb : b ∈ S
  · rw [dl_in hb] at h; cases h
  · rw [dl_out hb] at h; exact ⟨h, hb⟩
theorem dl_sub (S : List Addr) (H : Hp) : Same (dl S H) H := fun b o h => (dl_some h).1
theorem dl_mono {S T : List Addr} {H : Hp} (h : ∀ a ∈ S, a ∈ T) : Same (dl T H) (dl S H) := fun b o e => by
  obtain ⟨e1, e2⟩ := dl_some e
  rw [dl_out (fun z => e2 (h b z))]; exact e1
theorem dl_same {S : List Addr} {H H' : Hp} (h : Same H H') : Same (dl S H) (dl S H') := fun b o e => by
  obtain ⟨e1, e2⟩ := dl_some e
  rw [dl_out e2]; exact h b o e1
theorem dl_upd_in {S : List Addr} {H : Hp} {a : Addr} {o : HO} (h : a ∈ S) : dl S (upd H a o) = dl S H := by
  funext b
  by_cases hb : b ∈ S
  · rw [dl_in hb, dl_in hb]
  · rw [dl_out hb, dl_out hb, upd_ne (fun z => hb (by rw [z]; exact h))]
theorem dl_upd_out {S : List Addr} {H : Hp} {a : Addr} {o : HO} (h : a ∉ S) : dl S (upd H a o) = upd (dl S H) a o := by
  funext b
  by_cases hb : b = a
  · subst hb; rw [dl_out h, upd_same, upd_same]
  · rw [upd_ne hb]
    by_cases hs : b ∈ S
    · rw [dl_in hs, dl_in hs]
    · rw [dl_out hs, dl_out hs, upd_ne hb]
theorem same_upd {H : Hp} {a : Addr} {o : HO} (h : H a = none) : Same H (upd H a o) := fun b u e => by
  rw [upd_ne (ne_of_none e h)]; exact e
/-- all that is tracked stays but what stands at S -/
def SameB (S : List Addr) (H H' : Hp) : Prop := Same (dl S H) (dl S H')
theorem SameB.refl {S : List Addr} {H : Hp} : SameB S H H := Same.refl _
theorem SameB.trans {S : List Addr} {H H1 H2 : Hp} (a : SameB S H H1) (b : SameB S H1 H2) : SameB S H H2 := Same.trans a b
theorem SameB.of {S : List Addr} {H H' : Hp} (h : Same H H') : SameB S H H' := dl_same h
theorem SameB.at {S : List Addr} {H H' : Hp} (h : SameB S H H') {b : Addr} {o : HO} (e : H b = some o) (n : b ∉ S) : H' b = some o := by
  have := h b o (by rw [dl_out n]; exact e)
  exact (dl_some this).1
theorem SameB.mono {S T : List Addr} {H H' : Hp} (a : SameB S H H') (h : ∀ x ∈ S, x ∈ T) : SameB T H H' := fun b o e => by
  obtain ⟨e1, e2⟩ := dl_some e
  rw [dl_out e2]
  exact a.at e1 fun z => e2 (h b z)
theorem SameB.upd_in {S : List Addr} {H : Hp} {a : Addr} {o : HO} (h : a ∈ S) : SameB S H (upd H a o) := by
  unfold SameB; rw [dl_upd_in h]; exact Same.refl _
theorem SameB.upd_new {S : List Addr} {H : Hp} {a : Addr} {o : HO} (h : H a = none) : SameB S H (upd H a o) := .of (same_upd h)
theorem SameB.nil {H H' : Hp} (h : SameB [] H H') : Same H H' := by
  unfold SameB at h; rw [dl_nil, dl_nil] at h; exact h
theorem SameB.free {S : List Addr} {H H' : Hp} (h : SameB S H H') {p : Addr} (e : H' p = none) (n : p ∉ S) : H p = none := by
  cases q : H p with
  | none => rfl
  | some o => rw [h.at q n] at e; cases e

/-! ### data -/
theorem sameT {K : PySem.W.Frag} {H H' : Hp} {a : Addr} {xs : List V} (e : Same H H') (h : SqT K H a xs) : SqT K H' a xs := by
  rcases h with (h | ⟨o, h⟩) | h
  · exact .inl (.inl (e _ _ h))
  · exact .inl (.inr ⟨o, e _ _ h⟩)
  · exact .inr h
section
variable {K : PySem.W.Frag} {H H' : Hp}
theorem dp_same (e : Same H H') : ∀ {v : V} {d : PyData}, Dp K H v d → Dp K H' v d := fun {v d} h =>
  Dp.rec (motive_1 := fun v d _ => Dp K H' v d) (motive_2 := fun vs ds _ => DpAll K H' vs ds)
    .non .bl .int .str (fun s _ ih => .lst (e.seq s) ih) (fun s _ ih => .tup (sameT e s) ih) .nil (fun _ _ i1 i2 => .cons i1 i2) h
theorem dps_same (e : Same H H') : ∀ {vs : List V} {ds : List PyData}, DpAll K H vs ds → DpAll K H' vs ds
  | _, _, .nil => .nil
  | _, _, .cons a b => .cons (dp_same e a) (dps_same e b)
theorem dps_len : ∀ {vs : List V} {ds : List PyData}, DpAll K H vs ds → vs.length = ds.length
  | _, _, .nil => rfl
  | _, _, .cons a b => by simp [dps_len b]
theorem dps_get : ∀ {vs : List V} {ds : List PyData} {i : Nat} {v : V}, DpAll K H vs ds → vs[i]? = some v → ∃ d, ds[i]? = some d ∧ Dp K H v d
  | _, _, _, _, .nil, h => by simp at h
  | _, _, 0, _, .cons a b, h => by simp at h; subst h; exact ⟨_, rfl, a⟩
  | _, _, i + 1, _, .cons a b, h => by
    obtain ⟨d, h1, h2⟩ := dps_get (i := i) b (by simpa using h)
    exact ⟨d, by simpa using h1, h2⟩
theorem dps_app : ∀ {vs ws : List V} {ds es : List PyData}, DpAll K H vs ds → DpAll K H ws es → DpAll K H (vs ++ ws) (ds ++ es)
  | _, _, _, _, .nil, h => h
  | _, _, _, _, .cons a b, h => .cons a (dps_app b h)
theorem dps_one {v : V} {d : PyData} (h : Dp K H v d) : DpAll K H [v] [d] := .cons h .nil
theorem dps_take : ∀ {vs : List V} {ds : List PyData} (n : Nat), DpAll K H vs ds → DpAll K H (vs.take n) (ds.take n)
  | _, _, 0, _ => by simp; exact .nil
  | _, _, n + 1, .nil => by simp; exact .nil
  | _, _, n + 1, .cons a b => by simp; exact .cons a (dps_take n b)
theorem dps_drop : ∀ {vs : List V} {ds : List PyData} (n : Nat), DpAll K H vs ds → DpAll K H (vs.drop n) (ds.drop n)
  | _, _, 0, h => by simpa using h
  | _, _, n + 1, .nil => by simp; exact .nil
  | _, _, n + 1, .cons a b => by simp; exact dps_drop n b
theorem dp_int {v : V} {i : Int} (h : Dp K H v (.int i)) : v = .int i := by cases h; rfl
theorem dp_str {v : V} {i : Str} (h : Dp K H v (.str i)) : v = .str i := by cases h; rfl
theorem dp_bl {v : V} {i : Bool} (h : Dp K H v (.bool i)) : v = .bl i := by cases h; rfl
theorem dp_non {v : V} (h : Dp K H v .none) : v = .non := by cases h; rfl
theorem dp_tup {v : V} {ds : List PyData} (h : Dp K H v (.tuple ds)) : ∃ a xs, v = .ref a ∧ SqT K H a xs ∧ DpAll K H xs ds := by
  cases h with
  | tup s a => exact ⟨_, _, rfl, s, a⟩
theorem dp_lst {v : V} {ds : List PyData} (h : Dp K H v (.list ds)) : ∃ a xs, v = .ref a ∧ SqL K H a xs ∧ DpAll K H xs ds := by
  cases h with
  | lst s a => exact ⟨_, _, rfl, s, a⟩
theorem dps_strs : ∀ {vs : List V} {ss : List Str}, DpAll K H vs (ss.map PyData.str) → vs = ss.map V.str
  | _, [], .nil => rfl
  | _, s :: ss, .cons a b => by rw [dp_str a, dps_strs b]; rfl
theorem dps_of_strs : ∀ (ss : List Str), DpAll K H (ss.map V.str) (ss.map PyData.str)
  | [] => .nil
  | s :: ss => .cons (.str s) (dps_of_strs ss)
theorem dps_ints : ∀ {vs : List V} {ss : List Int}, DpAll K H vs (ss.map PyData.int) → vs = ss.map V.int
  | _, [], .nil => rfl
  | _, s :: ss, .cons a b => by rw [dp_int a, dps_ints b]; rfl
theorem dps_of_ints : ∀ (ss : List Int), DpAll K H (ss.map V.int) (ss.map PyData.int)
  | [] => .nil
  | s :: ss => .cons (.int s) (dps_of_ints ss)
theorem dps_bls : ∀ {vs : List V} {ss : List Bool}, DpAll K H vs (ss.map PyData.bool) → vs = ss.map V.bl
  | _, [], .nil => rfl
  | _, s :: ss, .cons a b => by rw [dp_bl a, dps_bls b]; rfl
theorem dps_nil {vs : List V} (h : DpAll K H vs []) : vs = [] := by cases h; rfl
theorem dps_cons {vs : List V} {d : PyData} {ds : List PyData} (h : DpAll K H vs (d :: ds)) : ∃ v r, vs = v :: r ∧ Dp K H v d ∧ DpAll K H r ds := by
  cases h with
  | cons a b => exact ⟨_, _, rfl, a, b⟩
theorem dps_1 {vs : List V} {a : PyData} (h : DpAll K H vs [a]) : ∃ x, vs = [x] ∧ Dp K H x a := by
  obtain ⟨x, r, rfl, h1, h2⟩ := dps_cons h
  cases dps_nil h2
  exact ⟨x, rfl, h1⟩
theorem dps_2 {vs : List V} {a b : PyData} (h : DpAll K H vs [a, b]) : ∃ x y, vs = [x, y] ∧ Dp K H x a ∧ Dp K H y b := by
  obtain ⟨x, r, rfl, h1, h2⟩ := dps_cons h
  obtain ⟨y, rfl, h3⟩ := dps_1 h2
  exact ⟨x, y, rfl, h1, h3⟩
theorem dps_3 {vs : List V} {a b c : PyData} (h : DpAll K H vs [a, b, c]) : ∃ x y z, vs = [x, y, z] ∧ Dp K H x a ∧ Dp K H y b ∧ Dp K H z c := by
  obtain ⟨x, r, rfl, h1, h2⟩ := dps_cons h
  obtain ⟨y, z, rfl, h3, h4⟩ := dps_2 h2
  exact ⟨x, y, z, rfl, h1, h3, h4⟩
end

/-! ### a def that stands in the text; a def that may be called -/
structure Dfn (K : PySem.W.Frag) (mg : Str → Option Value) (x : Str) (st : Stmt) : Prop where
  ex : ∃ f fd, Fun K x x st f fd ∧ mg x = some (.ref f)
structure Rdy (P : Program) (w : World) (K : PySem.W.Frag) (mg : Str → Option Value) (base : Heap) (CX : CXT) (k : Nat) (x : Str) (ps : List Str) (sp : Sp) : Prop where
  ex : ∃ f fd, mg x = some (.ref f) ∧ PySem.W.keepIn K (.ref f) = true ∧ Binds K fd ps [] ∧ FnOk P w K mg base CX k f fd ps sp
section
variable {P : Program} {w : World} {K : PySem.W.Frag} {mg : Str → Option Value} {base : Heap}
theorem Dfn.rdy {x : Str} {st : Stmt} {N ps : List Str} {k : Nat} {sp : Sp} (F : Dfn K mg x st) (S : FnScope N ps (defScope st))
    (hb : ∀ (kV doc pm : Value) (an : Option Addr) (cdv ct : Value) (us : List Value), us.length = ps.length → bindArgs (PySem.W.fnOf x x (defArgs st) (defBody st) (defScope st) .none kV doc pm an cdv ct) ⟨us, []⟩ = pure (ps.zip us))
    (len : ∀ vs H Q E, sp vs H Q E → vs.length = ps.length)
    (hbody : ∀ (f : Addr) (cdv : Value) (A : Around) (outer : List Env) (s : Shared) (H : Hp) (vs : List V) (Q : VK) (E : XK), Room k (A.deeper (envOfC x (defScope st) s.heap.objs.size f cdv)) → sp vs H Q E →
      ∃ t, PSs (cxOf CX0 P w K mg base N x (defScope st) f cdv A outer s H E).nox (defBody st) t ∧ t { nx := fun _ H' => Q .non H', rt := Q } (start N vs) H) : Rdy P w K mg base CX0 (k + 1) x ps sp := by
  obtain ⟨f, fd, F, hm⟩ := F.ex
  exact ⟨f, fd, hm, F.kp, F.binds hb, F.ok S len (hbody f)⟩
theorem Dfn.rdyX {x : Str} {st : Stmt} {N ps : List Str} {k : Nat} {sp : Sp} (F : Dfn K mg x st) (S : FnScope N ps (defScope st))
    (hb : ∀ (kV doc pm : Value) (an : Option Addr) (cdv ct : Value) (us : List Value), us.length = ps.length → bindArgs (PySem.W.fnOf x x (defArgs st) (defBody st) (defScope st) .none kV doc pm an cdv ct) ⟨us, []⟩ = pure (ps.zip us))
    (len : ∀ vs H Q E, sp vs H Q E → vs.length = ps.length)
    (hbody : ∀ (f : Addr) (cdv : Value) (A : Around) (outer : List Env) (s : Shared) (H : Hp) (vs : List V) (Q : VK) (E : XK), Room k (A.deeper (envOfC x (defScope st) s.heap.objs.size f cdv)) → sp vs H Q E →
      ∃ t, PSs (cxOf (L2.CX P w) P w K mg base N x (defScope st) f cdv A outer s H E) (defBody st) t ∧ t { nx := fun _ H' => Q .non H', rt := Q } (start N vs) H) : Rdy P w K mg base (L2.CX P w) (k + 1) x ps sp := by
  obtain ⟨f, fd, F, hm⟩ := F.ex
  exact ⟨f, fd, hm, F.kp, F.binds hb, F.okX S len (hbody f)⟩
end
section
variable {X : Cx} {CX : CXT} {k : Nat} {ps : List Str} {sp : Sp} {E : XK} {x : Str} {p pos : Pos} {e : Expr} {es : List Expr} {t : TA}
theorem pe_cl (R : Rdy X.prog X.w X.K X.mg X.base CX k x ps sp) (hr : Room k X.A) (hx : Passes CX X E) (ha : PA X (e :: es) t) (hg : Gl X x := by rfl) (hdb : (x == ("__debug__" : Str)) = false := by decide)
    (he : starEach (e :: es) X.env = (false, eval e X.env) :: starEach es X.env := by rfl) (hpl : (backTo pos (starEach es X.env)).any (·.1) = false := by rfl) :
    PE X (.Call (.Name x p) (e :: es) [] pos) (tCall sp [] E t) := by
  obtain ⟨f, fd, hm, hk, hb, F⟩ := R.ex
  exact pe_call F hr hg hm hk hb .nil hx ha hdb he hpl
theorem pe_cl0 (R : Rdy X.prog X.w X.K X.mg X.base CX k x ps sp) (hr : Room k X.A) (hx : Passes CX X E) (hg : Gl X x := by rfl) (hdb : (x == ("__debug__" : Str)) = false := by decide) :
    PE X (.Call (.Name x p) [] [] pos) (tCall sp [] E tNil) := by
  obtain ⟨f, fd, hm, hk, hb, F⟩ := R.ex
  exact pe_call0 F hr hg hm hk hb .nil hx hdb
/-- a def that may raise, called where W is wished of what it raises -/
theorem pe_clS {W : WX} (R : Rdy X.prog X.w X.K X.mg X.base (L2.CX X.prog X.w) k x ps sp) (hr : Room k X.A) (tk : Takes X W) (ha : PA X (e :: es) t) (hg : Gl X x := by rfl) (hdb : (x == ("__debug__" : Str)) = false := by decide)
    (he : starEach (e :: es) X.env = (false, eval e X.env) :: starEach es X.env := by rfl) (hpl : (backTo pos (starEach es X.env)).any (·.1) = false := by rfl) :
    PE X (.Call (.Name x p) (e :: es) [] pos) (tCallS sp (WE W) t) := by
  obtain ⟨f, fd, hm, hk, hb, F⟩ := R.ex
  exact pe_callS F hr hg hm hk hb (fun σ => passAt tk σ) ha hdb he hpl
end

/-! ### readings -/
section
variable {K : PySem.W.Frag} {H : Hp} {Q : VK}
theorem new_of {p : Addr} {o : HO} {H' : Hp} (hp : H p = none) (e : upd H p o = H') : Same H H' ∧ H' p = some o := by subst e; exact ⟨same_upd hp, upd_same⟩
theorem rd_ixL {p : Addr} {xs : List V} {i : Int} {v : V} (h : H p = some (.lst xs)) (e : atI xs i = some v) (q : Q v H) : rIxL K (.ref p) (.int i) H Q := ⟨p, xs, i, v, rfl, rfl, SqL.of h, e, q⟩
theorem rd_ixL' {p : Addr} {xs : List V} {i : Int} {v : V} (h : SqL K H p xs) (e : atI xs i = some v) (q : Q v H) : rIxL K (.ref p) (.int i) H Q := ⟨p, xs, i, v, rfl, rfl, h, e, q⟩
theorem rd_ixT {p : Addr} {xs : List V} {i : Int} {v : V} (h : SqT K H p xs) (e : atI xs i = some v) (q : Q v H) : rIxT K (.ref p) (.int i) H Q := ⟨p, xs, i, v, rfl, rfl, h, e, q⟩
/-- a new object: the heap behind it -/
theorem rd_new {R : Addr → Hp → Prop} {o : HO} (q : ∀ p H', H p = none → Same H H' → H' p = some o → R p H') : ∀ p, H p = none → R p (upd H p o) := fun p hp => q p _ hp (same_upd hp) upd_same
/-- an object written: the heap behind it -/
theorem rd_set {R : Hp → Prop} {p : Addr} {o : HO} (q : ∀ H', SameB [p] H H' → H' p = some o → R H') : R (upd H p o) := q _ (.upd_in (by simp)) upd_same
theorem rd_setL {p : Addr} {xs : List V} {k : Int} {j : Nat} {v : V} {Q : Hp → Prop} (h : H p = some (.lst xs)) (e : ixN xs.length k = some j) (q : ∀ H', SameB [p] H H' → H' p = some (.lst (xs.set j v)) → Q H') : rSetL (.ref p) (.int k) v H Q := ⟨p, xs, k, j, rfl, rfl, h, e, rd_set (R := Q) q⟩
theorem rd_popAt {l : Addr} {xs : List V} {i : Int} {k : Nat} {y : V} (h : H l = some (.lst xs)) (h1 : -(2 ^ 63) ≤ i) (h2 : i < 2 ^ 63) (e : seqIndex? i xs.length = some k) (hy : xs[k]? = some y) (q : ∀ H', SameB [l] H H' → H' l = some (.lst (xs.eraseIdx k)) → Q y H') : rPopAt (.ref l) [.int i] H Q := ⟨l, xs, i, k, y, rfl, rfl, h, h1, h2, e, hy, rd_set (R := Q y) q⟩
theorem rd_cat {l b : Addr} {xs zs : List V} (hl : H l = some (.lst xs)) (hb : H b = some (.lst zs)) (hz : xs.length + zs.length ≤ 1000000) (q : ∀ p H', H p = none → Same H H' → H' p = some (.lst (xs ++ zs)) → Q (.ref p) H') : rCat (.ref l) (.ref b) H Q :=
  ⟨l, b, xs, zs, rfl, rfl, hl, hb, (by rw [sizeLine_eq]; omega), rd_new (R := fun p H' => Q (.ref p) H') q⟩
theorem rd_append {l : Addr} {xs : List V} {y : V} (h : H l = some (.lst xs)) (hz : xs.length ≤ 1000000) (q : ∀ H', SameB [l] H H' → H' l = some (.lst (xs ++ [y])) → Q .non H') : rAppend (.ref l) [y] H Q := ⟨l, xs, y, rfl, rfl, h, (by rw [sizeLine_eq]; omega), rd_set (R := Q .non) q⟩
theorem rd_lenL {p : Addr} {xs : List V} {R : Nat → Prop} (h : SqL K H p xs) (q : R xs.length) : ∃ n, LenV K (.ref p) H n ∧ R n := ⟨_, .inl ⟨_, h, rfl⟩, q⟩
theorem rd_lenT {p : Addr} {xs : List V} {R : Nat → Prop} (h : SqT K H p xs) (q : R xs.length) : ∃ n, LenV K (.ref p) H n ∧ R n := ⟨_, .inr ⟨_, h, rfl⟩, q⟩
theorem rd_lenS {z : Str} {R : Nat → Prop} (h : z.length ≤ 1000000) (q : R z.length) : ∃ n, LenV K (.str z) H n ∧ R n := ⟨_, ⟨by rw [sizeLine_eq]; omega, rfl⟩, q⟩
theorem size_le {n : Nat} (h : n ≤ 1000000) : n ≤ sizeLine := by rw [sizeLine_eq]; omega
theorem atI_lt {α : Type} {xs : List α} {i : Int} (h0 : 0 ≤ i) (h : i < xs.length) : ∃ x, atI xs i = some x ∧ xs[i.toNat]? = some x := by
  have hl : i.toNat < xs.length := by omega
  refine ⟨xs[i.toNat], ?_, List.getElem?_eq_getElem hl⟩
  have := atI_nat (xs := xs) (j := i.toNat) (List.getElem?_eq_getElem hl)
  rwa [show ((i.toNat : Nat) : Int) = i by omega] at this
theorem atI_map {α β : Type} {xs : List α} {g : α → β} {i : Int} (h0 : 0 ≤ i) (h : i < xs.length) : ∃ x, xs[i.toNat]? = some x ∧ atI (xs.map g) i = some (g x) := by
  have hl : i.toNat < xs.length := by omega
  refine ⟨xs[i.toNat], List.getElem?_eq_getElem hl, ?_⟩
  have := atI_nat (xs := xs.map g) (j := i.toNat) (v := g xs[i.toNat]) (by simp [List.getElem?_eq_getElem hl])
  rwa [show ((i.toNat : Nat) : Int) = i by omega] at this
/-- a test's reading, and what follows from what it gives -/
def tMonoT (c : TT) : TT := fun σ H Q => ∃ R, c σ H R ∧ ∀ b H1, R b H1 → Q b H1
theorem pt_mono {X : Cx} {e : Expr} {c : TT} (h : PT X e c) : PT X e (tMonoT c) := ⟨fun pins s σ H Q I q => by
  obtain ⟨R, h1, h2⟩ := q
  exact thn (h.run pins s σ H R I h1) fun b s1 ⟨H1, I1, q⟩ => ⟨H1, I1, h2 _ _ q⟩⟩
/-- a while by its word: W falls at each turn -/
theorem rd_while {c : TT} {tb : TS} {D : Ends} {σ : L2.St} {H : Hp} (W : Nat → L2.St → Hp → Prop) (m : Nat) (h0 : W m σ H)
    (hs : ∀ (m : Nat) (σ : L2.St) (H : Hp), W m σ H → c σ H fun b H1 => if b = true then tb { D with nx := fun σ' H' => ∃ m', m' < m ∧ W m' σ' H', ct := fun σ' H' => ∃ m', m' < m ∧ W m' σ' H', bk := D.nx } σ H1 else D.nx σ H1) : tWhile (tMonoT c) tb D σ H := by
  refine ⟨W, ⟨m, h0⟩, fun m σ H hw => ⟨_, hs m σ H hw, fun b H1 q => ?_⟩⟩
  cases b with
  | true => rw [if_pos rfl] at q; rw [if_pos rfl]; exact ⟨_, fun σ' H' h => h, q⟩
  | false => rw [if_neg Bool.false_ne_true] at q; rw [if_neg Bool.false_ne_true]; exact q
end
theorem scal_ii (i j : Int) : scal (.int i) (.int j) = true := rfl
theorem scal_ss (i j : Str) : scal (.str i) (.str j) = true := rfl
theorem scal_bb (i j : Bool) : scal (.bl i) (.bl j) = true := rfl
theorem scal_nn : scal .non .non = true := rfl
theorem scal_in (i : Int) : scal (.int i) .non = true := rfl
theorem scal_ni (i : Int) : scal .non (.int i) = true := rfl
theorem scal_sn (i : Str) : scal (.str i) .non = true := rfl
theorem scal_ns (i : Str) : scal .non (.str i) = true := rfl
theorem scal_is (i : Int) (j : Str) : scal (.int i) (.str j) = true := rfl
theorem scal_si (i : Int) (j : Str) : scal (.str j) (.int i) = true := rfl
theorem cx_K {CX : CXT} {P : Program} {w : World} {K : PySem.W.Frag} {mg : Str → Option Value} {base : Heap} {N : List Str} {qual : Str} {sc : Scope} {f : Addr} {cd : Value} {A : Around} {outer : List Env} {s : Shared} {H : Hp} {E : XK} : (cxOf CX P w K mg base N qual sc f cd A outer s H E).K = K := rfl
end My
namespace My
open PySem PySem.Spec PyProof.Rows L2
def topS (i : Nat) : Stmt := PySem.Challenge.pw_backsheet_k99_exceptions.main.body.getD i (.Pass ⟨0, 0, 0, 0⟩)
abbrev s_InvalidNumber_init : Stmt := inClass (topS 3) 0
abbrev s_InvalidText_init : Stmt := inClass (topS 4) 0
abbrev s_FormulaSyntax_init : Stmt := inClass (topS 5) 0
abbrev s_NotLinear_init : Stmt := inClass (topS 6) 0
abbrev s_ZeroDivisor_init : Stmt := inClass (topS 7) 0
abbrev s_InvalidRow_init : Stmt := inClass (topS 8) 0
abbrev s_InvalidName_init : Stmt := inClass (topS 9) 0
abbrev s_DuplicateCell_init : Stmt := inClass (topS 10) 0
abbrev s_BadFormula_init : Stmt := inClass (topS 11) 0
abbrev s_UnknownCell_init : Stmt := inClass (topS 12) 0
abbrev s_CircularCell_init : Stmt := inClass (topS 13) 0
abbrev s_NotInput_init : Stmt := inClass (topS 14) 0
abbrev s_NotComputed_init : Stmt := inClass (topS 15) 0
abbrev s_InvalidTable_init : Stmt := inClass (topS 16) 0
abbrev s_CellInUse_init : Stmt := inClass (topS 17) 0
abbrev s_InvalidWish_init : Stmt := inClass (topS 18) 0
abbrev s_InvalidLimit_init : Stmt := inClass (topS 19) 0
abbrev s_EmptyLimit_init : Stmt := inClass (topS 20) 0
abbrev s_UnknownCondition_init : Stmt := inClass (topS 21) 0
abbrev s_UnknownSide_init : Stmt := inClass (topS 23) 0
abbrev s_InvalidMove_init : Stmt := inClass (topS 24) 0
abbrev s_InvalidForm_init : Stmt := inClass (topS 25) 0
abbrev s_UnlikeCells_init : Stmt := inClass (topS 26) 0
abbrev s_AlreadyHeld_init : Stmt := inClass (topS 27) 0
abbrev s_NotHeld_init : Stmt := inClass (topS 28) 0
abbrev s_NoLimit_init : Stmt := inClass (topS 29) 0
abbrev s_Refused_init : Stmt := inClass (topS 30) 0
abbrev s_RolesKept_init : Stmt := inClass (topS 31) 0
abbrev s_NoMark_init : Stmt := inClass (topS 32) 0
abbrev s_InvalidOperation_init : Stmt := inClass (topS 35) 0
abbrev s_BadText_init : Stmt := inClass (topS 36) 0
abbrev s_BadCommand_init : Stmt := inClass (topS 37) 0
abbrev s_box : Stmt := topS 39
abbrev s_mixed : Stmt := topS 40
abbrev s_take : Stmt := topS 41
abbrev s_thing : Stmt := topS 42
abbrev s_made : Stmt := topS 43
abbrev s_named : Stmt := topS 44
abbrev s_fields : Stmt := topS 45
abbrev s_classes : Stmt := topS 46
abbrev s_raise_more : Stmt := topS 47
abbrev s_raise_one : Stmt := topS 48
abbrev s_raise_other : Stmt := topS 49
abbrev s_raise_bare : Stmt := topS 50
abbrev s_caught : Stmt := topS 51
abbrev s_law : Stmt := topS 52
/-- what the walk asks of the module's names -/
structure Txt (K : PySem.W.Frag) (mg : Str → Option Value) (aW aB : Addr) : Prop where
  b_len : mg "len" = none
  b_max : mg "max" = none
  b_int : mg "int" = none
  b_bool : mg "bool" = none
  b_isinstance : mg "isinstance" = none
  b_range : mg "range" = none
  b_ValueError : mg "ValueError" = none
end My
/-! Dat: promises by data; isinstance of data; new tuples and lists of data. -/
namespace My
open PySem PySem.Spec PyProof.Rows L2
/-- each of these addresses is tracked -/
def Fr (S : List Addr) (H : Hp) : Prop := ∀ a ∈ S, ∃ o, H a = some o
theorem Fr.nil {H : Hp} : Fr [] H := fun a h => by cases h
theorem Fr.same {S : List Addr} {H H' : Hp} (h : Fr S H) (s : Same H H') : Fr S H' := fun a ha => let ⟨o, e⟩ := h a ha; ⟨o, s a o e⟩
theorem Fr.new {S : List Addr} {H : Hp} {p : Addr} (h : Fr S H) (hp : H p = none) : p ∉ S := fun hm => by
  obtain ⟨o, e⟩ := h p hm; rw [hp] at e; cases e
theorem Fr.cons {S : List Addr} {H : Hp} {p : Addr} {o : HO} (h : Fr S H) (hp : H p = some o) : Fr (p :: S) H := fun a ha => by
  rcases List.mem_cons.mp ha with e | ha
  · subst e; exact ⟨_, hp⟩
  · exact h a ha
theorem Fr.tail {S : List Addr} {H : Hp} {p : Addr} (h : Fr (p :: S) H) : Fr S H := fun a ha => h a (List.mem_cons_of_mem _ ha)
/-- a promise by data -/
def spD (K : PySem.W.Frag) (R : List PyData → PyData → Prop) : Sp := fun vs H Q _ => ∃ (S : List Addr) (ds : List PyData) (r : PyData), Fr S H ∧ DpAll K (dl S H) vs ds ∧ R ds r ∧ ∀ v H', Same H H' → Dp K (dl S H') v r → Q v H'
theorem spD_len {K : PySem.W.Frag} {R : List PyData → PyData → Prop} {n : Nat} (h : ∀ ds r, R ds r → ds.length = n) : ∀ vs H Q E, spD K R vs H Q E → vs.length = n := by
  rintro vs H Q E ⟨S, ds, r, _, hd, hR, _⟩
  rw [dps_len hd]; exact h ds r hR
section
variable {K : PySem.W.Frag} {H : Hp} {Q : VK} {E : XK} {S : List Addr}
theorem rd_D {R : List PyData → PyData → Prop} {vs : List V} {ds : List PyData} {r : PyData} (hF : Fr S H) (hd : DpAll K (dl S H) vs ds) (hR : R ds r) (q : ∀ v H', Same H H' → Dp K (dl S H') v r → Q v H') : spD K R vs H Q E := ⟨S, ds, r, hF, hd, hR, q⟩
/-- a new tuple of data -/
theorem new_tup {p : Addr} {vs : List V} {ds : List PyData} {H' : Hp} (hF : Fr S H) (hp : H p = none) (e : upd H p (.tup vs) = H') (ha : DpAll K (dl S H) vs ds) : Same H H' ∧ Fr S H' ∧ Dp K (dl S H') (.ref p) (.tuple ds) := by
  have s := (new_of hp e).1
  refine ⟨s, hF.same s, .tup (SqT.of (by rw [dl_out (hF.new hp)]; exact (new_of hp e).2)) (dps_same (dl_same s) ha)⟩
theorem new_lst {p : Addr} {vs : List V} {ds : List PyData} {H' : Hp} (hF : Fr S H) (hp : H p = none) (e : upd H p (.lst vs) = H') (ha : DpAll K (dl S H) vs ds) : Same H H' ∧ Fr S H' ∧ Dp K (dl S H') (.ref p) (.list ds) := by
  have s := (new_of hp e).1
  refine ⟨s, hF.same s, .lst (SqL.of (by rw [dl_out (hF.new hp)]; exact (new_of hp e).2)) (dps_same (dl_same s) ha)⟩
theorem seqT_up {a : Addr} {xs : List V} (h : SqT K (dl S H) a xs) : SqT K H a xs := sameT (dl_sub S H) h
theorem seqL_up {a : Addr} {xs : List V} (h : SqL K (dl S H) a xs) : SqL K H a xs := (dl_sub S H).seq h
theorem dp_up {v : V} {d : PyData} (h : Dp K (dl S H) v d) : Dp K H v d := dp_same (dl_sub S H) h
end
/-! ### isinstance of data -/
def tyN : PyData → String
  | .none => "NoneType" | .bool _ => "bool" | .int _ => "int" | .str _ => "str" | .list _ => "list" | .tuple _ => "tuple" | .dict _ => "dict"
def isiS : String → String → Bool
  | "int", "int" => true | "bool", "int" => true | "bool", "bool" => true | "str", "str" => true | "list", "list" => true | "tuple", "tuple" => true
  | _, _ => false
def isiD (d : PyData) (c : String) : Bool := isiS (tyN d) c
theorem isi_none_int  : isiD .none "int" = false := rfl
theorem isi_none_bool  : isiD .none "bool" = false := rfl
theorem isi_none_str  : isiD .none "str" = false := rfl
theorem isi_none_list  : isiD .none "list" = false := rfl
theorem isi_none_tuple  : isiD .none "tuple" = false := rfl
theorem isi_bool_int (b : Bool) : isiD (.bool b) "int" = true := rfl
theorem isi_bool_bool (b : Bool) : isiD (.bool b) "bool" = true := rfl
theorem isi_bool_str (b : Bool) : isiD (.bool b) "str" = false := rfl
theorem isi_bool_list (b : Bool) : isiD (.bool b) "list" = false := rfl
theorem isi_bool_tuple (b : Bool) : isiD (.bool b) "tuple" = false := rfl
theorem isi_int_int (b : Int) : isiD (.int b) "int" = true := rfl
theorem isi_int_bool (b : Int) : isiD (.int b) "bool" = false := rfl
theorem isi_int_str (b : Int) : isiD (.int b) "str" = false := rfl
theorem isi_int_list (b : Int) : isiD (.int b) "list" = false := rfl
theorem isi_int_tuple (b : Int) : isiD (.int b) "tuple" = false := rfl
theorem isi_str_int (b : Str) : isiD (.str b) "int" = false := rfl
theorem isi_str_bool (b : Str) : isiD (.str b) "bool" = false := rfl
theorem isi_str_str (b : Str) : isiD (.str b) "str" = true := rfl
theorem isi_str_list (b : Str) : isiD (.str b) "list" = false := rfl
theorem isi_str_tuple (b : Str) : isiD (.str b) "tuple" = false := rfl
theorem isi_list_int (b : List PyData) : isiD (.list b) "int" = false := rfl
theorem isi_list_bool (b : List PyData) : isiD (.list b) "bool" = false := rfl
theorem isi_list_str (b : List PyData) : isiD (.list b) "str" = false := rfl
theorem isi_list_list (b : List PyData) : isiD (.list b) "list" = true := rfl
theorem isi_list_tuple (b : List PyData) : isiD (.list b) "tuple" = false := rfl
theorem isi_tuple_int (b : List PyData) : isiD (.tuple b) "int" = false := rfl
theorem isi_tuple_bool (b : List PyData) : isiD (.tuple b) "bool" = false := rfl
theorem isi_tuple_str (b : List PyData) : isiD (.tuple b) "str" = false := rfl
theorem isi_tuple_list (b : List PyData) : isiD (.tuple b) "list" = false := rfl
theorem isi_tuple_tuple (b : List PyData) : isiD (.tuple b) "tuple" = true := rfl
/- isiD_tt -/
def isIntD (d : PyData) : Bool := isiD d "int" && !isiD d "bool"
theorem isInt_none  : isIntD .none = false := rfl
theorem isInt_bool (b : Bool) : isIntD (.bool b) = false := rfl
theorem isInt_int (b : Int) : isIntD (.int b) = true := rfl
theorem isInt_str (b : Str) : isIntD (.str b) = false := rfl
theorem isInt_list (b : List PyData) : isIntD (.list b) = false := rfl
theorem isInt_tuple (b : List PyData) : isIntD (.tuple b) = false := rfl
theorem ty_dp {K : PySem.W.Frag} {H : Hp} {v : V} {d : PyData} (h : Dp K H v d) : TyX K H v (.type (tyN d)) := by
  cases h with
  | non => exact .base .non
  | bl b => exact .base (.bl b)
  | int i => exact .base (.int i)
  | str x => exact .base (.str x)
  | lst s a =>
    rcases s with (s | ⟨o, s⟩) | ⟨o, its, n, hk, hc, _⟩
    · exact .base (.lst s)
    · exact .base (.frz s)
    · exact .kList hk hc
  | tup s a =>
    rcases s with (s | ⟨o, s⟩) | ⟨o, its, n, hk, hc, _⟩
    · exact .base (.tup s)
    · exact .fTuple s
    · exact .kTuple hk hc
theorem kit_s : ∀ a ∈ ["NoneType", "bool", "int", "str", "list", "tuple"], ∀ c ∈ ["int", "bool", "str", "list", "tuple"], kitB a c = some (isiS a c) := by decide +kernel
theorem kit_d (d : PyData) (c : String) (h : c ∈ ["int", "bool", "str", "list", "tuple"]) (hd : ∀ k, d ≠ .dict k) : kitB (tyN d) c = some (isiD d c) := by
  cases d with
  | dict k => exact absurd rfl (hd k)
  | none => exact kit_s "NoneType" (by simp) c h
  | bool b => exact kit_s "bool" (by simp) c h
  | int b => exact kit_s "int" (by simp) c h
  | str b => exact kit_s "str" (by simp) c h
  | list b => exact kit_s "list" (by simp) c h
  | tuple b => exact kit_s "tuple" (by simp) c h
section
variable {K : PySem.W.Frag} {H : Hp} {Q : VK}
theorem rd_isi {v : V} {d : PyData} {c : String} (h : Dp K H v d) (hc : c ∈ ["int", "bool", "str", "list", "tuple"]) (q : Q (.bl (isiD d c)) H) : rIsi K [v, .ty c] H Q :=
  ⟨v, .ty c, .type (tyN d), .type c, _, rfl, .ty c, ty_dp h, kit_ty (kit_d d c hc (by rintro k rfl; cases h)), q⟩
end
theorem bltn_ty (x : String) : RelV (.ty x) (Value.type x) := rfl
/-! ### module constants -/
section
variable {X : Cx} {x : Str} {pos : Pos} {v : V}
theorem pe_gl (h : ∃ u, X.mg x = some u ∧ RelV v u) (hg : Gl X x := by rfl) (hd : (x == ("__debug__" : Str)) = false := by decide) : PE X (.Name x pos) (tC v) := by
  obtain ⟨u, hm, r⟩ := h
  exact pe_glob hg hm r hd
end
end My
namespace My
open PySem PySem.Spec PyProof.Rows L2
/-- a def with one default, an int -/
structure DfnD (K : PySem.W.Frag) (mg : Str → Option Value) (x : Str) (st : Stmt) (d : Int) : Prop where
  ex : ∃ f fd, FunD K x x (defArgs st) (defBody st) (defScope st) [.int d] [] f fd ∧ mg x = some (.ref f)
structure RdyD (P : Program) (w : World) (K : PySem.W.Frag) (mg : Str → Option Value) (base : Heap) (CX : CXT) (k : Nat) (x : Str) (ps : List Str) (d : Int) (sp : Sp) : Prop where
  ex : ∃ f fd, mg x = some (.ref f) ∧ PySem.W.keepIn K (.ref f) = true ∧ Binds K fd ps [] ∧ (∃ u, RelV (.int d) u ∧ Binds K fd ps [u]) ∧ FnOk P w K mg base CX k f fd ps sp
section
variable {P : Program} {w : World} {K : PySem.W.Frag} {mg : Str → Option Value} {base : Heap}
theorem DfnD.rdy {x : Str} {st : Stmt} {N : List Str} {p1 p2 : Str} {d : Int} {k : Nat} {sp : Sp} (F : DfnD K mg x st d) (S : FnScope N [p1, p2] (defScope st))
    (h1 : ∀ (T : Addr) (kV doc pm : Value) (an : Option Addr) (cdv ct : Value) (us its : List Value), us.length = 1 → its.length = 1 →
      ∃ k, bindArgs (PySem.W.fnOf x x (defArgs st) (defBody st) (defScope st) (.ref T) kV doc pm an cdv ct) ⟨us, []⟩ = seqItems? (.ref T) >>= k ∧ k (some its.toArray) = pure ([p1, p2].zip (us ++ its.drop 0)))
    (h2 : ∀ (T : Addr) (kV doc pm : Value) (an : Option Addr) (cdv ct : Value) (us its : List Value), us.length = 2 → its.length = 1 →
      ∃ k, bindArgs (PySem.W.fnOf x x (defArgs st) (defBody st) (defScope st) (.ref T) kV doc pm an cdv ct) ⟨us, []⟩ = seqItems? (.ref T) >>= k ∧ k (some its.toArray) = pure ([p1, p2].zip (us ++ its.drop 1)))
    (len : ∀ vs H Q E, sp vs H Q E → vs.length = 2)
    (hbody : ∀ (f : Addr) (cdv : Value) (A : Around) (outer : List Env) (s : Shared) (H : Hp) (vs : List V) (Q : VK) (E : XK), Room k (A.deeper (envOfC x (defScope st) s.heap.objs.size f cdv)) → sp vs H Q E →
      ∃ t, PSs (cxOf CX0 P w K mg base N x (defScope st) f cdv A outer s H E).nox (defBody st) t ∧ t { nx := fun _ H' => Q .non H', rt := Q } (start N vs) H) : RdyD P w K mg base CX0 (k + 1) x [p1, p2] d sp := by
  obtain ⟨f, fd, F, hm⟩ := F.ex
  obtain ⟨ds, r1, b1⟩ := F.binds1 (ps := [p1, p2]) 1 0 (by simp) (by simp) h1
  obtain ⟨es, r2, b2⟩ := F.binds1 (ps := [p1, p2]) 2 1 (by simp) (by simp) h2
  simp only [List.drop_zero, List.drop_succ_cons] at r1 r2
  cases r2
  cases r1 with
  | cons ru rn =>
    cases rn
    refine ⟨f, fd, hm, F.kp, b2, ⟨_, ru, b1⟩, F.ok S len fun cdv A outer s H vs Q E hr hsp => ?_⟩
    obtain ⟨t, h, q⟩ := hbody f cdv A outer s H vs Q E hr hsp
    exact ⟨t, h.nox, q⟩
end
section
variable {X : Cx} {k : Nat} {ps : List Str} {sp : Sp} {E : XK} {x : Str} {p pos : Pos} {e : Expr} {es : List Expr} {t : TA} {d : Int}
theorem pe_rt1 (R : RdyD X.prog X.w X.K X.mg X.base CX0 k x ps d sp) (hr : Room k X.A) (ha : PA X (e :: es) t) (hg : Gl X x := by rfl) (hdb : (x == ("__debug__" : Str)) = false := by decide)
    (he : starEach (e :: es) X.env = (false, eval e X.env) :: starEach es X.env := by rfl) (hpl : (backTo pos (starEach es X.env)).any (·.1) = false := by rfl) :
    PE X (.Call (.Name x p) (e :: es) [] pos) (tCall sp [.int d] E0 t) := by
  obtain ⟨f, fd, hm, hk, hb, ⟨u, ru, hb1⟩, F⟩ := R.ex
  exact pe_call F hr hg hm hk hb1 (.cons ru .nil) pass0 ha hdb he hpl
theorem pe_rt2 (R : RdyD X.prog X.w X.K X.mg X.base CX0 k x ps d sp) (hr : Room k X.A) (ha : PA X (e :: es) t) (hg : Gl X x := by rfl) (hdb : (x == ("__debug__" : Str)) = false := by decide)
    (he : starEach (e :: es) X.env = (false, eval e X.env) :: starEach es X.env := by rfl) (hpl : (backTo pos (starEach es X.env)).any (·.1) = false := by rfl) :
    PE X (.Call (.Name x p) (e :: es) [] pos) (tCall sp [] E0 t) := by
  obtain ⟨f, fd, hm, hk, hb, ⟨u, ru, hb1⟩, F⟩ := R.ex
  exact pe_call F hr hg hm hk hb .nil pass0 ha hdb he hpl
end
end My
/-! Exn: an own exception class X(B) whose __init__ says B.__init__(self, 'text') of an own base B without __init__, then self.f = f. -/
namespace My
open PySem PySem.Spec PyProof.Rows L2
/-- what the written part says of the base class: B.__init__ is ValueError's -/
structure BaseC (K : PySem.W.Frag) (mg : Str → Option Value) (x : Str) : Prop where
  ex : ∃ C0 : Addr, mg x = some (.ref C0) ∧ PySem.W.readsIn K C0 (.type "type") = true ∧ PySem.W.specialIn K (.ref C0) "__getattribute__" = some (some (.builtin "type.__getattribute__")) ∧
    PySem.W.findCls K (.ref C0) (.type "type") "__init__" = some (.val (.builtin "ValueError.__init__"))
section
variable {X : Cx} {x : Str} {e : Expr} {es : List Expr} {ta : TA} {p1 p2 pos : Pos}
theorem pe_clsinit {pl : Sem Bool} (B : BaseC X.K X.mg x) (ha : PA X (e :: es) ta) (hg : Gl X x := by rfl) (hdb : (x == ("__debug__" : Str)) = false := by decide)
    (hc : eval (.Call (.Attribute (.Name x p1) "__init__" p2) (e :: es) [] pos) X.env = (do
      let ov ← eval (.Name x p1) X.env
      standAt p2.atName
      let (f, first) ← holding [ov] (getMethod ov "__init__" pl)
      callWith pos f first (backTo pos (starEach (e :: es) X.env)) (backToKw pos (keywordEach [] X.env))) := by rfl)
    (he : starEach (e :: es) X.env = (false, eval e X.env) :: starEach es X.env := by rfl) (hpl : (backTo pos (starEach es X.env)).any (·.1) = false := by rfl) :
    PE X (.Call (.Attribute (.Name x p1) "__init__" p2) (e :: es) [] pos) (tVeI X.K ta) := by
  obtain ⟨C0, hm, rd, ga, vV⟩ := B.ex
  refine ⟨fun pins s σ H Q I h => ?_⟩
  refine PySem.W.methodCall_KW (ld_glob I hg hm ?_ hdb) hc
  refine PySem.W.method_cls I.kIn ga (PySem.W.cls_value I.kIn rd vV (by decide +kernel) ?_)
  show wpAny _ _ (callWith pos (Value.builtin "ValueError.__init__") [] (backTo pos (starEach (e :: es) X.env)) []) _ _ _
  refine PyProof.Rows.callWith_method1 (thn (ha.run pos pins _ σ H _ (I.tok _) h) fun us s1 ⟨vs, H1, I1, r1, a, C, ws, ev, hl, T, ea, q⟩ => ?_) he hpl
  subst ev
  cases r1 with
  | @cons _ u0 _ ur ra rw' =>
    obtain rfl : u0 = Value.ref a := ra
    have hlen : ur.length ≤ sizeLine := by
      rw [← Paired.length rw', sizeLine_eq]
      omega
    exact oinit_ok T I1 ea hlen fun s' J => ⟨.non, H1, J, rfl, q⟩
end
section
variable {X : Cx} {es : List Expr} {ta : TA} {e : Expr} {te : TE}
/-- any argument list's reading, and what follows from what it gives -/
def tMonoA (ta : TA) : TA := fun σ H Q => ∃ R, ta σ H R ∧ ∀ vs H1, R vs H1 → Q vs H1
theorem pa_mono (ha : PA X es ta) : PA X es (tMonoA ta) := ⟨fun pos pins s σ H Q I h => by
  obtain ⟨R, h1, h2⟩ := h
  exact thn (ha.run pos pins s σ H R I h1) fun us s1 ⟨vs, H1, I1, r, q⟩ => ⟨vs, H1, I1, r, h2 _ _ q⟩⟩
end
/-- an own exception class x with one field f, as it stands behind the top -/
structure Exc1 (K : PySem.W.Frag) (mg : Str → Option Value) (x f : Str) (st : Stmt) (C : Addr) : Prop where
  gC : mg x = some (.ref C)
  T : OexC K C
  nf : PySem.W.findIn K (.ref C) f = some none
  ini : ∃ (fI : Addr) (fd : FuncData), PySem.W.findIn K (.ref C) "__init__" = some (some (.ref fI)) ∧ PySem.W.typeIn K (.ref fI) = some (.type "function") ∧ Fun K "__init__" (x ++ (".__init__" : Str)) st fI fd
def spIni (K : PySem.W.Frag) (C : Addr) (f : Str) : Sp := fun vs H Q _ => ∃ (a : Addr) (v : V), vs = [.ref a, v] ∧ H a = some (exo a C none) ∧ ∀ dx, H dx = none → dx ≠ a → Q .non (upd (upd H dx (exd dx [(f, v)])) a (exo a C (some dx)))
theorem spIni_len {K : PySem.W.Frag} {C : Addr} {f : Str} : ∀ vs H Q E, spIni K C f vs H Q E → vs.length = 2 := by
  rintro vs H Q E ⟨a, v, rfl, _⟩; rfl
/-- X(e): what is handed to the wish -/
def tX1 (C : Addr) (f : Str) (ta : TA) : L2.St → Hp → XK → Prop := fun σ H Q => ta σ H fun vs H1 => ∃ v, vs = [v] ∧ ∀ d H2, H1 d = none → Same H1 H2 → H2 d = some (.xd [(f, v)]) → Q (.ref C) (some d) H2
section
variable {X : Cx} {x f : Str} {e : Expr} {ta : TA} {p pos pos2 : Pos} {C : Addr} {st : Stmt} {ps : List Str} {k : Nat}
theorem pmk_x1 (D : Exc1 X.K X.mg x f st C) (F : ∀ fI fd, Fun X.K "__init__" (x ++ (".__init__" : Str)) st fI fd → FnOk X.prog X.w X.K X.mg X.base CX0 k fI fd ps (spIni X.K C f) ∧ Binds X.K fd ps []) (hr : Room (k + 1) X.A) (ha : PA X [e] ta)
    (hg : Gl X x := by rfl) (hdb : (x == ("__debug__" : Str)) = false := by decide) (he : starEach [e] X.env = (false, eval e X.env) :: starEach [] X.env := by rfl) (hpl : (backTo pos (starEach [] X.env)).any (·.1) = false := by rfl) :
    PMk X (.Call (.Name x p) [e] [] pos) (tX1 C f ta) := by
  obtain ⟨fI, fd, iC, tI, FI⟩ := D.ini
  obtain ⟨F1, b1⟩ := F fI fd FI
  intro pins s σ H Q I h
  refine pmk_oex D.T iC tI F1 hr b1 .nil (fun _ _ _ _ _ _ _ z => z.elim) hg D.gC (pa_mono ha) hdb he hpl pins s σ H Q I ⟨_, h, fun vs H1 hv => ?_⟩
  obtain ⟨v, rfl, q⟩ := hv
  refine ⟨by show 1 ≤ 1000; decide, fun a ha => ⟨a, v, rfl, upd_same, fun dx hdx hne => ⟨rfl, dx, [(f, v)], upd_same, ?_, ?_, ?_⟩⟩⟩
  · rw [upd_ne hne, upd_same]
  · rw [upd_ne hne] at hdx; exact hdx
  · have hd1 : H1 dx = none := by rw [upd_ne hne] at hdx; exact hdx
    refine q dx _ hd1 (fun b o e => ?_) upd_same
    have nb : b ≠ a := ne_of_none e ha
    have nd : b ≠ dx := ne_of_none e hd1
    rw [upd_ne nd, del_ne nb, upd_ne nb, upd_ne nd, upd_ne nb]
    exact e
/-- raise X(e) -/
theorem ps_x1 {W : WX} (hc : X.calm = true) (tk : Takes X W) (D : Exc1 X.K X.mg x f st C) (F : ∀ fI fd, Fun X.K "__init__" (x ++ (".__init__" : Str)) st fI fd → FnOk X.prog X.w X.K X.mg X.base CX0 k fI fd ps (spIni X.K C f) ∧ Binds X.K fd ps []) (hr : Room (k + 1) X.A) (ha : PA X [e] ta)
    (hg : Gl X x := by rfl) (hdb : (x == ("__debug__" : Str)) = false := by decide) (he : starEach [e] X.env = (false, eval e X.env) :: starEach [] X.env := by rfl) (hpl : (backTo pos (starEach [] X.env)).any (·.1) = false := by rfl) :
    PS X (.Raise (some (.Call (.Name x p) [e] [] pos)) none pos2) (fun _ σ H => tX1 C f ta σ H fun cls d H' => W cls d σ H') := ps_raise hc tk (pmk_x1 D F hr ha hg hdb he hpl)
end
/-- the body of such an __init__ -/
theorem ok_ini {P : Program} {w : World} {K : PySem.W.Frag} {mg : Str → Option Value} {base : Heap} {x b f : Str} {st : Stmt} {C fI : Addr} {fd : FuncData} {ps : List Str} (B : BaseC K mg b) (D : Exc1 K mg x f st C) (F : Fun K "__init__" (x ++ (".__init__" : Str)) st fI fd) (S : FnScope ps ps (defScope st)) (hl : ps.length = 2)
    (hbody : ∀ (cdv : Value) (A : Around) (outer : List Env) (s : Shared) (H : Hp) (E : XK), ∃ m, PSs (cxOf CX0 P w K mg base ps (x ++ (".__init__" : Str)) (defScope st) fI cdv A outer s H E).nox (defBody st) (tSeq (tDrop (tVeI K (tCons (tVar 0) (tCons (tC (.str m)) tNil)))) (tOst K f (tVar 0) (tVar 1)))) :
    FnOk P w K mg base CX0 1 fI fd ps (spIni K C f) := by
  refine F.ok S (fun vs H Q E h => ?_) (fun cdv A outer s H vs Q E hr h => ?_)
  · rw [hl]; exact spIni_len vs H Q E h
  · obtain ⟨m, hb⟩ := hbody cdv A outer s H E
    refine ⟨_, hb, ?_⟩
    obtain ⟨a, v, rfl, ha, q⟩ := h
    match ps, hl with
    | [_, _], _ =>
      refine ⟨_, rfl, a, C, [.str m], rfl, (by show 1 ≤ 1000; decide), D.T, ha, _, rfl, _, rfl, a, C, rfl, D.T, D.nf, .inl ⟨ha, fun dx h1 h2 => ?_⟩⟩
      exact q dx h1 h2
end My
/-! Ops: a text times an int; slices of lists with a step; a, *b = a list; x in a tuple of data; dict(zip(a, b)). -/
namespace My
open PySem PySem.Spec PyProof.Rows L2
section
variable {X : Cx}
/-- s * n -/
def rMulS : R2 := fun x y H Q => ∃ (z : Str) (n : Int), x = .str z ∧ y = .int n ∧ z.length ≤ 1000 ∧ -1000 ≤ n ∧ n ≤ 1000 ∧ Q (.str (Txt.mul z n)) H
theorem op_mul_si : OpR X (binaryOp .Mult) rMulS := by
  intro pins s σ H x y v u Q I rx ry h
  obtain ⟨z, n, rfl, rfl, h1, h2, h3, q⟩ := h
  obtain ⟨t, rfl⟩ := rx
  obtain ⟨t', rfl⟩ := ry
  refine SB.mul ⟨?_, fun h4 _ => ?_, fun h4 _ => ?_⟩ fun t'' k => ⟨.str _, H, I.tok _, ⟨_, rfl⟩, q⟩
  · rw [decide_eq_false (by omega), decide_eq_false (by omega)]; rfl
  · have h5 : 1 ≤ n := by omega
    have : (1000 : Int) ≤ (2 ^ 63 - 1) / n := by
      rw [Int.le_ediv_iff_mul_le (by omega)]
      omega
    omega
  · have h5 : 1 ≤ n := by omega
    have : z.length * n.toNat ≤ 1000 * 1000 := Nat.mul_le_mul h1 (by omega)
    unfold Builtin.Str.tooLong
    rw [decide_eq_false]
    rw [sizeLine_eq]
    omega
/-- x in / not in a tuple of data -/
def rInT (K : PySem.W.Frag) (neg : Bool) : R2 := fun x y H Q => ∃ d ds, Dp K H x d ∧ Dp K H y (.tuple ds) ∧ SeqAt.shaped d = true ∧ SeqAt.shaped (.tuple ds) = true ∧ Q (.bl (if neg then !ds.any fun z => PyData.eqv z d else ds.any fun z => PyData.eqv z d)) H
theorem room_inT {ds : List PyData} {d : PyData} {n : Nat} (h : SeqAt.shaped d = true) (hu : n + 65 < cLine) : n + 1 + min (PyData.depthAll ds) d.depth < cLine := by
  have h1 : min (PyData.depthAll ds) d.depth ≤ d.depth := Nat.min_le_right _ _
  have h2 := SeqAt.depth_of_shaped h
  omega
theorem op_inT (hu : X.A.units + 65 < cLine) : OpR X (compareOp .In) (rInT X.K false) := by
  intro pins s σ H x y v u Q I rx ry h
  obtain ⟨d, ds, hd, he, sd, se, q⟩ := h
  obtain ⟨as, r1⟩ := Dp.reads I d x v hd rx
  obtain ⟨bs, r2⟩ := Dp.reads I (.tuple ds) y u he ry
  exact SeqAt.in_tuple_reads r2 r1 (SeqAt.canLay_of_shaped se) (SeqAt.canLay_of_shaped sd) (room_inT sd hu) ⟨.bl _, H, I, rfl, q⟩
theorem op_notInT (hu : X.A.units + 65 < cLine) : OpR X (compareOp .NotIn) (rInT X.K true) := by
  intro pins s σ H x y v u Q I rx ry h
  obtain ⟨d, ds, hd, he, sd, se, q⟩ := h
  obtain ⟨as, r1⟩ := Dp.reads I d x v hd rx
  obtain ⟨bs, r2⟩ := Dp.reads I (.tuple ds) y u he ry
  exact SeqAt.notIn_tuple_reads r2 r1 (SeqAt.canLay_of_shaped se) (SeqAt.canLay_of_shaped sd) (room_inT sd hu) ⟨.bl _, H, I, rfl, q⟩
/-! ### slices of a list with a step -/
def stepIx (n : Nat) (lo hi st : Option Int) : List Nat := sliceRange (sliceBounds lo hi st n).1 (sliceBounds lo hi st n).2.1 (sliceBounds lo hi st n).2.2
def stepL {α : Type} (xs : List α) (lo hi st : Option Int) : List α := (stepIx xs.length lo hi st).filterMap (xs[·]?)
theorem vals_pick {xs : List V} {us : List Value} (r : Vals xs us) : ∀ l : List Nat, Vals (l.filterMap (xs[·]?)) (l.filterMap (us[·]?))
  | [] => .nil
  | i :: l => by
    have t := vals_pick r l
    rw [List.filterMap_cons, List.filterMap_cons]
    cases e : xs[i]? with
    | none =>
      have hl := r.length
      have : us[i]? = none := by
        rw [List.getElem?_eq_none_iff] at e ⊢
        omega
      rw [this]
      exact t
    | some x =>
      obtain ⟨u, eu, ru⟩ := r.get e
      rw [eu]
      exact .cons ru t
theorem stepL_map {α β : Type} (f : α → β) (xs : List α) (lo hi st : Option Int) : stepL (xs.map f) lo hi st = (stepL xs lo hi st).map f := by
  unfold stepL
  rw [List.length_map, List.map_filterMap]
  congr 1
  funext i
  rw [List.getElem?_map]
theorem stepL_mem {α : Type} {xs : List α} {lo hi st : Option Int} {x : α} (h : x ∈ stepL xs lo hi st) : x ∈ xs := by
  obtain ⟨i, _, e⟩ := List.mem_filterMap.mp h
  exact List.mem_of_getElem? e
theorem stepL_le {α : Type} (xs : List α) (lo hi st : Option Int) : (stepL xs lo hi st).length ≤ xs.length := by
  have h := slicePick_size_le (xs.map fun _ => Value.none).toArray lo hi st
  have e : (slicePick (xs.map fun _ => Value.none).toArray lo hi st).size = (stepL (xs.map fun _ => Value.none) lo hi st).length := by
    unfold slicePick stepL stepIx
    rw [List.size_toArray, List.size_toArray]
    simp
  rw [e, stepL_map, List.length_map, List.size_toArray, List.length_map] at h
  exact h
theorem stepL_len {α : Type} (xs : List α) (lo hi st : Option Int) : (stepL xs lo hi st).length ≤ (stepIx xs.length lo hi st).length := List.length_filterMap_le ..
def tStepL (K : PySem.W.Frag) (te : TE) (tl tu ts : TO) : TE := fun σ H Q => te σ H fun x H1 => tl σ H1 fun lo H2 => tu σ H2 fun hi H3 => ts σ H3 fun st H4 => ∃ a xs, x = .ref a ∧ SqL K H4 a xs ∧ st ≠ some 0 ∧ (stepL xs lo hi st).length ≤ 1000000 ∧
  ∀ p, H4 p = none → Q (.ref p) (upd H4 p (.lst (stepL xs lo hi st)))
theorem pe_stepL {e : Expr} {te : TE} {tl tu ts : TO} {lo hi : Option Expr} {st : Expr} {p3 pos : Pos} (he : PE X e te) (hl : PO X lo tl) (hu : PO X hi tu) (hs : PO X (some st) ts)
    (ht : ∀ a b, subscripted (.Slice lo hi (some st) p3) false a b = operate [a, b] (getItem a b) := by intros; with_unfolding_all rfl) : PE X (.Subscript e (.Slice lo hi (some st) p3) pos) (tStepL X.K te tl tu ts) := by
  refine ⟨fun pins s σ H Q I h => ?_⟩
  refine Subscript_ (thn (he.run pins s σ H _ I h) fun v s1 ⟨x, H1, I1, r1, q1⟩ => ?_)
  refine wpAny_Slice (thn (hl.run pins s1 σ H1 _ I1 q1) fun vl s2 ⟨l, H2, I2, pl, q2⟩ => ?_)
  refine thn (hu.run pins s2 σ H2 _ I2 q2) fun vu s3 ⟨u, H3, I3, pu, q3⟩ => ?_
  refine thn (hs.run pins s3 σ H3 _ I3 q3) fun vs s4 ⟨o, H4, I4, ps, q4⟩ => ?_
  obtain ⟨a, xs, ex, hx, ho, hn, q⟩ := q4
  subst ex
  cases r1
  have I5 : Inv X pins σ H4 { s4 with heap := s4.heap.push { cls := .type "slice", data := .fields #[vl, vu, vs] } } := I4.kept (t' := s4.toks) fun b ob q => Heap.get?_push_of_some _ q
  obtain ⟨its, r, ht', hz⟩ := I5.list hx
  have hlen := r.length
  show wpAny (model X.prog X.w) X.A (subscriptTail e (.Slice lo hi (some st) p3) (.ref a) (.ref s4.heap.objs.size)) (EP X pins σ Q) X.xe { s4 with heap := s4.heap.push { cls := .type "slice", data := .fields #[vl, vu, vs] } }
  refine tail_any (ops := [.ref a, .ref s4.heap.objs.size]) ht'.isList.typeIs (PySem.slot_list_getitem.lookup) ?_ (ht _ _)
  refine wpAny_getItem_list_slice ht'.isList (Heap.IsSliceOf.new _ vl vu vs) pl pu ps ho ?_ (by rw [List.size_toArray]; omega)
  have e1 : slicePick its.toArray l u o = ((stepIx xs.length l u o).filterMap (its[·]?)).toArray := by
    unfold slicePick stepIx
    rw [List.size_toArray, hlen]
    simp
  rw [e1]
  refine ⟨.ref _, _, I5.laid (t' := s4.toks) (o := .lst (stepL xs l u o)) (fun b ob q => Heap.get?_push_of_some _ q) (Nat.le_refl _) ?_, rfl, q _ (I5.hok.fresh (Nat.le_refl _))⟩
  exact ⟨size_le hn, _, 0, vals_pick r _, Heap.get?_push_size _ rfl⟩
/-! ### a, *b = a list -/
theorem star_list {prog : Program} {w : World} {A : Around} {E : Value → Shared → Prop} {s : Shared} {l : Addr} {items : Array Value} {Q : List Value → Shared → Prop} (hl : s.heap.IsList l items) (hh : A.handled = none) (hn : 1 ≤ items.size) (hz : items.size ≤ 16384)
    (h : ∀ (h' : Heap) (tk : Nat), (∀ b o, s.heap.get? b = some o → h'.get? b = some o) → Q (items.toList.take 1 ++ [.ref h'.objs.size]) { s with heap := h'.push { cls := .type "list", data := .seq (items.toList.drop 1).toArray }, toks := tk }) : wpAny (model prog w) A (unpackItems (.ref l) 2 (some 1)) Q E s := by
  have hlt : l ≠ s.heap.objs.size := by obtain ⟨o, ho, _⟩ := hl; exact Nat.ne_of_lt (Heap.lt_size ho)
  have hll : l < s.heap.objs.size := by obtain ⟨o, ho, _⟩ := hl; exact Heap.lt_size ho
  unfold unpackItems
  refine wpAny_bind ?_
  unfold notIterableAtAll
  refine wpAny_bind (wpAny_specialOf hl.typeIs slot_list_iter.lookup ?_)
  refine wpAny_pure ?_
  simp only [Bool.false_eq_true, if_false]
  refine wpAny_bind (wpAny_holding (wpAny_pyIter_list hl ?_))
  refine wpAny_bind (wpAny_holding (PySem.W.kun_draw hlt 1 0 _ _ ⟨_, Heap.get?_push_size _ rfl, rfl, rfl⟩ (hl.push _) (by omega) fun h₁ hit₁ hs₁ => ?_))
  have hl₁ : h₁.IsList l items := (hl.push _).extBut hs₁.extBut hlt
  rw [Nat.zero_add] at hit₁
  have hit₁' := hit₁
  obtain ⟨oi, hoi, _⟩ := hit₁'
  have hl₁' := hl₁
  obtain ⟨ol, hol, _⟩ := hl₁'
  rw [List.drop_zero]
  have hfl : (items.toList.take 1).length = 1 := by rw [List.length_take, Array.length_toList]; omega
  rw [if_neg (show ¬ ((items.toList.take 1).length < 1) by rw [hfl]; omega)]
  refine wpAny_bind (wpAny_holding (PySem.W.kun_collect (s := { s with heap := h₁ }) (T := "list_iterator") (.inr (.inr (.inl rfl))) (Walks.list (A := A.in1) hh s.heap.objs.size l hlt items) (fun j u st => st.1.typeIs) (k := 1) (by omega) ⟨hit₁, hl₁⟩ (Heap.lt_size hoi) (Heap.lt_size hol) (fun h₂ tk hk => ?_) (by rw [sizeLine_eq]; omega)))
  have hrl : (items.toList.drop 1).length = items.size - 1 := by rw [List.length_drop, Array.length_toList]
  have hmid : (items.toList.drop 1).length - (2 - 1 - 1) = (items.toList.drop 1).length := by omega
  show wpAny _ _ (if (items.toList.drop 1).length < 2 - 1 - 1 then _ else _) _ _ _
  rw [if_neg (by omega)]
  show wpAny _ _ (newList ((items.toList.drop 1).take ((items.toList.drop 1).length - (2 - 1 - 1))) >>= fun d => pure (items.toList.take 1 ++ [d] ++ (items.toList.drop 1).drop ((items.toList.drop 1).length - (2 - 1 - 1)))) _ _ _
  rw [hmid, List.take_length, List.drop_length]
  refine wpAny_bind (PySem.wpAny_newList ?_ (by rw [hrl, sizeLine_eq]; omega))
  refine wpAny_pure ?_
  rw [List.append_nil]
  exact h h₂ tk fun b o e => hk b o (fun z => by rw [z] at e; exact Nat.lt_irrefl _ (Heap.lt_size e)) (hs₁.extBut b o (fun z => by rw [z] at e; exact Nat.lt_irrefl _ (Heap.lt_size e)) (Heap.get?_push_of_some _ e))
def gStar (K : PySem.W.Frag) (t : TGs) : TG := fun v σ H Q => ∃ a x xs, v = .ref a ∧ SqL K H a (x :: xs) ∧ xs.length ≤ 16000 ∧ ∀ p, H p = none → t [x, .ref p] σ (upd H p (.lst xs)) Q
theorem pg_star {es : List Expr} {k : Nat} {t : TGs} {pos : Pos} (hc : X.calm = true) (h : PGs X es t) (hn : (assignEach es X.env).length = 2 := by rfl) (hst : (assignEach es X.env).findIdx? (·.1) = some 1 := by rfl) : PG X (.Tuple es k pos) (gStar X.K t) := by
  refine ⟨fun pins s σ H v u Q I r hw => ?_⟩
  obtain ⟨a, x, xs, e1, hq, hl, hw⟩ := hw
  subst e1
  cases r
  obtain ⟨its, rv, ht, hz⟩ := I.list hq
  have hlen := rv.length
  rw [List.length_cons] at hlen
  rw [assign_Tuple]
  refine wpAny_bind (wpAny_standAt ?_)
  unfold unpack
  rw [hn, hst]
  refine wpAny_bind (wpAny_holding (star_list ht.isList (I.ok.hd hc) (by rw [List.size_toArray]; omega) (by rw [List.size_toArray]; omega) fun h' tk hk => ?_))
  cases rv with
  | @cons _ u0 _ ur ra rw' =>
    have I0 : Inv X pins σ H { s with heap := h' } := I.kept (t' := s.toks) hk
    have I1 : Inv X pins σ (upd H h'.objs.size (.lst xs)) { s with heap := h'.push { cls := .type "list", data := .seq ((u0 :: ur).toArray.toList.drop 1).toArray }, toks := tk } := by
      refine I0.laid (t' := tk) (o := .lst xs) (fun b ob q => Heap.get?_push_of_some _ q) (Nat.le_refl _) ?_
      exact ⟨size_le (by omega), ur, 0, rw', by rw [show ((u0 :: ur).toArray.toList.drop 1) = ur by simp]; exact Heap.get?_push_size _ rfl⟩
    exact h.run pins _ σ _ [x, .ref h'.objs.size] _ Q I1 (.cons ra (.cons rfl .nil)) (hw _ (I0.hok.fresh (Nat.le_refl _)))
theorem pgs_star {e1 e2 : Expr} {p : Pos} {g1 g2 : TG} (h1 : PG X e1 g1) (h2 : PG X e2 g2) (hs : (assignEach [e1, .Starred e2 p] X.env).map (·.2) = [assign e1 X.env, assign e2 X.env] := by rfl) (hs' : (assignEach [e1, e2] X.env).map (·.2) = [assign e1 X.env, assign e2 X.env] := by rfl)
    (a1 : (assignEach [e1, e2] X.env).map (·.2) = assign e1 X.env :: (assignEach [e2] X.env).map (·.2) := by rfl) (a2 : (assignEach [e2] X.env).map (·.2) = assign e2 X.env :: (assignEach [] X.env).map (·.2) := by rfl) : PGs X [e1, .Starred e2 p] (gCons g1 (gCons g2 gNil)) := by
  have h := pgs_cons h1 (pgs_cons h2 pgs_nil a2) a1
  refine ⟨fun pins s σ H vs us Q I r q => ?_⟩
  rw [hs, ← hs']
  exact h.run pins s σ H vs us Q I r q
end
/-! ### rules with the written part by its name (within a block) -/
section
variable {X : Cx} {K : PySem.W.Frag}
theorem opK {op : Value → Value → Sem Value} (f : PySem.W.Frag → R2) (h : OpR X op (f X.K)) (hK : X.K = K := by rfl) : OpR X op (f K) := hK ▸ h
theorem ixK (f : PySem.W.Frag → R2) (h : IxR X (f X.K)) (hK : X.K = K := by rfl) : IxR X (f K) := hK ▸ h
theorem callK {u : Value} (f : PySem.W.Frag → List V → Hp → VK → Prop) (h : CallR X u (f X.K)) (hK : X.K = K := by rfl) : CallR X u (f K) := hK ▸ h
theorem peK {e : Expr} (f : PySem.W.Frag → TE) (h : PE X e (f X.K)) (hK : X.K = K := by rfl) : PE X e (f K) := hK ▸ h
theorem pe_bmK {o e : Expr} {es : List Expr} {to : TE} {t : TA} {name : Str} {apos cpos : Pos} {T id : String} {r : V → List V → Hp → VK → Prop} (pa : PlainAttrs T) (slot : Slot T name id) (hty : typeOf (.builtin id) = pure (.type "method_descriptor")) (hm : MtR X id r) (ho : PE X o to) (ha : PA X (e :: es) t)
    (hK : X.K = K := by rfl) (hbase : attributeBase o name X.env (eval o X.env) = eval o X.env := by rfl)
    (hfew : ((backTo cpos (starEach (e :: es) X.env)).all (fun x => !x.1) && (backToKw cpos (keywordEach [] X.env)).all (fun x => x.1.isSome)
      && decide ((e :: es).length + ([] : List Keyword).length + (if ([] : List Keyword).isEmpty then 0 else 1) < 30)) = true := by rfl)
    (hline : (apos.endLine == cpos.line) = true := by rfl) (hs : starEach (e :: es) X.env = (false, eval e X.env) :: starEach es X.env := by rfl) (hplain : (backTo cpos (starEach es X.env)).any (·.1) = false := by rfl) :
    PE X (.Call (.Attribute o name apos) (e :: es) [] cpos) (tBM K T r to t) := hK ▸ pe_bm pa slot hty hm ho ha hbase hfew hline hs hplain
end
/-! ### a loop over a list or a tuple -/
section
variable {X : Cx} {tg : Expr}
def SeqIt (K : PySem.W.Frag) (c : Addr) (H : Hp) (R : It → Hp → Prop) : Prop := ((∃ ys, SqL K H c ys) ∧ R (Itl K c) H) ∨ ((∃ ys, SqT K H c ys) ∧ R (Itt K c) H)
def iSeq (K : PySem.W.Frag) (te : TE) : TI := fun σ H R => te σ H fun x H1 => ∃ c, x = .ref c ∧ SeqIt K c H1 R
theorem fp_new {pins : List (Addr × Obj)} {σ : L2.St} {H : Hp} {sh : Shared} (J : Inv X pins σ H sh) : ∀ c ∈ [sh.heap.objs.size], FpOk X pins H c := fun c hc => by
  rw [List.mem_singleton] at hc
  rw [hc]
  exact J.fpOk (Nat.le_refl _) (J.hok.fresh (Nat.le_refl _))
theorem pi_seq {ex : Expr} {te : TE} (he : PE X ex te) : PI X tg ex (iSeq X.K te) := ⟨fun pins sh σ H R J w0 => by
  refine thn (he.run pins sh σ H _ J w0) ?_
  rintro v sh1 ⟨x, H1, J1, rv, c, rfl, w1⟩
  cases rv
  have J2 : ∀ ob : Obj, Inv X pins σ H1 { sh1 with heap := sh1.heap.push ob } := fun ob => J1.kept (t' := sh1.toks) fun d od q => Heap.get?_push_of_some _ q
  rcases w1 with ⟨⟨ys, hy⟩, w1⟩ | ⟨⟨ys, hy⟩, w1⟩
  · obtain ⟨us, ru, pl, _⟩ := J1.list hy
    exact wpAny_pyIter_list pl.isList ⟨_, [_], _, _, H1, rfl, J2 _, turn_list c _, ⟨_, Heap.get?_push_size _ rfl, rfl, rfl⟩, fp_new J1, w1⟩
  · obtain ⟨us, ru, pt, _⟩ := J1.tuple hy
    exact wpAny_pyIter_tuple (show sh1.heap.IsTuple c us.toArray from pt) ⟨_, [_], _, _, H1, rfl, J2 _, turn_tuple c _, ⟨_, Heap.get?_push_size _ rfl, rfl, rfl⟩, fp_new J1, w1⟩⟩
end
section
open PySem
variable {X : Cx}
/-! ### dict(zip(a, b)) -/
theorem kv_zip : ∀ {ys : List V} {us : List Value}, Vals ys us → ∀ ks : List Key, KV (ks.zip ys) (ks.zip us)
  | _, _, _, [] => .nil
  | _, _, .nil, k :: ks => .nil
  | _, _, .cons r t, k :: ks => .cons ⟨rfl, r⟩ (kv_zip t ks)
def tDictZip (K : PySem.W.Frag) (ta : TA) : TE := fun σ H Q => ta σ H fun vs H1 => ∃ (a b : Addr) (ks : List Key) (ys : List V), vs = [.ref a, .ref b] ∧ SqL K H1 a (ks.map kV) ∧ SqL K H1 b ys ∧ ∀ p, H1 p = none → Q (.ref p) (upd H1 p (.dK (mergeK [] (ks.zip ys))))
theorem pe_dictzip {e e2 : Expr} {ta : TA} {p1 p2 pos pos2 : Pos} (hc : X.calm = true) (hd : Gl X "dict") (md : X.mg "dict" = none) (hg : Gl X "zip") (hm : X.mg "zip" = none) (ha : PA X [e, e2] ta)
    (hs : starEach [e, e2] X.env = (false, eval e X.env) :: starEach [e2] X.env := by rfl) (hpl : (backTo pos (starEach [e2] X.env)).any (·.1) = false := by rfl)
    (hs2 : starEach [.Call (.Name "zip" p2) [e, e2] [] pos] X.env = (false, eval (.Call (.Name "zip" p2) [e, e2] [] pos) X.env) :: starEach [] X.env := by rfl) (hpl2 : (backTo pos2 (starEach [] X.env)).any (·.1) = false := by rfl) :
    PE X (.Call (.Name "dict" p1) [.Call (.Name "zip" p2) [e, e2] [] pos] [] pos2) (tDictZip X.K ta) := by
  refine ⟨fun pins s σ H Q I h => ?_⟩
  refine Call_ (ld_blt I hd md PyProof.Rows.boot_dict (PyProof.Rows.callWith_type1 ?_ hs2 hpl2))
  rw [hs2]
  show wpAny _ _ (spliced ((false, eval (.Call (.Name "zip" p2) [e, e2] [] pos) X.env) :: backTo pos2 (starEach [] X.env))) _ _ s
  refine Calls.spliced_cons ?_
  refine Call_ (ld_blt I hg hm PyProof.Rows.boot_zip (PyProof.Rows.callWith_type1 (thn (ha.run pos pins s σ H _ I h) fun us s1 ⟨vs, H1, I1, r1, q1⟩ => ?_) hs hpl))
  obtain ⟨a, b, ks, ys, ex, hqx, hqy, q⟩ := q1
  subst ex
  cases r1 with
  | cons r rr =>
    cases rr with
    | cons r' rr =>
      cases rr
      cases r
      cases r'
      obtain ⟨its, rv, p1, hz1⟩ := I1.list hqx
      obtain ⟨its2, rv2, p2, hz2⟩ := I1.list hqy
      have la : a < s1.heap.objs.size := p1.lt
      have lb : b < s1.heap.objs.size := p2.lt
      refine call_zip_2 p1.isList p2.isList fun h' hz hTI hTO h1 h2 hsz hk => ?_
      show wpAny _ _ (spliced []) _ _ _
      refine Calls.spliced_nil ?_
      have I2 : Inv X pins σ H1 { s1 with heap := h' } := I1.kept (t' := s1.toks) hk
      have l1 : ks.length = its.length := by simpa using rv.length
      have l2 : ys.length = its2.length := rv2.length
      have D : ZipApart (s1.heap.objs.size + 4) (s1.heap.objs.size + 2) (s1.heap.objs.size + 3) s1.heap.objs.size (s1.heap.objs.size + 1) a b := PySem.W.ktu_apart s1.heap.objs.size a b la lb
      refine PySem.call_dict_pairs (knd := mixKind X.prog X.w) (kvs := ks.zip its2) (PairArg.zip _ _ _ _ _ _ _ D its.toArray its2.toArray) (I2.ok.hd hc)
        ⟨hz, hTI, ⟨_, _, hTO⟩, h1, h2, p1.isList.at fun o e => hk _ _ e, p2.isList.at fun o e => hk _ _ e⟩ ⟨by simp [l1], fun i key v hr => ?_⟩ (by simp; omega) fun h2 tk hd2 k2 => ?_
      · obtain ⟨e1, e2⟩ := hr
        have e1' : its[i]? = some key := by simpa using e1
        have e2' : its2[i]? = some v := by simpa using e2
        have hi : i < ks.length := by rw [l1]; exact (List.getElem?_eq_some_iff.mp e1').1
        obtain ⟨u, eu, ru⟩ := rv.get (x := kV ks[i]) (by rw [List.getElem?_map, List.getElem?_eq_getElem hi]; rfl)
        rw [e1'] at eu
        cases eu
        exact ⟨ks[i], by rw [List.getElem?_zip_eq_some]; exact ⟨List.getElem?_eq_getElem hi, e2'⟩, kV_is ru⟩
      · have hpk : ∀ c o, s1.heap.get? c = some o → h2.get? c = some o := fun c o e => k2 c o (by
          have lc := Heap.lt_size e
          intro hm
          have hm' : c = s1.heap.objs.size + 4 ∨ c = s1.heap.objs.size + 3 ∨ c = s1.heap.objs.size ∨ c = s1.heap.objs.size + 1 := by simpa using hm
          rcases hm' with z | z | z | z <;> rw [z] at lc
          · exact Nat.not_lt.mpr (Nat.le_add_right _ _) lc
          · exact Nat.not_lt.mpr (Nat.le_add_right _ _) lc
          · exact Nat.lt_irrefl _ lc
          · exact Nat.not_lt.mpr (Nat.le_add_right _ _) lc) (hk c o e)
        have hmx : (h'.objs.size == sysModules) = false := beq_eq_false_iff_ne.mpr (Nat.ne_of_gt I2.big)
        have rel : KV (ks.zip ys) (ks.zip its2) := by
          exact kv_zip rv2 ks
        have hlen : (mergeK [] (ks.zip ys)).length ≤ sizeLine := by
          refine Nat.le_trans (length_mergeK _ []) ?_
          simp; omega
        exact ⟨.ref h'.objs.size, upd H1 h'.objs.size (.dK (mergeK [] (ks.zip ys))), I1.laid (t' := tk) hpk (by omega) (show ObjOk X.prog X.w _ _ _ (.dK (mergeK [] (ks.zip ys))) from ⟨hlen, hmx, merged [] (ks.zip its2), KV.merge rel .nil, hd2⟩), rfl, q _ (I2.hok.fresh (Nat.le_refl _))⟩
end
end My
/-! Loop: comprehensions of data, beside objects that change. -/
namespace My
open PySem PySem.Spec PyProof.Rows L2
theorem same_of_new {H H' : Hp} {D : Addr} (hD : H D = none) (h : SameB [D] H H') : Same H H' := fun b o e => h.at e (by
  have := ne_of_none e hD
  simpa using this)
theorem SameB.of_new {S : List Addr} {H H' : Hp} {D : Addr} (hD : H D = none) (h : SameB (D :: S) H H') : SameB S H H' := fun b o e => by
  obtain ⟨e1, e2⟩ := dl_some e
  have nb : b ∉ D :: S := by
    intro hm
    rcases List.mem_cons.mp hm with z | z
    · subst z; rw [hD] at e1; cases e1
    · exact e2 z
  rw [dl_out e2]
  exact h.at e1 nb
/-- a comprehension under way: D the new list, S what data does not lean on, T what changes, R by the turn, the data so far and the heap -/
structure PvC (K : PySem.W.Frag) (S T : List Addr) (H1 : Hp) (D : Addr) (R : Nat → List PyData → Hp → Prop) (i : Nat) (H : Hp) : Prop where
  ex : ∃ vs acc, H D = some (.lst vs) ∧ DpAll K (dl (D :: S) H) vs acc ∧ acc.length ≤ i ∧ SameB T H1 H ∧ Fr S H ∧ R i acc H
section
variable {K : PySem.W.Frag} {S T : List Addr} {H1 H H4 : Hp} {D : Addr} {R : Nat → List PyData → Hp → Prop} {i : Nat} {vs : List V} {acc : List PyData}
theorem lc_put {y : V} {d : PyData} (hT : ∀ x ∈ T, x ∈ S) (hD : H1 D = none) (hn : D ∉ S) (hv : H D = some (.lst vs)) (hd : DpAll K (dl (D :: S) H) vs acc) (hl : acc.length ≤ i) (hz : i < 1000000) (sb : SameB T H1 H) (sm : SameB T H H4) (fr : Fr S H4) (hy : Dp K (dl (D :: S) H4) y d)
    (hr : ∀ H5, SameB [D] H4 H5 → Fr S H5 → R (i + 1) (acc ++ [d]) H5) : ∃ acc, H4 D = some (.lst acc) ∧ acc.length < sizeLine ∧ PvC K S T H1 D R (i + 1) (upd H4 D (.lst (acc ++ [y]))) := by
  have hl2 := dps_len hd
  have s5 : SameB [D] H4 (upd H4 D (.lst (vs ++ [y]))) := .upd_in (by simp)
  have f5 : Fr S (upd H4 D (.lst (vs ++ [y]))) := fun b hb => by
    obtain ⟨o, e⟩ := fr b hb
    exact ⟨o, s5.at e (by rintro hm; rw [List.mem_singleton] at hm; subst hm; exact hn hb)⟩
  have e5 : dl (D :: S) (upd H4 D (.lst (vs ++ [y]))) = dl (D :: S) H4 := dl_upd_in (by simp)
  have sm' : SameB (D :: S) H H4 := sm.mono fun x hx => List.mem_cons_of_mem _ (hT x hx)
  refine ⟨vs, sm.at hv (fun z => hn (hT _ z)), by rw [sizeLine_eq]; omega, ⟨vs ++ [y], acc ++ [d], upd_same, ?_, by simp; omega, ?_, f5, hr _ s5 f5⟩⟩
  · rw [e5]
    exact dps_app (dps_same sm' hd) (dps_one hy)
  · refine SameB.of_new hD ?_
    exact ((sb.trans sm).mono fun x hx => List.mem_cons_of_mem _ hx).trans (s5.mono (by simp))
theorem lc_skip (hT : ∀ x ∈ T, x ∈ S) (hn : D ∉ S) (hv : H D = some (.lst vs)) (hd : DpAll K (dl (D :: S) H) vs acc) (hl : acc.length ≤ i) (sb : SameB T H1 H) (sm : SameB T H H4) (fr : Fr S H4) (hr : R (i + 1) acc H4) : PvC K S T H1 D R (i + 1) H4 :=
  ⟨vs, acc, sm.at hv (fun z => hn (hT _ z)), dps_same (sm.mono fun x hx => List.mem_cons_of_mem _ (hT x hx)) hd, by omega, sb.trans sm, fr, hr⟩
end
section
variable {J : It} {n : Nat} {G : Hp → Prop} {Y : Nat → Hp → V → Hp → Prop} {S : List Addr}
theorem lc_raw (K : PySem.W.Frag) (T : List Addr) (hT : ∀ x ∈ T, x ∈ S) (w : Walk J n G Y) {g : TG} {tt : TT} {te : TE} {vs : List Nat} {σ : L2.St} {H1 : Hp} {D : Addr} {Qd : Hp → Prop} (hF : Fr S H1) (hD : H1 D = none) (R : Nat → List PyData → Hp → Prop) (h0 : ∀ H, Same H1 H → R 0 [] H)
    (hG : ∀ H, SameB T H1 H → G H)
    (hs : ∀ i x vals acc H H', i < n → D ∉ S → H D = some (.lst vals) → DpAll K (dl (D :: S) H) vals acc → acc.length ≤ i → SameB T H1 H → Fr S H → R i acc H → Y i H x H' → g x (wipe σ vs) H' fun σ2 H2 => wipe σ2 vs = wipe σ vs ∧ tt σ2 H2 fun b H3 =>
      if b = true then te σ2 H3 fun y H4 => ∃ acc, H4 D = some (.lst acc) ∧ acc.length < sizeLine ∧ PvC K S T H1 D R (i + 1) (upd H4 D (.lst (acc ++ [y]))) else PvC K S T H1 D R (i + 1) H3)
    (hd : ∀ vals ds H, D ∉ S → H D = some (.lst vals) → DpAll K (dl (D :: S) H) vals ds → SameB T H1 H → Fr S H → ds.length ≤ n → R n ds H → Qd H) :
    ∃ W : Nat → Nat → Hp → Prop, (∃ m, W 0 m (upd H1 D (.lst []))) ∧ ∀ i m H, W i m H →
      (J.stop i H ∧ Qd H) ∨ (J.go i H ∧ ∃ Nx : Hp → Prop, (∀ H', Nx H' → ∃ m', m' < m ∧ W (i + 1) m' H') ∧ ∀ x H', J.yld i H x H' → g x (wipe σ vs) H' fun σ2 H2 => wipe σ2 vs = wipe σ vs ∧ tt σ2 H2 fun b H3 =>
        if b = true then te σ2 H3 fun y H4 => ∃ acc, H4 D = some (.lst acc) ∧ acc.length < sizeLine ∧ Nx (upd H4 D (.lst (acc ++ [y]))) else Nx H3) := by
  have hn : D ∉ S := hF.new hD
  refine lc_it w (PvC K S T H1 D R) ?_ (fun i H _ h => ?_) (fun i x H H' hi h hy => ?_) fun H h => ?_
  · exact ⟨[], [], upd_same, .nil, Nat.le_refl _, .upd_new hD, hF.same (same_upd hD), h0 _ (same_upd hD)⟩
  · obtain ⟨_, _, _, _, _, sb, _⟩ := h
    exact hG H sb
  · obtain ⟨v, a, h1, h2, h3, h4, h5, h6⟩ := h
    exact hs i x v a H H' hi hn h1 h2 h3 h4 h5 h6 hy
  · obtain ⟨v, a, h1, h2, h3, h4, h5, h6⟩ := h
    exact hd v a H hn h1 h2 h4 h5 h3 h6
theorem lc_gen (K : PySem.W.Frag) (T : List Addr) (hT : ∀ x ∈ T, x ∈ S) (w : Walk J n G Y) {g : TG} {tt : TT} {te : TE} {vs : List Nat} {σ : L2.St} {H1 : Hp} {D : Addr} {Qd : Hp → Prop} (hF : Fr S H1) (hD : H1 D = none) (R : Nat → List PyData → Hp → Prop) (h0 : ∀ H, Same H1 H → R 0 [] H)
    (hG : ∀ H, SameB T H1 H → G H)
    (hs : ∀ i x vals acc H H', i < n → D ∉ S → H D = some (.lst vals) → DpAll K (dl (D :: S) H) vals acc → acc.length ≤ i → SameB T H1 H → Fr S H → R i acc H → Y i H x H' → g x (wipe σ vs) H' fun σ2 H2 => wipe σ2 vs = wipe σ vs ∧ tt σ2 H2 fun b H3 =>
      if b = true then te σ2 H3 fun y H4 => ∃ acc, H4 D = some (.lst acc) ∧ acc.length < sizeLine ∧ PvC K S T H1 D R (i + 1) (upd H4 D (.lst (acc ++ [y]))) else PvC K S T H1 D R (i + 1) H3)
    (hd : ∀ ds H, SameB T H1 H → Fr S H → Dp K (dl S H) (.ref D) (.list ds) → ds.length ≤ n → R n ds H → Qd H) :
    ∃ W : Nat → Nat → Hp → Prop, (∃ m, W 0 m (upd H1 D (.lst []))) ∧ ∀ i m H, W i m H →
      (J.stop i H ∧ Qd H) ∨ (J.go i H ∧ ∃ Nx : Hp → Prop, (∀ H', Nx H' → ∃ m', m' < m ∧ W (i + 1) m' H') ∧ ∀ x H', J.yld i H x H' → g x (wipe σ vs) H' fun σ2 H2 => wipe σ2 vs = wipe σ vs ∧ tt σ2 H2 fun b H3 =>
        if b = true then te σ2 H3 fun y H4 => ∃ acc, H4 D = some (.lst acc) ∧ acc.length < sizeLine ∧ Nx (upd H4 D (.lst (acc ++ [y]))) else Nx H3) := by
  refine lc_raw K T hT w hF hD R h0 hG hs fun v a H hn h1 h2 h4 h5 h3 h6 => hd a H h4 h5 (.lst (SqL.of (by rw [dl_out hn]; exact h1)) (dps_same (dl_mono fun x hx => List.mem_cons_of_mem _ hx) h2)) h3 h6
end
/-- a list or a tuple walked -/
theorem rd_seq {K : PySem.W.Frag} {a : Addr} {xs : List V} {R : It → Hp → Prop} {H : Hp} (h : SqL K H a xs ∨ SqT K H a xs) (q : ∀ J G, Walk J xs.length G (YAt xs) → (∀ H2, (SqL K H a xs → SqL K H2 a xs) → (SqT K H a xs → SqT K H2 a xs) → G H2) → R J H) : SeqIt K a H R := by
  rcases h with h | h
  · exact .inl ⟨⟨xs, h⟩, q _ _ walk_list fun H2 h1 _ => h1 h⟩
  · exact .inr ⟨⟨xs, h⟩, q _ _ walk_tup fun H2 _ h1 => h1 h⟩
theorem seqL_b {K : PySem.W.Frag} {S : List Addr} {H H' : Hp} {a : Addr} {xs : List V} (h : SameB S H H') (q : SqL K (dl S H) a xs) : SqL K H' a xs := seqL_up (S := S) (h.seq q)
theorem seqT_b {K : PySem.W.Frag} {S : List Addr} {H H' : Hp} {a : Addr} {xs : List V} (h : SameB S H H') (q : SqT K (dl S H) a xs) : SqT K H' a xs := seqT_up (S := S) (sameT h q)
/-- data ahead of a comprehension, within it -/
theorem dp_in {K : PySem.W.Frag} {S T : List Addr} {H1 H : Hp} {D : Addr} {v : V} {d : PyData} (hD : H1 D = none) (hT : ∀ x ∈ T, x ∈ S) (sb : SameB T H1 H) (h : Dp K (dl S H1) v d) : Dp K (dl (D :: S) H) v d := by
  have s1 : SameB (D :: S) H1 H := sb.mono fun x hx => List.mem_cons_of_mem _ (hT x hx)
  have s0 : Same (dl S H1) (dl (D :: S) H1) := fun b o e => by
    obtain ⟨e1, e2⟩ := dl_some e
    have nb : b ≠ D := ne_of_none e1 hD
    rw [dl_out (by simp [nb, e2])]
    exact e1
  exact dp_same s1 (dp_same s0 h)
/-- the turns of a for; of a comprehension -/
def ForTurns (g : TG) (tb : TS) (D : Ends) (σ : L2.St) (J : It) (H : Hp) : Prop := ∃ W : Nat → Nat → L2.St → Hp → Prop, (∃ m, W 0 m σ H) ∧ ∀ i m σ H, W i m σ H →
  (J.stop i H ∧ D.nx σ H) ∨ (J.go i H ∧ ∃ N : L2.St → Hp → Prop, (∀ σ' H', N σ' H' → ∃ m', m' < m ∧ W (i + 1) m' σ' H') ∧ ∀ x H', J.yld i H x H' → g x σ H' fun σ2 H2 => tb { D with nx := N, ct := N, bk := D.nx } σ2 H2)
theorem rd_for {wi : TI} {g : TG} {tb : TS} {D : Ends} {σ : L2.St} {H : Hp} (h : ∀ R : It → Hp → Prop, (∀ J H1, ForTurns g tb D σ J H1 → R J H1) → wi σ H R) : tFor wi g tb D σ H := h _ fun _ _ q => q
def LcTurns (g : TG) (tt : TT) (te : TE) (vs : List Nat) (σ : L2.St) (Q : VK) (J : It) (H1 : Hp) : Prop := ∀ D, H1 D = none → ∃ W : Nat → Nat → Hp → Prop, (∃ m, W 0 m (upd H1 D (.lst []))) ∧ ∀ i m H, W i m H →
  (J.stop i H ∧ Q (.ref D) H) ∨ (J.go i H ∧ ∃ Nx : Hp → Prop, (∀ H', Nx H' → ∃ m', m' < m ∧ W (i + 1) m' H') ∧ ∀ x H', J.yld i H x H' → g x (wipe σ vs) H' fun σ2 H2 => wipe σ2 vs = wipe σ vs ∧ tt σ2 H2 fun b H3 =>
    if b = true then te σ2 H3 fun y H4 => ∃ acc, H4 D = some (.lst acc) ∧ acc.length < sizeLine ∧ Nx (upd H4 D (.lst (acc ++ [y]))) else Nx H3)
theorem rd_lc {wi : TI} {g : TG} {tt : TT} {te : TE} {vs : List Nat} {σ : L2.St} {H : Hp} {Q : VK} (h : ∀ R : It → Hp → Prop, (∀ J H1, LcTurns g tt te vs σ Q J H1 → R J H1) → wi σ H R) : tLc wi g tt te vs σ H Q := h _ fun _ _ q => q
theorem no_mem {S : List Addr} : ∀ x ∈ ([] : List Addr), x ∈ S := fun _ h => by cases h
end My
/-! ExcK: an own exception class whose __init__ is a def, called with keywords alone: the maker takes no notice of them. -/
namespace My
open PySem PySem.Spec PyProof.Rows PySem.HandSPX
section
variable {M : Model} {prog : Program} {w : World} {A : Around} {E : Value → Shared → Prop} {R : Result → Shared → Prop} {h : Heap} {g : Array GenState} {d : Drawn} {t : Nat} {os : OsState}
variable {nm q : Str} {C N : Addr} {bs bm bmB : List Value} {hdct : Bool} {sn : List Str} {sub : List Value} {ab : Bool} {col : Option Bool} {dd : Option Addr} {k0 k1 k2 k3 k5 : Option Value} {B newId initId : String} {kw : List (Str × Value)}
theorem kchk_new (F : ExcBaseFacts B newId initId bmB) (hT : ∀ X : String, bm.contains (.type X) = bmB.contains (.type X)) {Q : Unit → Shared → Prop}
    (cC : h.get? C = some (excClassObj nm q C N bs bm hdct sn sub ab col dd k0 k1 k2 k3 k5 newId)) (z : Q () ⟨h, g, d, t, os⟩) :
    wpAny M A (checkBuiltinCall newId ⟨[.ref C], kw⟩) Q E ⟨h, g, d, t, os⟩ := by
  have inB : (Value.ref C :: bm).contains (.type B) = true := (List.contains_cons).trans (by rw [hT, F.hasB]; exact Bool.or_true _)
  have st := F.noStar
  simp only [checkBuiltinCall, F.newKind, F.newSplit, F.newRow]
  repeat (first | refine wpAny_loadPart_at cC ?_ | (refine wpAny_isSubtype_exc cC ?_; rw [inB]) | refine wpAny_staticBase_exc cC ?_ | refine wpAny_madeBy_exc cC ?_ | simp only [bne_self_eq_false, Bool.false_eq_true, if_false] | wp_step)
  exact z
theorem knew (F : ExcBaseFacts B newId initId bmB) (hT : ∀ X : String, bm.contains (.type X) = bmB.contains (.type X))
    (cC : h.get? C = some (excClassObj nm q C N bs bm hdct sn sub ab col dd k0 k1 k2 k3 k5 newId))
    (z : R (.ok (.ret (.ref (h.objs.size + 1)))) ⟨(h.push (PySem.W.kdv_tup [])).push (excO C h.objs.size), g, d, t, os⟩) :
    codeAny (model prog w) A (.builtin newId ⟨[.ref C], kw⟩) R ⟨h, g, d, t, os⟩ := by
  have e0 := F.ends
  have inB : (Value.ref C :: bm).contains (.type B) = true := (List.contains_cons).trans (by rw [hT, F.hasB]; exact Bool.or_true _)
  have noA : (Value.ref C :: bm).contains (.type "AttributeError") = false := (List.contains_cons).trans (by rw [hT, F.noAttr]; rfl)
  have noN : (Value.ref C :: bm).contains (.type "NameError") = false := (List.contains_cons).trans (by rw [hT, F.noName]; rfl)
  refine codeAny_builtinAt F.entry ?_
  unfold Builtin.«BaseException.__new__»
  refine PySem.wpAt_bind ?_
  show PySem.wpAt _ _ _ (stack >>= _) _ _ _
  refine PySem.wpAt_bind (PySem.wpAt_stack fun p below => PySem.wpAt_of_wpAny ?_)
  wp_walk

  refine PySem.wpAt_of_wpAny ?_
  rw [F.owner]
  repeat (first | with_reducible refine wpAny_madeHere_exc F.canon cC ?_ | with_reducible refine wpAny_loadPart_at cC ?_ | (with_reducible refine wpAny_isSubtype_exc cC ?_; first | rw [inB] | rw [noA] | rw [noN]) | wp_step)
  show R _ _
  rw [Heap.size_push]
  exact z
theorem ktype {fI : Addr} {Q : Fin → Shared → Prop} (F : ExcBaseFacts B newId initId bmB) (hT : ∀ X : String, bm.contains (.type X) = bmB.contains (.type X))
    (cC : h.get? C = some (excClassObj nm q C N bs bm hdct sn sub ab col dd k0 k1 k2 k3 k5 newId))
    (hi : PySem.W.Looks (model prog w) h (typeLookup (.ref C) "__init__") (some (.ref fI))) (hb : ∀ self, PySem.W.Looks (model prog w) h (bindSpecial (.ref fI) self) (.ref fI, [self]))
    (z : codeAny (model prog w) A (.call (.ref fI) ⟨[.ref (h.objs.size + 1)], kw⟩)
      (fun r s' => match r with | .ok (.ret v) => v = .none ∧ Q (.done (.ret (.ref (h.objs.size + 1)))) s' | .ok _ => False | .error e => E e s')
      ⟨(h.push (PySem.W.kdv_tup [])).push (excO C h.objs.size), g, d, t, os⟩) :
    wpAny (model prog w) A (Builtin.«type.__call__» ⟨[.ref C], kw⟩) Q E ⟨h, g, d, t, os⟩ := by
  repeat (first | with_reducible refine wpAny_loadPart_at cC ?_ | with_reducible refine wpAny_madeBy_exc cC ?_ | wp_step)
  refine codeAny_call_builtin_code (Code.quiet_builtin _ F.quiet) (kchk_new F hT cC ?_)
  refine knew F hT cC ?_
  show wpAny _ _ _ _ _ _
  have up : ∀ b o, h.get? b = some o → ((h.push (PySem.W.kdv_tup [])).push (excO C h.objs.size)).get? b = some o := fun b o e => Heap.get?_push_of_some _ (Heap.get?_push_of_some _ e)
  have cC1 := up _ _ cC
  have ge : ((h.push (PySem.W.kdv_tup [])).push (excO C h.objs.size)).get? (h.objs.size + 1) = some (excO C h.objs.size) := by heap_get
  have inC : (Value.ref C :: bm).contains (.ref C) = true := by simp
  have i1 := hi.keeps up
  have b1 := (hb (.ref (h.objs.size + 1))).keeps up
  unfold isInstance
  repeat (first | with_reducible refine wpAny_loadPart_at ge ?_ | (with_reducible refine wpAny_isSubtype_exc cC1 ?_; rw [inC]) | wp_step)
  show wpAny _ _ (typeLookup (.ref C) _) _ _ _
  refine i1.at (wpAny_holding (wpAny_bind (b1.at (wpAny_bind (wpAny_call (codeAny_mono z fun r s' y => ?_))))))
  rcases r with e | (v | _ | _ | _) <;> first | exact y | exact y.elim | skip
  obtain ⟨rfl, y⟩ := y
  first
    | exact wpAny_pure (wpAny_pure y)
    | (wp_walk; exact y)
theorem ktchk {Q : Unit → Shared → Prop} (cC : h.get? C = some (excClassObj nm q C N bs bm hdct sn sub ab col dd k0 k1 k2 k3 k5 newId)) (z : Q () ⟨h, g, d, t, os⟩) :
    wpAny M A (checkBuiltinCall "type.__call__" ⟨[.ref C], kw⟩) Q E ⟨h, g, d, t, os⟩ := by
  have f3 := tc_sub
  have tT : (⟨h, g, d, t, os⟩ : Shared).TypeIs (.ref C) "type" := ⟨_, cC, rfl⟩
  simp only [checkBuiltinCall, tc_kind, tc_split]
  repeat (any_goals (first | with_reducible assumption | with_reducible refine wpAny_loadPart_at cC ?_ | with_reducible refine wpAny_onRaise ?_ | with_reducible refine wpAny_map ?_ | wp_step))

theorem kcall {fI : Addr} (F : ExcBaseFacts B newId initId bmB) (hT : ∀ X : String, bm.contains (.type X) = bmB.contains (.type X))
    (cC : h.get? C = some (excClassObj nm q C N bs bm hdct sn sub ab col dd k0 k1 k2 k3 k5 newId))
    (hi : PySem.W.Looks (model prog w) h (typeLookup (.ref C) "__init__") (some (.ref fI))) (hb : ∀ self, PySem.W.Looks (model prog w) h (bindSpecial (.ref fI) self) (.ref fI, [self]))
    (z : codeAny (model prog w) (A.under (.builtin "type.__call__" ⟨[.ref C], kw⟩)) (.call (.ref fI) ⟨[.ref (h.objs.size + 1)], kw⟩) (PySem.W.InitBack (h.objs.size + 1) R)
      ⟨(h.push (PySem.W.kdv_tup [])).push (excO C h.objs.size), g, d, t, os⟩) :
    codeAny (model prog w) A (.call (.ref C) ⟨[], kw⟩) R ⟨h, g, d, t, os⟩ := by
  have f1 := tc_lookup
  have f2 := tc_bind (.ref C)
  have hTy : (⟨h, g, d, t, os⟩ : Shared).TypeIs (.ref C) "type" := ⟨_, cC, rfl⟩
  refine codeAny_of_tree ?_
  show wpAny _ _ (callAny (.ref C) _) _ _ _
  repeat (any_goals (first | assumption | with_reducible refine wpAny_loadPart_at cC ?_ | wp_step))
  refine ⟨rfl, ?_⟩
  refine codeAny_call_builtin_at (Code.quiet_builtin _ (by decide +kernel)) entry_typeCall (ktchk cC (ktype F hT cC hi hb ?_))
  refine codeAny_mono z fun r s' y => ?_
  rcases r with e | (v | _ | _ | _) <;> exact y
end
end My
/-! ExcV: exceptions as values that are tracked: made, read, asked for their class. -/
namespace My
open PySem PySem.Spec PyProof.Rows L2
/-- at a: an exception of the class at C -/
def IsO (H : Hp) (a C : Addr) (d : Option Addr) : Prop := ∃ φ : Heap → Prop, H a = some (.ext φ) ∧ ∀ h, φ h → ∃ oe : Obj, h.get? a = some oe ∧ Zc (.ref C) d oe ∧ ∃ vs, oe.data = .fields vs
theorem isO_exo {H : Hp} {a C : Addr} {d : Option Addr} (e : H a = some (exo a C d)) : IsO H a C d := ⟨_, e, fun h ⟨t1, he⟩ => ⟨_, he, ⟨rfl, rfl⟩, _, rfl⟩⟩
theorem isO_ExO {H : Hp} {a C : Addr} (e : H a = some (ExO (.ref C) a)) : IsO H a C none := ⟨_, e, fun h ⟨oe, vs, he, z, hd, _⟩ => ⟨oe, he, z, vs, hd⟩⟩
theorem IsO.same {H H' : Hp} {a C : Addr} {d : Option Addr} (h : IsO H a C d) (s : Same H H') : IsO H' a C d := let ⟨φ, e, q⟩ := h; ⟨φ, s _ _ e, q⟩
/-- at dx: an exception's fields -/
def IsF (H : Hp) (dx : Addr) (fs : List (Str × V)) : Prop := H dx = some (exd dx fs) ∨ H dx = some (.xd fs)
theorem isO_at {P : Program} {w : World} {H : Hp} {h : Heap} {a C : Addr} {d : Option Addr} (k : HOk P w H h) (e : IsO H a C d) : ∃ oe : Obj, h.get? a = some oe ∧ Zc (.ref C) d oe ∧ ∃ vs, oe.data = .fields vs := by
  obtain ⟨φ, e, q⟩ := e
  obtain ⟨z, _⟩ := k a _ e
  exact q _ z
theorem IsF.same {H H' : Hp} {dx : Addr} {fs : List (Str × V)} (h : IsF H dx fs) (s : Same H H') : IsF H' dx fs := h.elim (fun e => .inl (s _ _ e)) fun e => .inr (s _ _ e)
theorem isF_at {P : Program} {w : World} {H : Hp} {h : Heap} {dx : Addr} {fs : List (Str × V)} (k : HOk P w H h) (e : IsF H dx fs) : ∃ mA, h.Ns1 dx mA ∧ ∀ f, RelO (fs.lookup f) (mA f) := by
  rcases e with e | e
  · exact exd_at k e
  · exact k dx _ e
/-- the fields that an exception bears, by its own dict -/
def DX (H : Hp) (d : Option Addr) (fs : List (Str × V)) : Prop := (d = none ∧ fs = []) ∨ ∃ dd, d = some dd ∧ IsF H dd fs
theorem DX.same {H H' : Hp} {d : Option Addr} {fs : List (Str × V)} (h : DX H d fs) (s : Same H H') : DX H' d fs := h.elim .inl fun ⟨dd, e, f⟩ => .inr ⟨dd, e, f.same s⟩
/-- the value x is an exception of the class at C with the fields fs: it is tracked, or one of the pins pn -/
def EV (pn : List (Addr × Obj)) (H : Hp) (x : V) (C : Addr) (fs : List (Str × V)) : Prop := ∃ a d, x = .ref a ∧ (IsO H a C d ∨ ∃ oe, (a, oe) ∈ pn ∧ Zc (.ref C) d oe ∧ ∃ vs, oe.data = .fields vs) ∧ DX H d fs
theorem EV.same {pn : List (Addr × Obj)} {H H' : Hp} {x : V} {C : Addr} {fs : List (Str × V)} (h : EV pn H x C fs) (s : Same H H') : EV pn H' x C fs := by
  obtain ⟨a, d, e, io, hd⟩ := h
  exact ⟨a, d, e, io.elim (fun z => .inl (z.same s)) .inr, hd.same s⟩
theorem EV.pins {pn qn : List (Addr × Obj)} {H : Hp} {x : V} {C : Addr} {fs : List (Str × V)} (h : EV pn H x C fs) (s : ∀ p ∈ pn, p ∈ qn) : EV qn H x C fs := by
  obtain ⟨a, d, e, io, hd⟩ := h
  exact ⟨a, d, e, io.elim .inl fun ⟨oe, hm, r⟩ => .inr ⟨oe, s _ hm, r⟩, hd⟩
theorem ev_at {X : Cx} {pins : List (Addr × Obj)} {σ : L2.St} {H : Hp} {s : Shared} {a C : Addr} {d : Option Addr} (I : Inv X pins σ H s) (h : IsO H a C d ∨ ∃ oe, (a, oe) ∈ X.pn ∧ Zc (.ref C) d oe ∧ ∃ vs, oe.data = .fields vs) :
    ∃ oe : Obj, s.heap.get? a = some oe ∧ Zc (.ref C) d oe ∧ ∃ vs, oe.data = .fields vs := by
  rcases h with h | ⟨oe, hm, hz, hf⟩
  · exact isO_at I.hok h
  · exact ⟨oe, (I.pin _ (List.mem_append_left _ hm)).1, hz, hf⟩
section
variable {X : Cx} {e : Expr} {te : TE} {pos : Pos} {n : Str} {pn : List (Addr × Obj)}
/-- e.f, e's value an exception -/
def tEf (K : PySem.W.Frag) (pn : List (Addr × Obj)) (n : Str) (te : TE) : TE := fun σ H Q => te σ H fun x H1 => ∃ (C : Addr) (fs : List (Str × V)) (v : V), XfC K C ∧ PySem.W.findIn K (.ref C) n = some none ∧ EV pn H1 x C fs ∧ fs.lookup n = some v ∧ Q v H1
theorem pe_ef (he : PE X e te) (hb : attributeBase e n X.env (eval e X.env) = eval e X.env := by rfl) : PE X (.Attribute e n pos) (tEf X.K X.pn n te) := by
  refine ⟨fun pins s σ H Q I h => attr_of hb (thn (he.run pins s σ H _ I h) fun u s1 hh => ?_)⟩
  obtain ⟨x, H1, I1, rx, C, fs, v, T, nf, ⟨a, d, rfl, io, hd⟩, l, q⟩ := hh
  obtain rfl : u = Value.ref a := rx
  obtain ⟨oe, ha, hz, vs, hv⟩ := ev_at I1 io
  rcases hd with ⟨_, rfl⟩ | ⟨dd, rfl, jf⟩
  · cases l
  · obtain ⟨mA, hns, hr⟩ := isF_at I1.hok jf
    obtain ⟨od, ho, hl⟩ := lookIn_ns hns
    obtain ⟨u, hu, ru⟩ := RelO.some_of (v := v) (o := mA n) (by rw [← l]; exact hr n)
    have J : PySem.W.InstAt s1.heap a oe C (some od) := ⟨ha, hz.1, by unfold PySem.W.notCls; rw [hv] <;> rfl, by rw [hz.2]; exact ho⟩
    exact HandSPX.exc_get I1.kIn J T.ga T.gg T.exC (PySem.W.findObj_own T.hdC nf rfl (by rw [hl, hu])) (handed_of ru) ⟨v, H1, I1.tok _, ru, q⟩
/-- isinstance(e, c) -/
def rIsX (K : PySem.W.Frag) (pn : List (Addr × Obj)) : List V → Hp → VK → Prop := fun xs H Q => ∃ (x c : V) (C : Addr) (fs : List (Str × V)) (cv : Value) (b : Bool), xs = [x, c] ∧ EV pn H x C fs ∧ ExcC K C ∧ (∀ u, RelV c u → u = cv) ∧ PySem.W.kitOne K (.ref C) cv = some b ∧ Q (.bl b) H
theorem call_isX : CallR X (.builtin "isinstance") (rIsX X.K X.pn) := by
  intro pins s σ H xs us Q I r h
  obtain ⟨x, c, D, fs, cv, b, rfl, ⟨a, d, rfl, io, hd⟩, C, hcv, e, q⟩ := h
  cases r with
  | cons rx rr =>
    cases rr with
    | cons rt rr =>
      cases rr
      cases rx
      have ec := hcv _ rt
      subst ec
      obtain ⟨oe, ha, hz, vs, hv⟩ := ev_at I io
      have J : ∃ od, PySem.W.InstAt s.heap a oe D od := by
        rcases hd with ⟨rfl, _⟩ | ⟨dd, rfl, jf⟩
        · exact ⟨none, ha, hz.1, by unfold PySem.W.notCls; rw [hv] <;> rfl, by rw [hz.2]; trivial⟩
        · obtain ⟨mA, hns, hr⟩ := isF_at I.hok jf
          obtain ⟨od, ho, hl⟩ := lookIn_ns hns
          exact ⟨some od, ha, hz.1, by unfold PySem.W.notCls; rw [hv] <;> rfl, by rw [hz.2]; exact ho⟩
      obtain ⟨od, J⟩ := J
      have hcl : (PySem.W.clsIn X.K D).isSome = true := by
        obtain ⟨cd, hc, _⟩ := PySem.W.any_some C.hd
        rw [hc]
        rfl
      exact PySem.W.kia_one (PySem.W.kitx_exc hcl C.hg C.hk C.hs C.ha C.hn C.ht C.hm) I.kIn J e (fun z => nomatch z) fun tk => ⟨.bl b, H, I.kept (t' := tk) fun _ _ z => z, rfl, q⟩
end
section
variable {X : Cx} {CX : CXT} {x : Str} {C fI : Addr} {k : Nat} {fd : FuncData} {ps : List Str} {sp : Sp} {p pos : Pos} {e : Expr} {es : List Expr} {ta : TA}
/-- C(e, ..) as a value: the new exception is tracked -/
def tMkE (C : Addr) (sp : Sp) (ta : TA) : TE := fun σ H Q => ta σ H fun vs H1 => vs.length ≤ 1000 ∧ ∀ a, H1 a = none → sp (.ref a :: vs) (upd H1 a (exo a C none)) (fun v H2 => v = .non ∧ Q (.ref a) H2) (fun _ _ _ => False)
theorem pe_mkE (T : OexC X.K C) (iC : PySem.W.findIn X.K (.ref C) "__init__" = some (some (.ref fI))) (tI : PySem.W.typeIn X.K (.ref fI) = some (.type "function"))
    (F : FnOk X.prog X.w X.K X.mg X.base CX k fI fd ps sp) (hr : Room (k + 1) X.A) (hb : Binds X.K fd ps []) (hx : Passes CX X (fun _ _ _ => False)) (hm : X.mg x = some (.ref C)) (ha : PA X (e :: es) ta) (hg : Gl X x := by rfl)
    (hdb : (x == ("__debug__" : Str)) = false := by decide) (he : starEach (e :: es) X.env = (false, eval e X.env) :: starEach es X.env := by rfl) (hpl : (backTo pos (starEach es X.env)).any (·.1) = false := by rfl) :
    PE X (.Call (.Name x p) (e :: es) [] pos) (tMkE C sp ta) := by
  refine ⟨fun pins s σ H Q I h => ?_⟩
  obtain ⟨nm, q, N, bs, bm, sn, sub, ab, col, dd, k0, k1, k2, k3, k5, hC, hbm⟩ := T.cls
  refine wpAny_Call_Name_kw (ld_glob I hg hm ?_ hdb)
  refine PySem.W.callWith_K (h₀ := X.base) I.ok.mod.kin T.kC (thn (ha.run pos pins s σ H _ I h) fun us s1 ⟨vs, H1, I1, r1, hz, q1⟩ => ⟨I1.kIn, ?_⟩) he hpl
  show wpAny _ _ (call (.ref C) us) _ _ _
  obtain ⟨hp, g, dr, tk, os⟩ := s1
  have le1 : hp.objs.size ≤ hp.objs.size + 1 := Nat.le_succ _
  have z1 := q1 (hp.objs.size + 1) (I1.hok.fresh le1)
  have up : ∀ b o, hp.get? b = some o → ((hp.push (PySem.W.kdv_tup us)).push (PySem.HandSPX.excO C hp.objs.size)).get? b = some o := fun b o w => Heap.get?_push_of_some _ (Heap.get?_push_of_some _ w)
  have at1 : ((hp.push (PySem.W.kdv_tup us)).push (PySem.HandSPX.excO C hp.objs.size)).get? (hp.objs.size + 1) = some (PySem.HandSPX.excO C hp.objs.size) := by heap_get
  have I2 : Inv X pins σ (upd H1 (hp.objs.size + 1) (exo (hp.objs.size + 1) C none)) ⟨(hp.push (PySem.W.kdv_tup us)).push (PySem.HandSPX.excO C hp.objs.size), g, dr, tk, os⟩ := I1.laid (t' := tk) up le1 (exo_ok at1)
  have r2 : Vals (V.ref (hp.objs.size + 1) :: vs) (Value.ref (hp.objs.size + 1) :: us) := .cons rfl r1
  have ln : (Value.ref (hp.objs.size + 1) :: us).length = ps.length := r2.length.symm.trans (F.len _ _ _ _ z1)
  have lu : us.length ≤ sizeLine := by
    have w := r1.length
    rw [sizeLine_eq]
    omega
  refine wpAny_call (PySem.HandSPX.call_own PySem.F.excBase_ValueError (fun Y => PySem.HandSPX.refsVE_contains Y bm hbm) (I1.kIn _ _ hC) (PySem.W.looks_findIn I1.kIn iC) (fun self => PySem.W.bind_fn I1.kIn self tI) lu
    (codeAny_mono (F.run _ X.stack _ _ ⟨Value.ref (hp.objs.size + 1) :: us, []⟩ (Value.ref (hp.objs.size + 1) :: us) _ _ (fun _ _ _ => False) (hr.make C us []) (I2.env0.make C us []) (by have w := hb _ (Value.ref (hp.objs.size + 1) :: us) I2.kIn (by simpa using ln); simpa using w) r2 z1) fun r s' hq' => ?_))
  cases r with
  | error er => exact hx pins σ _ _ er s' I2 hq'
  | ok fl =>
    cases fl with
    | ret u =>
      obtain ⟨v, H2, J, rv, ev, q2⟩ := I2.after hq'
      subst ev
      exact ⟨rv, .ref (hp.objs.size + 1), H2, J, rfl, q2⟩
    | next => exact False.elim hq'
    | brk => exact False.elim hq'
    | cont => exact False.elim hq'
end
section
variable {X : Cx} {CX : CXT} {x : Str} {C fI : Addr} {k : Nat} {fd : FuncData} {ps ks : List Str} {sp : Sp} {p pos : Pos} {kws : List Keyword} {tk : TA} {g : List Value → List Value → List Value} {gV : List V → List V → List V}
/-- C(k = v, ..) as a value -/
def tMkK (C : Addr) (m : Nat) (sp : Sp) (gV : List V → List V → List V) (tk : TA) : TE := fun σ H Q => tk σ H fun zs H1 => zs.length = m ∧ ∀ a, H1 a = none → sp (gV [.ref a] zs) (upd H1 a (exo a C none)) (fun v H2 => v = .non ∧ Q (.ref a) H2) (fun _ _ _ => False)
theorem pe_mkK (T : OexC X.K C) (iC : PySem.W.findIn X.K (.ref C) "__init__" = some (some (.ref fI))) (tI : PySem.W.typeIn X.K (.ref fI) = some (.type "function"))
    (F : FnOk X.prog X.w X.K X.mg X.base CX k fI fd ps sp) (hr : Room (k + 1) X.A) (hb : KBn X.K fd ps 1 ks g gV) (hx : Passes CX X (fun _ _ _ => False)) (hm : X.mg x = some (.ref C)) (hkw : PK X kws tk) (hg : Gl X x := by rfl)
    (hall : (backToKw pos (keywordEach kws X.env)).all (·.1.isSome) = true := by rfl) (hks : (backToKw pos (keywordEach kws X.env)).filterMap (·.1) = ks := by rfl) (hdb : (x == ("__debug__" : Str)) = false := by decide)
    (hpl : ((backTo pos (starEach [] X.env)).any (·.1) || (backToKw pos (keywordEach kws X.env)).any (·.1.isNone)) = false := by rfl) :
    PE X (.Call (.Name x p) [] kws pos) (tMkK C ks.length sp gV tk) := by
  refine ⟨fun pins s σ H Q I h => ?_⟩
  obtain ⟨nm, q, N, bs, bm, sn, sub, ab, col, dd, k0, k1, k2, k3, k5, hC, hbm⟩ := T.cls
  refine wpAny_Call_Name_kw (ld_glob I hg hm ?_ hdb)
  refine PySem.W.callWith_KW0 (h₀ := X.base) I.ok.mod.kin T.kC hall ?_ hpl
  refine thn (hkw.run pos pins s σ H _ I h) fun ws s1 ⟨zs, H1, I1, rz, l2, q1⟩ => ⟨I1.kIn, ?_⟩
  rw [hks]
  show wpAny _ _ (call (.ref C) [] (ks.zip ws)) _ _ _
  obtain ⟨hp, g0, dr, t0, os⟩ := s1
  have le1 : hp.objs.size ≤ hp.objs.size + 1 := Nat.le_succ _
  have z1 := q1 (hp.objs.size + 1) (I1.hok.fresh le1)
  have up : ∀ b o, hp.get? b = some o → ((hp.push (PySem.W.kdv_tup [])).push (PySem.HandSPX.excO C hp.objs.size)).get? b = some o := fun b o w => Heap.get?_push_of_some _ (Heap.get?_push_of_some _ w)
  have at1 : ((hp.push (PySem.W.kdv_tup [])).push (PySem.HandSPX.excO C hp.objs.size)).get? (hp.objs.size + 1) = some (PySem.HandSPX.excO C hp.objs.size) := by heap_get
  have I2 : Inv X pins σ (upd H1 (hp.objs.size + 1) (exo (hp.objs.size + 1) C none)) ⟨(hp.push (PySem.W.kdv_tup [])).push (PySem.HandSPX.excO C hp.objs.size), g0, dr, t0, os⟩ := I1.laid (t' := t0) up le1 (exo_ok at1)
  have r2 := hb.rel (vs := [V.ref (hp.objs.size + 1)]) (us := [Value.ref (hp.objs.size + 1)]) (.cons rfl .nil) rz
  refine wpAny_call (kcall PySem.F.excBase_ValueError (fun Y => PySem.HandSPX.refsVE_contains Y bm hbm) (I1.kIn _ _ hC) (PySem.W.looks_findIn I1.kIn iC) (fun self => PySem.W.bind_fn I1.kIn self tI)
    (codeAny_mono (F.run _ X.stack _ _ ⟨[Value.ref (hp.objs.size + 1)], ks.zip ws⟩ (g [Value.ref (hp.objs.size + 1)] ws) _ _ (fun _ _ _ => False) (hr.make C [] (ks.zip ws)) (I2.env0.make C [] (ks.zip ws)) (hb.to _ [Value.ref (hp.objs.size + 1)] ws I2.kIn rfl (rz.length.symm.trans l2)) r2 z1) fun r s' hq' => ?_))
  cases r with
  | error er => exact hx pins σ _ _ er s' I2 hq'
  | ok fl =>
    cases fl with
    | ret u =>
      obtain ⟨v, H2, J, rv, ev, q2⟩ := I2.after hq'
      subst ev
      exact ⟨rv, .ref (hp.objs.size + 1), H2, J, rfl, q2⟩
    | next => exact False.elim hq'
    | brk => exact False.elim hq'
    | cont => exact False.elim hq'
/-- X(), an own exception class without own __init__ -/
theorem pe_mk0 {bmB : List Value} {B newId initId : String} (F : ExcBaseFacts B newId initId bmB) (q : PySem.W.excIn X.K C bmB newId = true) (gC : X.mg x = some (.ref C)) (kC : PySem.W.keepIn X.K (.ref C) = true) (hg : Gl X x := by rfl)
    (hdb : (x == ("__debug__" : Str)) = false := by decide) : PE X (.Call (.Name x p) [] [] pos) (fun _ H Q => ∀ a, H a = none → Q (.ref a) (upd H a (ExO (.ref C) a))) := by
  refine ⟨fun pins s σ H Q I h => ?_⟩
  refine wpAny_Call_Name_kw (ld_glob I hg gC ?_ hdb)
  refine PySem.W.callWith_K0 I.kIn kC ?_
  show wpAny _ _ (call (.ref C) []) _ _ _
  obtain ⟨bm, N, nm, qn, bs, hdct, sn, sub, ab, col, dd, k0, k1, k2, k3, k5, mN, hC, hN, hni, T⟩ := exc_obj I.kIn q
  refine wpAny_call_exc_subT F T hC hN hni (fun h' a hm => ?_) (by show 0 ≤ sizeLine; exact Nat.zero_le _)
  have hn : H a = none := I.hok.gone hm.new
  obtain ⟨t, ht, _, _⟩ := hm.there
  exact ⟨.ref a, upd H a (ExO (.ref C) a), I.laidN hm.keeps hm.new hn (exO_ok ht ⟨rfl, rfl⟩ rfl rfl rfl (show 4 < 6 by decide)), rfl, h a hn⟩
end
end My
/-! ExcN: exceptions whose context is None; defs called while an exception is handled that is their argument; comprehensions there. -/
namespace My
open PySem PySem.Spec PyProof.Rows L2
/-! ### raised -/
section
variable {X : Cx} {CX : CXT} {x : Str} {C fI : Addr} {k : Nat} {fd : FuncData} {ps : List Str} {sp : Sp} {p pos : Pos} {e : Expr} {es : List Expr} {ta : TA}
/-- raise X(e, ..), X with an own __init__: its context is None -/
theorem pmk_oexN (T : OexC X.K C) (iC : PySem.W.findIn X.K (.ref C) "__init__" = some (some (.ref fI))) (tI : PySem.W.typeIn X.K (.ref fI) = some (.type "function"))
    (F : FnOk X.prog X.w X.K X.mg X.base CX k fI fd ps sp) (hr : Room (k + 1) X.A) (hb : Binds X.K fd ps []) (hx : Passes CX X (fun _ _ _ => False)) (hg : Gl X x) (hm : X.mg x = some (.ref C)) (ha : PA X (e :: es) ta)
    (hdb : (x == ("__debug__" : Str)) = false := by decide) (he : starEach (e :: es) X.env = (false, eval e X.env) :: starEach es X.env := by rfl) (hpl : (backTo pos (starEach es X.env)).any (·.1) = false := by rfl) :
    L2N.PMk X (.Call (.Name x p) (e :: es) [] pos) (tMkO C sp [] ta) := by
  intro pins s σ H Q I h
  obtain ⟨nm, q, N, bs, bm, sn, sub, ab, col, dd, k0, k1, k2, k3, k5, hC, hbm⟩ := T.cls
  refine wpAny_Call_Name_kw (ld_glob I hg hm ?_ hdb)
  refine PySem.W.callWith_K (h₀ := X.base) I.ok.mod.kin T.kC (thn (ha.run pos pins s σ H _ I h) fun us s1 ⟨vs, H1, I1, r1, hz, q1⟩ => ⟨I1.kIn, ?_⟩) he hpl
  show wpAny _ _ (call (.ref C) us) _ _ _
  obtain ⟨hp, g, dr, tk, os⟩ := s1
  have le1 : hp.objs.size ≤ hp.objs.size + 1 := Nat.le_succ _
  have z1 := q1 (hp.objs.size + 1) (I1.hok.fresh le1)
  rw [List.append_nil] at z1
  have up : ∀ b o, hp.get? b = some o → ((hp.push (PySem.W.kdv_tup us)).push (PySem.HandSPX.excO C hp.objs.size)).get? b = some o := fun b o w => Heap.get?_push_of_some _ (Heap.get?_push_of_some _ w)
  have at1 : ((hp.push (PySem.W.kdv_tup us)).push (PySem.HandSPX.excO C hp.objs.size)).get? (hp.objs.size + 1) = some (PySem.HandSPX.excO C hp.objs.size) := by heap_get
  have I2 : Inv X pins σ (upd H1 (hp.objs.size + 1) (exo (hp.objs.size + 1) C none)) ⟨(hp.push (PySem.W.kdv_tup us)).push (PySem.HandSPX.excO C hp.objs.size), g, dr, tk, os⟩ := I1.laid (t' := tk) up le1 (exo_ok at1)
  have r2 : Vals (V.ref (hp.objs.size + 1) :: vs) (Value.ref (hp.objs.size + 1) :: us) := .cons rfl r1
  have ln : (Value.ref (hp.objs.size + 1) :: us).length = ps.length := r2.length.symm.trans (F.len _ _ _ _ z1)
  have lu : us.length ≤ sizeLine := by
    have w := r1.length
    rw [sizeLine_eq]
    omega
  refine wpAny_call (PySem.HandSPX.call_own PySem.F.excBase_ValueError (fun Y => PySem.HandSPX.refsVE_contains Y bm hbm) (I1.kIn _ _ hC) (PySem.W.looks_findIn I1.kIn iC) (fun self => PySem.W.bind_fn I1.kIn self tI) lu
    (codeAny_mono (F.run _ X.stack _ _ ⟨Value.ref (hp.objs.size + 1) :: us, []⟩ (Value.ref (hp.objs.size + 1) :: us) _ _ (fun _ _ _ => False) (hr.make C us []) (I2.env0.make C us []) (by have w := hb _ (Value.ref (hp.objs.size + 1) :: us) I2.kIn (by simpa using ln); simpa using w) r2 z1) fun r s' hq' => ?_))
  cases r with
  | error er => exact hx pins σ _ _ er s' I2 hq'
  | ok fl =>
    cases fl with
    | ret u =>
      obtain ⟨v, H2, os2, bare2, un2, hok2, rv, ev, d, fs, ea, ed, hd1, q2⟩ := hq'
      subst ev
      obtain ⟨h2, g2, d2, t2, os'⟩ := s'
      obtain ⟨t0, G, J, kG, ge, hoe, na⟩ := mk_end0 (d2 := d2) (t2 := t2) I1 le1 up un2 hok2 os2 bare2 ea ed hd1
      exact ⟨rv, hp.objs.size + 1, _, _, ⟨G, g2, d2, t2, os'⟩, _, .ref C, some d, rfl, J, kG, ge, hoe, ⟨rfl, rfl, fun vs hv => by cases hv; rfl⟩, rfl, rfl, na, rfl, bare2, raises_own T.exC T.tyC, q2⟩
    | next => exact False.elim hq'
    | brk => exact False.elim hq'
    | cont => exact False.elim hq'
end
/-! ### a def called while the exception p is handled -/
structure FnP (P : Program) (w : World) (K : PySem.W.Frag) (mg : Str → Option Value) (base : Heap) (CX : CXT) (k : Nat) (f : Addr) (fd : FuncData) (ps : List Str) (sp : Addr × Obj → Sp) : Prop where
  len : ∀ p vs H Q E, sp p vs H Q E → vs.length = ps.length
  run : ∀ (A : Around) (outer : List Env) (s : Shared) (H : Hp) (args : Args) (us : List Value) (vs : List V) (Q : VK) (E : XK) (p : Addr × Obj), L2H.RoomH k A → L2H.Hot1 A p → L2H.PinOk outer H s p → Env0 P w K mg base A outer s H → BindsTo s fd args (ps.zip us) → Vals vs us → sp p vs H Q E →
    codeAny (model P w) A (.call (.ref f) args) (CR CX outer P w H s Q E) s
structure RdyP (P : Program) (w : World) (K : PySem.W.Frag) (mg : Str → Option Value) (base : Heap) (CX : CXT) (k : Nat) (x : Str) (ps : List Str) (sp : Addr × Obj → Sp) : Prop where
  ex : ∃ f fd, mg x = some (.ref f) ∧ PySem.W.keepIn K (.ref f) = true ∧ Binds K fd ps [] ∧ FnP P w K mg base CX k f fd ps sp
section
variable {P : Program} {w : World} {K : PySem.W.Frag} {mg : Str → Option Value} {base : Heap}
theorem fn_p {CX : CXT} {k : Nat} {f : Addr} {name qual : Str} {params : Arguments} {body : List Stmt} {scope : Scope} {dV kV doc pm cdv ct oc : Value} {an od : Option Addr}
    {osl : Array (Option Value)} {N ps : List Str} {sp : Addr × Obj → Sp} (lk : K.lookup f = some ⟨oc, od, .func (PySem.W.fnOf name qual params body scope dV kV doc pm an cdv ct), osl⟩) (hcd : PySem.W.codeIn K cdv qual = true) (S : FnScope N ps scope)
    (len : ∀ p vs H Q E, sp p vs H Q E → vs.length = ps.length)
    (hbody : ∀ (A : Around) (outer : List Env) (s : Shared) (H : Hp) (vs : List V) (Q : VK) (E : XK) (p : Addr × Obj), L2H.Hot1 A p → L2H.RoomH k (A.deeper (envOfC qual scope s.heap.objs.size f cdv)) → sp p vs H Q E →
      ∃ t, PSs (L2H.cxH CX P w K mg base N qual scope f cdv A outer s H E p) body t ∧ t { nx := fun _ H' => Q .non H', rt := Q } (L2.start N vs) H) :
    FnP P w K mg base CX (k + 1) f (PySem.W.fnOf name qual params body scope dV kV doc pm an cdv ct) ps sp := by
  refine ⟨len, fun A outer s H args us vs Q E p hr hot hpin e0 hb r hsp => ?_⟩
  have hl := len _ _ _ _ _ hsp
  have KX : K.In s.heap := e0.mod.kin.keeps fun b o e => (e0.bs b o e).1
  have lim : s.heap.NoLimit := e0.mod.nolimit.keeps fun b o e => (e0.bs b o e).1
  have kinds : ∀ y ∈ ps.zip us, scope.names.lookup y.1 = some .local ∨ (scope.names.lookup y.1 = some .cell ∧ ((cellsFrom (s.heap.objs.size + 1) scope.names []).lookup y.1).isSome = true) := fun y hy => by
    rcases S.par y.1 (List.of_mem_zip hy).1 with q | q
    · exact .inl q
    · exact .inr ⟨q, PySem.W.cellsFrom_some _ _ _ (.inl q)⟩
  refine codeAny_call_function hr.depth (KX _ _ lk) rfl S.co S.gen rfl (PySem.W.codeRec_of KX hcd) (hb _ _ _ _ (wpAny_newFunctionEnv_cells S.kind kinds fun env he s1 x => ?_))
  subst he
  refine ⟨lim.keeps x.toInCall.keep, codeAny_func ?_⟩
  obtain ⟨t, ht, hq⟩ := hbody A outer s H vs Q E p hot (hr.deeper _) hsp
  have I := L2H.inv_startH (CX := CX) (E := E) S hpin e0 hl r x
  refine wpAny_mono (ht.run [] s1 (L2.start N vs) H _ I hq) (fun fl s' hs => ?_) fun e s' hs => hs
  cases fl with
  | ret u =>
    obtain ⟨v, σ', H', J, rv, q⟩ := hs
    exact ⟨v, H', J.os, J.bare, J.base, J.hok, rv, q⟩
  | next =>
    obtain ⟨σ', H', J, q⟩ := hs
    exact ⟨V.non, H', J.os, J.bare, J.base, J.hok, rfl, q⟩
  | brk =>
    obtain ⟨_, _, _, q⟩ := hs
    exact False.elim q
  | cont =>
    obtain ⟨_, _, _, q⟩ := hs
    exact False.elim q
theorem Dfn.rdyP {x : Str} {st : Stmt} {N ps : List Str} {k : Nat} {sp : Addr × Obj → Sp} (F : Dfn K mg x st) (S : FnScope N ps (defScope st))
    (hb : ∀ (kV doc pm : Value) (an : Option Addr) (cdv ct : Value) (us : List Value), us.length = ps.length → bindArgs (PySem.W.fnOf x x (defArgs st) (defBody st) (defScope st) .none kV doc pm an cdv ct) ⟨us, []⟩ = pure (ps.zip us))
    (len : ∀ p vs H Q E, sp p vs H Q E → vs.length = ps.length)
    (hbody : ∀ (f : Addr) (cdv : Value) (A : Around) (outer : List Env) (s : Shared) (H : Hp) (vs : List V) (Q : VK) (E : XK) (p : Addr × Obj), L2H.Hot1 A p → L2H.RoomH k (A.deeper (envOfC x (defScope st) s.heap.objs.size f cdv)) → sp p vs H Q E →
      ∃ t, PSs (L2H.cxH CX0 P w K mg base N x (defScope st) f cdv A outer s H E p).nox (defBody st) t ∧ t { nx := fun _ H' => Q .non H', rt := Q } (L2.start N vs) H) : RdyP P w K mg base CX0 (k + 1) x ps sp := by
  obtain ⟨f, fd, F, hm⟩ := F.ex
  refine ⟨f, fd, hm, F.kp, F.binds hb, ?_⟩
  obtain ⟨oc, od, kV, doc, pm, an, cdv, ct, osl, rfl, lk, hcd⟩ := F.ex
  refine fn_p lk hcd S len fun A outer s H vs Q E p hot hr h => ?_
  obtain ⟨t, h1, h2⟩ := hbody f cdv A outer s H vs Q E p hot hr h
  exact ⟨t, h1.nox, h2⟩
end
section
variable {X : Cx} {CX : CXT} {k : Nat} {ps : List Str} {sp : Addr × Obj → Sp} {E : XK} {x : Str} {q pos : Pos} {e : Expr} {es : List Expr} {t : TA} {p : Addr × Obj}
theorem pe_clP (R : RdyP X.prog X.w X.K X.mg X.base CX k x ps sp) (hr : L2H.RoomH k X.A) (hot : L2H.Hot1 X.A p) (hp : p ∈ X.pn) (hx : Passes CX X E) (ha : PA X (e :: es) t) (hg : Gl X x := by rfl) (hdb : (x == ("__debug__" : Str)) = false := by decide)
    (he : starEach (e :: es) X.env = (false, eval e X.env) :: starEach es X.env := by rfl) (hpl : (backTo pos (starEach es X.env)).any (·.1) = false := by rfl) :
    PE X (.Call (.Name x q) (e :: es) [] pos) (tCall (sp p) [] E t) := by
  obtain ⟨f, fd, hm, hk, hb, F⟩ := R.ex
  refine ⟨fun pins s σ H Q I h => ?_⟩
  refine wpAny_Call_Name_kw (ld_glob I hg hm ?_ hdb)
  refine PySem.W.callWith_K (h₀ := X.base) I.ok.mod.kin hk (thn (ha.run pos pins s σ H _ I h) fun us s1 ⟨vs, H1, I1, r, q⟩ => ⟨I1.kIn, ?_⟩) he hpl
  have q : sp p (vs ++ []) H1 Q E := q
  rw [List.append_nil] at q
  have hl : us.length = ps.length := by rw [← r.length]; exact F.len _ _ _ _ _ q
  have b := hb s1 us I1.kIn (by rw [List.append_nil]; exact hl)
  rw [List.append_nil] at b
  have P1 := I1.pin p (List.mem_append_left _ hp)
  refine wpAny_call (codeAny_mono (F.run X.A X.stack s1 H1 ⟨us, []⟩ us vs Q E p hr hot ⟨P1.1, P1.2.1, fun hm => (List.mem_cons.mp (I1.stkSub p.1 hm)).elim P1.2.2.1 P1.2.2.2.1, P1.2.2.2.2⟩ I1.env0 b r q) fun r s' hq => ?_)
  cases r with
  | error e => exact hx pins σ H1 s1 e s' I1 hq
  | ok fl =>
    cases fl with
    | ret u => exact I1.after hq
    | next => exact False.elim hq
    | brk => exact False.elim hq
    | cont => exact False.elim hq
end
/-! ### a comprehension while an exception is handled -/
/-- the context of its block: the pins stay -/
abbrev blkH (X : Cx) (s : Shared) (H : Hp) (scope : Scope) (cenv : Env) (fp : List Addr) : Cx := (X.blk s H scope cenv fp).tr X.pn (fun _ _ => False)
section
variable {X : Cx} {pins : List (Addr × Obj)} {σ : L2.St} {H : Hp} {s : Shared}
theorem block_startH {scope : Scope} {own : List (Str × Nat)} {fp : List Addr} (I : Inv X pins σ H s) (ok : BlkOk X.N X.env.scope scope own) (hN : X.N.Nodup) (hfp : ∀ b ∈ fp, FpOk X pins H b ∧ b < s.heap.objs.size) :
    Inv (blkH X s H scope (compEnvC scope (cellsFrom (s.heap.objs.size + 1) scope.names (cloFrom X.env.cells scope.names [])) s.heap.objs.size X.env) fp) [] (wipe σ (own.map (·.2))) H { s with heap := pushCells (s.heap.push { cls := .type "dict", data := .dict #[] }) scope.names } := by
  have J := block_start I ok hN hfp
  refine ⟨J.ok.toTry _ _, J.os, J.bare, J.base, J.loc, J.cell, J.free, J.freeC, fun p hp => ?_, J.hok, J.len⟩
  obtain ⟨e, n, ne, nf, d⟩ := I.pin p (List.mem_append_left _ (by simpa using hp))
  refine ⟨pushCells_keeps _ _ _ _ (Heap.get?_push_of_some _ e), n, Nat.ne_of_lt (Heap.lt_size e), fun z => ?_, d⟩
  rcases List.mem_cons.mp (I.stkSub p.1 z) with z | z
  · exact ne z
  · exact nf z
theorem pe_lcH {elt tg iter : Expr} {ifs : List Expr} {scope : Scope} {own : List (Str × Nat)} {pos : Pos} {wi : TI} {g : TG} {tt : TT} {te : TE} (hc : L2H.HotC X) (hN : X.N.Nodup) (hi : L2H.PIH X tg iter wi) (ok : BlkOk X.N X.env.scope scope own)
    (hg : ∀ (s : Shared) (H : Hp) (C : Addr) (cl : List (Str × Addr)) (fp : List Addr), PG (blkH X s H scope (compEnvC scope cl C X.env) fp) tg g) (ht : ∀ (s : Shared) (H : Hp) (C : Addr) (cl : List (Str × Addr)) (fp : List Addr), PTs (blkH X s H scope (compEnvC scope cl C X.env) fp) ifs tt)
    (he : ∀ (s : Shared) (H : Hp) (C : Addr) (cl : List (Str × Addr)) (fp : List Addr), PE (blkH X s H scope (compEnvC scope cl C X.env) fp) elt te) (hs : ∀ x, foldedSetIterable iter X.env x = pure x := by intro _; rfl) :
    PE X (.ListComp elt [⟨tg, iter, ifs, 0⟩] scope pos) (tLc wi g tt te (own.map (·.2))) := by
  refine ⟨fun pins s σ H Q I h => ?_⟩
  rw [eval_ListComp]
  have free : ∀ y ∈ scope.names, y.2 = .free → ∃ c, X.env.cells.lookup y.1 = some c := fun y hy e => by
    rcases ok.free y hy e with k | k
    · exact I.ok.has _ (.inl k)
    · exact I.ok.has _ (.inr k)
  refine wpAny_comprehension_free (use := none) rfl hs (closure_ok free) ok.kind (fun y hy e => by rw [ok.uniq y hy, e]) (thn (hi.run pins s σ H _ I h) fun xv s1 hx => thn hx fun itv s2 h2 => ?_)
  obtain ⟨it, fp, tn, J, H2, e, I2, T, st2, f2, q⟩ := h2
  subst e
  refine wpAny_newObj_type (newEnv_comp ?_) (by show 0 ≤ sizeLine; decide)
  generalize hD : s2.heap.objs.size = D
  have hDn : H2 D = none := I2.hok.fresh (Nat.le_of_eq hD)
  obtain ⟨W, ⟨m0, w0⟩, turn⟩ := q D hDn
  generalize hs3 : ({ s2 with heap := s2.heap.push { cls := .type "list", data := .seq ([] : List Value).toArray } } : Shared) = s3
  have h3 : s3.heap = s2.heap.push { cls := .type "list", data := .seq ([] : List Value).toArray } := by rw [← hs3]
  have I3 : Inv X pins σ (upd H2 D (.lst [])) s3 := by
    rw [← hs3]
    refine I2.laid (t' := s2.toks) (fun b o e => Heap.get?_push_of_some _ e) (Nat.le_of_eq hD) ⟨Nat.zero_le _, [], 0, .nil, ?_⟩
    rw [← hD]
    exact Heap.get?_push_size _ rfl
  have f3 : ∀ b ∈ fp, FpOk X pins (upd H2 D (.lst [])) b ∧ b < s3.heap.objs.size := fun b hb => by
    obtain ⟨o, e, _⟩ := T.obj _ _ st2 b hb
    have lt := Heap.lt_size e
    refine ⟨⟨?_, (f2 b hb).2⟩, by rw [h3, Heap.size_push]; exact Nat.lt_succ_of_lt lt⟩
    rw [upd_ne (by rw [← hD]; exact Nat.ne_of_lt lt)]
    exact (f2 b hb).1
  have st3 : tn 0 s3.heap := T.keep _ _ _ st2 fun b _ o e => by rw [h3]; exact Heap.get?_push_of_some _ e
  have I4 := block_startH I3 ok hN f3
  show codeAny _ _ (.compStart (.ListComp elt [⟨tg, iter, ifs, 0⟩] scope pos) 0 (.ref it) (.ref D) (compEnvC scope (cellsFrom (s3.heap.objs.size + 1) scope.names (cloFrom X.env.cells scope.names [])) s3.heap.objs.size X.env)) (compPost (model X.prog X.w) X.A X.xe none (EP X pins σ Q) (.ref D) s3.heap.objs.size) { s3 with heap := pushCells (s3.heap.push { cls := .type "dict", data := .dict #[] }) scope.names }
  generalize hcl : cellsFrom (s3.heap.objs.size + 1) scope.names (cloFrom X.env.cells scope.names []) = cl at I4 ⊢
  have pg := hg s3 (upd H2 D (.lst [])) s3.heap.objs.size cl fp
  have pt := ht s3 (upd H2 D (.lst [])) s3.heap.objs.size cl fp
  have pe := he s3 (upd H2 D (.lst [])) s3.heap.objs.size cl fp
  have nfp : ∀ b ∈ fp, (upd H2 D (.lst [])) b = none := fun b hb => (f3 b hb).1.1
  generalize hce : compEnvC scope cl s3.heap.objs.size X.env = ce at I4 pg pt pe ⊢
  have cL : ce.locals = s3.heap.objs.size := by subst hce; rfl
  generalize hH3 : upd H2 D (.lst []) = H3 at I3 I4 pg pt pe w0 nfp f3
  generalize hs4 : ({ s3 with heap := pushCells (s3.heap.push { cls := .type "dict", data := .dict #[] }) scope.names } : Shared) = s4 at I4 ⊢
  have st4 : tn 0 s4.heap := T.keep _ _ _ st3 fun b _ o e => by rw [← hs4]; exact pushCells_keeps _ _ _ _ (Heap.get?_push_of_some _ e)
  have hcB : L2H.HotC (blkH X s3 H3 scope ce fp) := hc
  have stat : ∀ {σ' : L2.St} {H' : Hp} {s' : Shared}, Inv (blkH X s3 H3 scope ce fp) [] σ' H' s' → (∀ b ∈ fp, H' b = none) → ∀ b ∈ fp, FpOk (blkH X s3 H3 scope ce fp) [] H' b := fun {σ' H' s'} I' hn b hb =>
    ⟨hn b hb, (I'.ok.exf b hb).1, I'.ok.exfs b hb, .inl hb, fun x c e => (I'.ok.exf b hb).2 x c e, fun p hp => (f3 b hb).1.2.2.2.2.2 p (List.mem_append_left _ (by simpa using hp))⟩
  have loop : codeAny (model X.prog X.w) X.A (.compLoop (.ListComp elt [⟨tg, iter, ifs, 0⟩] scope pos) 0 (.ref it) (.ref D) ce) (compPost (model X.prog X.w) X.A X.xe none (EP X pins σ Q) (.ref D) s3.heap.objs.size) s4 := by
    refine compLoop_any (fun n s' => ∃ i H', Inv (blkH X s3 H3 scope ce fp) [] (wipe σ (own.map (·.2))) H' s' ∧ tn i s'.heap ∧ (∀ b ∈ fp, H' b = none) ∧ W i n H') ?_ m0 ⟨0, H3, I4, st4, nfp, w0⟩
    rintro n s5 ⟨i, H5, I5, st5, n5, w5⟩
    rcases turn i n H5 w5 with ⟨stop, qq⟩ | ⟨go, Nx, hNx, step⟩
    · refine thnF (T.done (blkH X s3 H3 scope ce fp) rfl rfl rfl hcB i [] s5 _ H5 (fun _ _ => False) I5 (stat I5 n5) st5 stop) fun r s6 ⟨hr, I6⟩ => ?_
      subst hr
      have I7 : Inv X pins σ H5 s6 := I3.call' (ch := fp) I6.os I6.base I6.hok I6.bare fun b hb => ⟨(f3 b hb).1.2.2.2.1, (f3 b hb).1.2.1, (f3 b hb).1.2.2.2.2.1, (f3 b hb).1.2.2.2.2.2⟩
      have nC : H5 s3.heap.objs.size = none := by
        have z : H5 ce.locals = none := I6.free
        rw [cL] at z
        exact z
      obtain ⟨m, hn, _⟩ := I6.loc
      have hn : s6.heap.Ns ce.locals m := hn
      rw [cL] at hn
      obtain ⟨f0, f1, f2', f3', f4, f5⟩ := I3.fpOk (Nat.le_refl _) nC
      exact ⟨m, hn, fun h'' sb => ⟨.ref D, H5, I7.turned (t' := s6.toks) (fun b o hb e => (sb.2 b hb).trans e) f0 f1 f3' f4 f5, rfl, qq⟩⟩
    · refine thnF (T.item (blkH X s3 H3 scope ce fp) rfl rfl rfl hcB i [] s5 _ H5 (fun _ _ => False) I5 (stat I5 n5) st5 go) fun r s6 ⟨u, hr, h6⟩ => ?_
      subst hr
      refine thnF h6 fun _ s7 ⟨x, H7, I7, r7, y7, st7, n7⟩ => ?_
      have I7' := I7.pinned (stat I7 n7) (T.obj _ _ st7)
      refine thnF (pg.run _ s7 _ H7 x u _ I7' r7 (step x H7 y7)) fun _ s8 ⟨σ8, H8, I8, hw8, q8⟩ => ?_
      refine thnF (pt.run _ s8 σ8 H8 _ I8 q8) fun b s9 ⟨H9, I9, q9⟩ => ?_
      have fin : ∀ {s' : Shared} {H' : Hp}, Inv (blkH X s3 H3 scope ce fp) ([] ++ pinsAt fp s7.heap) σ8 H' s' → Nx H' → ∃ m, m < n ∧ ∃ i H', Inv (blkH X s3 H3 scope ce fp) [] (wipe σ (own.map (·.2))) H' s' ∧ tn i s'.heap ∧ (∀ b ∈ fp, H' b = none) ∧ W i m H' := fun {s' H'} I' nx => by
        obtain ⟨m', hm, w'⟩ := hNx H' nx
        have pin' : ∀ b ∈ fp, ∀ o, s7.heap.get? b = some o → s'.heap.get? b = some o ∧ H' b = none := fun b hb o e =>
          let z := I'.pin (b, o) (List.mem_append_right _ (List.mem_append_right _ (mem_pinsAt hb e)))
          ⟨z.1, z.2.1⟩
        have hl : (wipe σ (own.map (·.2))).length = σ8.length := by rw [← hw8, wipe_length]
        refine ⟨m', hm, i + 1, H', (I'.unpinned (pins := [])).weak hl (fun j v e => ?_), T.keep _ _ _ st7 fun b hb o e => (pin' b hb o e).1, fun b hb => ?_, w'⟩
        · rw [← hw8] at e
          exact (wipe_some e).1
        · obtain ⟨o, e, _⟩ := T.obj _ _ st7 b hb
          exact (pin' b hb o e).2
      cases b with
      | false =>
        simp only [Bool.false_eq_true, if_false] at q9 ⊢
        exact fin I9 q9
      | true =>
        simp only [if_true] at q9 ⊢
        refine thnF (pe.run _ s9 σ8 H9 _ I9 q9) fun z s10 ⟨yv, H10, I10, r10, acc, hD10, hz10, nx⟩ => ?_
        exact app_ok (X := blkH X s3 H3 scope ce fp) I10 hD10 hz10 r10 fun s11 I11 => fin I11 nx
  exact codeAny_compStart_list loop (T.self X.A 0 _ _ _ st4 loop)
end
theorem Dfn.rdyXN {P : Program} {w : World} {K : PySem.W.Frag} {mg : Str → Option Value} {base : Heap} {x : Str} {st : Stmt} {N ps : List Str} {k : Nat} {sp : Sp} (F : Dfn K mg x st) (S : FnScope N ps (defScope st))
    (hb : ∀ (kV doc pm : Value) (an : Option Addr) (cdv ct : Value) (us : List Value), us.length = ps.length → bindArgs (PySem.W.fnOf x x (defArgs st) (defBody st) (defScope st) .none kV doc pm an cdv ct) ⟨us, []⟩ = pure (ps.zip us))
    (len : ∀ vs H Q E, sp vs H Q E → vs.length = ps.length)
    (hbody : ∀ (f : Addr) (cdv : Value) (A : Around) (outer : List Env) (s : Shared) (H : Hp) (vs : List V) (Q : VK) (E : XK), Room k (A.deeper (envOfC x (defScope st) s.heap.objs.size f cdv)) → sp vs H Q E →
      ∃ t, PSs (cxOf (L2N.CX P w) P w K mg base N x (defScope st) f cdv A outer s H E) (defBody st) t ∧ t { nx := fun _ H' => Q .non H', rt := Q } (start N vs) H) : Rdy P w K mg base (L2N.CX P w) (k + 1) x ps sp := by
  obtain ⟨f, fd, F, hm⟩ := F.ex
  refine ⟨f, fd, hm, F.kp, F.binds hb, ?_⟩
  obtain ⟨oc, od, kV, doc, pm, an, cdv, ct, osl, rfl, lk, hcd⟩ := F.ex
  exact fn_of lk hcd S len fun A outer s H vs Q E hr hsp => hbody f cdv A outer s H vs Q E hr hsp
theorem pe_clSN {X : Cx} {W : WX} {k : Nat} {ps : List Str} {sp : Sp} {x : Str} {p pos : Pos} {e : Expr} {es : List Expr} {t : TA} (R : Rdy X.prog X.w X.K X.mg X.base (L2N.CX X.prog X.w) k x ps sp) (hr : Room k X.A) (tk : L2N.Takes X W) (ha : PA X (e :: es) t) (hg : Gl X x := by rfl) (hdb : (x == ("__debug__" : Str)) = false := by decide)
    (he : starEach (e :: es) X.env = (false, eval e X.env) :: starEach es X.env := by rfl) (hpl : (backTo pos (starEach es X.env)).any (·.1) = false := by rfl) :
    PE X (.Call (.Name x p) (e :: es) [] pos) (tCallS sp (WE W) t) := by
  obtain ⟨f, fd, hm, hk, hb, F⟩ := R.ex
  exact pe_callS F hr hg hm hk hb (fun σ => L2N.passAt tk σ) ha hdb he hpl
theorem cx_pn {CX : CXT} {P : Program} {w : World} {K : PySem.W.Frag} {mg : Str → Option Value} {base : Heap} {N : List Str} {qual : Str} {sc : Scope} {f : Addr} {cd : Value} {A : Around} {outer : List Env} {s : Shared} {H : Hp} {E : XK} : (cxOf CX P w K mg base N qual sc f cd A outer s H E).pn = [] := rfl
theorem cxh_pn {CX : CXT} {P : Program} {w : World} {K : PySem.W.Frag} {mg : Str → Option Value} {base : Heap} {N : List Str} {qual : Str} {sc : Scope} {f : Addr} {cd : Value} {A : Around} {outer : List Env} {s : Shared} {H : Hp} {E : XK} {p : Addr × Obj} : (L2H.cxH CX P w K mg base N qual sc f cd A outer s H E p).pn = [p] := rfl
theorem cxh_K {CX : CXT} {P : Program} {w : World} {K : PySem.W.Frag} {mg : Str → Option Value} {base : Heap} {N : List Str} {qual : Str} {sc : Scope} {f : Addr} {cd : Value} {A : Around} {outer : List Env} {s : Shared} {H : Hp} {E : XK} {p : Addr × Obj} : (L2H.cxH CX P w K mg base N qual sc f cd A outer s H E p).K = K := rfl
end My
/-! Cls: exception classes with some fields: made by position, by keyword, raised; asked for their classes. -/
namespace My
open PySem PySem.Spec PyProof.Rows L2
/-- the names of the fields, in the parameters' order -/
def fN (i : Nat) : List Str := ([["name", "word", "position"], ["name", "user"], ["value"], ["text"], ["position"], ["position"], ["position"], ["index"], ["name"], ["name"], ["name"], ["name"], ["name"], ["name"], ["value"], ["index"], ["index"], ["name"], ["condition"], ["side"], ["move"], ["form"], ["name"], ["name"], ["name"], ["name"], ["weights"], ["move"], ["word"], ["index"], ["at"], ["line"]] : List (List Str)).getD i []
def flds (ns : List Str) (ws : List V) : List (Str × V) := (ns.zip ws).reverse
/-- the promise of an __init__ that stores its parameters -/
def spIn (K : PySem.W.Frag) (C : Addr) (ns : List Str) : Sp := fun vs H Q _ => ∃ (a : Addr) (ws : List V), vs = .ref a :: ws ∧ ws.length = ns.length ∧ H a = some (exo a C none) ∧
  ∀ dx H2, H dx = none → dx ≠ a → H2 a = some (exo a C (some dx)) → H2 dx = some (exd dx (flds ns ws)) → (∀ b, b ≠ a → b ≠ dx → H2 b = H b) → Q .non H2
/-- an exception class whose __init__ stores the fields ns -/
structure ExG (P : Program) (w : World) (K : PySem.W.Frag) (mg : Str → Option Value) (base : Heap) (x : Str) (C : Addr) (ns : List Str) : Prop where
  gC : mg x = some (.ref C)
  T : OexC K C
  ini : ∃ (fI : Addr) (fd : FuncData), PySem.W.findIn K (.ref C) "__init__" = some (some (.ref fI)) ∧ PySem.W.typeIn K (.ref fI) = some (.type "function") ∧ FnOk P w K mg base CX0 1 fI fd ("self" :: ns) (spIn K C ns) ∧ Binds K fd ("self" :: ns) [] ∧
    KBn K fd ("self" :: ns) 1 ns (fun us ws => us ++ ws) (fun vs zs => vs ++ zs)
/-- one without own __init__ -/
structure ExB (K : PySem.W.Frag) (mg : Str → Option Value) (x : Str) (C : Addr) : Prop where
  gC : mg x = some (.ref C)
  q : PySem.W.excIn K C [.type "ValueError", .type "Exception", .type "BaseException", .type "object"] "ValueError.__new__" = true
  k : PySem.W.keepIn K (.ref C) = true
  r1 : PySem.W.subIn K (.ref C) (.type "BaseException") = some true
  r2 : PySem.W.typeIn K (.ref C) = some (.type "type")
/-! ### the __init__s -/
section
variable {P : Program} {w : World} {K : PySem.W.Frag} {mg : Str → Option Value} {base : Heap} {x b f f1 f2 f3 : Str} {st : Stmt} {C fI : Addr} {fd : FuncData} {ps : List Str}
/-- one field -/
theorem spin1 (T : OexC K C) (nf : PySem.W.findIn K (.ref C) f = some none) (F : Fun K "__init__" (x ++ (".__init__" : Str)) st fI fd) (S : FnScope ["self", f] ["self", f] (defScope st))
    (hbody : ∀ (cdv : Value) (A : Around) (outer : List Env) (s : Shared) (H : Hp) (E : XK), ∃ m, PSs (cxOf CX0 P w K mg base ["self", f] (x ++ (".__init__" : Str)) (defScope st) fI cdv A outer s H E).nox (defBody st)
      (tSeq (tDrop (tVeI K (tCons (tVar 0) (tCons (tC (.str m)) tNil)))) (tOst K f (tVar 0) (tVar 1)))) : FnOk P w K mg base CX0 1 fI fd ["self", f] (spIn K C [f]) := by
  refine F.ok S (fun vs H Q E h => ?_) (fun cdv A outer s H vs Q E hr h => ?_)
  · obtain ⟨a, ws, rfl, hl, _⟩ := h
    simp at hl ⊢
    exact hl
  · obtain ⟨m, hb⟩ := hbody cdv A outer s H E
    refine ⟨_, hb, ?_⟩
    obtain ⟨a, ws, rfl, hl, ha, q⟩ := h
    match ws, hl with
    | [v], _ =>
      refine ⟨_, rfl, a, C, [.str m], rfl, (by show 1 ≤ 1000; decide), T, ha, _, rfl, _, rfl, a, C, rfl, T, nf, .inl ⟨ha, fun dx h1 h2 => ?_⟩⟩
      exact q dx _ h1 h2 upd_same (by rw [upd_ne h2, upd_same]; rfl) fun b h3 h4 => by rw [upd_ne h3, upd_ne h4]
/-- two fields -/
theorem spin2 (T : OexC K C) (n1 : PySem.W.findIn K (.ref C) f1 = some none) (n2 : PySem.W.findIn K (.ref C) f2 = some none) (F : Fun K "__init__" (x ++ (".__init__" : Str)) st fI fd) (S : FnScope ["self", f1, f2] ["self", f1, f2] (defScope st))
    (hbody : ∀ (cdv : Value) (A : Around) (outer : List Env) (s : Shared) (H : Hp) (E : XK), ∃ m, PSs (cxOf CX0 P w K mg base ["self", f1, f2] (x ++ (".__init__" : Str)) (defScope st) fI cdv A outer s H E).nox (defBody st)
      (tSeq (tDrop (tVeI K (tCons (tVar 0) (tCons (tC (.str m)) tNil)))) (tSeq (tOst K f1 (tVar 0) (tVar 1)) (tOst K f2 (tVar 0) (tVar 2))))) : FnOk P w K mg base CX0 1 fI fd ["self", f1, f2] (spIn K C [f1, f2]) := by
  refine F.ok S (fun vs H Q E h => ?_) (fun cdv A outer s H vs Q E hr h => ?_)
  · obtain ⟨a, ws, rfl, hl, _⟩ := h
    simp at hl ⊢
    exact hl
  · obtain ⟨m, hb⟩ := hbody cdv A outer s H E
    refine ⟨_, hb, ?_⟩
    obtain ⟨a, ws, rfl, hl, ha, q⟩ := h
    match ws, hl with
    | [v1, v2], _ =>
      refine ⟨_, rfl, a, C, [.str m], rfl, (by show 1 ≤ 1000; decide), T, ha, _, rfl, _, rfl, a, C, rfl, T, n1, .inl ⟨ha, fun dx h1 h2 => ?_⟩⟩
      refine ⟨_, rfl, _, rfl, a, C, rfl, T, n2, .inr ⟨dx, [(f1, v1)], upd_same, by rw [upd_ne h2, upd_same], by show 1 ≤ 900; decide, ?_⟩⟩
      exact q dx _ h1 h2 (by rw [upd_ne h2.symm, upd_same]) upd_same fun b h3 h4 => by rw [upd_ne h4, upd_ne h3, upd_ne h4]
/-- three fields -/
theorem spin3 (T : OexC K C) (n1 : PySem.W.findIn K (.ref C) f1 = some none) (n2 : PySem.W.findIn K (.ref C) f2 = some none) (n3 : PySem.W.findIn K (.ref C) f3 = some none) (F : Fun K "__init__" (x ++ (".__init__" : Str)) st fI fd) (S : FnScope ["self", f1, f2, f3] ["self", f1, f2, f3] (defScope st))
    (hbody : ∀ (cdv : Value) (A : Around) (outer : List Env) (s : Shared) (H : Hp) (E : XK), ∃ m, PSs (cxOf CX0 P w K mg base ["self", f1, f2, f3] (x ++ (".__init__" : Str)) (defScope st) fI cdv A outer s H E).nox (defBody st)
      (tSeq (tDrop (tVeI K (tCons (tVar 0) (tCons (tC (.str m)) tNil)))) (tSeq (tOst K f1 (tVar 0) (tVar 1)) (tSeq (tOst K f2 (tVar 0) (tVar 2)) (tOst K f3 (tVar 0) (tVar 3)))))) : FnOk P w K mg base CX0 1 fI fd ["self", f1, f2, f3] (spIn K C [f1, f2, f3]) := by
  refine F.ok S (fun vs H Q E h => ?_) (fun cdv A outer s H vs Q E hr h => ?_)
  · obtain ⟨a, ws, rfl, hl, _⟩ := h
    simp at hl ⊢
    exact hl
  · obtain ⟨m, hb⟩ := hbody cdv A outer s H E
    refine ⟨_, hb, ?_⟩
    obtain ⟨a, ws, rfl, hl, ha, q⟩ := h
    match ws, hl with
    | [v1, v2, v3], _ =>
      refine ⟨_, rfl, a, C, [.str m], rfl, (by show 1 ≤ 1000; decide), T, ha, _, rfl, _, rfl, a, C, rfl, T, n1, .inl ⟨ha, fun dx h1 h2 => ?_⟩⟩
      refine ⟨_, rfl, _, rfl, a, C, rfl, T, n2, .inr ⟨dx, [(f1, v1)], upd_same, by rw [upd_ne h2, upd_same], by show 1 ≤ 900; decide, ?_⟩⟩
      refine ⟨_, rfl, _, rfl, a, C, rfl, T, n3, .inr ⟨dx, [(f2, v2), (f1, v1)], by rw [upd_ne h2.symm, upd_same], upd_same, by show 2 ≤ 900; decide, ?_⟩⟩
      exact q dx _ h1 h2 (by rw [upd_ne h2.symm, upd_ne h2.symm, upd_same]) upd_same fun b h3 h4 => by rw [upd_ne h4, upd_ne h4, upd_ne h3, upd_ne h4]
/-- keywords in the parameters' order -/
theorem fun_kb {n : Nat} {ns : List Str} (F : Fun K "__init__" (x ++ (".__init__" : Str)) st fI fd)
    (h : ∀ (kV doc pm : Value) (an : Option Addr) (cdv ct : Value) (us ws : List Value), us.length = 1 → ws.length = ns.length → bindArgs (PySem.W.fnOf "__init__" (x ++ (".__init__" : Str)) (defArgs st) (defBody st) (defScope st) .none kV doc pm an cdv ct) ⟨us, ns.zip ws⟩ = pure ((("self" : Str) :: ns).zip (us ++ ws))) :
    KBn K fd ("self" :: ns) 1 ns (fun us ws => us ++ ws) (fun vs zs => vs ++ zs) := by
  obtain ⟨oc, od, kV, doc, pm, an, cdv, ct, osl, rfl, _⟩ := F.ex
  exact ⟨fun s us ws _ l1 l2 => .of_eq (h kV doc pm an cdv ct us ws l1 l2), fun r1 r2 => r1.append r2⟩
end
/-! ### made, raised -/
/-- X(e, ..) as a value -/
def tMX (C : Addr) (ns : List Str) (ta : TA) : TE := fun σ H Q => ta σ H fun vs H1 => vs.length = ns.length ∧ ∀ a H2, H1 a = none → Same H1 H2 → EV [] H2 (.ref a) C (flds ns vs) → Q (.ref a) H2
/-- raise X(e, ..) -/
def tRX (C : Addr) (ns : List Str) (W : WX) (ta : TA) : TS := fun _ σ H => ta σ H fun vs H1 => vs.length = ns.length ∧ ∀ d H2, Same H1 H2 → DX H2 (some d) (flds ns vs) → W (.ref C) (some d) σ H2
section
variable {X : Cx} {x : Str} {C : Addr} {ns : List Str} {p pos pos2 : Pos} {e : Expr} {es : List Expr} {ta : TA} {kws : List Keyword} {tk : TA}
theorem fin_mx {H1 H2 : Hp} {a dx : Addr} {vs : List V} {Q : VK} (ha : H1 a = none) (h1 : upd H1 a (exo a C none) dx = none) (h2 : dx ≠ a) (e1 : H2 a = some (exo a C (some dx))) (e2 : H2 dx = some (exd dx (flds ns vs))) (hk : ∀ b, b ≠ a → b ≠ dx → H2 b = upd H1 a (exo a C none) b)
    (q : ∀ a H2, H1 a = none → Same H1 H2 → EV [] H2 (.ref a) C (flds ns vs) → Q (.ref a) H2) : Q (.ref a) H2 := by
  refine q a H2 ha (fun b o e => ?_) ⟨a, some dx, rfl, .inl (isO_exo e1), .inr ⟨dx, rfl, .inl e2⟩⟩
  rw [upd_ne h2] at h1
  have n1 := ne_of_none e ha
  rw [hk b n1 (ne_of_none e h1), upd_ne n1]
  exact e
theorem pe_mx (D : ExG X.prog X.w X.K X.mg X.base x C ns) (hr : Room 2 X.A) (ha : PA X (e :: es) ta) (hz : ns.length ≤ 3 := by decide) (hg : Gl X x := by rfl)
    (hdb : (x == ("__debug__" : Str)) = false := by decide) (he : starEach (e :: es) X.env = (false, eval e X.env) :: starEach es X.env := by rfl) (hpl : (backTo pos (starEach es X.env)).any (·.1) = false := by rfl) :
    PE X (.Call (.Name x p) (e :: es) [] pos) (tMX C ns ta) := by
  obtain ⟨fI, fd, iC, tI, F, b, _⟩ := D.ini
  refine ⟨fun pins s σ H Q I h => ?_⟩
  refine (pe_mkE D.T iC tI F hr b (fun _ _ _ _ _ _ _ z => z.elim) D.gC (pa_mono ha) hg hdb he hpl).run pins s σ H Q I ⟨_, h, fun vs H1 hv => ?_⟩
  obtain ⟨hl, q⟩ := hv
  refine ⟨by omega, fun a ha => ⟨a, vs, rfl, hl, upd_same, fun dx H2 h1 h2 e1 e2 hk => ⟨rfl, fin_mx ha h1 h2 e1 e2 hk q⟩⟩⟩
theorem pk_mono (ha : PK X kws tk) : PK X kws (tMonoA tk) := ⟨fun pos pins s σ H Q I h => by
  obtain ⟨R, h1, h2⟩ := h
  exact thn (ha.run pos pins s σ H R I h1) fun us s1 ⟨vs, H1, I1, r, q⟩ => ⟨vs, H1, I1, r, h2 _ _ q⟩⟩
theorem pe_mkw (D : ExG X.prog X.w X.K X.mg X.base x C ns) (hr : Room 2 X.A) (hk : PK X kws tk) (hks : (backToKw pos (keywordEach kws X.env)).filterMap (·.1) = ns := by rfl) (hg : Gl X x := by rfl)
    (hall : (backToKw pos (keywordEach kws X.env)).all (·.1.isSome) = true := by rfl) (hdb : (x == ("__debug__" : Str)) = false := by decide)
    (hpl : ((backTo pos (starEach [] X.env)).any (·.1) || (backToKw pos (keywordEach kws X.env)).any (·.1.isNone)) = false := by rfl) :
    PE X (.Call (.Name x p) [] kws pos) (tMX C ns tk) := by
  obtain ⟨fI, fd, iC, tI, F, _, b⟩ := D.ini
  refine ⟨fun pins s σ H Q I h => ?_⟩
  refine (pe_mkK D.T iC tI F hr b (fun _ _ _ _ _ _ _ z => z.elim) D.gC (pk_mono hk) hg hall hks hdb hpl).run pins s σ H Q I ⟨_, h, fun vs H1 hv => ?_⟩
  obtain ⟨hl, q⟩ := hv
  refine ⟨hl, fun a ha => ⟨a, vs, rfl, hl, upd_same, fun dx H2 h1 h2 e1 e2 hk => ⟨rfl, fin_mx ha h1 h2 e1 e2 hk q⟩⟩⟩
theorem ps_rx {W : WX} (hc : X.calm = true) (tk : L2N.Takes X W) (D : ExG X.prog X.w X.K X.mg X.base x C ns) (hr : Room 2 X.A) (ha : PA X (e :: es) ta) (hz : ns.length ≤ 3 := by decide) (hg : Gl X x := by rfl)
    (hdb : (x == ("__debug__" : Str)) = false := by decide) (he : starEach (e :: es) X.env = (false, eval e X.env) :: starEach es X.env := by rfl) (hpl : (backTo pos (starEach es X.env)).any (·.1) = false := by rfl) :
    PS X (.Raise (some (.Call (.Name x p) (e :: es) [] pos)) none pos2) (tRX C ns W ta) := by
  obtain ⟨fI, fd, iC, tI, F, b, _⟩ := D.ini
  have mk : L2N.PMk X (.Call (.Name x p) (e :: es) [] pos) (fun σ H Q => ta σ H fun vs H1 => vs.length = ns.length ∧ ∀ d H2, Same H1 H2 → DX H2 (some d) (flds ns vs) → Q (.ref C) (some d) H2) := by
    intro pins s σ H Q I h
    refine pmk_oexN D.T iC tI F hr b (fun _ _ _ _ _ _ _ z => z.elim) hg D.gC (pa_mono ha) hdb he hpl pins s σ H Q I ⟨_, h, fun vs H1 hv => ?_⟩
    obtain ⟨hl, q⟩ := hv
    refine ⟨by omega, fun a ha => ⟨a, _, rfl, by simpa using hl, upd_same, fun dx H2 h1 h2 e1 e2 hk => ?_⟩⟩
    rw [upd_ne h2] at h1
    rw [List.append_nil] at e2
    refine ⟨rfl, dx, _, e1, e2, h1, q dx _ (fun b o e => ?_) (.inr ⟨dx, rfl, .inr upd_same⟩)⟩
    have n1 := ne_of_none e ha
    have n2 := ne_of_none e h1
    rw [upd_ne n2, del_ne n1, hk b n1 n2, upd_ne n1]
    exact e
  exact L2N.ps_raise hc tk mk
/-- X(), X without own __init__ -/
def tMB (C : Addr) : TE := fun _ H Q => ∀ a H2, H a = none → Same H H2 → EV [] H2 (.ref a) C [] → Q (.ref a) H2
theorem pe_mb (D : ExB X.K X.mg x C) (hg : Gl X x := by rfl) (hdb : (x == ("__debug__" : Str)) = false := by decide) : PE X (.Call (.Name x p) [] [] pos) (tMB C) :=
  ⟨fun pins s σ H Q I h => (pe_mk0 PySem.F.excBase_ValueError D.q D.gC D.k hg hdb).run pins s σ H Q I fun a ha => h a _ ha (same_upd ha) ⟨a, none, rfl, .inl (isO_ExO upd_same), .inl ⟨rfl, rfl⟩⟩⟩
/-- raise X() -/
theorem ps_rb {W : WX} (hc : X.calm = true) (tk : L2N.Takes X W) (D : ExB X.K X.mg x C) (hg : Gl X x := by rfl) (hdb : (x == ("__debug__" : Str)) = false := by decide) :
    PS X (.Raise (some (.Call (.Name x p) [] [] pos)) none pos2) (fun _ σ H => W (.ref C) none σ H) := by
  refine L2N.ps_raise (t := fun σ H Q => Q (.ref C) none H) hc tk fun pins s σ H Q I h => ?_
  refine wpAny_Call_Name_kw (ld_glob I hg D.gC ?_ hdb)
  refine PySem.W.callWith_K0 I.kIn D.k ?_
  show wpAny _ _ (call (.ref C) []) _ _ _
  obtain ⟨bm, N, nm, qn, bs, hdct, sn, sub, ab, col, dd, k0, k1, k2, k3, k5, mN, hC, hN, hni, T⟩ := exc_obj I.kIn D.q
  refine wpAny_call_exc_subT PySem.F.excBase_ValueError T hC hN hni (fun h' e hm => ?_) (by show 0 ≤ sizeLine; exact Nat.zero_le _)
  exact L2N.mk_of I hm (raises_own D.r1 D.r2) h (I.hok.gone hm.new)
end
/-! ### classes -/
/-- the exception classes of the program: cl 36 is the base of all -/
structure Cls (K : PySem.W.Frag) (cl : Nat → Addr) : Prop where
  inj : ∀ i j, i ≤ 36 → j ≤ 36 → cl i = cl j → i = j
  xf : ∀ i, i ≤ 36 → XfC K (cl i)
  ec : ∀ i, i ≤ 36 → ExcC K (cl i)
  kit : ∀ i j, i ≤ 36 → j ≤ 36 → PySem.W.kitOne K (.ref (cl i)) (.ref (cl j)) = some (decide (i = j ∨ j = 36))
  ve : ∀ i, i ≤ 36 → PySem.W.kitOne K (.ref (cl i)) (.type "ValueError") = some true
  exm : ∀ i, i ≤ 36 → PySem.W.exmOne K (.ref (cl i)) (.ref (cl 36)) = some true
  nof : ∀ i, i ≤ 36 → ∀ f ∈ fN i, PySem.W.findIn K (.ref (cl i)) f = some none
def veT : List Value := [.type "ValueError", .type "Exception", .type "BaseException", .type "object"]
/-- what the written part must say of an exception class, the base of all at CS, its fields' names ns -/
def clsB (K : PySem.W.Frag) (CS C : Addr) (ns : List Str) : Bool :=
  (match PySem.W.clsIn K C with | some cd => cd.mro == (if C == CS then .ref C :: veT else .ref C :: .ref CS :: veT) | none => false) &&
  (decide (PySem.W.typeIn K (.ref C) = some (.type "type")) && (decide (PySem.W.findIn K (.ref C) "__class__" = some (some (.builtin "object.__class__"))) && (xfB K C && ns.all fun f => decide (PySem.W.findIn K (.ref C) f = some none))))
structure ClsF (K : PySem.W.Frag) (CS C : Addr) (ns : List Str) : Prop where
  mro : ∃ cd, PySem.W.clsIn K C = some cd ∧ cd.mro = (if C = CS then .ref C :: veT else .ref C :: .ref CS :: veT)
  ty : PySem.W.typeIn K (.ref C) = some (.type "type")
  cl : PySem.W.findIn K (.ref C) "__class__" = some (some (.builtin "object.__class__"))
  xf : XfC K C
  nof : ∀ f ∈ ns, PySem.W.findIn K (.ref C) f = some none
theorem clsB_ok {K : PySem.W.Frag} {CS C : Addr} {ns : List Str} (h : clsB K CS C ns = true) : ClsF K CS C ns := by
  obtain ⟨h1, h⟩ := Bool.and_eq_true_iff.mp h
  obtain ⟨h2, h⟩ := Bool.and_eq_true_iff.mp h
  obtain ⟨h3, h⟩ := Bool.and_eq_true_iff.mp h
  obtain ⟨h4, h5⟩ := Bool.and_eq_true_iff.mp h
  refine ⟨?_, of_decide_eq_true h2, of_decide_eq_true h3, xfB_ok h4, fun f hf => of_decide_eq_true (List.all_eq_true.mp h5 f hf)⟩
  split at h1
  · rename_i cd e
    refine ⟨cd, e, ?_⟩
    have h1 := beq_iff_eq.mp h1
    rw [h1]
    by_cases hc : C = CS
    · rw [if_pos hc, if_pos (beq_iff_eq.mpr hc)]
    · rw [if_neg hc, if_neg (fun z => hc (beq_iff_eq.mp z))]
  · cases h1
section
variable {K : PySem.W.Frag} {CS C D : Addr} {ns ms : List Str}
theorem ClsF.sub (h : ClsF K CS C ns) (v : Value) : PySem.W.subIn K (.ref C) v = some ((if C = CS then Value.ref C :: veT else .ref C :: .ref CS :: veT).contains v) := by
  obtain ⟨cd, e, hm⟩ := h.mro
  show PySem.W.mroIn K C v = _
  unfold PySem.W.mroIn
  rw [e, Option.bind_some, hm]
  split <;> rfl
theorem ClsF.one (h : ClsF K CS C ns) (g : ClsF K CS D ms) : PySem.W.kitOne K (.ref C) (.ref D) = some (decide (C = D ∨ D = CS)) := by
  unfold PySem.W.kitOne
  by_cases e : C = D
  · subst e
    rw [if_pos (by simp)]
    simp
  · rw [if_neg (by simpa using e)]
    obtain ⟨cd, c1, _⟩ := g.mro
    show (if ((PySem.W.clsIn K D).isSome && PySem.W.typeIn K (.ref D) == some (.type "type")) = true then PySem.W.subIn K (.ref C) (.ref D) else none) = _
    rw [c1, g.ty, if_pos (by simp), h.sub]
    congr 1
    by_cases hc : C = CS
    · rw [if_pos hc]
      subst hc
      have e' : ¬ D = C := fun z => e z.symm
      simp [veT, e, e']
    · rw [if_neg hc]
      have e' : ¬ D = C := fun z => e z.symm
      simp [veT, e, e']
theorem ClsF.val (h : ClsF K CS C ns) : PySem.W.kitOne K (.ref C) (.type "ValueError") = some true := by
  unfold PySem.W.kitOne
  rw [if_neg (by simp)]
  show (if PySem.W.kitMeta "ValueError" = true then PySem.W.subIn K (.ref C) (.type "ValueError") else none) = _
  rw [if_pos (by decide +kernel), h.sub]
  split <;> simp [veT]
theorem ClsF.exm (h : ClsF K CS C ns) (g : ClsF K CS CS ms) : PySem.W.exmOne K (.ref C) (.ref CS) = some true := by
  have h2 := h.one g
  unfold PySem.W.exmOne
  rw [g.sub, if_pos (by simp [veT])]
  show (if ((PySem.W.clsIn K CS).isSome && PySem.W.typeIn K (.ref CS) == some (.type "type")) = true then PySem.W.subIn K (.ref C) (.ref CS) else none) = _
  obtain ⟨cd, c1, _⟩ := g.mro
  rw [c1, g.ty, if_pos (by simp), h.sub]
  split
  · rename_i e; subst e; simp
  · simp
theorem ClsF.ec (h : ClsF K CS C ns) (hn : PySem.W.specialIn K (.builtin "object.__class__") "__get__" = some (some (.builtin "getset_descriptor.__get__"))) (ht : PySem.W.takesIn K (.builtin "object.__class__") = some true) : ExcC K C :=
  ⟨h.xf.ga, h.xf.gg, h.xf.exC, h.xf.hdC, h.cl, hn, ht, by have := h.sub (.type "object"); rw [show PySem.W.subIn K (.ref C) (.type "object") = PySem.W.mroIn K C (.type "object") from rfl] at this; rw [this]; split <;> simp [veT]⟩
end
/-- all of them at once: L their addresses, the base of all last -/
def clsAllB (K : PySem.W.Frag) (L : List Addr) : Bool := (List.range 37).all fun i => clsB K (L.getD 36 0) (L.getD i 0) (fN i)
theorem cls_mk {K : PySem.W.Frag} {L : List Addr} (hl : L.length = 37) (hd : L.Nodup) (h : clsAllB K L = true) (hn : PySem.W.specialIn K (.builtin "object.__class__") "__get__" = some (some (.builtin "getset_descriptor.__get__"))) (ht : PySem.W.takesIn K (.builtin "object.__class__") = some true) :
    Cls K fun i => L.getD i 0 := by
  have F : ∀ i, i ≤ 36 → ClsF K (L.getD 36 0) (L.getD i 0) (fN i) := fun i hi => clsB_ok (List.all_eq_true.mp h i (List.mem_range.mpr (by omega)))
  have inj : ∀ i j, i ≤ 36 → j ≤ 36 → L.getD i 0 = L.getD j 0 → i = j := fun i j hi hj e => by
    have h1 : L[i]? = some (L.getD i 0) := by rw [List.getD_eq_getElem?_getD, List.getElem?_eq_getElem (by omega)]; rfl
    have h2 : L[j]? = some (L.getD j 0) := by rw [List.getD_eq_getElem?_getD, List.getElem?_eq_getElem (by omega)]; rfl
    rw [e] at h1
    exact (List.getElem?_inj (by omega) hd).mp (h1.trans h2.symm)
  refine ⟨inj, fun i hi => (F i hi).xf, fun i hi => (F i hi).ec hn ht, fun i j hi hj => ?_, fun i hi => (F i hi).val, fun i hi => (F i hi).exm (F 36 (by decide)), fun i hi => (F i hi).nof⟩
  rw [(F i hi).one (F j hj)]
  congr 1
  refine decide_eq_decide.mpr ⟨fun h => h.elim (fun e => .inl (inj i j hi hj e)) fun e => .inr (inj j 36 hj (by decide) e), fun h => h.elim (fun e => .inl (by rw [e])) fun e => .inr (by rw [e])⟩
section
variable {K : PySem.W.Frag} {pn : List (Addr × Obj)} {H : Hp} {Q : VK} {cl : Nat → Addr}
/-- isinstance(e, one of them) -/
theorem rd_isX (G : Cls K cl) {i j : Nat} {v : V} {fs : List (Str × V)} (hi : i ≤ 36) (hj : j ≤ 36) (h : EV pn H v (cl i) fs) (q : Q (.bl (decide (i = j ∨ j = 36))) H) : rIsX K pn [v, .ref (cl j)] H Q :=
  ⟨v, .ref (cl j), cl i, fs, .ref (cl j), _, rfl, h, G.ec i hi, fun u r => r, G.kit i j hi hj, q⟩
theorem rd_isV (G : Cls K cl) {i : Nat} {v : V} {fs : List (Str × V)} (hi : i ≤ 36) (h : EV pn H v (cl i) fs) (q : Q (.bl true) H) : rIsX K pn [v, .ty "ValueError"] H Q :=
  ⟨v, .ty "ValueError", cl i, fs, .type "ValueError", _, rfl, h, G.ec i hi, fun u r => r, G.ve i hi, q⟩
/-- e.f -/
theorem rd_ef (G : Cls K cl) {i : Nat} {v w : V} {f : Str} {fs : List (Str × V)} (hi : i ≤ 36) (hf : f ∈ fN i) (h : EV pn H v (cl i) fs) (l : fs.lookup f = some w) (q : Q w H) :
    ∃ (C : Addr) (fs : List (Str × V)) (w : V), XfC K C ∧ PySem.W.findIn K (.ref C) f = some none ∧ EV pn H v C fs ∧ fs.lookup f = some w ∧ Q w H := ⟨cl i, fs, w, G.xf i hi, G.nof i hi f hf, h, l, q⟩
end
end My
/-! Exs: the exception classes of the program, by name. -/
namespace My
open PySem PySem.Spec PyProof.Rows L2
structure Exs (P : Program) (w : World) (K : PySem.W.Frag) (mg : Str → Option Value) (base : Heap) (cl : Nat → Addr) : Prop where
  G : Cls K cl
  BadFormula : ExG P w K mg base "BadFormula" (cl 0) (fN 0)
  CellInUse : ExG P w K mg base "CellInUse" (cl 1) (fN 1)
  InvalidNumber : ExG P w K mg base "InvalidNumber" (cl 2) (fN 2)
  InvalidText : ExG P w K mg base "InvalidText" (cl 3) (fN 3)
  FormulaSyntax : ExG P w K mg base "FormulaSyntax" (cl 4) (fN 4)
  NotLinear : ExG P w K mg base "NotLinear" (cl 5) (fN 5)
  ZeroDivisor : ExG P w K mg base "ZeroDivisor" (cl 6) (fN 6)
  InvalidRow : ExG P w K mg base "InvalidRow" (cl 7) (fN 7)
  InvalidName : ExG P w K mg base "InvalidName" (cl 8) (fN 8)
  DuplicateCell : ExG P w K mg base "DuplicateCell" (cl 9) (fN 9)
  UnknownCell : ExG P w K mg base "UnknownCell" (cl 10) (fN 10)
  CircularCell : ExG P w K mg base "CircularCell" (cl 11) (fN 11)
  NotInput : ExG P w K mg base "NotInput" (cl 12) (fN 12)
  NotComputed : ExG P w K mg base "NotComputed" (cl 13) (fN 13)
  InvalidTable : ExG P w K mg base "InvalidTable" (cl 14) (fN 14)
  InvalidWish : ExG P w K mg base "InvalidWish" (cl 15) (fN 15)
  InvalidLimit : ExG P w K mg base "InvalidLimit" (cl 16) (fN 16)
  EmptyLimit : ExG P w K mg base "EmptyLimit" (cl 17) (fN 17)
  UnknownCondition : ExG P w K mg base "UnknownCondition" (cl 18) (fN 18)
  UnknownSide : ExG P w K mg base "UnknownSide" (cl 19) (fN 19)
  InvalidMove : ExG P w K mg base "InvalidMove" (cl 20) (fN 20)
  InvalidForm : ExG P w K mg base "InvalidForm" (cl 21) (fN 21)
  UnlikeCells : ExG P w K mg base "UnlikeCells" (cl 22) (fN 22)
  AlreadyHeld : ExG P w K mg base "AlreadyHeld" (cl 23) (fN 23)
  NotHeld : ExG P w K mg base "NotHeld" (cl 24) (fN 24)
  NoLimit : ExG P w K mg base "NoLimit" (cl 25) (fN 25)
  Refused : ExG P w K mg base "Refused" (cl 26) (fN 26)
  RolesKept : ExG P w K mg base "RolesKept" (cl 27) (fN 27)
  NoMark : ExG P w K mg base "NoMark" (cl 28) (fN 28)
  InvalidOperation : ExG P w K mg base "InvalidOperation" (cl 29) (fN 29)
  BadText : ExG P w K mg base "BadText" (cl 30) (fN 30)
  BadCommand : ExG P w K mg base "BadCommand" (cl 31) (fN 31)
  ZeroBottom : ExB K mg "ZeroBottom" (cl 32)
  InvalidWeights : ExB K mg "InvalidWeights" (cl 33)
  NothingToUndo : ExB K mg "NothingToUndo" (cl 34)
  NothingToRedo : ExB K mg "NothingToRedo" (cl 35)
  SheetError : ExB K mg "SheetError" (cl 36)
end My
/-! Pure: texts as lists of code points: numbers written and read. -/
namespace My
open PySem PySem.Spec PyProof.Rows L2
abbrev tx (l : List Nat) : Str := SX.S l
abbrev tD (l : List Nat) : PyData := .str (tx l)
abbrev dVal (l : List Nat) : Nat := NumText.digitsVal l
abbrev numL (n : Nat) : List Nat := TL.numL n
theorem tx_tl (x : Str) : x = tx (TL.tl x) := (TL.mk_tl x).symm
theorem tx_len (l : List Nat) : (tx l).length = l.length := SX.S_len l
theorem tx_cat (a b : List Nat) : tx a ++ tx b = tx (a ++ b) := SX.S_cat a b
theorem tx_cps (l : List Nat) : (tx l).cps.toList = l := rfl
/-- the ratio of two ints, as a pair without a common divisor -/
def qOf (t b : Int) : Int × Int := if b < 0 then ((0 - t) / (Int.gcd t b : Nat), (0 - b) / (Int.gcd t b : Nat)) else (t / (Int.gcd t b : Nat), b / (Int.gcd t b : Nat))
abbrev ratD (q : Int × Int) : PyData := .tuple [.int q.1, .int q.2]
def isDig (c : Nat) : Bool := decide (48 ≤ c) && decide (c ≤ 57)
def isDigL (l : List Nat) : Bool := decide (0 < l.length) && l.all isDig
theorem isDigL_iff {l : List Nat} : isDigL l = true ↔ l ≠ [] ∧ NumText.AllDigits l := by
  unfold isDigL isDig NumText.AllDigits
  rw [Bool.and_eq_true, decide_eq_true_eq, List.all_eq_true]
  simp only [Bool.and_eq_true, decide_eq_true_eq]
  rw [List.length_pos_iff]
theorem dVal_app (a b : List Nat) : dVal (a ++ b) = dVal a * 10 ^ b.length + dVal b := by
  have fold : ∀ (l : List Nat) (n : Nat), l.foldl (fun acc c => acc * 10 + (c - 48)) n = n * 10 ^ l.length + l.foldl (fun acc c => acc * 10 + (c - 48)) 0 := by
    intro l
    induction l with
    | nil => intro n; simp
    | cons c l ih =>
      intro n
      rw [List.foldl_cons, List.foldl_cons, ih, ih (0 * 10 + (c - 48)), List.length_cons, Nat.pow_succ']
      simp only [Nat.add_mul, Nat.zero_mul, Nat.zero_add, Nat.mul_assoc, Nat.add_assoc]
  unfold dVal NumText.digitsVal
  rw [List.foldl_append, fold]
theorem dVal_lt : ∀ {l : List Nat}, NumText.AllDigits l → dVal l < 10 ^ l.length
  | [], _ => by decide
  | c :: l, h => by
    have h1 := h.head
    have h2 := dVal_lt h.tail
    have e : dVal (c :: l) = dVal [c] * 10 ^ l.length + dVal l := dVal_app [c] l
    have e1 : dVal [c] = c - 48 := by simp [dVal, NumText.digitsVal]
    rw [e, e1, List.length_cons, Nat.pow_succ']
    have h3 : (c - 48) * 10 ^ l.length ≤ 9 * 10 ^ l.length := Nat.mul_le_mul_right _ (by omega)
    omega
theorem dVal_one (k : Nat) : dVal (49 :: List.replicate k 48) = 10 ^ k := by
  have e : dVal (49 :: List.replicate k 48) = dVal [49] * 10 ^ (List.replicate k 48).length + dVal (List.replicate k 48) := dVal_app [49] _
  have z : ∀ k, dVal (List.replicate k 48) = 0 := by
    intro k
    induction k with
    | zero => rfl
    | succ k ih => rw [List.replicate_succ]; exact ih
  rw [e, z, List.length_replicate, show dVal [49] = 1 from rfl]
  omega
theorem numL_split (k : Nat) : ∀ m : Nat, 10 ^ (k + 1) ≤ m → numL m = numL (m / 10 ^ (k + 1)) ++ (List.replicate (k + 1 - (numL (m % 10 ^ (k + 1))).length) 48 ++ numL (m % 10 ^ (k + 1))) := by
  induction k with
  | zero =>
    intro m h
    have h' : 10 ≤ m := by simpa using h
    have e : numL (m % 10) = [48 + m % 10] := TL.numL_lt (Nat.mod_lt _ (by decide))
    rw [Nat.zero_add, Nat.pow_one, e]
    simp
    exact TL.numL_step h'
  | succ k ih =>
    intro m h
    have h10 : 10 ≤ m := Nat.le_trans (by rw [Nat.pow_succ]; have := Nat.pow_pos (n := k + 1) (show 0 < 10 by decide); omega) h
    have h1 : 10 ^ (k + 1) ≤ m / 10 := by
      rw [Nat.le_div_iff_mul_le (by decide)]
      rw [Nat.pow_succ] at h
      exact h
    have e1 : m / 10 ^ (k + 1 + 1) = m / 10 / 10 ^ (k + 1) := by rw [Nat.div_div_eq_div_mul, Nat.pow_succ', ]
    have e2 : m % 10 ^ (k + 1 + 1) = 10 * (m / 10 % 10 ^ (k + 1)) + m % 10 := by
      rw [Nat.pow_succ', Nat.mod_mul]
      omega
    rw [show numL m = numL (m / 10) ++ [48 + m % 10] from TL.numL_step h10, ih _ h1, e1, e2]
    generalize m / 10 % 10 ^ (k + 1) = r
    have hd : m % 10 < 10 := Nat.mod_lt _ (by decide)
    generalize m % 10 = c at *
    by_cases hr : r = 0
    · subst hr
      have a1 : numL 0 = [48] := TL.numL_lt (by decide)
      have a2 : numL (10 * 0 + c) = [48 + c] := by rw [Nat.mul_zero, Nat.zero_add]; exact TL.numL_lt hd
      rw [a1, a2]
      simp [List.replicate_succ']
    · have a2 : numL (10 * r + c) = numL r ++ [48 + c] := by
        have := TL.numL_step (n := 10 * r + c) (by omega)
        rw [show (10 * r + c) / 10 = r by omega, show (10 * r + c) % 10 = c by omega] at this
        exact this
      rw [a2]
      simp only [List.length_append, List.length_cons, List.length_nil, Nat.zero_add, List.append_assoc]
      rw [show k + 1 + 1 - ((numL r).length + 1) = k + 1 - (numL r).length by omega]
/-- a text as a number without a sign -/
def readU (l : List Nat) : Option (Int × Int) :=
  match TL.par [47] [] l with
  | some (t, b) => if isDigL t = true ∧ isDigL b = true ∧ 0 < dVal b then some (qOf (dVal t) (dVal b)) else none
  | none =>
    match TL.par [46] [] l with
    | some (t, b) => if isDigL t = true ∧ isDigL b = true then some (qOf (dVal (t ++ b)) ((10 ^ b.length : Nat) : Int)) else none
    | none => if isDigL l = true then some (qOf (dVal l) 1) else none
def readR (l : List Nat) : Option (Int × Int) := if l.head? = some 45 then (readU l.tail).map fun q => qOf (-1 * q.1) (1 * q.2) else readU l
def ratL (q : Int × Int) : List Nat := (if q.1 < 0 then [45] else []) ++ numL q.1.natAbs ++ (if q.2 = 1 then [] else 47 :: numL q.2.toNat)
def optD : Option (Int × Int) → PyData
  | none => .none
  | some q => ratD q
theorem par_some {c : Nat} {l a b : List Nat} (h : TL.par [c] [] l = some (a, b)) : l = a ++ c :: b ∧ c ∉ a := by
  have gen : ∀ (l acc a b : List Nat), TL.par [c] acc l = some (a, b) → acc ++ l = a ++ c :: b ∧ (c ∉ acc → c ∉ a) := by
    intro l
    induction l with
    | nil => intro acc a b h; cases h
    | cons x l ih =>
      intro acc a b h
      by_cases e : x = c
      · subst e
        rw [TL.par_hit (by simp [TL.pre])] at h
        injection h with h
        injection h with h1 h2
        subst h1 h2
        simp
      · rw [TL.par_miss (TL.pre_of_head _ _ e)] at h
        obtain ⟨h1, h2⟩ := ih _ _ _ h
        refine ⟨by rw [← h1]; simp, fun hn => h2 ?_⟩
        intro hm
        rcases List.mem_append.mp hm with z | z
        · exact hn z
        · rw [List.mem_singleton] at z; exact e z.symm
  obtain ⟨h1, h2⟩ := gen l [] a b h
  exact ⟨by simpa using h1, h2 (by simp)⟩
theorem par_mem {c : Nat} {l : List Nat} : TL.par [c] [] l = none ↔ c ∉ l := by
  constructor
  · intro h hm
    have gen : ∀ (l acc : List Nat), c ∈ l → TL.par [c] acc l ≠ none := by
      intro l
      induction l with
      | nil => intro acc h; cases h
      | cons x l ih =>
        intro acc h
        by_cases e : x = c
        · subst e; rw [TL.par_hit (by simp [TL.pre])]; simp
        · rw [TL.par_miss (TL.pre_of_head _ _ e)]
          exact ih _ (by rcases List.mem_cons.mp h with z | z; exact absurd z.symm e; exact z)
    exact gen l [] hm h
  · intro h
    exact TL.par_none1 h
/-! ### texts -/
theorem mul_rep (c : Nat) (k : Int) : Txt.mul (tx [c]) k = tx (List.replicate k.toNat c) := by
  unfold Txt.mul
  split
  · rename_i h
    rw [show k.toNat = 0 by omega]
    rfl
  · rename_i h
    split
    · rename_i h2
      have e : k = 1 := by
        rw [Bool.or_eq_true] at h2
        rcases h2 with h2 | h2
        · exact eq_of_beq h2
        · exact absurd h2 (by simp [Str.length])
      subst e
      rfl
    · generalize k.toNat = n
      have fold : ∀ (n : Nat) (a : Array Nat), (List.replicate n (tx [c]).cps).foldl (· ++ ·) a = a ++ (List.replicate n c).toArray := by
        intro n
        induction n with
        | zero => intro a; simp
        | succ n ih =>
          intro a
          rw [List.replicate_succ, List.foldl_cons, ih, List.replicate_succ]
          apply Array.toList_inj.mp
          simp
      rw [fold]
      simp
theorem num_tx (n : Nat) : Str.ofString (toString ((n : Nat) : Int)) = tx (numL n) := SX.num_S n
theorem cut_nat (l : List Nat) (a b : Nat) : cutS (tx l) (some (a : Int)) (some (b : Int)) = tx ((l.drop a).take (b - a)) := by
  unfold cutS
  have e1 : ∀ (n d v : Nat), HT.sIx n d (some (v : Int)) = min v n := fun n d v => by
    show (if ((v : Int)) < 0 then ((v : Int) + (n : Int)).toNat else min ((v : Int)).toNat n) = _
    rw [if_neg (by omega), Int.toNat_natCast]
  rw [e1, e1, tx_len]
  show SX.S _ = SX.S _
  congr 1
  show ((l.drop (min a l.length)).take (min b l.length - min a l.length)) = _
  by_cases h : a ≤ l.length
  · rw [Nat.min_eq_left h]
    by_cases h2 : b ≤ l.length
    · rw [Nat.min_eq_left h2]
    · rw [Nat.min_eq_right (a := b) (by omega), List.take_of_length_le (by simp), List.take_of_length_le (by simp; omega)]
  · rw [Nat.min_eq_right (a := a) (by omega), List.drop_eq_nil_of_le (Nat.le_refl _), List.drop_eq_nil_of_le (by omega)]
    simp
theorem cut_from (l : List Nat) (a : Nat) : cutS (tx l) (some (a : Int)) none = tx (l.drop a) := by
  unfold cutS
  have e1 : ∀ (n d v : Nat), HT.sIx n d (some (v : Int)) = min v n := fun n d v => by
    show (if ((v : Int)) < 0 then ((v : Int) + (n : Int)).toNat else min ((v : Int)).toNat n) = _
    rw [if_neg (by omega), Int.toNat_natCast]
  rw [e1, show HT.sIx (tx l).length (tx l).length none = (tx l).length from rfl, tx_len]
  show SX.S _ = SX.S _
  congr 1
  show ((l.drop (min a l.length)).take (l.length - min a l.length)) = _
  by_cases h : a ≤ l.length
  · rw [Nat.min_eq_left h, List.take_of_length_le (by simp)]
  · rw [Nat.min_eq_right (by omega), List.drop_eq_nil_of_le (Nat.le_refl _), List.drop_eq_nil_of_le (by omega)]
    simp
theorem cut_to (l : List Nat) (a : Nat) : cutS (tx l) none (some (a : Int)) = tx (l.take a) := by
  have e : cutS (tx l) none (some (a : Int)) = cutS (tx l) (some ((0 : Nat) : Int)) (some (a : Int)) := by
    unfold cutS
    rw [show HT.sIx (tx l).length 0 none = 0 from rfl, show HT.sIx (tx l).length 0 (some ((0 : Nat) : Int)) = 0 by simp [HT.sIx]]
  rw [e, cut_nat, List.drop_zero, Nat.sub_zero]
theorem joinL_nil : ∀ ys : List (List Nat), TL.joinL [] ys = ys.flatten
  | [] => rfl
  | [x] => by simp [TL.joinL]
  | x :: y :: r => by
    show x ++ ([] ++ TL.joinL [] (y :: r)) = _
    rw [joinL_nil (y :: r)]
    simp
theorem join_flat (ys : List (List Nat)) : Txt.join (tx []) (ys.map tx) = tx ys.flatten := by rw [← joinL_nil]; exact SX.join_S [] ys
theorem join_tx (a : List Nat) (ys : List (List Nat)) : Txt.join (tx a) (ys.map tx) = tx (TL.joinL a ys) := SX.join_S a ys
theorem int_tx {l : List Nat} (h : NumText.AllDigits l) (h1 : l ≠ []) (h2 : l.length ≤ 4300) : intText? (tx l) = some ((dVal l : Nat) : Int) := intText_digits (x := tx l) h h1 (by rw [tx_len]; exact h2)
theorem lens_tx (l : List (List Nat)) : (l.map tx).map (·.length) = l.map (·.length) := SX.lens l
theorem sum_le (c : Nat) : ∀ l : List (List Nat), (∀ x ∈ l, x.length ≤ c) → (l.map List.length).sum ≤ l.length * c
  | [], _ => by simp
  | x :: l, h => by
    have h1 := h x (List.mem_cons_self ..)
    have h2 := sum_le c l fun y hy => h y (List.mem_cons_of_mem _ hy)
    rw [List.map_cons, List.sum_cons, List.length_cons, Nat.add_mul]
    omega
theorem ratL_len {q : Int × Int} (h1 : q.1.natAbs < 10 ^ 1200) (h2 : q.2.natAbs < 10 ^ 1200) : (ratL q).length ≤ 2402 := by
  have a1 : (numL q.1.natAbs).length ≤ 1200 := TL.numL_len (by decide) h1
  have a2 : (numL q.2.toNat).length ≤ 1200 := TL.numL_len (by decide) (Nat.lt_of_le_of_lt (by omega) h2)
  clear h1 h2
  unfold ratL
  split <;> split <;> simp <;> omega
theorem split_tx {a b : List Nat} (hb : b ≠ []) (hk : b.all (· < 256) = true) : Txt.split (tx a) (tx b) = (TL.spl b 0 [] a).map tx := SX.split_S hb hk
end My
/-! Shape: data that may be compared. -/
namespace My
open PySem PySem.Spec PyProof.Rows L2
/-- plain data, at most n deep -/
def sh (n : Nat) (d : PyData) : Prop := d.canLay0 = true ∧ d.depth ≤ n
def okT (l : List Nat) : Prop := ∀ c ∈ l, c < 1114112
theorem sh_none {n : Nat} : sh n .none := ⟨rfl, Nat.zero_le _⟩
theorem sh_bool {n : Nat} {b : Bool} : sh n (.bool b) := ⟨rfl, Nat.zero_le _⟩
theorem sh_int {n : Nat} {i : Int} : sh n (.int i) := ⟨rfl, Nat.zero_le _⟩
theorem sh_str {n : Nat} {l : List Nat} (h : okT l) : sh n (tD l) := by
  refine ⟨?_, Nat.zero_le _⟩
  show (tx l).cps.all (fun c => decide (c < 1114112)) = true
  rw [← Array.all_toList, List.all_eq_true]
  intro c hc
  exact decide_eq_true (h c hc)
theorem sh_all {n : Nat} : ∀ {ds : List PyData}, (∀ d ∈ ds, sh n d) → PyData.canLayAll0 ds = true ∧ PyData.depthAll ds ≤ n
  | [], _ => ⟨rfl, Nat.zero_le _⟩
  | d :: ds, h => by
    have h1 := h d (List.mem_cons_self ..)
    have h2 := sh_all fun x hx => h x (List.mem_cons_of_mem _ hx)
    refine ⟨?_, ?_⟩
    · show (d.canLay0 && PyData.canLayAll0 ds) = true
      rw [h1.1, h2.1]; rfl
    · show max d.depth (PyData.depthAll ds) ≤ n
      exact Nat.max_le.mpr ⟨h1.2, h2.2⟩
theorem sh_list {n : Nat} {ds : List PyData} (h : ∀ d ∈ ds, sh n d) : sh (n + 1) (.list ds) := ⟨(sh_all h).1, Nat.succ_le_succ (sh_all h).2⟩
theorem sh_tup {n : Nat} {ds : List PyData} (h : ∀ d ∈ ds, sh n d) : sh (n + 1) (.tuple ds) := ⟨(sh_all h).1, Nat.succ_le_succ (sh_all h).2⟩
theorem sh.mono {m n : Nat} {d : PyData} (h : sh m d) (hl : m ≤ n) : sh n d := ⟨h.1, Nat.le_trans h.2 hl⟩
theorem sh_rat {n : Nat} (q : Int × Int) : sh (n + 1) (ratD q) := sh_tup fun d hd => by
  rcases List.mem_cons.mp hd with rfl | hd
  · exact sh_int
  · rw [List.mem_singleton] at hd; subst hd; exact sh_int
theorem sh_opt {n : Nat} (q : Option (Int × Int)) : sh (n + 1) (optD q) := by cases q; exact sh_none; exact sh_rat _
theorem sh.ok {n : Nat} {d : PyData} (h : sh n d) (hn : n ≤ 64) : SeqAt.shaped d = true := by
  unfold SeqAt.shaped
  rw [h.1, decide_eq_true (Nat.le_trans h.2 hn)]; rfl
theorem sh.refl {n : Nat} {d : PyData} (h : sh n d) : PyData.eqv d d = true := SeqAt.eqv_refl d h.1
theorem eqv_str (a b : List Nat) : PyData.eqv (tD a) (tD b) = decide (a = b) := by
  show (tx a == tx b) = _
  exact SX.S_beq_eq
theorem eqv_tup (a b : List PyData) : PyData.eqv (.tuple a) (.tuple b) = PyData.eqvAll a b := rfl
theorem eqvAll_strs : ∀ a b : List (List Nat), PyData.eqvAll (a.map tD) (b.map tD) = decide (a = b)
  | [], [] => rfl
  | [], _ :: _ => rfl
  | _ :: _, [] => rfl
  | x :: a, y :: b => by
    show (PyData.eqv (tD x) (tD y) && PyData.eqvAll (a.map tD) (b.map tD)) = _
    rw [eqv_str, eqvAll_strs a b, ← Bool.decide_and]
    refine decide_eq_decide.mpr ?_
    simp
/-- words of a text bear its signs -/
theorem spl_mem {S : List Nat} : ∀ (l : List Nat) (k : Nat) (acc : List Nat), ∀ p ∈ TL.spl S k acc l, ∀ c ∈ p, c ∈ acc ∨ c ∈ l
  | [], k, acc, p, h, c, hc => by rw [TL.spl_nil] at h; rw [List.mem_singleton] at h; subst h; exact .inl hc
  | x :: r, 0, acc, p, h, c, hc => by
    by_cases hp : TL.pre S (x :: r) = true
    · rw [TL.spl_hit hp] at h
      rcases List.mem_cons.mp h with z | z
      · subst z; exact .inl hc
      · rcases spl_mem r _ _ p z c hc with q | q
        · cases q
        · exact .inr (List.mem_cons_of_mem _ q)
    · rw [TL.spl_miss (by simpa using hp)] at h
      rcases spl_mem r _ _ p h c hc with q | q
      · rcases List.mem_append.mp q with q | q
        · exact .inl q
        · rw [List.mem_singleton] at q; subst q; exact .inr (List.mem_cons_self ..)
      · exact .inr (List.mem_cons_of_mem _ q)
  | x :: r, k + 1, acc, p, h, c, hc => by
    rcases spl_mem r k acc p h c hc with q | q
    · exact .inl q
    · exact .inr (List.mem_cons_of_mem _ q)
theorem okT_spl {S l : List Nat} (h : okT l) : ∀ p ∈ TL.spl S 0 [] l, okT p := fun p hp c hc => by
  rcases spl_mem l 0 [] p hp c hc with q | q
  · cases q
  · exact h c q
end My
namespace My
open PySem PySem.Spec PyProof.Rows L2
local macro_rules | `(tactic| walk_at "sx") => `(tactic| first | (simp only [cx_K, tB, iRng1, iRng2, iRng3, iList, iTup, wAs, tXf, tDictZip, tDGet1, rInD, rInT, tChain, tUn, rU, tCallS, WE, wOnly, tSl, tPart, tNoPart, tRevL, tStepL, tM0, tM1, wipe, tYes, Bool.not_eq_true', gCons, gNil, decide_eq_false_iff_not, tCall, tPar, tAndV, tOrV, tNotV, tIf, List.append_nil, rEq, rNe, scal_ii, scal_ss, scal_bb, scal_nn, scal_in, scal_ni, scal_sn, scal_ns, scal_is, scal_si, Bool.and_true, Bool.true_and, Bool.and_false, Bool.false_and, reduceCtorEq, tLst, tTup, Int.reduceToNat, decide_true, decide_false, Bool.not_true, Bool.not_false, Bool.false_eq_true, if_true, if_false, reduceIte, gSub, tAnd, tOr, tNot, tBM, tBM0, tNext, tSeq, tAsg, tOp, rI, rI0, tVar, tC, gName, tRet, tCB, tCons, tNil, tTest, tIfS, tDrop, L2.start, List.map_cons, List.map_nil, List.length_cons, List.length_nil, List.cons_append, List.nil_append, List.replicate, List.getElem?_cons_zero, List.getElem?_cons_succ, List.set_cons_zero, List.set_cons_succ, Option.some.injEq, V.int.injEq, V.str.injEq, V.bl.injEq, V.ref.injEq, exists_eq_left', exists_eq_left, exists_and_left, exists_eq', and_assoc, List.cons.injEq, and_true, true_and, decide_eq_true_eq, Nat.reduceAdd, Nat.reduceSub]) | skip)
/-- _law_mixed(cell, k): a number from 0 to 1000000006 -/
def spMixed : Sp := fun vs H Q _ => ∃ c k : Int, vs = [.int c, .int k] ∧ 0 ≤ k ∧ k ≤ 101000000 ∧ ∀ r : Int, 0 ≤ r → r < 1000000007 → Q (.int r) H
theorem sq_le {k n : Int} (h0 : 0 ≤ k) (h : k ≤ n) : 0 ≤ k * k ∧ k * k ≤ n * n :=
  ⟨Int.mul_nonneg h0 h0, Int.mul_le_mul h h h0 (Int.le_trans h0 h)⟩
/-- the box at a: its great cells at g, what is left of the last one, its small cells at s, its count, at most n -/
structure Bx (H : Hp) (a g s : Addr) (n : Nat) : Prop where
  ex : ∃ (gr sm : List Int) (cur cnt : Int), H a = some (.lst [.ref g, .int cur, .ref s, .int cnt]) ∧ H g = some (.lst (gr.map V.int)) ∧ H s = some (.lst (sm.map V.int)) ∧ 0 ≤ cur ∧ (∀ x ∈ gr, 0 ≤ x) ∧ 0 ≤ cnt ∧ cnt ≤ n ∧ gr.length ≤ 63 ∧ sm.length ≤ 63
  ag : a ≠ g
  as : a ≠ s
  gs : g ≠ s
def spTake : Sp := fun vs H Q _ => ∃ (a g s : Addr) (n : Nat) (size : Int), vs = [.ref a, .int size] ∧ Bx H a g s n ∧ 1 ≤ size ∧ size ≤ 1000000000000000000 ∧ n ≤ 100000000 ∧
  ∀ (r : Int) (H' : Hp), 0 ≤ r → r < size → Bx H' a g s (n + 1) → SameB [a, g] H H' → Q (.int r) H'
section
variable {P : Program} {w : World} {K : PySem.W.Frag} {mg : Str → Option Value} {base : Heap}
theorem sc_mixed : FnScope ["_law_cell", "_law_k", "_law_whole"] ["_law_cell", "_law_k"] (defScope s_mixed) := ⟨rfl, rfl, rfl, by decide +kernel, rfl, by decide +kernel, by decide +kernel⟩
theorem ok_mixed (F : Dfn K mg "_law_mixed" s_mixed) : Rdy P w K mg base CX0 1 "_law_mixed" ["_law_cell", "_law_k"] spMixed := by
  refine F.rdy sc_mixed (fun _ _ _ _ _ _ us hl => match us, hl with | [_, _], _ => rfl) (fun vs H Q E h => ?_) (fun f cdv A outer s H vs Q E hr h => ?_)
  · obtain ⟨c, k, rfl, _⟩ := h; rfl
  · obtain ⟨c, k, rfl, hk0, hk1, kp⟩ := h
    refine ⟨_, (pss_cons (ps_set (i := 2) sc_mixed.nd rfl (Or.inl rfl) (pe_op op_mod (pe_op op_pow (pe_op op_add (pe_op op_add (pe_op op_add (pe_op op_mod (pv 0) pe_int) (pe_op op_mul (pe_op op_mul pe_int (pv 1)) (pv 1))) (pe_op op_mul pe_int (pv 1))) pe_int) pe_int) pe_int))
      (pss_one (ps_ret (pe_op op_mod (pe_op op_add (pe_op op_mul (pv 2) pe_int) (pe_op op_mul pe_int (pv 1))) pe_int)))), ?_⟩
    walk_at "sx"
    obtain ⟨q0, q1⟩ := sq_le hk0 hk1
    have e1 : (1009 : Int) * k * k = 1009 * (k * k) := Int.mul_assoc _ _ _
    have b1 := Int.emod_nonneg c (show (2147483647 : Int) ≠ 0 by decide)
    have b2 := Int.emod_lt_of_pos c (show (0 : Int) < 2147483647 by decide)
    rw [e1]
    generalize hx : c % 2147483647 + 1009 * (k * k) + 48611 * k + 17 = x
    generalize hy : x ^ Int.toNat 5 % 2147483647 = y
    have b3 : 0 ≤ y := by rw [← hy]; exact Int.emod_nonneg _ (by decide)
    have b4 : y < 2147483647 := by rw [← hy]; exact Int.emod_lt_of_pos _ (by decide)
    generalize hkk : k * k = kk at *
    refine ⟨by decide, .inl (by omega), .inr (by omega), .inl (by omega), ⟨by decide, by decide, by omega⟩, by decide, .inl (by omega), .inl (by omega), by decide, ?_⟩
    exact kp _ (Int.emod_nonneg _ (by decide)) (Int.emod_lt_of_pos _ (by decide))
theorem sc_take : FnScope ["_law_box_here", "_law_size", "_law_found", "_law_cell", "_law_reach"] ["_law_box_here", "_law_size"] (defScope s_take) := ⟨rfl, rfl, rfl, by decide +kernel, rfl, by decide +kernel, by decide +kernel⟩
theorem ok_take {aW aB : Addr} (T : Txt K mg aW aB) (F : Dfn K mg "_law_take" s_take) (R_mixed : Rdy P w K mg base CX0 1 "_law_mixed" ["_law_cell", "_law_k"] spMixed) : Rdy P w K mg base CX0 2 "_law_take" ["_law_box_here", "_law_size"] spTake := by
  refine F.rdy sc_take (fun _ _ _ _ _ _ us hl => match us, hl with | [_, _], _ => rfl) (fun vs H Q E h => ?_) (fun f cdv A outer s H vs Q E hr h => ?_)
  · obtain ⟨a, g, sl, n, size, rfl, _⟩ := h; rfl
  · obtain ⟨a, g, sl, n, size, rfl, ⟨⟨gr, sm, cur, cnt, ha, hg, hs, hcur, hgr, hc0, hcn, hgl, hsl⟩, nag, nas, ngs⟩, h1, h2, hn, kp⟩ := h
    refine ⟨_, (pss_cons (ps_asg (pe_op op_add (pe_ix ix_list (pv 0) pe_int (fun _ _ => rfl)) pe_int) (pg_sub (pv 0) pe_int set_list))
      (C8.pss_cut (ps_if (PW.pt (pw_and (pt_cmpR op_eq (pe_ix ix_list (pv 0) pe_int (fun _ _ => rfl)) pe_int (nomark _)) (pw_and1 (pt_cmpR op_gt (pe_callB call_len (by rfl) T.b_len PySem.boot_len (pa_cons (pe_ix ix_list (pv 0) pe_int (fun _ _ => rfl)) pa_nil)) pe_int (nomark _))))) (pss_one (ps_asg (pe_bm PySem.F.plainAttrs_list PySem.F.slot_list_pop PySem.F.type_list_pop mt_popAt (pe_ix ix_list (pv 0) pe_int (fun _ _ => rfl)) (pa_cons pe_int pa_nil)) (pg_sub (pv 0) pe_int set_list))) pss_nil)
      (pss_cons (ps_if (pt_cmpR op_gt (pe_ix ix_list (pv 0) pe_int (fun _ _ => rfl)) pe_int (nomark _)) (pss_cons (ps_set (i := 2) sc_take.nd rfl (Or.inl rfl) (pe_op op_mod (pe_ix ix_list (pv 0) pe_int (fun _ _ => rfl)) (pv 1)))
      (pss_cons (ps_asg (pe_op op_fdivW (pe_ix ix_list (pv 0) pe_int (fun _ _ => rfl)) (pv 1)) (pg_sub (pv 0) pe_int set_list))
      (pss_one (ps_ret (pv 2))))) pss_nil)
      (pss_cons (ps_set (i := 3) sc_take.nd rfl (Or.inl rfl) (pe_ix ix_list (pe_op op_cat (pe_ix ix_list (pv 0) pe_int (fun _ _ => rfl)) (pe_lst (pa_cons (pe_op op_mul pe_int (pe_ix ix_list (pv 0) pe_int (fun _ _ => rfl))) pa_nil))) (pe_op op_mod (pe_ix ix_list (pv 0) pe_int (fun _ _ => rfl)) (pe_callB (call_max2 rfl) (by rfl) T.b_max (by decide +kernel) (pa_cons pe_int (pa_cons (pe_callB call_len (by rfl) T.b_len PySem.boot_len (pa_cons (pe_ix ix_list (pv 0) pe_int (fun _ _ => rfl)) pa_nil)) pa_nil)))) (fun _ _ => rfl)))
      (pss_cons (ps_set (i := 2) sc_take.nd rfl (Or.inl rfl) pe_int)
      (pss_cons (ps_set (i := 4) sc_take.nd rfl (Or.inl rfl) pe_int)
      (pss_cons (ps_while PassesOwn.never (pt_mono (pt_cmpR op_lt (pv 4) (pv 1) (nomark _))) (pss_cons (ps_set (i := 2) sc_take.nd rfl (Or.inl rfl) (pe_op op_add (pe_op op_mul (pv 2) pe_int) (pe_cl R_mixed (hr.mono (by decide)) pass0 (pa_cons (pv 3) (pa_cons (pe_op op_add (pe_ix ix_list (pv 0) pe_int (fun _ _ => rfl)) (pe_op op_mul pe_int (pe_op op_mod (pv 2) pe_int))) pa_nil)))))
      (pss_one (ps_set (i := 4) sc_take.nd rfl (Or.inl rfl) (pe_op op_mul (pv 4) pe_int)))))
      (pss_one (ps_ret (pe_op op_mod (pv 2) (pv 1))))))))))), ?_⟩
    walk_at "sx"
    refine rd_ixL ha rfl ?_
    walk_at "sx"
    refine rd_setL ha rfl fun H1 S1 ha1 => ?_
    have hg1 := S1.at hg (by simpa using nag.symm)
    have hs1 := S1.at hs (by simpa using nas.symm)
    replace S1 : SameB [a, g] H H1 := S1.mono (by simp)
    clear ha hg hs
    obtain ⟨Mid, hM⟩ : ∃ M : L2.St → Hp → Prop, ∀ σ H2, M σ H2 ↔ (σ = [some (.ref a), some (.int size), none, none, none] ∧ ∃ (gr : List Int) (cur : Int), H2 a = some (.lst [.ref g, .int cur, .ref sl, .int (cnt + 1)]) ∧ H2 g = some (.lst (gr.map V.int)) ∧ H2 sl = some (.lst (sm.map V.int)) ∧ 0 ≤ cur ∧ (∀ x ∈ gr, 0 ≤ x) ∧ gr.length ≤ 63 ∧ SameB [a, g] H H2) := ⟨_, fun _ _ => Iff.rfl⟩
    refine ⟨Mid, ?_, fun σ H1 hmid => ?_⟩
    · clear kp
      walk_at "sx"
      refine rd_ixL ha1 rfl ?_
      walk_at "sx"
      split
      · refine rd_ixL ha1 rfl ?_
        walk_at "sx"
        refine rd_lenL (SqL.of hg1) ?_
        split
        · rename_i hl
          cases gr with
          | nil => simp at hl
          | cons z gr =>
            refine rd_ixL ha1 rfl ?_
            refine ⟨.inl ⟨rfl, _, SqL.of hg1⟩, ?_⟩
            refine rd_popAt (k := 0) (y := .int z) hg1 (by decide) (by decide) (by simp [seqIndex?]) rfl fun H2 S2 hg2 => ?_
            refine rd_setL (S2.at ha1 (by simpa using nag)) rfl fun H3 S3 ha3 => ?_
            refine (hM _ _).2 ⟨rfl, gr, z, ha3, S3.at hg2 (by simpa using nag.symm), S3.at (S2.at hs1 (by simpa using ngs.symm)) (by simpa using nas.symm), hgr z (by simp), fun x hx => hgr x (by simp [hx]), ?_, ?_⟩
            · simp only [List.length_cons] at hgl; omega
            · exact S1.trans (SameB.trans (S2.mono (by simp)) (S3.mono (by simp)))
        · exact (hM _ _).2 ⟨rfl, gr, cur, ha1, hg1, hs1, hcur, hgr, hgl, S1⟩
      · exact (hM _ _).2 ⟨rfl, gr, cur, ha1, hg1, hs1, hcur, hgr, hgl, S1⟩
    · clear ha1 hg1 hs1 hcur hgr hgl S1
      obtain ⟨rfl, gr, cur, ha, hg, hs, hcur, hgr, hgl, S1⟩ := (hM _ _).1 hmid
      walk_at "sx"
      refine rd_ixL ha rfl ?_
      walk_at "sx"
      split
      · refine rd_ixL ha rfl ?_
        walk_at "sx"
        refine ⟨h1, rd_ixL ha rfl ?_⟩
        walk_at "sx"
        refine ⟨wide_div h1 (b := 64) (by omega) (by decide) (by decide), rd_setL ha rfl fun H3 S3 ha3 => ?_⟩
        exact kp _ _ (Int.emod_nonneg _ (by omega)) (Int.emod_lt_of_pos _ (by omega)) ⟨⟨gr, sm, cur / size, cnt + 1, ha3, S3.at hg (by simpa using nag.symm), S3.at hs (by simpa using nas.symm), Int.ediv_nonneg hcur (by omega), hgr, by omega, by omega, hgl, hsl⟩, nag, nas, ngs⟩ (S1.trans (S3.mono (by simp)))
      · refine rd_ixL ha rfl (rd_ixL ha rfl ?_)
        walk_at "sx"
        refine ⟨.inl (by decide), size_le (by decide), ?_⟩
        intro p hp; generalize e3 : upd _ p _ = H3; obtain ⟨S3, hp3⟩ := new_of hp e3; clear e3
        refine rd_cat (S3 _ _ hs) hp3 (by simp; omega) fun q H4 hq S4 hq4 => ?_
        have S5 := S3.trans S4
        refine rd_ixL (S5 _ _ ha) rfl (rd_ixL (S5 _ _ ha) rfl (rd_lenL (SqL.of (S5 _ _ hs)) ?_))
        walk_at "sx"
        have hj0 : 0 ≤ (cnt + 1) % (if ((sm.map V.int).length : Int) > 1 then ((sm.map V.int).length : Int) else 1) := Int.emod_nonneg _ (by split <;> omega)
        have hj1 : (cnt + 1) % (if ((sm.map V.int).length : Int) > 1 then ((sm.map V.int).length : Int) else 1) < ((sm ++ [7 * (cnt + 1)]).length : Int) := by
          refine Int.lt_of_lt_of_le (Int.emod_lt_of_pos _ (by split <;> omega)) ?_
          simp only [List.length_map, List.length_append, List.length_cons, List.length_nil]
          split <;> omega
        obtain ⟨x, _, hx⟩ := atI_map (g := V.int) hj0 hj1
        rw [List.map_append] at hx
        refine ⟨by split <;> omega, rd_ixL hq4 hx ?_⟩
        have ha4 := S5 _ _ ha
        have hg4 := S5 _ _ hg
        have hs4 := S5 _ _ hs
        have SB : SameB [a, g] H H4 := S1.trans (.of S5)
        clear hx hj0 hj1 hq4 hp3 S3 S4 S5 hp hq ha hg hs S1
        obtain ⟨W, hW⟩ : ∃ W : Nat → L2.St → Hp → Prop, ∀ m σ H2, W m σ H2 ↔ (∃ fd rc : Int, σ = [some (.ref a), some (.int size), some (.int fd), some (.int x), some (.int rc)] ∧ H2 = H4 ∧ 0 ≤ fd ∧ 1 ≤ rc ∧ m = (size - rc).toNat) := ⟨_, fun _ _ _ => Iff.rfl⟩
        refine rd_while W (size - 1).toNat ((hW _ _ _).2 ⟨0, 1, rfl, rfl, by decide, by decide, rfl⟩) (fun m σ H2 hw => ?_)
        · obtain ⟨fd, rc, rfl, rfl, h3, h4, rfl⟩ := (hW _ _ _).1 hw
          walk_at "sx"
          split
          · refine ⟨.inr (by decide), rd_ixL ha4 rfl ?_⟩
            walk_at "sx"
            have b1 := Int.emod_nonneg fd (show (89 : Int) ≠ 0 by decide)
            have b2 := Int.emod_lt_of_pos fd (show (0 : Int) < 89 by decide)
            refine ⟨by decide, .inl (by decide), x, _, rfl, by omega, by omega, fun r h5 h6 => ?_⟩
            walk_at "sx"
            refine ⟨.inr (by decide), (size - rc * 1000000007).toNat, by omega, (hW _ _ _).2 ⟨_, _, rfl, rfl, ?_, by omega, rfl⟩⟩
            have := Int.mul_nonneg h3 (show (0 : Int) ≤ 1000000007 by decide)
            omega
          · refine ⟨h1, kp _ _ (Int.emod_nonneg _ (by omega)) (Int.emod_lt_of_pos _ (by omega)) ⟨⟨gr, sm, cur, cnt + 1, ha4, hg4, hs4, hcur, hgr, by omega, by omega, hgl, hsl⟩, nag, nas, ngs⟩ SB⟩
end
end My
namespace My
open PySem PySem.Spec PyProof.Rows L2
local macro_rules | `(tactic| walk_at "sx") => `(tactic| first | (simp only [cx_K, tB, iRng1, iRng2, iRng3, iList, iTup, wAs, tXf, tDictZip, tDGet1, rInD, rInT, tChain, tUn, rU, tCallS, WE, wOnly, tSl, tPart, tNoPart, tRevL, tStepL, tM0, tM1, wipe, tYes, Bool.not_eq_true', gCons, gNil, decide_eq_false_iff_not, tCall, tPar, tAndV, tOrV, tNotV, tIf, List.append_nil, rEq, rNe, scal_ii, scal_ss, scal_bb, scal_nn, scal_in, scal_ni, scal_sn, scal_ns, scal_is, scal_si, Bool.and_true, Bool.true_and, Bool.and_false, Bool.false_and, reduceCtorEq, tLst, tTup, Int.reduceToNat, decide_true, decide_false, Bool.not_true, Bool.not_false, Bool.false_eq_true, if_true, if_false, reduceIte, gSub, tAnd, tOr, tNot, tBM, tBM0, tNext, tSeq, tAsg, tOp, rI, rI0, tVar, tC, gName, tRet, tCB, tCons, tNil, tTest, tIfS, tDrop, L2.start, List.map_cons, List.map_nil, List.length_cons, List.length_nil, List.cons_append, List.nil_append, List.replicate, List.getElem?_cons_zero, List.getElem?_cons_succ, List.set_cons_zero, List.set_cons_succ, Option.some.injEq, V.int.injEq, V.str.injEq, V.bl.injEq, V.ref.injEq, exists_eq_left', exists_eq_left, exists_and_left, exists_eq', and_assoc, List.cons.injEq, and_true, true_and, decide_eq_true_eq, Nat.reduceAdd, Nat.reduceSub]) | skip)
local macro_rules | `(tactic| walk_at "isi") => `(tactic| first | (simp only [isi_none_int, isi_none_bool, isi_none_str, isi_none_list, isi_none_tuple, isi_bool_int, isi_bool_bool, isi_bool_str, isi_bool_list, isi_bool_tuple, isi_int_int, isi_int_bool, isi_int_str, isi_int_list, isi_int_tuple, isi_str_int, isi_str_bool, isi_str_str, isi_str_list, isi_str_tuple, isi_list_int, isi_list_bool, isi_list_str, isi_list_list, isi_list_tuple, isi_tuple_int, isi_tuple_bool, isi_tuple_str, isi_tuple_list, isi_tuple_tuple, isInt_none, isInt_bool, isInt_int, isInt_str, isInt_list, isInt_tuple]) | skip)
theorem Bx.fr {H : Hp} {a g s : Addr} {n : Nat} (h : Bx H a g s n) : Fr [a, g, s] H := by
  obtain ⟨⟨gr, sm, cur, cnt, ha, hg, hs, _⟩, _⟩ := h
  intro b hb
  simp only [List.mem_cons, List.not_mem_nil, or_false] at hb
  rcases hb with rfl | rfl | rfl
  · exact ⟨_, ha⟩
  · exact ⟨_, hg⟩
  · exact ⟨_, hs⟩
theorem Bx.same {H H' : Hp} {a g s : Addr} {n : Nat} (h : Bx H a g s n) (e : Same H H') : Bx H' a g s n := by
  obtain ⟨⟨gr, sm, cur, cnt, ha, hg, hs, hr⟩, h1, h2, h3⟩ := h
  exact ⟨⟨gr, sm, cur, cnt, e _ _ ha, e _ _ hg, e _ _ hs, hr⟩, h1, h2, h3⟩
theorem Bx.sameB {T : List Addr} {H H' : Hp} {a g s : Addr} {n : Nat} (h : Bx H a g s n) (e : SameB T H H') (na : a ∉ T) (ng : g ∉ T) (ns : s ∉ T) : Bx H' a g s n := by
  obtain ⟨⟨gr, sm, cur, cnt, ha, hg, hs, hr⟩, h1, h2, h3⟩ := h
  exact ⟨⟨gr, sm, cur, cnt, e.at ha na, e.at hg ng, e.at hs ns, hr⟩, h1, h2, h3⟩
theorem Bx.mono {H : Hp} {a g s : Addr} {m n : Nat} (h : Bx H a g s m) (hl : m ≤ n) : Bx H a g s n := by
  obtain ⟨⟨gr, sm, cur, cnt, ha, hg, hs, h1, h2, h3, h4, h5⟩, h6, h7, h8⟩ := h
  exact ⟨⟨gr, sm, cur, cnt, ha, hg, hs, h1, h2, h3, by omega, h5⟩, h6, h7, h8⟩
theorem two_in {a g s : Addr} : ∀ x ∈ [a, g], x ∈ [a, g, s] := fun x hx => by simp at hx ⊢; rcases hx with h | h <;> simp [h]
theorem SameB.d3 {H H' : Hp} {a g s : Addr} (h : SameB [a, g] H H') : Same (dl [a, g, s] H) (dl [a, g, s] H') := h.mono two_in
theorem new_not {H : Hp} {a g s : Addr} {n : Nat} {D : Addr} (h : Bx H a g s n) (hD : H D = none) : a ∉ [D] ∧ g ∉ [D] ∧ s ∉ [D] := by
  obtain ⟨⟨gr, sm, cur, cnt, ha, hg, hs, _⟩, _⟩ := h
  refine ⟨?_, ?_, ?_⟩
  · have := ne_of_none ha hD; simpa using this
  · have := ne_of_none hg hD; simpa using this
  · have := ne_of_none hs hD; simpa using this
theorem Bx.np {H : Hp} {a g s : Addr} {n : Nat} {D : Addr} (h : Bx H a g s n) (hD : H D = none) : D ∉ [a, g] := by
  obtain ⟨h1, h2, h3⟩ := new_not h hD
  intro z
  simp only [List.mem_cons, List.not_mem_nil, or_false] at h1 h2 z
  rcases z with z | z
  · exact h1 z.symm
  · exact h2 z.symm
/-- at most c takes; pre of the data given, R of what is returned -/
def spB (K : PySem.W.Frag) (c : Nat) (pre : List PyData → Prop) (R : List PyData → PyData → Prop) : Sp := fun vs H Q _ => ∃ (a g s : Addr) (n : Nat) (ws : List V) (ds : List PyData), vs = .ref a :: ws ∧ Bx H a g s n ∧ n + c ≤ 100000000 ∧ DpAll K (dl [a, g, s] H) ws ds ∧ pre ds ∧
  ∀ r v H', R ds r → SameB [a, g] H H' → Bx H' a g s (n + c) → Dp K (dl [a, g, s] H') v r → Q v H'
theorem spB_len {K : PySem.W.Frag} {c k : Nat} {pre : List PyData → Prop} {R : List PyData → PyData → Prop} (h : ∀ ds, pre ds → ds.length = k) : ∀ vs H Q E, spB K c pre R vs H Q E → vs.length = k + 1 := by
  rintro vs H Q E ⟨a, g, s, n, ws, ds, rfl, _, _, hd, hp, _⟩
  rw [List.length_cons, dps_len hd, h ds hp]
section
variable {K : PySem.W.Frag} {H : Hp} {Q : VK} {E : XK} {a g s : Addr} {n : Nat}
theorem rd_B {c : Nat} {pre : List PyData → Prop} {R : List PyData → PyData → Prop} {ws : List V} {ds : List PyData} (hB : Bx H a g s n) (hn : n + c ≤ 100000000) (hd : DpAll K (dl [a, g, s] H) ws ds) (hp : pre ds)
    (q : ∀ r v H', R ds r → SameB [a, g] H H' → Bx H' a g s (n + c) → Dp K (dl [a, g, s] H') v r → Q v H') : spB K c pre R (.ref a :: ws) H Q E := ⟨a, g, s, n, ws, ds, rfl, hB, hn, hd, hp, q⟩
theorem rd_take {size : Int} (hB : Bx H a g s n) (hn : n ≤ 100000000) (h1 : 1 ≤ size) (h2 : size ≤ 1000000000000000000) (q : ∀ (r : Int) (H' : Hp), 0 ≤ r → r < size → Bx H' a g s (n + 1) → SameB [a, g] H H' → Q (.int r) H') : spTake [.ref a, .int size] H Q E :=
  ⟨a, g, s, n, size, rfl, hB, h1, h2, hn, q⟩
end
theorem rd_take' {K : PySem.W.Frag} {H : Hp} {Q : VK} {E : XK} {a g s : Addr} {n : Nat} {size : Int} (hB : Bx H a g s n) (hn : n ≤ 100000000) (h1 : 1 ≤ size) (h2 : size ≤ 1000000000000000000) (q : ∀ (r : Int) (H' : Hp), 0 ≤ r → r < size → Bx H' a g s (n + 1) → SameB [a, g] H H' → Q (.int r) H') : spTake ([.ref a, .int size] ++ []) H Q E :=
  ⟨a, g, s, n, size, rfl, hB, h1, h2, hn, q⟩
def spBox (K : PySem.W.Frag) : Sp := fun vs H Q _ => ∃ (p : Addr) (ns : List Int), vs = [.ref p] ∧ SqL K H p (ns.map V.int) ∧ ns.length ≤ 63 ∧ ∀ (a g s : Addr) (H' : Hp), Bx H' a g s 0 → Q (.ref a) H'
section
variable {P : Program} {w : World} {K : PySem.W.Frag} {mg : Str → Option Value} {base : Heap} {aW aB : Addr}
theorem sc_box : FnScope ["_law_script", "_law_great", "_law_cell"] ["_law_script"] (defScope s_box) := ⟨rfl, rfl, rfl, by decide +kernel, rfl, by decide +kernel, by decide +kernel⟩
theorem ok_box (T : Txt K mg aW aB) (F : Dfn K mg "_law_box" s_box) : Rdy P w K mg base CX0 1 "_law_box" ["_law_script"] (spBox K) := by
  refine F.rdy sc_box (fun _ _ _ _ _ _ us hl => match us, hl with | [_], _ => rfl) (by rintro _ _ _ _ ⟨_, _, rfl, _⟩; rfl) (fun f cdv A outer s H vs Q E hr h => ?_)
  obtain ⟨p, ns, rfl, hp, hl, kp⟩ := h
  refine ⟨_, (pss_cons (ps_setLc (i := 1) (own := [("_law_cell", 2)]) (g := (gName 2)) rfl sc_box.nd rfl rfl (sw_true rfl rfl rfl (by decide +kernel)) (pi_list (pv 0)) (blkOk_by (N := ["_law_script", "_law_great", "_law_cell"]) (sc := defScope s_box) (by decide +kernel)) (fun _ _ _ _ _ => (pg_name (i := 2) sc_box.nd rfl (Or.inl rfl))) (fun _ _ _ _ _ => (pts_one (pt_cmpR op_ge (pv 2) (pe_op op_pow pe_int pe_int) (nomark _)))) (fun _ _ _ _ _ => (pv 2)))
      (pss_one (ps_ret (pe_lst (pa_cons (pv 1) (pa_cons pe_int (pa_cons (pe_lc (own := [("_law_cell", 2)]) (g := (gName 2)) rfl sc_box.nd (pi_list (pv 0)) (blkOk_by (N := ["_law_script", "_law_great", "_law_cell"]) (sc := defScope s_box) (by decide +kernel)) (fun _ _ _ _ _ => (pg_name (i := 2) sc_box.nd rfl (Or.inl rfl))) (fun _ _ _ _ _ => (pts_one (pt_cmpR op_lt (pv 2) (pe_op op_pow pe_int pe_int) (nomark _)))) (fun _ _ _ _ _ => (pv 2))) (pa_cons pe_int pa_nil)))))))), ?_⟩
  walk_at "sx"
  have hcp : CPow 10 18 := ⟨by decide, by decide, by decide⟩
  refine rd_lc fun R1 hR1 => ?_
  walk_at "sx"
  refine ⟨⟨_, hp⟩, hR1 _ _ fun D hD => lc_raw K [] no_mem walk_list Fr.nil hD (fun i ds H => ds = ((ns.take i).filter fun x => decide (10 ^ 18 ≤ x)).map PyData.int) (fun _ _ => by simp) (fun H2 sb => sb.nil.seq hp) (fun i x vals acc H1 H' hi hn hv hd hle sb fr hR hY => ?_) fun vals ds H1 hn hv hvs sb fr hle hR => ?_⟩
  · obtain ⟨rfl, hx1⟩ := hY
    rw [List.getElem?_map] at hx1
    obtain ⟨z, hz, rfl⟩ := Option.map_eq_some_iff.mp hx1
    have hzl := (List.getElem?_eq_some_iff.mp hz).1
    walk_at "sx"
    refine ⟨hcp, ?_⟩
    split
    · rename_i hc
      refine lc_put no_mem hD hn hv hd hle (by omega) sb .refl fr (.int z) fun H11 s11 f11 => ?_
      rw [hR, List.take_add_one, hz, List.filter_append]
      simp only [Option.toList_some, List.filter_cons, decide_eq_true hc, if_true, List.filter_nil, List.map_append, List.map_cons, List.map_nil]
    · rename_i hc
      refine lc_skip no_mem hn hv hd hle sb .refl fr ?_
      rw [hR, List.take_add_one, hz, List.filter_append]
      simp only [Option.toList_some, List.filter_cons, decide_eq_false hc, List.filter_nil, List.append_nil]
      simp
  · rw [List.length_map, List.take_length] at hR
    rw [hR] at hvs
    obtain rfl := dps_ints hvs
    have S1 := sb.nil
    refine rd_lc fun R2 hR2 => ?_
    walk_at "sx"
    refine ⟨⟨_, S1.seq hp⟩, hR2 _ _ fun D2 hD2 => lc_raw K [] no_mem walk_list Fr.nil hD2 (fun i ds H => ds = ((ns.take i).filter fun x => decide (x < 10 ^ 18)).map PyData.int) (fun _ _ => by simp) (fun H2 sb => sb.nil.seq (S1.seq hp)) (fun i x vals acc H3 H' hi hn hv hd hle sb fr hR hY => ?_) fun vals2 ds2 H2 hn2 hv2 hvs2 sb2 fr2 hle2 hR2 => ?_⟩
    · obtain ⟨rfl, hx1⟩ := hY
      rw [List.getElem?_map] at hx1
      obtain ⟨z, hz, rfl⟩ := Option.map_eq_some_iff.mp hx1
      have hzl := (List.getElem?_eq_some_iff.mp hz).1
      walk_at "sx"
      refine ⟨hcp, ?_⟩
      split
      · rename_i hc
        refine lc_put no_mem hD2 hn hv hd hle (by omega) sb .refl fr (.int z) fun H11 s11 f11 => ?_
        rw [hR, List.take_add_one, hz, List.filter_append]
        simp only [Option.toList_some, List.filter_cons, decide_eq_true hc, if_true, List.filter_nil, List.map_append, List.map_cons, List.map_nil]
      · rename_i hc
        refine lc_skip no_mem hn hv hd hle sb .refl fr ?_
        rw [hR, List.take_add_one, hz, List.filter_append]
        simp only [Option.toList_some, List.filter_cons, decide_eq_false hc, List.filter_nil, List.append_nil]
        simp
    · rw [List.length_map, List.take_length] at hR2
      rw [hR2] at hvs2
      obtain rfl := dps_ints hvs2
      have S2 := sb2.nil
      refine ⟨size_le (by decide), ?_⟩
      intro a ha; generalize e3 : upd _ a _ = H3
      obtain ⟨S3, ha3⟩ := new_of ha e3
      have hg2 := S2 _ _ hv
      refine kp a D D2 H3 ⟨⟨_, _, 0, 0, ha3, S3 _ _ hg2, S3 _ _ hv2, Int.le_refl _, fun x hx => ?_, Int.le_refl _, Int.le_refl _, ?_, ?_⟩, (ne_of_none hg2 ha).symm, (ne_of_none hv2 ha).symm, ?_⟩
      · have := (List.mem_filter.mp hx).2
        have := of_decide_eq_true this
        omega
      · exact Nat.le_trans (List.length_filter_le ..) hl
      · exact Nat.le_trans (List.length_filter_le ..) hl
      · rintro rfl
        rw [hv] at hD2
        cases hD2
end
end My
namespace My
open PySem PySem.Spec PyProof.Rows L2
local macro_rules | `(tactic| walk_at "sx") => `(tactic| first | (simp only [cx_K, cx_pn, cxh_pn, cxh_K, tB, iRng1, iRng2, iRng3, iList, iTup, wAs, tXf, tDictZip, tDGet1, rInD, rInT, tChain, tUn, rU, tCallS, WE, wOnly, tSl, tPart, tNoPart, tRevL, tStepL, tM0, tM1, wipe, tYes, Bool.not_eq_true', gCons, gNil, decide_eq_false_iff_not, tCall, tPar, tAndV, tOrV, tNotV, tIf, List.append_nil, rEq, rNe, scal_ii, scal_ss, scal_bb, scal_nn, scal_in, scal_ni, scal_sn, scal_ns, scal_is, scal_si, Bool.and_true, Bool.true_and, Bool.and_false, Bool.false_and, reduceCtorEq, tLst, tTup, Int.reduceToNat, decide_true, decide_false, Bool.not_true, Bool.not_false, Bool.false_eq_true, if_true, if_false, reduceIte, gSub, tAnd, tOr, tNot, tBM, tBM0, tNext, tSeq, tAsg, tOp, rI, rI0, tVar, tC, gName, tRet, tCB, tCons, tNil, tTest, tIfS, tDrop, L2.start, List.map_cons, List.map_nil, List.length_cons, List.length_nil, List.cons_append, List.nil_append, List.replicate, List.getElem?_cons_zero, List.getElem?_cons_succ, List.set_cons_zero, List.set_cons_succ, Option.some.injEq, V.int.injEq, V.str.injEq, V.bl.injEq, V.ref.injEq, exists_eq_left', exists_eq_left, exists_and_left, exists_eq', and_assoc, List.cons.injEq, and_true, true_and, decide_eq_true_eq, Nat.reduceAdd, Nat.reduceSub]) | skip)
local macro_rules | `(tactic| walk_at "isi") => `(tactic| first | (simp only [isi_none_int, isi_none_bool, isi_none_str, isi_none_list, isi_none_tuple, isi_bool_int, isi_bool_bool, isi_bool_str, isi_bool_list, isi_bool_tuple, isi_int_int, isi_int_bool, isi_int_str, isi_int_list, isi_int_tuple, isi_str_int, isi_str_bool, isi_str_str, isi_str_list, isi_str_tuple, isi_list_int, isi_list_bool, isi_list_str, isi_list_list, isi_list_tuple, isi_tuple_int, isi_tuple_bool, isi_tuple_str, isi_tuple_list, isi_tuple_tuple, isInt_none, isInt_bool, isInt_int, isInt_str, isInt_list, isInt_tuple]) | skip)
def things : List PyData := [.str "", .str "a", .int 0, .bool true, .none, .tuple [], .tuple [.str "a", .int 1], .list [.int 1, .str "b"], .int (-3), .int (10 ^ 29), .tuple [.int 1, .tuple [.str "a"]], .str "abcdefgh i"]
def spThing (K : PySem.W.Frag) : Sp := fun vs H Q _ => ∃ (a g s : Addr) (n : Nat), vs = [.ref a] ∧ Bx H a g s n ∧ n + 1 ≤ 100000000 ∧
  ∀ r v H', r ∈ things → SameB [a, g] H H' → Bx H' a g s (n + 1) → (∀ S, Fr S H → (∀ x ∈ [a, g], x ∈ S) → Dp K (dl S H') v r) → Q v H'
section
variable {P : Program} {w : World} {K : PySem.W.Frag} {mg : Str → Option Value} {base : Heap} {aW aB : Addr}
theorem sc_thing : FnScope ["_law_box_here", "_law_some"] ["_law_box_here"] (defScope s_thing) := ⟨rfl, rfl, rfl, by decide +kernel, rfl, by decide +kernel, by decide +kernel⟩
theorem ok_thing (T : Txt K mg aW aB) (F : Dfn K mg "_law_thing" s_thing) (R_take : Rdy P w K mg base CX0 2 "_law_take" ["_law_box_here", "_law_size"] spTake) : Rdy P w K mg base CX0 3 "_law_thing" ["_law_box_here"] (spThing K) := by
  refine F.rdy sc_thing (fun _ _ _ _ _ _ us hl => match us, hl with | [_], _ => rfl) (by rintro _ _ _ _ ⟨_, _, _, _, rfl, _⟩; rfl) (fun f cdv A outer s H vs Q E hr h => ?_)
  obtain ⟨a, g, s', n, rfl, hB, hn, kp⟩ := h
  refine ⟨_, (pss_cons (ps_set (i := 1) sc_thing.nd rfl (Or.inl rfl) (pe_lst (pa_cons pe_str (pa_cons pe_str (pa_cons pe_int (pa_cons pe_bl (pa_cons pe_non (pa_cons (pe_tup pa_nil) (pa_cons (pe_tup (pa_cons pe_str (pa_cons pe_int pa_nil))) (pa_cons (pe_lst (pa_cons pe_int (pa_cons pe_str pa_nil))) (pa_cons (pe_un un_neg pe_int) (pa_cons (pe_op op_pow pe_int pe_int) (pa_cons (pe_tup (pa_cons pe_int (pa_cons (pe_tup (pa_cons pe_str pa_nil)) pa_nil))) (pa_cons pe_str pa_nil))))))))))))))
      (pss_one (ps_ret (pe_ix ix_list (pv 1) (pe_cl R_take (hr.mono (by decide)) pass0 (pa_cons (pv 0) (pa_cons pe_int pa_nil))) (fun _ _ => rfl))))), ?_⟩
  walk_at "sx"
  refine ⟨size_le (by decide), ?_⟩
  intro p1 h1; generalize e1 : upd _ p1 _ = H1
  have S1 := (new_of h1 e1).1
  refine ⟨size_le (by decide), ?_⟩
  intro p2 h2; generalize e2 : upd _ p2 _ = H2
  have S2 := (new_of h2 e2).1
  refine ⟨size_le (by decide), ?_⟩
  intro p3 h3; generalize e3 : upd _ p3 _ = H3
  have S3 := (new_of h3 e3).1
  refine ⟨⟨by decide, by decide, by decide⟩, size_le (by decide), ?_⟩
  intro p4 h4; generalize e4 : upd _ p4 _ = H4
  have S4 := (new_of h4 e4).1
  refine ⟨size_le (by decide), ?_⟩
  intro p5 h5; generalize e5 : upd _ p5 _ = H5
  have S5 := (new_of h5 e5).1
  refine ⟨size_le (by decide), ?_⟩
  intro p6 h6; generalize e6 : upd _ p6 _ = H6
  obtain ⟨S6, hp6⟩ := new_of h6 e6
  have S06 : Same H H6 := ((((S1.trans S2).trans S3).trans S4).trans S5).trans S6
  refine rd_take (hB.same S06) (by omega) (by decide) (by decide) fun k H7 k0 k1 B7 S7 => ?_
  have all : ∀ S, Fr S H → DpAll K (dl S H6) [V.str (Str.ofString ""), V.str (Str.ofString "a"), V.int 0, V.bl true, V.non, V.ref p1, V.ref p2, V.ref p3, V.int (-3), V.int (10 ^ 29), V.ref p5, V.str (Str.ofString "abcdefgh i")] things := by
    intro S hF
    obtain ⟨_, F1, d1⟩ := new_tup (K := K) hF h1 e1 .nil
    obtain ⟨_, F2, d2⟩ := new_tup (K := K) F1 h2 e2 (.cons (.str _) (.cons (.int _) .nil))
    obtain ⟨_, F3, d3⟩ := new_lst (K := K) F2 h3 e3 (.cons (.int _) (.cons (.str _) .nil))
    obtain ⟨_, F4, d4⟩ := new_tup (K := K) F3 h4 e4 (.cons (.str _) .nil)
    obtain ⟨_, F5, d5⟩ := new_tup (K := K) F4 h5 e5 (.cons (.int _) (.cons d4 .nil))
    have s5 := dl_same (S := S) S6
    have s4 := (dl_same (S := S) (S4.trans S5)).trans s5
    have s3 := (dl_same (S := S) S3).trans s4
    have s2 := (dl_same (S := S) S2).trans s3
    exact .cons (.str _) (.cons (.str _) (.cons (.int _) (.cons (.bl _) (.cons .non (.cons (dp_same s2 d1) (.cons (dp_same s3 d2) (.cons (dp_same s4 d3) (.cons (.int _) (.cons (.int _) (.cons (dp_same s5 d5) (.cons (.str _) .nil)))))))))))
  have hp7 := S7.at hp6 ((hB.same (((((S1.trans S2).trans S3).trans S4).trans S5))).np h6)
  obtain ⟨v, hv, hv'⟩ := atI_lt (xs := [V.str (Str.ofString ""), V.str (Str.ofString "a"), V.int 0, V.bl true, V.non, V.ref p1, V.ref p2, V.ref p3, V.int (-3), V.int (10 ^ 29), V.ref p5, V.str (Str.ofString "abcdefgh i")]) k0 (by simpa using k1)
  obtain ⟨d, hd1, _⟩ := dps_get (all _ hB.fr) hv'
  refine rd_ixL hp7 hv ?_
  refine kp d v H7 (List.mem_of_getElem? hd1) ((SameB.of S06).trans S7) B7 fun S hF hS => ?_
  obtain ⟨d', hd1', hd2⟩ := dps_get (all S hF) hv'
  rw [hd1] at hd1'
  cases hd1'
  exact dp_same (S7.mono hS) hd2
end
end My
namespace My
open PySem PySem.Spec PyProof.Rows L2
local macro_rules | `(tactic| walk_at "sx") => `(tactic| first | (simp only [cx_K, cx_pn, cxh_pn, cxh_K, tB, iRng1, iRng2, iRng3, iList, iTup, wAs, tXf, tDictZip, tDGet1, rInD, rInT, tChain, tUn, rU, tCallS, WE, wOnly, tSl, tPart, tNoPart, tRevL, tStepL, tM0, tM1, wipe, tYes, Bool.not_eq_true', gCons, gNil, decide_eq_false_iff_not, tCall, tPar, tAndV, tOrV, tNotV, tIf, List.append_nil, rEq, rNe, scal_ii, scal_ss, scal_bb, scal_nn, scal_in, scal_ni, scal_sn, scal_ns, scal_is, scal_si, Bool.and_true, Bool.true_and, Bool.and_false, Bool.false_and, reduceCtorEq, tLst, tTup, Int.reduceToNat, decide_true, decide_false, Bool.not_true, Bool.not_false, Bool.false_eq_true, if_true, if_false, reduceIte, gSub, tAnd, tOr, tNot, tBM, tBM0, tNext, tSeq, tAsg, tOp, rI, rI0, tVar, tC, gName, tRet, tCB, tCons, tNil, tTest, tIfS, tDrop, L2.start, List.map_cons, List.map_nil, List.length_cons, List.length_nil, List.cons_append, List.nil_append, List.replicate, List.getElem?_cons_zero, List.getElem?_cons_succ, List.set_cons_zero, List.set_cons_succ, Option.some.injEq, V.int.injEq, V.str.injEq, V.bl.injEq, V.ref.injEq, exists_eq_left', exists_eq_left, exists_and_left, exists_eq', and_assoc, List.cons.injEq, and_true, true_and, decide_eq_true_eq, Nat.reduceAdd, Nat.reduceSub]) | skip)
local macro_rules | `(tactic| walk_at "isi") => `(tactic| first | (simp only [isi_none_int, isi_none_bool, isi_none_str, isi_none_list, isi_none_tuple, isi_bool_int, isi_bool_bool, isi_bool_str, isi_bool_list, isi_bool_tuple, isi_int_int, isi_int_bool, isi_int_str, isi_int_list, isi_int_tuple, isi_str_int, isi_str_bool, isi_str_str, isi_str_list, isi_str_tuple, isi_list_int, isi_list_bool, isi_list_str, isi_list_list, isi_list_tuple, isi_tuple_int, isi_tuple_bool, isi_tuple_str, isi_tuple_list, isi_tuple_tuple, isInt_none, isInt_bool, isInt_int, isInt_str, isInt_list, isInt_tuple]) | skip)
def spMade (cl : Nat → Addr) (m : Nat) : Sp := fun vs H Q _ => ∃ (i : Nat) (x y z : V), vs = [.int i, x, y, z] ∧ i < m ∧ ∀ a H2, Same H H2 → EV [] H2 (.ref a) (cl i) (flds (fN i) [x, y, z]) → Q (.ref a) H2
/-- the first exceptions are made -/
def Md (cl : Nat → Addr) (x y z : V) (H : Hp) (n : Nat) (xs : List V) : Prop := xs.length = n ∧ ∀ i v, xs[i]? = some v → EV [] H v (cl i) (flds (fN i) [x, y, z])
section
variable {cl : Nat → Addr} {x y z k : V} {r : L2.St} {H : Hp} {Q : VK} {n i : Nat} {xs : List V}
theorem Md.same {H' : Hp} (h : Md cl x y z H n xs) (s : Same H H') : Md cl x y z H' n xs := ⟨h.1, fun i v e => (h.2 i v e).same s⟩
theorem Md.snoc {v : V} (h : Md cl x y z H n xs) (e : EV [] H v (cl n) (flds (fN n) [x, y, z])) : Md cl x y z H (n + 1) (xs ++ [v]) := by
  obtain ⟨h1, h2⟩ := h
  refine ⟨by simp [h1], fun i u hu => ?_⟩
  by_cases hi : i < xs.length
  · rw [List.getElem?_append_left hi] at hu
    exact h2 i u hu
  · have hl := (List.getElem?_eq_some_iff.mp hu).1
    rw [List.length_append, List.length_cons, List.length_nil] at hl
    have : i = n := by omega
    subst this
    rw [List.getElem?_append_right (by omega), h1, Nat.sub_self] at hu
    cases hu
    exact e
theorem md_cons2 {v0 v1 : V} (e0 : EV [] H v0 (cl 0) (flds (fN 0) [x, y, z])) (e1 : EV [] H v1 (cl 1) (flds (fN 1) [x, y, z])) : Md cl x y z H 2 [v0, v1] :=
  Md.snoc (xs := [v0]) (Md.snoc (xs := []) ⟨rfl, fun i v e => by simp at e⟩ e0) e1
theorem md_cons3 {v0 v1 v2 : V} (e0 : EV [] H v0 (cl 0) (flds (fN 0) [x, y, z])) (e1 : EV [] H v1 (cl 1) (flds (fN 1) [x, y, z])) (e2 : EV [] H v2 (cl 2) (flds (fN 2) [x, y, z])) : Md cl x y z H 3 [v0, v1, v2] :=
  Md.snoc (xs := [v0, v1]) (md_cons2 e0 e1) e2
theorem mk3 (q : ∀ a H2, H a = none → Same H H2 → EV [] H2 (.ref a) (cl 0) (flds (fN 0) [x, y, z]) → Q (.ref a) H2) : tMX (cl 0) (fN 0) (tCons (tVar 1) (tCons (tVar 2) (tCons (tVar 3) tNil))) (some k :: some x :: some y :: some z :: r) H Q :=
  ⟨_, rfl, _, rfl, _, rfl, rfl, q⟩
theorem mk2 (q : ∀ a H2, H a = none → Same H H2 → EV [] H2 (.ref a) (cl 1) (flds (fN 1) [x, y, z]) → Q (.ref a) H2) : tMX (cl 1) (fN 1) (tCons (tVar 1) (tCons (tVar 2) tNil)) (some k :: some x :: some y :: some z :: r) H Q :=
  ⟨_, rfl, _, rfl, rfl, q⟩
theorem flds1 (hn : (fN i).length = 1) : flds (fN i) [x] = flds (fN i) [x, y, z] := by
  unfold flds
  match fN i, hn with
  | [f], _ => rfl
theorem mk1 (hn : (fN i).length = 1) (q : ∀ a H2, H a = none → Same H H2 → EV [] H2 (.ref a) (cl i) (flds (fN i) [x, y, z]) → Q (.ref a) H2) : tMX (cl i) (fN i) (tCons (tVar 1) tNil) (some k :: some x :: some y :: some z :: r) H Q :=
  ⟨_, rfl, by rw [hn]; rfl, fun a H2 h s e => q a H2 h s (by rw [← flds1 hn]; exact e)⟩
theorem mkB {σ : L2.St} (q : ∀ a H2, H a = none → Same H H2 → EV [] H2 (.ref a) (cl i) [] → Q (.ref a) H2) : tMB (cl i) σ H Q := q
end
section
variable {P : Program} {w : World} {K : PySem.W.Frag} {mg : Str → Option Value} {base : Heap} {aW aB : Addr} {cl : Nat → Addr}
theorem sc_made : FnScope ["_law_way", "_law_first", "_law_second", "_law_third", "_law_made_here"] ["_law_way", "_law_first", "_law_second", "_law_third"] (defScope s_made) := ⟨rfl, rfl, rfl, by decide +kernel, rfl, by decide +kernel, by decide +kernel⟩
theorem ok_made (T : Txt K mg aW aB) (X : Exs P w K mg base cl) (F : Dfn K mg "_law_made" s_made) : Rdy P w K mg base CX0 3 "_law_made" ["_law_way", "_law_first", "_law_second", "_law_third"] (spMade cl 36) := by
  refine F.rdy sc_made (fun _ _ _ _ _ _ us hl => match us, hl with | [_, _, _, _], _ => rfl) (by rintro _ _ _ _ ⟨_, _, _, _, rfl, _⟩; rfl) (fun f cdv A outer s H vs Q E hr h => ?_)
  obtain ⟨i, x, y, z, rfl, hi, kp⟩ := h
  refine ⟨_, (pss_cons (ps_set (i := 4) sc_made.nd rfl (Or.inl rfl) (pe_lst (pa_cons (pe_mx X.BadFormula (hr.mono (by decide)) (pa_cons (pv 1) (pa_cons (pv 2) (pa_cons (pv 3) pa_nil)))) (pa_cons (pe_mx X.CellInUse (hr.mono (by decide)) (pa_cons (pv 1) (pa_cons (pv 2) pa_nil))) (pa_cons (pe_mx X.InvalidNumber (hr.mono (by decide)) (pa_cons (pv 1) pa_nil)) pa_nil)))))
      (pss_cons (ps_set (i := 4) sc_made.nd rfl (Or.inl rfl) (pe_op op_cat (pv 4) (pe_lst (pa_cons (pe_mx X.InvalidText (hr.mono (by decide)) (pa_cons (pv 1) pa_nil)) (pa_cons (pe_mx X.FormulaSyntax (hr.mono (by decide)) (pa_cons (pv 1) pa_nil)) (pa_cons (pe_mx X.NotLinear (hr.mono (by decide)) (pa_cons (pv 1) pa_nil)) (pa_cons (pe_mx X.ZeroDivisor (hr.mono (by decide)) (pa_cons (pv 1) pa_nil)) pa_nil)))))))
      (pss_cons (ps_set (i := 4) sc_made.nd rfl (Or.inl rfl) (pe_op op_cat (pv 4) (pe_lst (pa_cons (pe_mx X.InvalidRow (hr.mono (by decide)) (pa_cons (pv 1) pa_nil)) (pa_cons (pe_mx X.InvalidName (hr.mono (by decide)) (pa_cons (pv 1) pa_nil)) (pa_cons (pe_mx X.DuplicateCell (hr.mono (by decide)) (pa_cons (pv 1) pa_nil)) (pa_cons (pe_mx X.UnknownCell (hr.mono (by decide)) (pa_cons (pv 1) pa_nil)) pa_nil)))))))
      (pss_cons (ps_set (i := 4) sc_made.nd rfl (Or.inl rfl) (pe_op op_cat (pv 4) (pe_lst (pa_cons (pe_mx X.CircularCell (hr.mono (by decide)) (pa_cons (pv 1) pa_nil)) (pa_cons (pe_mx X.NotInput (hr.mono (by decide)) (pa_cons (pv 1) pa_nil)) (pa_cons (pe_mx X.NotComputed (hr.mono (by decide)) (pa_cons (pv 1) pa_nil)) (pa_cons (pe_mx X.InvalidTable (hr.mono (by decide)) (pa_cons (pv 1) pa_nil)) pa_nil)))))))
      (pss_cons (ps_set (i := 4) sc_made.nd rfl (Or.inl rfl) (pe_op op_cat (pv 4) (pe_lst (pa_cons (pe_mx X.InvalidWish (hr.mono (by decide)) (pa_cons (pv 1) pa_nil)) (pa_cons (pe_mx X.InvalidLimit (hr.mono (by decide)) (pa_cons (pv 1) pa_nil)) (pa_cons (pe_mx X.EmptyLimit (hr.mono (by decide)) (pa_cons (pv 1) pa_nil)) (pa_cons (pe_mx X.UnknownCondition (hr.mono (by decide)) (pa_cons (pv 1) pa_nil)) pa_nil)))))))
      (pss_cons (ps_set (i := 4) sc_made.nd rfl (Or.inl rfl) (pe_op op_cat (pv 4) (pe_lst (pa_cons (pe_mx X.UnknownSide (hr.mono (by decide)) (pa_cons (pv 1) pa_nil)) (pa_cons (pe_mx X.InvalidMove (hr.mono (by decide)) (pa_cons (pv 1) pa_nil)) (pa_cons (pe_mx X.InvalidForm (hr.mono (by decide)) (pa_cons (pv 1) pa_nil)) (pa_cons (pe_mx X.UnlikeCells (hr.mono (by decide)) (pa_cons (pv 1) pa_nil)) pa_nil)))))))
      (pss_cons (ps_set (i := 4) sc_made.nd rfl (Or.inl rfl) (pe_op op_cat (pv 4) (pe_lst (pa_cons (pe_mx X.AlreadyHeld (hr.mono (by decide)) (pa_cons (pv 1) pa_nil)) (pa_cons (pe_mx X.NotHeld (hr.mono (by decide)) (pa_cons (pv 1) pa_nil)) (pa_cons (pe_mx X.NoLimit (hr.mono (by decide)) (pa_cons (pv 1) pa_nil)) (pa_cons (pe_mx X.Refused (hr.mono (by decide)) (pa_cons (pv 1) pa_nil)) (pa_cons (pe_mx X.RolesKept (hr.mono (by decide)) (pa_cons (pv 1) pa_nil)) pa_nil))))))))
      (pss_cons (ps_set (i := 4) sc_made.nd rfl (Or.inl rfl) (pe_op op_cat (pv 4) (pe_lst (pa_cons (pe_mx X.NoMark (hr.mono (by decide)) (pa_cons (pv 1) pa_nil)) (pa_cons (pe_mx X.InvalidOperation (hr.mono (by decide)) (pa_cons (pv 1) pa_nil)) (pa_cons (pe_mx X.BadText (hr.mono (by decide)) (pa_cons (pv 1) pa_nil)) (pa_cons (pe_mx X.BadCommand (hr.mono (by decide)) (pa_cons (pv 1) pa_nil)) (pa_cons (pe_mb X.ZeroBottom) pa_nil))))))))
      (pss_cons (ps_set (i := 4) sc_made.nd rfl (Or.inl rfl) (pe_op op_cat (pv 4) (pe_lst (pa_cons (pe_mb X.InvalidWeights) (pa_cons (pe_mb X.NothingToUndo) (pa_cons (pe_mb X.NothingToRedo) pa_nil))))))
      (pss_one (ps_ret (pe_ix ix_list (pv 4) (pv 0) (fun _ _ => rfl))))))))))))), ?_⟩
  walk_at "sx"
  refine mk3 fun a0 H0 _ s0 v0 => mk2 fun a1 H1 _ s1 v1 => mk1 rfl fun a2 H2 _ s2 v2 => ⟨size_le (by decide), ?_⟩
  intro g0 ng0; generalize eg0 : upd _ g0 _ = Kg0; obtain ⟨sg0, hg0⟩ := new_of ng0 eg0; clear eg0
  have M0 : Md cl x y z Kg0 3 [V.ref a0, V.ref a1, V.ref a2] := by
    refine md_cons3 (v0.same (s1.trans (s2.trans sg0))) (v1.same (s2.trans sg0)) (v2.same sg0)
  have S0 : Same H Kg0 := s0.trans (s1.trans (s2.trans sg0))
  have L0 := hg0
  clear v0 v1 v2 hg0
  refine mk1 rfl fun a3 H3 _ s3 v3 => mk1 rfl fun a4 H4 _ s4 v4 => mk1 rfl fun a5 H5 _ s5 v5 => mk1 rfl fun a6 H6 _ s6 v6 => ⟨size_le (by decide), ?_⟩
  intro g1 ng1; generalize eg1 : upd _ g1 _ = Kg1; obtain ⟨sg1, hg1⟩ := new_of ng1 eg1; clear eg1
  have tt : Same Kg0 Kg1 := s3.trans (s4.trans (s5.trans (s6.trans sg1)))
  have M1 := (Md.snoc (Md.snoc (Md.snoc (Md.snoc (M0.same tt) (v3.same (s4.trans (s5.trans (s6.trans sg1))))) (v4.same (s5.trans (s6.trans sg1)))) (v5.same (s6.trans sg1))) (v6.same sg1))
  refine rd_cat (tt _ _ L0) hg1 (by rw [M0.1]; simp) fun r1 R1 _ u1 L1 => ?_
  replace M1 := M1.same u1
  have S1 := (S0.trans tt).trans u1
  simp only [List.append_assoc, List.cons_append, List.nil_append] at M1 L1
  clear tt L0 M0 S0 hg1 v3 v4 v5 v6
  refine mk1 rfl fun a7 H7 _ s7 v7 => mk1 rfl fun a8 H8 _ s8 v8 => mk1 rfl fun a9 H9 _ s9 v9 => mk1 rfl fun a10 H10 _ s10 v10 => ⟨size_le (by decide), ?_⟩
  intro g2 ng2; generalize eg2 : upd _ g2 _ = Kg2; obtain ⟨sg2, hg2⟩ := new_of ng2 eg2; clear eg2
  have tt : Same R1 Kg2 := s7.trans (s8.trans (s9.trans (s10.trans sg2)))
  have M2 := (Md.snoc (Md.snoc (Md.snoc (Md.snoc (M1.same tt) (v7.same (s8.trans (s9.trans (s10.trans sg2))))) (v8.same (s9.trans (s10.trans sg2)))) (v9.same (s10.trans sg2))) (v10.same sg2))
  refine rd_cat (tt _ _ L1) hg2 (by rw [M1.1]; simp) fun r2 R2 _ u2 L2 => ?_
  replace M2 := M2.same u2
  have S2 := (S1.trans tt).trans u2
  simp only [List.append_assoc, List.cons_append, List.nil_append] at M2 L2
  clear tt L1 M1 S1 hg2 v7 v8 v9 v10
  refine mk1 rfl fun a11 H11 _ s11 v11 => mk1 rfl fun a12 H12 _ s12 v12 => mk1 rfl fun a13 H13 _ s13 v13 => mk1 rfl fun a14 H14 _ s14 v14 => ⟨size_le (by decide), ?_⟩
  intro g3 ng3; generalize eg3 : upd _ g3 _ = Kg3; obtain ⟨sg3, hg3⟩ := new_of ng3 eg3; clear eg3
  have tt : Same R2 Kg3 := s11.trans (s12.trans (s13.trans (s14.trans sg3)))
  have M3 := (Md.snoc (Md.snoc (Md.snoc (Md.snoc (M2.same tt) (v11.same (s12.trans (s13.trans (s14.trans sg3))))) (v12.same (s13.trans (s14.trans sg3)))) (v13.same (s14.trans sg3))) (v14.same sg3))
  refine rd_cat (tt _ _ L2) hg3 (by rw [M2.1]; simp) fun r3 R3 _ u3 L3 => ?_
  replace M3 := M3.same u3
  have S3 := (S2.trans tt).trans u3
  simp only [List.append_assoc, List.cons_append, List.nil_append] at M3 L3
  clear tt L2 M2 S2 hg3 v11 v12 v13 v14
  refine mk1 rfl fun a15 H15 _ s15 v15 => mk1 rfl fun a16 H16 _ s16 v16 => mk1 rfl fun a17 H17 _ s17 v17 => mk1 rfl fun a18 H18 _ s18 v18 => ⟨size_le (by decide), ?_⟩
  intro g4 ng4; generalize eg4 : upd _ g4 _ = Kg4; obtain ⟨sg4, hg4⟩ := new_of ng4 eg4; clear eg4
  have tt : Same R3 Kg4 := s15.trans (s16.trans (s17.trans (s18.trans sg4)))
  have M4 := (Md.snoc (Md.snoc (Md.snoc (Md.snoc (M3.same tt) (v15.same (s16.trans (s17.trans (s18.trans sg4))))) (v16.same (s17.trans (s18.trans sg4)))) (v17.same (s18.trans sg4))) (v18.same sg4))
  refine rd_cat (tt _ _ L3) hg4 (by rw [M3.1]; simp) fun r4 R4 _ u4 L4 => ?_
  replace M4 := M4.same u4
  have S4 := (S3.trans tt).trans u4
  simp only [List.append_assoc, List.cons_append, List.nil_append] at M4 L4
  clear tt L3 M3 S3 hg4 v15 v16 v17 v18
  refine mk1 rfl fun a19 H19 _ s19 v19 => mk1 rfl fun a20 H20 _ s20 v20 => mk1 rfl fun a21 H21 _ s21 v21 => mk1 rfl fun a22 H22 _ s22 v22 => ⟨size_le (by decide), ?_⟩
  intro g5 ng5; generalize eg5 : upd _ g5 _ = Kg5; obtain ⟨sg5, hg5⟩ := new_of ng5 eg5; clear eg5
  have tt : Same R4 Kg5 := s19.trans (s20.trans (s21.trans (s22.trans sg5)))
  have M5 := (Md.snoc (Md.snoc (Md.snoc (Md.snoc (M4.same tt) (v19.same (s20.trans (s21.trans (s22.trans sg5))))) (v20.same (s21.trans (s22.trans sg5)))) (v21.same (s22.trans sg5))) (v22.same sg5))
  refine rd_cat (tt _ _ L4) hg5 (by rw [M4.1]; simp) fun r5 R5 _ u5 L5 => ?_
  replace M5 := M5.same u5
  have S5 := (S4.trans tt).trans u5
  simp only [List.append_assoc, List.cons_append, List.nil_append] at M5 L5
  clear tt L4 M4 S4 hg5 v19 v20 v21 v22
  refine mk1 rfl fun a23 H23 _ s23 v23 => mk1 rfl fun a24 H24 _ s24 v24 => mk1 rfl fun a25 H25 _ s25 v25 => mk1 rfl fun a26 H26 _ s26 v26 => mk1 rfl fun a27 H27 _ s27 v27 => ⟨size_le (by decide), ?_⟩
  intro g6 ng6; generalize eg6 : upd _ g6 _ = Kg6; obtain ⟨sg6, hg6⟩ := new_of ng6 eg6; clear eg6
  have tt : Same R5 Kg6 := s23.trans (s24.trans (s25.trans (s26.trans (s27.trans sg6))))
  have M6 := (Md.snoc (Md.snoc (Md.snoc (Md.snoc (Md.snoc (M5.same tt) (v23.same (s24.trans (s25.trans (s26.trans (s27.trans sg6)))))) (v24.same (s25.trans (s26.trans (s27.trans sg6))))) (v25.same (s26.trans (s27.trans sg6)))) (v26.same (s27.trans sg6))) (v27.same sg6))
  refine rd_cat (tt _ _ L5) hg6 (by rw [M5.1]; simp) fun r6 R6 _ u6 L6 => ?_
  replace M6 := M6.same u6
  have S6 := (S5.trans tt).trans u6
  simp only [List.append_assoc, List.cons_append, List.nil_append] at M6 L6
  clear tt L5 M5 S5 hg6 v23 v24 v25 v26 v27
  refine mk1 rfl fun a28 H28 _ s28 v28 => mk1 rfl fun a29 H29 _ s29 v29 => mk1 rfl fun a30 H30 _ s30 v30 => mk1 rfl fun a31 H31 _ s31 v31 => mkB (i := 32) fun a32 H32 _ s32 v32 => ⟨size_le (by decide), ?_⟩
  intro g7 ng7; generalize eg7 : upd _ g7 _ = Kg7; obtain ⟨sg7, hg7⟩ := new_of ng7 eg7; clear eg7
  have tt : Same R6 Kg7 := s28.trans (s29.trans (s30.trans (s31.trans (s32.trans sg7))))
  have M7 := (Md.snoc (Md.snoc (Md.snoc (Md.snoc (Md.snoc (M6.same tt) (v28.same (s29.trans (s30.trans (s31.trans (s32.trans sg7)))))) (v29.same (s30.trans (s31.trans (s32.trans sg7))))) (v30.same (s31.trans (s32.trans sg7)))) (v31.same (s32.trans sg7))) (v32.same sg7))
  refine rd_cat (tt _ _ L6) hg7 (by rw [M6.1]; simp) fun r7 R7 _ u7 L7 => ?_
  replace M7 := M7.same u7
  have S7 := (S6.trans tt).trans u7
  simp only [List.append_assoc, List.cons_append, List.nil_append] at M7 L7
  clear tt L6 M6 S6 hg7 v28 v29 v30 v31 v32
  refine mkB (i := 33) fun a33 H33 _ s33 v33 => mkB (i := 34) fun a34 H34 _ s34 v34 => mkB (i := 35) fun a35 H35 _ s35 v35 => ⟨size_le (by decide), ?_⟩
  intro g8 ng8; generalize eg8 : upd _ g8 _ = Kg8; obtain ⟨sg8, hg8⟩ := new_of ng8 eg8; clear eg8
  have tt : Same R7 Kg8 := s33.trans (s34.trans (s35.trans sg8))
  have M8 := (Md.snoc (Md.snoc (Md.snoc (M7.same tt) (v33.same (s34.trans (s35.trans sg8)))) (v34.same (s35.trans sg8))) (v35.same sg8))
  refine rd_cat (tt _ _ L7) hg8 (by rw [M7.1]; simp) fun r8 R8 _ u8 L8 => ?_
  replace M8 := M8.same u8
  have S8 := (S7.trans tt).trans u8
  simp only [List.append_assoc, List.cons_append, List.nil_append] at M8 L8
  clear tt L7 M7 S7 hg8 v33 v34 v35
  obtain ⟨v, hv, hv2⟩ := atI_lt (xs := _) (i := (i : Int)) (by omega) (by rw [M8.1]; omega)
  refine rd_ixL L8 hv ?_
  have e := M8.2 i v (by simpa using hv2)
  obtain ⟨a, d, rfl, r⟩ := id e
  exact kp a _ S8 e
theorem sc_named : FnScope ["_law_way", "_law_first", "_law_second", "_law_third", "_law_made_here"] ["_law_way", "_law_first", "_law_second", "_law_third"] (defScope s_named) := ⟨rfl, rfl, rfl, by decide +kernel, rfl, by decide +kernel, by decide +kernel⟩
theorem ok_named (T : Txt K mg aW aB) (X : Exs P w K mg base cl) (F : Dfn K mg "_law_named" s_named) : Rdy P w K mg base CX0 3 "_law_named" ["_law_way", "_law_first", "_law_second", "_law_third"] (spMade cl 32) := by
  refine F.rdy sc_named (fun _ _ _ _ _ _ us hl => match us, hl with | [_, _, _, _], _ => rfl) (by rintro _ _ _ _ ⟨_, _, _, _, rfl, _⟩; rfl) (fun f cdv A outer s H vs Q E hr h => ?_)
  obtain ⟨i, x, y, z, rfl, hi, kp⟩ := h
  refine ⟨_, (pss_cons (ps_set (i := 4) sc_named.nd rfl (Or.inl rfl) (pe_lst (pa_cons (pe_mkw X.BadFormula (hr.mono (by decide)) (pk_cons (pv 1) (pk_cons (pv 2) (pk_cons (pv 3) pk_nil)))) (pa_cons (pe_mkw X.CellInUse (hr.mono (by decide)) (pk_cons (pv 1) (pk_cons (pv 2) pk_nil))) pa_nil))))
      (pss_cons (ps_set (i := 4) sc_named.nd rfl (Or.inl rfl) (pe_op op_cat (pv 4) (pe_lst (pa_cons (pe_mkw X.InvalidNumber (hr.mono (by decide)) (pk_cons (pv 1) pk_nil)) (pa_cons (pe_mkw X.InvalidText (hr.mono (by decide)) (pk_cons (pv 1) pk_nil)) (pa_cons (pe_mkw X.FormulaSyntax (hr.mono (by decide)) (pk_cons (pv 1) pk_nil)) pa_nil))))))
      (pss_cons (ps_set (i := 4) sc_named.nd rfl (Or.inl rfl) (pe_op op_cat (pv 4) (pe_lst (pa_cons (pe_mkw X.NotLinear (hr.mono (by decide)) (pk_cons (pv 1) pk_nil)) (pa_cons (pe_mkw X.ZeroDivisor (hr.mono (by decide)) (pk_cons (pv 1) pk_nil)) (pa_cons (pe_mkw X.InvalidRow (hr.mono (by decide)) (pk_cons (pv 1) pk_nil)) pa_nil))))))
      (pss_cons (ps_set (i := 4) sc_named.nd rfl (Or.inl rfl) (pe_op op_cat (pv 4) (pe_lst (pa_cons (pe_mkw X.InvalidName (hr.mono (by decide)) (pk_cons (pv 1) pk_nil)) (pa_cons (pe_mkw X.DuplicateCell (hr.mono (by decide)) (pk_cons (pv 1) pk_nil)) (pa_cons (pe_mkw X.UnknownCell (hr.mono (by decide)) (pk_cons (pv 1) pk_nil)) pa_nil))))))
      (pss_cons (ps_set (i := 4) sc_named.nd rfl (Or.inl rfl) (pe_op op_cat (pv 4) (pe_lst (pa_cons (pe_mkw X.CircularCell (hr.mono (by decide)) (pk_cons (pv 1) pk_nil)) (pa_cons (pe_mkw X.NotInput (hr.mono (by decide)) (pk_cons (pv 1) pk_nil)) (pa_cons (pe_mkw X.NotComputed (hr.mono (by decide)) (pk_cons (pv 1) pk_nil)) pa_nil))))))
      (pss_cons (ps_set (i := 4) sc_named.nd rfl (Or.inl rfl) (pe_op op_cat (pv 4) (pe_lst (pa_cons (pe_mkw X.InvalidTable (hr.mono (by decide)) (pk_cons (pv 1) pk_nil)) (pa_cons (pe_mkw X.InvalidWish (hr.mono (by decide)) (pk_cons (pv 1) pk_nil)) (pa_cons (pe_mkw X.InvalidLimit (hr.mono (by decide)) (pk_cons (pv 1) pk_nil)) pa_nil))))))
      (pss_cons (ps_set (i := 4) sc_named.nd rfl (Or.inl rfl) (pe_op op_cat (pv 4) (pe_lst (pa_cons (pe_mkw X.EmptyLimit (hr.mono (by decide)) (pk_cons (pv 1) pk_nil)) (pa_cons (pe_mkw X.UnknownCondition (hr.mono (by decide)) (pk_cons (pv 1) pk_nil)) (pa_cons (pe_mkw X.UnknownSide (hr.mono (by decide)) (pk_cons (pv 1) pk_nil)) pa_nil))))))
      (pss_cons (ps_set (i := 4) sc_named.nd rfl (Or.inl rfl) (pe_op op_cat (pv 4) (pe_lst (pa_cons (pe_mkw X.InvalidMove (hr.mono (by decide)) (pk_cons (pv 1) pk_nil)) (pa_cons (pe_mkw X.InvalidForm (hr.mono (by decide)) (pk_cons (pv 1) pk_nil)) (pa_cons (pe_mkw X.UnlikeCells (hr.mono (by decide)) (pk_cons (pv 1) pk_nil)) pa_nil))))))
      (pss_cons (ps_set (i := 4) sc_named.nd rfl (Or.inl rfl) (pe_op op_cat (pv 4) (pe_lst (pa_cons (pe_mkw X.AlreadyHeld (hr.mono (by decide)) (pk_cons (pv 1) pk_nil)) (pa_cons (pe_mkw X.NotHeld (hr.mono (by decide)) (pk_cons (pv 1) pk_nil)) (pa_cons (pe_mkw X.NoLimit (hr.mono (by decide)) (pk_cons (pv 1) pk_nil)) (pa_cons (pe_mkw X.Refused (hr.mono (by decide)) (pk_cons (pv 1) pk_nil)) pa_nil)))))))
      (pss_cons (ps_set (i := 4) sc_named.nd rfl (Or.inl rfl) (pe_op op_cat (pv 4) (pe_lst (pa_cons (pe_mkw X.RolesKept (hr.mono (by decide)) (pk_cons (pv 1) pk_nil)) (pa_cons (pe_mkw X.NoMark (hr.mono (by decide)) (pk_cons (pv 1) pk_nil)) (pa_cons (pe_mkw X.InvalidOperation (hr.mono (by decide)) (pk_cons (pv 1) pk_nil)) (pa_cons (pe_mkw X.BadText (hr.mono (by decide)) (pk_cons (pv 1) pk_nil)) pa_nil)))))))
      (pss_cons (ps_set (i := 4) sc_named.nd rfl (Or.inl rfl) (pe_op op_cat (pv 4) (pe_lst (pa_cons (pe_mkw X.BadCommand (hr.mono (by decide)) (pk_cons (pv 1) pk_nil)) pa_nil))))
      (pss_one (ps_ret (pe_ix ix_list (pv 4) (pv 0) (fun _ _ => rfl))))))))))))))), ?_⟩
  walk_at "sx"
  refine mk3 fun a0 H0 _ s0 v0 => mk2 fun a1 H1 _ s1 v1 => ⟨size_le (by decide), ?_⟩
  intro g0 ng0; generalize eg0 : upd _ g0 _ = Kg0; obtain ⟨sg0, hg0⟩ := new_of ng0 eg0; clear eg0
  have M0 : Md cl x y z Kg0 2 [V.ref a0, V.ref a1] := by
    refine md_cons2 (v0.same (s1.trans sg0)) (v1.same sg0)
  have S0 : Same H Kg0 := s0.trans (s1.trans sg0)
  have L0 := hg0
  clear v0 v1 hg0
  refine mk1 rfl fun a2 H2 _ s2 v2 => mk1 rfl fun a3 H3 _ s3 v3 => mk1 rfl fun a4 H4 _ s4 v4 => ⟨size_le (by decide), ?_⟩
  intro g1 ng1; generalize eg1 : upd _ g1 _ = Kg1; obtain ⟨sg1, hg1⟩ := new_of ng1 eg1; clear eg1
  have tt : Same Kg0 Kg1 := s2.trans (s3.trans (s4.trans sg1))
  have M1 := (Md.snoc (Md.snoc (Md.snoc (M0.same tt) (v2.same (s3.trans (s4.trans sg1)))) (v3.same (s4.trans sg1))) (v4.same sg1))
  refine rd_cat (tt _ _ L0) hg1 (by rw [M0.1]; simp) fun r1 R1 _ u1 L1 => ?_
  replace M1 := M1.same u1
  have S1 := (S0.trans tt).trans u1
  simp only [List.append_assoc, List.cons_append, List.nil_append] at M1 L1
  clear tt L0 M0 S0 hg1 v2 v3 v4
  refine mk1 rfl fun a5 H5 _ s5 v5 => mk1 rfl fun a6 H6 _ s6 v6 => mk1 rfl fun a7 H7 _ s7 v7 => ⟨size_le (by decide), ?_⟩
  intro g2 ng2; generalize eg2 : upd _ g2 _ = Kg2; obtain ⟨sg2, hg2⟩ := new_of ng2 eg2; clear eg2
  have tt : Same R1 Kg2 := s5.trans (s6.trans (s7.trans sg2))
  have M2 := (Md.snoc (Md.snoc (Md.snoc (M1.same tt) (v5.same (s6.trans (s7.trans sg2)))) (v6.same (s7.trans sg2))) (v7.same sg2))
  refine rd_cat (tt _ _ L1) hg2 (by rw [M1.1]; simp) fun r2 R2 _ u2 L2 => ?_
  replace M2 := M2.same u2
  have S2 := (S1.trans tt).trans u2
  simp only [List.append_assoc, List.cons_append, List.nil_append] at M2 L2
  clear tt L1 M1 S1 hg2 v5 v6 v7
  refine mk1 rfl fun a8 H8 _ s8 v8 => mk1 rfl fun a9 H9 _ s9 v9 => mk1 rfl fun a10 H10 _ s10 v10 => ⟨size_le (by decide), ?_⟩
  intro g3 ng3; generalize eg3 : upd _ g3 _ = Kg3; obtain ⟨sg3, hg3⟩ := new_of ng3 eg3; clear eg3
  have tt : Same R2 Kg3 := s8.trans (s9.trans (s10.trans sg3))
  have M3 := (Md.snoc (Md.snoc (Md.snoc (M2.same tt) (v8.same (s9.trans (s10.trans sg3)))) (v9.same (s10.trans sg3))) (v10.same sg3))
  refine rd_cat (tt _ _ L2) hg3 (by rw [M2.1]; simp) fun r3 R3 _ u3 L3 => ?_
  replace M3 := M3.same u3
  have S3 := (S2.trans tt).trans u3
  simp only [List.append_assoc, List.cons_append, List.nil_append] at M3 L3
  clear tt L2 M2 S2 hg3 v8 v9 v10
  refine mk1 rfl fun a11 H11 _ s11 v11 => mk1 rfl fun a12 H12 _ s12 v12 => mk1 rfl fun a13 H13 _ s13 v13 => ⟨size_le (by decide), ?_⟩
  intro g4 ng4; generalize eg4 : upd _ g4 _ = Kg4; obtain ⟨sg4, hg4⟩ := new_of ng4 eg4; clear eg4
  have tt : Same R3 Kg4 := s11.trans (s12.trans (s13.trans sg4))
  have M4 := (Md.snoc (Md.snoc (Md.snoc (M3.same tt) (v11.same (s12.trans (s13.trans sg4)))) (v12.same (s13.trans sg4))) (v13.same sg4))
  refine rd_cat (tt _ _ L3) hg4 (by rw [M3.1]; simp) fun r4 R4 _ u4 L4 => ?_
  replace M4 := M4.same u4
  have S4 := (S3.trans tt).trans u4
  simp only [List.append_assoc, List.cons_append, List.nil_append] at M4 L4
  clear tt L3 M3 S3 hg4 v11 v12 v13
  refine mk1 rfl fun a14 H14 _ s14 v14 => mk1 rfl fun a15 H15 _ s15 v15 => mk1 rfl fun a16 H16 _ s16 v16 => ⟨size_le (by decide), ?_⟩
  intro g5 ng5; generalize eg5 : upd _ g5 _ = Kg5; obtain ⟨sg5, hg5⟩ := new_of ng5 eg5; clear eg5
  have tt : Same R4 Kg5 := s14.trans (s15.trans (s16.trans sg5))
  have M5 := (Md.snoc (Md.snoc (Md.snoc (M4.same tt) (v14.same (s15.trans (s16.trans sg5)))) (v15.same (s16.trans sg5))) (v16.same sg5))
  refine rd_cat (tt _ _ L4) hg5 (by rw [M4.1]; simp) fun r5 R5 _ u5 L5 => ?_
  replace M5 := M5.same u5
  have S5 := (S4.trans tt).trans u5
  simp only [List.append_assoc, List.cons_append, List.nil_append] at M5 L5
  clear tt L4 M4 S4 hg5 v14 v15 v16
  refine mk1 rfl fun a17 H17 _ s17 v17 => mk1 rfl fun a18 H18 _ s18 v18 => mk1 rfl fun a19 H19 _ s19 v19 => ⟨size_le (by decide), ?_⟩
  intro g6 ng6; generalize eg6 : upd _ g6 _ = Kg6; obtain ⟨sg6, hg6⟩ := new_of ng6 eg6; clear eg6
  have tt : Same R5 Kg6 := s17.trans (s18.trans (s19.trans sg6))
  have M6 := (Md.snoc (Md.snoc (Md.snoc (M5.same tt) (v17.same (s18.trans (s19.trans sg6)))) (v18.same (s19.trans sg6))) (v19.same sg6))
  refine rd_cat (tt _ _ L5) hg6 (by rw [M5.1]; simp) fun r6 R6 _ u6 L6 => ?_
  replace M6 := M6.same u6
  have S6 := (S5.trans tt).trans u6
  simp only [List.append_assoc, List.cons_append, List.nil_append] at M6 L6
  clear tt L5 M5 S5 hg6 v17 v18 v19
  refine mk1 rfl fun a20 H20 _ s20 v20 => mk1 rfl fun a21 H21 _ s21 v21 => mk1 rfl fun a22 H22 _ s22 v22 => ⟨size_le (by decide), ?_⟩
  intro g7 ng7; generalize eg7 : upd _ g7 _ = Kg7; obtain ⟨sg7, hg7⟩ := new_of ng7 eg7; clear eg7
  have tt : Same R6 Kg7 := s20.trans (s21.trans (s22.trans sg7))
  have M7 := (Md.snoc (Md.snoc (Md.snoc (M6.same tt) (v20.same (s21.trans (s22.trans sg7)))) (v21.same (s22.trans sg7))) (v22.same sg7))
  refine rd_cat (tt _ _ L6) hg7 (by rw [M6.1]; simp) fun r7 R7 _ u7 L7 => ?_
  replace M7 := M7.same u7
  have S7 := (S6.trans tt).trans u7
  simp only [List.append_assoc, List.cons_append, List.nil_append] at M7 L7
  clear tt L6 M6 S6 hg7 v20 v21 v22
  refine mk1 rfl fun a23 H23 _ s23 v23 => mk1 rfl fun a24 H24 _ s24 v24 => mk1 rfl fun a25 H25 _ s25 v25 => mk1 rfl fun a26 H26 _ s26 v26 => ⟨size_le (by decide), ?_⟩
  intro g8 ng8; generalize eg8 : upd _ g8 _ = Kg8; obtain ⟨sg8, hg8⟩ := new_of ng8 eg8; clear eg8
  have tt : Same R7 Kg8 := s23.trans (s24.trans (s25.trans (s26.trans sg8)))
  have M8 := (Md.snoc (Md.snoc (Md.snoc (Md.snoc (M7.same tt) (v23.same (s24.trans (s25.trans (s26.trans sg8))))) (v24.same (s25.trans (s26.trans sg8)))) (v25.same (s26.trans sg8))) (v26.same sg8))
  refine rd_cat (tt _ _ L7) hg8 (by rw [M7.1]; simp) fun r8 R8 _ u8 L8 => ?_
  replace M8 := M8.same u8
  have S8 := (S7.trans tt).trans u8
  simp only [List.append_assoc, List.cons_append, List.nil_append] at M8 L8
  clear tt L7 M7 S7 hg8 v23 v24 v25 v26
  refine mk1 rfl fun a27 H27 _ s27 v27 => mk1 rfl fun a28 H28 _ s28 v28 => mk1 rfl fun a29 H29 _ s29 v29 => mk1 rfl fun a30 H30 _ s30 v30 => ⟨size_le (by decide), ?_⟩
  intro g9 ng9; generalize eg9 : upd _ g9 _ = Kg9; obtain ⟨sg9, hg9⟩ := new_of ng9 eg9; clear eg9
  have tt : Same R8 Kg9 := s27.trans (s28.trans (s29.trans (s30.trans sg9)))
  have M9 := (Md.snoc (Md.snoc (Md.snoc (Md.snoc (M8.same tt) (v27.same (s28.trans (s29.trans (s30.trans sg9))))) (v28.same (s29.trans (s30.trans sg9)))) (v29.same (s30.trans sg9))) (v30.same sg9))
  refine rd_cat (tt _ _ L8) hg9 (by rw [M8.1]; simp) fun r9 R9 _ u9 L9 => ?_
  replace M9 := M9.same u9
  have S9 := (S8.trans tt).trans u9
  simp only [List.append_assoc, List.cons_append, List.nil_append] at M9 L9
  clear tt L8 M8 S8 hg9 v27 v28 v29 v30
  refine mk1 rfl fun a31 H31 _ s31 v31 => ⟨size_le (by decide), ?_⟩
  intro g10 ng10; generalize eg10 : upd _ g10 _ = Kg10; obtain ⟨sg10, hg10⟩ := new_of ng10 eg10; clear eg10
  have tt : Same R9 Kg10 := s31.trans sg10
  have M10 := (Md.snoc (M9.same tt) (v31.same sg10))
  refine rd_cat (tt _ _ L9) hg10 (by rw [M9.1]; simp) fun r10 R10 _ u10 L10 => ?_
  replace M10 := M10.same u10
  have S10 := (S9.trans tt).trans u10
  simp only [List.append_assoc, List.cons_append, List.nil_append] at M10 L10
  clear tt L9 M9 S9 hg10 v31
  obtain ⟨v, hv, hv2⟩ := atI_lt (xs := _) (i := (i : Int)) (by omega) (by rw [M10.1]; omega)
  refine rd_ixL L10 hv ?_
  have e := M10.2 i v (by simpa using hv2)
  obtain ⟨a, d, rfl, r⟩ := id e
  exact kp a _ S10 e
end
end My
namespace My
open PySem PySem.Spec PyProof.Rows L2
local macro_rules | `(tactic| walk_at "sx") => `(tactic| first | (simp only [cx_K, cx_pn, cxh_pn, cxh_K, tB, iRng1, iRng2, iRng3, iList, iTup, wAs, tXf, tDictZip, tDGet1, rInD, rInT, tChain, tUn, rU, tCallS, WE, wOnly, tSl, tPart, tNoPart, tRevL, tStepL, tM0, tM1, wipe, tYes, Bool.not_eq_true', gCons, gNil, decide_eq_false_iff_not, tCall, tPar, tAndV, tOrV, tNotV, tIf, List.append_nil, rEq, rNe, scal_ii, scal_ss, scal_bb, scal_nn, scal_in, scal_ni, scal_sn, scal_ns, scal_is, scal_si, Bool.and_true, Bool.true_and, Bool.and_false, Bool.false_and, reduceCtorEq, tLst, tTup, Int.reduceToNat, decide_true, decide_false, Bool.not_true, Bool.not_false, Bool.false_eq_true, if_true, if_false, reduceIte, gSub, tAnd, tOr, tNot, tBM, tBM0, tNext, tSeq, tAsg, tOp, rI, rI0, tVar, tC, gName, tRet, tCB, tCons, tNil, tTest, tIfS, tDrop, L2.start, List.map_cons, List.map_nil, List.length_cons, List.length_nil, List.cons_append, List.nil_append, List.replicate, List.getElem?_cons_zero, List.getElem?_cons_succ, List.set_cons_zero, List.set_cons_succ, Option.some.injEq, V.int.injEq, V.str.injEq, V.bl.injEq, V.ref.injEq, exists_eq_left', exists_eq_left, exists_and_left, exists_eq', and_assoc, List.cons.injEq, and_true, true_and, decide_eq_true_eq, Nat.reduceAdd, Nat.reduceSub]) | skip)
local macro_rules | `(tactic| walk_at "isi") => `(tactic| first | (simp only [isi_none_int, isi_none_bool, isi_none_str, isi_none_list, isi_none_tuple, isi_bool_int, isi_bool_bool, isi_bool_str, isi_bool_list, isi_bool_tuple, isi_int_int, isi_int_bool, isi_int_str, isi_int_list, isi_int_tuple, isi_str_int, isi_str_bool, isi_str_str, isi_str_list, isi_str_tuple, isi_list_int, isi_list_bool, isi_list_str, isi_list_list, isi_list_tuple, isi_tuple_int, isi_tuple_bool, isi_tuple_str, isi_tuple_list, isi_tuple_tuple, isInt_none, isInt_bool, isInt_int, isInt_str, isInt_list, isInt_tuple]) | skip)
/-- the values of the fields -/
def valsX (i : Nat) (x y z : V) : List V := [x, y, z].take (fN i).length
def spFields (cl : Nat → Addr) (pn : List (Addr × Obj)) : Sp := fun vs H Q _ => ∃ (i : Nat) (e x y z : V), vs = [.int i, e] ∧ i ≤ 36 ∧ EV pn H e (cl i) (flds (fN i) [x, y, z]) ∧ ∀ p H2, H p = none → Same H H2 → H2 p = some (.lst (valsX i x y z)) → Q (.ref p) H2
section
variable {K : PySem.W.Frag} {H H0 : Hp} {Q : VK} {cl : Nat → Addr} {i : Nat} {x y z e k : V} {f : Str} {p : Addr} {pn : List (Addr × Obj)}
theorem rd_ints {ns : List Int} (h : H p = some (.tup (ns.map V.int))) (q : ∀ b, b = decide ((i : Int) ∈ ns) → Q (.bl b) H) : rIn K false (.int i) (.ref p) H Q := by
  refine ⟨p, _, rfl, .inr (SqT.of h), rfl, by simp [flatV], q _ ?_⟩
  show inV (.int i) (ns.map V.int) = _
  unfold inV
  clear q h
  induction ns with
  | nil => rfl
  | cons a r ih =>
    rw [List.map_cons, List.any_cons, ih]
    show ((a == (i : Int)) || decide ((i : Int) ∈ r)) = _
    rw [show (a == (i : Int)) = decide (a = (i : Int)) from rfl, ← Bool.decide_or]
    exact decide_eq_decide.mpr (by rw [List.mem_cons, eq_comm (a := a)])
theorem iteD {c : Prop} [Decidable c] {a b : Prop} (h1 : c → a) (h2 : ¬ c → b) : if c then a else b := by
  by_cases h : c
  · rw [if_pos h]; exact h1 h
  · rw [if_neg h]; exact h2 h
theorem rd_ef1 (G : Cls K cl) {v w k : V} {fs : List (Str × V)} {r : L2.St} (hi : i ≤ 36) (hf : f ∈ fN i) (h : EV pn H v (cl i) fs) (l : fs.lookup f = some w) (q : Q w H) : tEf K pn f (tVar 1) (some k :: some v :: r) H Q :=
  ⟨v, rfl, rd_ef (Q := Q) G hi hf h l q⟩
theorem leaf1 (G : Cls K cl) (hi : i ≤ 36) (hf : fN i = [f]) (he : EV pn H0 e (cl i) (flds (fN i) [x, y, z])) (S : Same H0 H)
    (kp : ∀ p H2, H0 p = none → Same H0 H2 → H2 p = some (.lst (valsX i x y z)) → Q (.ref p) H2) : tEf K pn f (tVar 1) [some k, some e] H fun x H1 => 1 ≤ sizeLine ∧ ∀ p, H1 p = none → Q (.ref p) (upd H1 p (.lst [x])) := by
  refine rd_ef1 G hi (by rw [hf]; simp) (he.same S) (w := x) (by rw [hf]; simp [flds]) ?_
  refine ⟨size_le (by decide), fun p hp => ?_⟩
  have hp0 : H0 p = none := by
    cases e : H0 p with
    | none => rfl
    | some o => rw [S _ _ e] at hp; cases hp
  exact kp p _ hp0 (S.trans (same_upd hp)) (by rw [upd_same]; unfold valsX; rw [hf]; rfl)
end
section
variable {P : Program} {w : World} {K : PySem.W.Frag} {mg : Str → Option Value} {base : Heap} {aW aB : Addr} {cl : Nat → Addr}
theorem sc_fields : FnScope ["_law_way", "_law_e"] ["_law_way", "_law_e"] (defScope s_fields) := ⟨rfl, rfl, rfl, by decide +kernel, rfl, by decide +kernel, by decide +kernel⟩
theorem ok_fields (T : Txt K mg aW aB) (X : Exs P w K mg base cl) (F : Dfn K mg "_law_fields" s_fields) : Rdy P w K mg base CX0 1 "_law_fields" ["_law_way", "_law_e"] (spFields cl []) := by
  refine F.rdy sc_fields (fun _ _ _ _ _ _ us hl => match us, hl with | [_, _], _ => rfl) (by rintro _ _ _ _ ⟨_, _, _, _, _, rfl, _⟩; rfl) (fun f cdv A outer s H vs Q E hr h => ?_)
  obtain ⟨i, e, x, y, z, rfl, hi, he, kp⟩ := h
  refine ⟨_, (pss_cons (ps_if (pt_cmpR op_eq (pv 0) pe_int (nomark _)) (pss_one (ps_ret (pe_lst (pa_cons (pe_ef (pv 1)) (pa_cons (pe_ef (pv 1)) (pa_cons (pe_ef (pv 1)) pa_nil)))))) pss_nil)
      (pss_cons (ps_if (pt_cmpR op_eq (pv 0) pe_int (nomark _)) (pss_one (ps_ret (pe_lst (pa_cons (pe_ef (pv 1)) (pa_cons (pe_ef (pv 1)) pa_nil))))) pss_nil)
      (pss_cons (ps_if (pt_cmpR op_in_seq (pv 0) (pe_tup (pa_cons pe_int (pa_cons pe_int pa_nil))) (by rfl)) (pss_one (ps_ret (pe_lst (pa_cons (pe_ef (pv 1)) pa_nil)))) pss_nil)
      (pss_cons (ps_if (pt_cmpR op_eq (pv 0) pe_int (nomark _)) (pss_one (ps_ret (pe_lst (pa_cons (pe_ef (pv 1)) pa_nil)))) pss_nil)
      (pss_cons (ps_if (pt_cmpR op_in_seq (pv 0) (pe_tup (pa_cons pe_int (pa_cons pe_int (pa_cons pe_int pa_nil)))) (by rfl)) (pss_one (ps_ret (pe_lst (pa_cons (pe_ef (pv 1)) pa_nil)))) pss_nil)
      (pss_cons (ps_if (pt_cmpR op_in_seq (pv 0) (pe_tup (pa_cons pe_int (pa_cons pe_int (pa_cons pe_int (pa_cons pe_int pa_nil))))) (by rfl)) (pss_one (ps_ret (pe_lst (pa_cons (pe_ef (pv 1)) pa_nil)))) pss_nil)
      (pss_cons (ps_if (pt_cmpR op_in_seq (pv 0) (pe_tup (pa_cons pe_int (pa_cons pe_int (pa_cons pe_int (pa_cons pe_int (pa_cons pe_int (pa_cons pe_int (pa_cons pe_int (pa_cons pe_int (pa_cons pe_int (pa_cons pe_int (pa_cons pe_int pa_nil)))))))))))) (by rfl)) (pss_one (ps_ret (pe_lst (pa_cons (pe_ef (pv 1)) pa_nil)))) pss_nil)
      (pss_cons (ps_if (pt_cmpR op_eq (pv 0) pe_int (nomark _)) (pss_one (ps_ret (pe_lst (pa_cons (pe_ef (pv 1)) pa_nil)))) pss_nil)
      (pss_cons (ps_if (pt_cmpR op_eq (pv 0) pe_int (nomark _)) (pss_one (ps_ret (pe_lst (pa_cons (pe_ef (pv 1)) pa_nil)))) pss_nil)
      (pss_cons (ps_if (pt_cmpR op_in_seq (pv 0) (pe_tup (pa_cons pe_int (pa_cons pe_int pa_nil))) (by rfl)) (pss_one (ps_ret (pe_lst (pa_cons (pe_ef (pv 1)) pa_nil)))) pss_nil)
      (pss_cons (ps_if (pt_cmpR op_eq (pv 0) pe_int (nomark _)) (pss_one (ps_ret (pe_lst (pa_cons (pe_ef (pv 1)) pa_nil)))) pss_nil)
      (pss_cons (ps_if (pt_cmpR op_eq (pv 0) pe_int (nomark _)) (pss_one (ps_ret (pe_lst (pa_cons (pe_ef (pv 1)) pa_nil)))) pss_nil)
      (pss_cons (ps_if (pt_cmpR op_eq (pv 0) pe_int (nomark _)) (pss_one (ps_ret (pe_lst (pa_cons (pe_ef (pv 1)) pa_nil)))) pss_nil)
      (pss_cons (ps_if (pt_cmpR op_eq (pv 0) pe_int (nomark _)) (pss_one (ps_ret (pe_lst (pa_cons (pe_ef (pv 1)) pa_nil)))) pss_nil)
      (pss_cons (ps_if (pt_cmpR op_eq (pv 0) pe_int (nomark _)) (pss_one (ps_ret (pe_lst (pa_cons (pe_ef (pv 1)) pa_nil)))) pss_nil)
      (pss_one (ps_ret (pe_lst pa_nil)))))))))))))))))), ?_⟩
  walk_at "sx"
  have np : ∀ {H1 : Hp} {p : Addr}, Same H H1 → H1 p = none → H p = none := fun {H1 p} S hp => by
    cases e : H p with
    | none => rfl
    | some o => rw [S _ _ e] at hp; cases hp
  refine iteD (fun h => ?_) (fun h => ?_)
  · obtain rfl : i = 0 := by omega
    refine rd_ef1 X.G hi (by simp [fN]) he (w := x) (by rfl) <| rd_ef1 X.G hi (by simp [fN]) he (w := y) (by rfl) <| rd_ef1 X.G hi (by simp [fN]) he (w := z) (by rfl) <| ⟨size_le (by decide), fun p hp => ?_⟩
    exact kp p _ hp (same_upd hp) upd_same
  have z0 := h
  clear h
  refine iteD (fun h => ?_) (fun h => ?_)
  · obtain rfl : i = 1 := by omega
    refine rd_ef1 X.G hi (by simp [fN]) he (w := x) (by rfl) <| rd_ef1 X.G hi (by simp [fN]) he (w := y) (by rfl) <| ⟨size_le (by decide), fun p hp => ?_⟩
    exact kp p _ hp (same_upd hp) upd_same
  have z1 := h
  clear h
  have S0 : Same H H := Same.refl _
  refine ⟨size_le (by decide), ?_⟩
  intro p1 hp1; generalize e1 : upd _ p1 _ = H1; obtain ⟨S1, t1⟩ := new_of hp1 e1; clear e1
  replace S1 := S0.trans S1
  refine rd_ints (ns := [2, 14]) t1 fun b hb => ⟨_, rfl, iteD (fun h => ?_) (fun h => ?_)⟩
  · rw [hb] at h
    exact leaf1 X.G hi ((by decide +kernel : ∀ i : Nat, i < 37 → (i : Int) ∈ ([2, 14] : List Int) → fN i = [("value" : Str)]) i (by omega) (of_decide_eq_true h)) he S1 kp
  rw [hb, decide_eq_true_eq] at h
  simp only [List.mem_cons, List.not_mem_nil, or_false, not_or] at h
  have q1 := h
  clear h hb
  refine iteD (fun h => ?_) (fun h => ?_)
  · obtain rfl : i = 3 := by omega
    exact leaf1 X.G hi rfl he S1 kp
  have z3 := h
  clear h
  refine ⟨size_le (by decide), ?_⟩
  intro p2 hp2; generalize e2 : upd _ p2 _ = H2; obtain ⟨S2, t2⟩ := new_of hp2 e2; clear e2
  replace S2 := S1.trans S2
  refine rd_ints (ns := [4, 5, 6]) t2 fun b hb => ⟨_, rfl, iteD (fun h => ?_) (fun h => ?_)⟩
  · rw [hb] at h
    exact leaf1 X.G hi ((by decide +kernel : ∀ i : Nat, i < 37 → (i : Int) ∈ ([4, 5, 6] : List Int) → fN i = [("position" : Str)]) i (by omega) (of_decide_eq_true h)) he S2 kp
  rw [hb, decide_eq_true_eq] at h
  simp only [List.mem_cons, List.not_mem_nil, or_false, not_or] at h
  have q2 := h
  clear h hb
  refine ⟨size_le (by decide), ?_⟩
  intro p3 hp3; generalize e3 : upd _ p3 _ = H3; obtain ⟨S3, t3⟩ := new_of hp3 e3; clear e3
  replace S3 := S2.trans S3
  refine rd_ints (ns := [7, 15, 16, 29]) t3 fun b hb => ⟨_, rfl, iteD (fun h => ?_) (fun h => ?_)⟩
  · rw [hb] at h
    exact leaf1 X.G hi ((by decide +kernel : ∀ i : Nat, i < 37 → (i : Int) ∈ ([7, 15, 16, 29] : List Int) → fN i = [("index" : Str)]) i (by omega) (of_decide_eq_true h)) he S3 kp
  rw [hb, decide_eq_true_eq] at h
  simp only [List.mem_cons, List.not_mem_nil, or_false, not_or] at h
  have q3 := h
  clear h hb
  refine ⟨size_le (by decide), ?_⟩
  intro p4 hp4; generalize e4 : upd _ p4 _ = H4; obtain ⟨S4, t4⟩ := new_of hp4 e4; clear e4
  replace S4 := S3.trans S4
  refine rd_ints (ns := [8, 9, 10, 11, 12, 13, 17, 22, 23, 24, 25]) t4 fun b hb => ⟨_, rfl, iteD (fun h => ?_) (fun h => ?_)⟩
  · rw [hb] at h
    exact leaf1 X.G hi ((by decide +kernel : ∀ i : Nat, i < 37 → (i : Int) ∈ ([8, 9, 10, 11, 12, 13, 17, 22, 23, 24, 25] : List Int) → fN i = [("name" : Str)]) i (by omega) (of_decide_eq_true h)) he S4 kp
  rw [hb, decide_eq_true_eq] at h
  simp only [List.mem_cons, List.not_mem_nil, or_false, not_or] at h
  have q4 := h
  clear h hb
  refine iteD (fun h => ?_) (fun h => ?_)
  · obtain rfl : i = 18 := by omega
    exact leaf1 X.G hi rfl he S4 kp
  have z18 := h
  clear h
  refine iteD (fun h => ?_) (fun h => ?_)
  · obtain rfl : i = 19 := by omega
    exact leaf1 X.G hi rfl he S4 kp
  have z19 := h
  clear h
  refine ⟨size_le (by decide), ?_⟩
  intro p5 hp5; generalize e5 : upd _ p5 _ = H5; obtain ⟨S5, t5⟩ := new_of hp5 e5; clear e5
  replace S5 := S4.trans S5
  refine rd_ints (ns := [20, 27]) t5 fun b hb => ⟨_, rfl, iteD (fun h => ?_) (fun h => ?_)⟩
  · rw [hb] at h
    exact leaf1 X.G hi ((by decide +kernel : ∀ i : Nat, i < 37 → (i : Int) ∈ ([20, 27] : List Int) → fN i = [("move" : Str)]) i (by omega) (of_decide_eq_true h)) he S5 kp
  rw [hb, decide_eq_true_eq] at h
  simp only [List.mem_cons, List.not_mem_nil, or_false, not_or] at h
  have q5 := h
  clear h hb
  refine iteD (fun h => ?_) (fun h => ?_)
  · obtain rfl : i = 21 := by omega
    exact leaf1 X.G hi rfl he S5 kp
  have z21 := h
  clear h
  refine iteD (fun h => ?_) (fun h => ?_)
  · obtain rfl : i = 26 := by omega
    exact leaf1 X.G hi rfl he S5 kp
  have z26 := h
  clear h
  refine iteD (fun h => ?_) (fun h => ?_)
  · obtain rfl : i = 28 := by omega
    exact leaf1 X.G hi rfl he S5 kp
  have z28 := h
  clear h
  refine iteD (fun h => ?_) (fun h => ?_)
  · obtain rfl : i = 30 := by omega
    exact leaf1 X.G hi rfl he S5 kp
  have z30 := h
  clear h
  refine iteD (fun h => ?_) (fun h => ?_)
  · obtain rfl : i = 31 := by omega
    exact leaf1 X.G hi rfl he S5 kp
  have z31 := h
  clear h
  refine ⟨size_le (by decide), fun p hp => ?_⟩
  have hv : valsX i x y z = [] := by
    have h32 : 32 ≤ i := by omega
    unfold valsX
    rw [(by decide +kernel : ∀ i : Nat, i < 37 → 32 ≤ i → fN i = []) i (by omega) h32]
    rfl
  exact kp p _ (np S5 hp) (S5.trans (same_upd hp)) (by rw [upd_same, hv])
end
end My
namespace My
open PySem PySem.Spec PyProof.Rows L2
local macro_rules | `(tactic| walk_at "sx") => `(tactic| first | (simp only [cx_K, cx_pn, cxh_pn, cxh_K, tB, iRng1, iRng2, iRng3, iList, iTup, wAs, tXf, tDictZip, tDGet1, rInD, rInT, tChain, tUn, rU, tCallS, WE, wOnly, tSl, tPart, tNoPart, tRevL, tStepL, tM0, tM1, wipe, tYes, Bool.not_eq_true', gCons, gNil, decide_eq_false_iff_not, tCall, tPar, tAndV, tOrV, tNotV, tIf, List.append_nil, rEq, rNe, scal_ii, scal_ss, scal_bb, scal_nn, scal_in, scal_ni, scal_sn, scal_ns, scal_is, scal_si, Bool.and_true, Bool.true_and, Bool.and_false, Bool.false_and, reduceCtorEq, tLst, tTup, Int.reduceToNat, decide_true, decide_false, Bool.not_true, Bool.not_false, Bool.false_eq_true, if_true, if_false, reduceIte, gSub, tAnd, tOr, tNot, tBM, tBM0, tNext, tSeq, tAsg, tOp, rI, rI0, tVar, tC, gName, tRet, tCB, tCons, tNil, tTest, tIfS, tDrop, L2.start, List.map_cons, List.map_nil, List.length_cons, List.length_nil, List.cons_append, List.nil_append, List.replicate, List.getElem?_cons_zero, List.getElem?_cons_succ, List.set_cons_zero, List.set_cons_succ, Option.some.injEq, V.int.injEq, V.str.injEq, V.bl.injEq, V.ref.injEq, exists_eq_left', exists_eq_left, exists_and_left, exists_eq', and_assoc, List.cons.injEq, and_true, true_and, decide_eq_true_eq, Nat.reduceAdd, Nat.reduceSub]) | skip)
local macro_rules | `(tactic| walk_at "isi") => `(tactic| first | (simp only [isi_none_int, isi_none_bool, isi_none_str, isi_none_list, isi_none_tuple, isi_bool_int, isi_bool_bool, isi_bool_str, isi_bool_list, isi_bool_tuple, isi_int_int, isi_int_bool, isi_int_str, isi_int_list, isi_int_tuple, isi_str_int, isi_str_bool, isi_str_str, isi_str_list, isi_str_tuple, isi_list_int, isi_list_bool, isi_list_str, isi_list_list, isi_list_tuple, isi_tuple_int, isi_tuple_bool, isi_tuple_str, isi_tuple_list, isi_tuple_tuple, isInt_none, isInt_bool, isInt_int, isInt_str, isInt_list, isInt_tuple]) | skip)
def kinds (i : Nat) : List Int := if i < 36 then [(i : Int)] else []
def spClasses (cl : Nat → Addr) (pn : List (Addr × Obj)) : Sp := fun vs H Q _ => ∃ (i : Nat) (e : V) (fs : List (Str × V)), vs = [e] ∧ i ≤ 36 ∧ EV pn H e (cl i) fs ∧ ∀ p H2, H p = none → Same H H2 → H2 p = some (.lst ((kinds i).map V.int)) → Q (.ref p) H2
section
variable {P : Program} {w : World} {K : PySem.W.Frag} {mg : Str → Option Value} {base : Heap} {aW aB : Addr} {cl : Nat → Addr}
theorem sc_classes : FnScope ["_law_e", "_law_found", "_law_place"] ["_law_e"] (defScope s_classes) := ⟨rfl, rfl, rfl, by decide +kernel, rfl, by decide +kernel, by decide +kernel⟩
theorem ok_classes (T : Txt K mg aW aB) (X : Exs P w K mg base cl) (F : Dfn K mg "_law_classes" s_classes) : Rdy P w K mg base CX0 1 "_law_classes" ["_law_e"] (spClasses cl []) := by
  refine F.rdy sc_classes (fun _ _ _ _ _ _ us hl => match us, hl with | [_], _ => rfl) (by rintro _ _ _ _ ⟨_, _, _, rfl, _⟩; rfl) (fun f cdv A outer s H vs Q E hr h => ?_)
  obtain ⟨i, e, fs, rfl, hi, he, kp⟩ := h
  refine ⟨_, (pss_cons (ps_set (i := 1) sc_classes.nd rfl (Or.inr rfl) (pe_lst (pa_cons (pe_callB call_isX (by rfl) T.b_isinstance (by decide +kernel) (pa_cons (pv 0) (pa_cons (pe_gl (v := .ref _) ⟨_, X.BadFormula.gC, rfl⟩) pa_nil))) (pa_cons (pe_callB call_isX (by rfl) T.b_isinstance (by decide +kernel) (pa_cons (pv 0) (pa_cons (pe_gl (v := .ref _) ⟨_, X.CellInUse.gC, rfl⟩) pa_nil))) (pa_cons (pe_callB call_isX (by rfl) T.b_isinstance (by decide +kernel) (pa_cons (pv 0) (pa_cons (pe_gl (v := .ref _) ⟨_, X.InvalidNumber.gC, rfl⟩) pa_nil))) pa_nil)))))
      (pss_cons (ps_set (i := 1) sc_classes.nd rfl (Or.inr rfl) (pe_op op_cat (pv 1) (pe_lst (pa_cons (pe_callB call_isX (by rfl) T.b_isinstance (by decide +kernel) (pa_cons (pv 0) (pa_cons (pe_gl (v := .ref _) ⟨_, X.InvalidText.gC, rfl⟩) pa_nil))) (pa_cons (pe_callB call_isX (by rfl) T.b_isinstance (by decide +kernel) (pa_cons (pv 0) (pa_cons (pe_gl (v := .ref _) ⟨_, X.FormulaSyntax.gC, rfl⟩) pa_nil))) (pa_cons (pe_callB call_isX (by rfl) T.b_isinstance (by decide +kernel) (pa_cons (pv 0) (pa_cons (pe_gl (v := .ref _) ⟨_, X.NotLinear.gC, rfl⟩) pa_nil))) pa_nil))))))
      (pss_cons (ps_set (i := 1) sc_classes.nd rfl (Or.inr rfl) (pe_op op_cat (pv 1) (pe_lst (pa_cons (pe_callB call_isX (by rfl) T.b_isinstance (by decide +kernel) (pa_cons (pv 0) (pa_cons (pe_gl (v := .ref _) ⟨_, X.ZeroDivisor.gC, rfl⟩) pa_nil))) (pa_cons (pe_callB call_isX (by rfl) T.b_isinstance (by decide +kernel) (pa_cons (pv 0) (pa_cons (pe_gl (v := .ref _) ⟨_, X.InvalidRow.gC, rfl⟩) pa_nil))) (pa_cons (pe_callB call_isX (by rfl) T.b_isinstance (by decide +kernel) (pa_cons (pv 0) (pa_cons (pe_gl (v := .ref _) ⟨_, X.InvalidName.gC, rfl⟩) pa_nil))) pa_nil))))))
      (pss_cons (ps_set (i := 1) sc_classes.nd rfl (Or.inr rfl) (pe_op op_cat (pv 1) (pe_lst (pa_cons (pe_callB call_isX (by rfl) T.b_isinstance (by decide +kernel) (pa_cons (pv 0) (pa_cons (pe_gl (v := .ref _) ⟨_, X.DuplicateCell.gC, rfl⟩) pa_nil))) (pa_cons (pe_callB call_isX (by rfl) T.b_isinstance (by decide +kernel) (pa_cons (pv 0) (pa_cons (pe_gl (v := .ref _) ⟨_, X.UnknownCell.gC, rfl⟩) pa_nil))) (pa_cons (pe_callB call_isX (by rfl) T.b_isinstance (by decide +kernel) (pa_cons (pv 0) (pa_cons (pe_gl (v := .ref _) ⟨_, X.CircularCell.gC, rfl⟩) pa_nil))) pa_nil))))))
      (pss_cons (ps_set (i := 1) sc_classes.nd rfl (Or.inr rfl) (pe_op op_cat (pv 1) (pe_lst (pa_cons (pe_callB call_isX (by rfl) T.b_isinstance (by decide +kernel) (pa_cons (pv 0) (pa_cons (pe_gl (v := .ref _) ⟨_, X.NotInput.gC, rfl⟩) pa_nil))) (pa_cons (pe_callB call_isX (by rfl) T.b_isinstance (by decide +kernel) (pa_cons (pv 0) (pa_cons (pe_gl (v := .ref _) ⟨_, X.NotComputed.gC, rfl⟩) pa_nil))) (pa_cons (pe_callB call_isX (by rfl) T.b_isinstance (by decide +kernel) (pa_cons (pv 0) (pa_cons (pe_gl (v := .ref _) ⟨_, X.InvalidTable.gC, rfl⟩) pa_nil))) pa_nil))))))
      (pss_cons (ps_set (i := 1) sc_classes.nd rfl (Or.inr rfl) (pe_op op_cat (pv 1) (pe_lst (pa_cons (pe_callB call_isX (by rfl) T.b_isinstance (by decide +kernel) (pa_cons (pv 0) (pa_cons (pe_gl (v := .ref _) ⟨_, X.InvalidWish.gC, rfl⟩) pa_nil))) (pa_cons (pe_callB call_isX (by rfl) T.b_isinstance (by decide +kernel) (pa_cons (pv 0) (pa_cons (pe_gl (v := .ref _) ⟨_, X.InvalidLimit.gC, rfl⟩) pa_nil))) (pa_cons (pe_callB call_isX (by rfl) T.b_isinstance (by decide +kernel) (pa_cons (pv 0) (pa_cons (pe_gl (v := .ref _) ⟨_, X.EmptyLimit.gC, rfl⟩) pa_nil))) pa_nil))))))
      (pss_cons (ps_set (i := 1) sc_classes.nd rfl (Or.inr rfl) (pe_op op_cat (pv 1) (pe_lst (pa_cons (pe_callB call_isX (by rfl) T.b_isinstance (by decide +kernel) (pa_cons (pv 0) (pa_cons (pe_gl (v := .ref _) ⟨_, X.UnknownCondition.gC, rfl⟩) pa_nil))) (pa_cons (pe_callB call_isX (by rfl) T.b_isinstance (by decide +kernel) (pa_cons (pv 0) (pa_cons (pe_gl (v := .ref _) ⟨_, X.UnknownSide.gC, rfl⟩) pa_nil))) (pa_cons (pe_callB call_isX (by rfl) T.b_isinstance (by decide +kernel) (pa_cons (pv 0) (pa_cons (pe_gl (v := .ref _) ⟨_, X.InvalidMove.gC, rfl⟩) pa_nil))) pa_nil))))))
      (pss_cons (ps_set (i := 1) sc_classes.nd rfl (Or.inr rfl) (pe_op op_cat (pv 1) (pe_lst (pa_cons (pe_callB call_isX (by rfl) T.b_isinstance (by decide +kernel) (pa_cons (pv 0) (pa_cons (pe_gl (v := .ref _) ⟨_, X.InvalidForm.gC, rfl⟩) pa_nil))) (pa_cons (pe_callB call_isX (by rfl) T.b_isinstance (by decide +kernel) (pa_cons (pv 0) (pa_cons (pe_gl (v := .ref _) ⟨_, X.UnlikeCells.gC, rfl⟩) pa_nil))) (pa_cons (pe_callB call_isX (by rfl) T.b_isinstance (by decide +kernel) (pa_cons (pv 0) (pa_cons (pe_gl (v := .ref _) ⟨_, X.AlreadyHeld.gC, rfl⟩) pa_nil))) pa_nil))))))
      (pss_cons (ps_set (i := 1) sc_classes.nd rfl (Or.inr rfl) (pe_op op_cat (pv 1) (pe_lst (pa_cons (pe_callB call_isX (by rfl) T.b_isinstance (by decide +kernel) (pa_cons (pv 0) (pa_cons (pe_gl (v := .ref _) ⟨_, X.NotHeld.gC, rfl⟩) pa_nil))) (pa_cons (pe_callB call_isX (by rfl) T.b_isinstance (by decide +kernel) (pa_cons (pv 0) (pa_cons (pe_gl (v := .ref _) ⟨_, X.NoLimit.gC, rfl⟩) pa_nil))) (pa_cons (pe_callB call_isX (by rfl) T.b_isinstance (by decide +kernel) (pa_cons (pv 0) (pa_cons (pe_gl (v := .ref _) ⟨_, X.Refused.gC, rfl⟩) pa_nil))) pa_nil))))))
      (pss_cons (ps_set (i := 1) sc_classes.nd rfl (Or.inr rfl) (pe_op op_cat (pv 1) (pe_lst (pa_cons (pe_callB call_isX (by rfl) T.b_isinstance (by decide +kernel) (pa_cons (pv 0) (pa_cons (pe_gl (v := .ref _) ⟨_, X.RolesKept.gC, rfl⟩) pa_nil))) (pa_cons (pe_callB call_isX (by rfl) T.b_isinstance (by decide +kernel) (pa_cons (pv 0) (pa_cons (pe_gl (v := .ref _) ⟨_, X.NoMark.gC, rfl⟩) pa_nil))) (pa_cons (pe_callB call_isX (by rfl) T.b_isinstance (by decide +kernel) (pa_cons (pv 0) (pa_cons (pe_gl (v := .ref _) ⟨_, X.InvalidOperation.gC, rfl⟩) pa_nil))) pa_nil))))))
      (pss_cons (ps_set (i := 1) sc_classes.nd rfl (Or.inr rfl) (pe_op op_cat (pv 1) (pe_lst (pa_cons (pe_callB call_isX (by rfl) T.b_isinstance (by decide +kernel) (pa_cons (pv 0) (pa_cons (pe_gl (v := .ref _) ⟨_, X.BadText.gC, rfl⟩) pa_nil))) (pa_cons (pe_callB call_isX (by rfl) T.b_isinstance (by decide +kernel) (pa_cons (pv 0) (pa_cons (pe_gl (v := .ref _) ⟨_, X.BadCommand.gC, rfl⟩) pa_nil))) (pa_cons (pe_callB call_isX (by rfl) T.b_isinstance (by decide +kernel) (pa_cons (pv 0) (pa_cons (pe_gl (v := .ref _) ⟨_, X.ZeroBottom.gC, rfl⟩) pa_nil))) pa_nil))))))
      (pss_cons (ps_set (i := 1) sc_classes.nd rfl (Or.inr rfl) (pe_op op_cat (pv 1) (pe_lst (pa_cons (pe_callB call_isX (by rfl) T.b_isinstance (by decide +kernel) (pa_cons (pv 0) (pa_cons (pe_gl (v := .ref _) ⟨_, X.InvalidWeights.gC, rfl⟩) pa_nil))) (pa_cons (pe_callB call_isX (by rfl) T.b_isinstance (by decide +kernel) (pa_cons (pv 0) (pa_cons (pe_gl (v := .ref _) ⟨_, X.NothingToUndo.gC, rfl⟩) pa_nil))) (pa_cons (pe_callB call_isX (by rfl) T.b_isinstance (by decide +kernel) (pa_cons (pv 0) (pa_cons (pe_gl (v := .ref _) ⟨_, X.NothingToRedo.gC, rfl⟩) pa_nil))) pa_nil))))))
      (pss_one (ps_ret (pe_lc (own := [("_law_place", 2)]) (g := (gName 2)) rfl sc_classes.nd (pi_range1 (by rfl) T.b_range (pa_cons (pe_callB call_len (by rfl) T.b_len PySem.boot_len (pa_cons (pv 1) pa_nil)) pa_nil)) (blkOk_by (N := ["_law_e", "_law_found", "_law_place"]) (sc := defScope s_classes) (by decide +kernel)) (fun _ _ _ _ _ => (pg_name (i := 2) sc_classes.nd rfl (Or.inl rfl))) (fun _ _ _ _ _ => (pts_one (pt_val (pe_ix (ixK (K := K) (fun K => rIxL K) ix_list) (pv 1) (pv 2) (fun _ _ => rfl))))) (fun _ _ _ _ _ => (pv 2))))))))))))))))), ?_⟩
  walk_at "sx"
  refine rd_isX X.G hi (by decide) he <| rd_isX X.G hi (by decide) he <| rd_isX X.G hi (by decide) he ⟨size_le (by decide), ?_⟩
  intro g0 n0; generalize e0 : upd _ g0 _ = K0; obtain ⟨s0, h0⟩ := new_of n0 e0; clear e0
  replace he := he.same s0
  have S0 := s0
  have L0 := h0
  refine rd_isX X.G hi (by decide) he <| rd_isX X.G hi (by decide) he <| rd_isX X.G hi (by decide) he ⟨size_le (by decide), ?_⟩
  intro g1 n1; generalize e1 : upd _ g1 _ = K1; obtain ⟨s1, h1⟩ := new_of n1 e1; clear e1
  replace he := he.same s1
  refine rd_cat (s1 _ _ L0) h1 (by simp) fun r1 R1 _ u1 L1 => ?_
  replace he := he.same u1
  have S1 := (S0.trans s1).trans u1
  simp only [List.cons_append, List.nil_append] at L1
  clear L0 S0 h1 s1 u1
  refine rd_isX X.G hi (by decide) he <| rd_isX X.G hi (by decide) he <| rd_isX X.G hi (by decide) he ⟨size_le (by decide), ?_⟩
  intro g2 n2; generalize e2 : upd _ g2 _ = K2; obtain ⟨s2, h2⟩ := new_of n2 e2; clear e2
  replace he := he.same s2
  refine rd_cat (s2 _ _ L1) h2 (by simp) fun r2 R2 _ u2 L2 => ?_
  replace he := he.same u2
  have S2 := (S1.trans s2).trans u2
  simp only [List.cons_append, List.nil_append] at L2
  clear L1 S1 h2 s2 u2
  refine rd_isX X.G hi (by decide) he <| rd_isX X.G hi (by decide) he <| rd_isX X.G hi (by decide) he ⟨size_le (by decide), ?_⟩
  intro g3 n3; generalize e3 : upd _ g3 _ = K3; obtain ⟨s3, h3⟩ := new_of n3 e3; clear e3
  replace he := he.same s3
  refine rd_cat (s3 _ _ L2) h3 (by simp) fun r3 R3 _ u3 L3 => ?_
  replace he := he.same u3
  have S3 := (S2.trans s3).trans u3
  simp only [List.cons_append, List.nil_append] at L3
  clear L2 S2 h3 s3 u3
  refine rd_isX X.G hi (by decide) he <| rd_isX X.G hi (by decide) he <| rd_isX X.G hi (by decide) he ⟨size_le (by decide), ?_⟩
  intro g4 n4; generalize e4 : upd _ g4 _ = K4; obtain ⟨s4, h4⟩ := new_of n4 e4; clear e4
  replace he := he.same s4
  refine rd_cat (s4 _ _ L3) h4 (by simp) fun r4 R4 _ u4 L4 => ?_
  replace he := he.same u4
  have S4 := (S3.trans s4).trans u4
  simp only [List.cons_append, List.nil_append] at L4
  clear L3 S3 h4 s4 u4
  refine rd_isX X.G hi (by decide) he <| rd_isX X.G hi (by decide) he <| rd_isX X.G hi (by decide) he ⟨size_le (by decide), ?_⟩
  intro g5 n5; generalize e5 : upd _ g5 _ = K5; obtain ⟨s5, h5⟩ := new_of n5 e5; clear e5
  replace he := he.same s5
  refine rd_cat (s5 _ _ L4) h5 (by simp) fun r5 R5 _ u5 L5 => ?_
  replace he := he.same u5
  have S5 := (S4.trans s5).trans u5
  simp only [List.cons_append, List.nil_append] at L5
  clear L4 S4 h5 s5 u5
  refine rd_isX X.G hi (by decide) he <| rd_isX X.G hi (by decide) he <| rd_isX X.G hi (by decide) he ⟨size_le (by decide), ?_⟩
  intro g6 n6; generalize e6 : upd _ g6 _ = K6; obtain ⟨s6, h6⟩ := new_of n6 e6; clear e6
  replace he := he.same s6
  refine rd_cat (s6 _ _ L5) h6 (by simp) fun r6 R6 _ u6 L6 => ?_
  replace he := he.same u6
  have S6 := (S5.trans s6).trans u6
  simp only [List.cons_append, List.nil_append] at L6
  clear L5 S5 h6 s6 u6
  refine rd_isX X.G hi (by decide) he <| rd_isX X.G hi (by decide) he <| rd_isX X.G hi (by decide) he ⟨size_le (by decide), ?_⟩
  intro g7 n7; generalize e7 : upd _ g7 _ = K7; obtain ⟨s7, h7⟩ := new_of n7 e7; clear e7
  replace he := he.same s7
  refine rd_cat (s7 _ _ L6) h7 (by simp) fun r7 R7 _ u7 L7 => ?_
  replace he := he.same u7
  have S7 := (S6.trans s7).trans u7
  simp only [List.cons_append, List.nil_append] at L7
  clear L6 S6 h7 s7 u7
  refine rd_isX X.G hi (by decide) he <| rd_isX X.G hi (by decide) he <| rd_isX X.G hi (by decide) he ⟨size_le (by decide), ?_⟩
  intro g8 n8; generalize e8 : upd _ g8 _ = K8; obtain ⟨s8, h8⟩ := new_of n8 e8; clear e8
  replace he := he.same s8
  refine rd_cat (s8 _ _ L7) h8 (by simp) fun r8 R8 _ u8 L8 => ?_
  replace he := he.same u8
  have S8 := (S7.trans s8).trans u8
  simp only [List.cons_append, List.nil_append] at L8
  clear L7 S7 h8 s8 u8
  refine rd_isX X.G hi (by decide) he <| rd_isX X.G hi (by decide) he <| rd_isX X.G hi (by decide) he ⟨size_le (by decide), ?_⟩
  intro g9 n9; generalize e9 : upd _ g9 _ = K9; obtain ⟨s9, h9⟩ := new_of n9 e9; clear e9
  replace he := he.same s9
  refine rd_cat (s9 _ _ L8) h9 (by simp) fun r9 R9 _ u9 L9 => ?_
  replace he := he.same u9
  have S9 := (S8.trans s9).trans u9
  simp only [List.cons_append, List.nil_append] at L9
  clear L8 S8 h9 s9 u9
  refine rd_isX X.G hi (by decide) he <| rd_isX X.G hi (by decide) he <| rd_isX X.G hi (by decide) he ⟨size_le (by decide), ?_⟩
  intro g10 n10; generalize e10 : upd _ g10 _ = K10; obtain ⟨s10, h10⟩ := new_of n10 e10; clear e10
  replace he := he.same s10
  refine rd_cat (s10 _ _ L9) h10 (by simp) fun r10 R10 _ u10 L10 => ?_
  replace he := he.same u10
  have S10 := (S9.trans s10).trans u10
  simp only [List.cons_append, List.nil_append] at L10
  clear L9 S9 h10 s10 u10
  refine rd_isX X.G hi (by decide) he <| rd_isX X.G hi (by decide) he <| rd_isX X.G hi (by decide) he ⟨size_le (by decide), ?_⟩
  intro g11 n11; generalize e11 : upd _ g11 _ = K11; obtain ⟨s11, h11⟩ := new_of n11 e11; clear e11
  replace he := he.same s11
  refine rd_cat (s11 _ _ L10) h11 (by simp) fun r11 R11 _ u11 L11 => ?_
  replace he := he.same u11
  have S11 := (S10.trans s11).trans u11
  simp only [List.cons_append, List.nil_append] at L11
  clear L10 S10 h11 s11 u11
  have L : R11 r11 = some (.lst (((List.range 36).map fun j => decide (i = j ∨ j = 36)).map V.bl)) := L11
  clear L11
  refine rd_lc fun Z hZ => ?_
  walk_at "sx"
  refine rd_lenL (SqL.of L) ?_
  have hlen : (((List.range 36).map fun j => decide (i = j ∨ j = 36)).map V.bl).length = 36 := by simp
  rw [hlen]
  refine ⟨by decide, by decide, hZ _ _ fun D hD => lc_raw K [] no_mem walk_range Fr.nil hD (fun j ds H => ds = ((List.range j).filter fun k => decide (i = k ∨ k = 36)).map fun (k : Nat) => PyData.int k) (fun _ _ => rfl) (fun _ _ => trivial) (fun j x vals acc H1 H' hj hn hv hd hle sb fr hR hY => ?_) fun vals ds H1 hn hv hvs sb fr hle hR => ?_⟩
  · obtain ⟨rfl, rfl⟩ := hY
    have hj36 : j < 36 := by simpa using hj
    walk_at "sx"
    refine rd_ixL (v := .bl (decide (i = j ∨ j = 36))) (sb.nil _ _ L) ?_ ?_
    · rw [show (0 : Int) + (j : Int) = (j : Int) by omega]
      exact atI_nat (by simp [hj36])
    refine ⟨_, rfl, iteD (fun h => ?_) (fun h => ?_)⟩
    · refine lc_put no_mem hD hn hv hd hle (by omega) sb .refl fr (.int _) fun H11 s11 f11 => ?_
      rw [hR, List.range_succ, List.filter_append, List.map_append]
      simp only [List.filter_cons, h, if_true, List.filter_nil, List.map_cons, List.map_nil]
      rw [show (0 : Int) + (j : Int) = (j : Int) by omega]
    · refine lc_skip no_mem hn hv hd hle sb .refl fr ?_
      rw [hR, List.range_succ, List.filter_append, List.map_append]
      simp only [List.filter_cons, h, List.filter_nil, List.map_nil, List.append_nil]
      simp
  · have e36 : ((List.range (36 : Int).toNat).filter fun k => decide (i = k ∨ k = 36)).map (fun (k : Nat) => PyData.int k) = (kinds i).map PyData.int :=
      (by decide +kernel : ∀ i : Nat, i < 37 → ((List.range (36 : Int).toNat).filter fun k => decide (i = k ∨ k = 36)).map (fun (k : Nat) => (k : Int)) = kinds i) i (by omega) ▸ by rw [List.map_map]; rfl
    rw [show ((36 : Nat) : Int) = (36 : Int) from rfl] at hR
    rw [hR, e36] at hvs
    obtain rfl := dps_ints hvs
    have np : H D = none := by
      cases e : H D with
      | none => rfl
      | some o => rw [S11 _ _ e] at hD; cases hD
    exact kp D H1 np (S11.trans sb.nil) hv
end
end My
namespace My
open PySem PySem.Spec PyProof.Rows L2
local macro_rules | `(tactic| walk_at "sx") => `(tactic| first | (simp only [cx_K, cx_pn, cxh_pn, cxh_K, tB, iRng1, iRng2, iRng3, iList, iTup, wAs, tXf, tDictZip, tDGet1, rInD, rInT, tChain, tUn, rU, tCallS, WE, wOnly, tSl, tPart, tNoPart, tRevL, tStepL, tM0, tM1, wipe, tYes, Bool.not_eq_true', gCons, gNil, decide_eq_false_iff_not, tCall, tPar, tAndV, tOrV, tNotV, tIf, List.append_nil, rEq, rNe, scal_ii, scal_ss, scal_bb, scal_nn, scal_in, scal_ni, scal_sn, scal_ns, scal_is, scal_si, Bool.and_true, Bool.true_and, Bool.and_false, Bool.false_and, reduceCtorEq, tLst, tTup, Int.reduceToNat, decide_true, decide_false, Bool.not_true, Bool.not_false, Bool.false_eq_true, if_true, if_false, reduceIte, gSub, tAnd, tOr, tNot, tBM, tBM0, tNext, tSeq, tAsg, tOp, rI, rI0, tVar, tC, gName, tRet, tCB, tCons, tNil, tTest, tIfS, tDrop, L2.start, List.map_cons, List.map_nil, List.length_cons, List.length_nil, List.cons_append, List.nil_append, List.replicate, List.getElem?_cons_zero, List.getElem?_cons_succ, List.set_cons_zero, List.set_cons_succ, Option.some.injEq, V.int.injEq, V.str.injEq, V.bl.injEq, V.ref.injEq, exists_eq_left', exists_eq_left, exists_and_left, exists_eq', and_assoc, List.cons.injEq, and_true, true_and, decide_eq_true_eq, Nat.reduceAdd, Nat.reduceSub]) | skip)
local macro_rules | `(tactic| walk_at "isi") => `(tactic| first | (simp only [isi_none_int, isi_none_bool, isi_none_str, isi_none_list, isi_none_tuple, isi_bool_int, isi_bool_bool, isi_bool_str, isi_bool_list, isi_bool_tuple, isi_int_int, isi_int_bool, isi_int_str, isi_int_list, isi_int_tuple, isi_str_int, isi_str_bool, isi_str_str, isi_str_list, isi_str_tuple, isi_list_int, isi_list_bool, isi_list_str, isi_list_list, isi_list_tuple, isi_tuple_int, isi_tuple_bool, isi_tuple_str, isi_tuple_list, isi_tuple_tuple, isInt_none, isInt_bool, isInt_int, isInt_str, isInt_list, isInt_tuple]) | skip)
/-- raises the exception of the number i, where lo ≤ i < hi -/
def spR (cl : Nat → Addr) (lo hi n : Nat) : Sp := fun vs H Q E => ∃ (i : Nat) (x y z : V), vs = .int i :: [x, y, z].take n ∧ i ≤ 36 ∧ (lo ≤ i → i < hi → ∀ d H2, Same H H2 → DX H2 d (flds (fN i) [x, y, z]) → E (.ref (cl i)) d H2) ∧ (¬ (lo ≤ i ∧ i < hi) → Q .non H)
section
variable {cl : Nat → Addr} {x y z k : V} {r : L2.St} {H : Hp} {i : Nat} {W : WX} {D : Ends}
theorem rx3 (q : ∀ d H2, Same H H2 → DX H2 d (flds (fN 0) [x, y, z]) → W (.ref (cl 0)) d (some k :: some x :: some y :: some z :: r) H2) : tRX (cl 0) (fN 0) W (tCons (tVar 1) (tCons (tVar 2) (tCons (tVar 3) tNil))) D (some k :: some x :: some y :: some z :: r) H :=
  ⟨_, rfl, _, rfl, _, rfl, rfl, fun d H2 s e => q _ H2 s e⟩
theorem rx2 (q : ∀ d H2, Same H H2 → DX H2 d (flds (fN 1) [x, y, z]) → W (.ref (cl 1)) d (some k :: some x :: some y :: some z :: r) H2) : tRX (cl 1) (fN 1) W (tCons (tVar 1) (tCons (tVar 2) tNil)) D (some k :: some x :: some y :: some z :: r) H :=
  ⟨_, rfl, _, rfl, rfl, fun d H2 s e => q _ H2 s e⟩
theorem rx1 (hn : (fN i).length = 1) (q : ∀ d H2, Same H H2 → DX H2 d (flds (fN i) [x, y, z]) → W (.ref (cl i)) d (some k :: some x :: r) H2) : tRX (cl i) (fN i) W (tCons (tVar 1) tNil) D (some k :: some x :: r) H :=
  ⟨_, rfl, by rw [hn]; rfl, fun d H2 s e => q _ H2 s (by rw [← flds1 hn]; exact e)⟩
end
section
variable {P : Program} {w : World} {K : PySem.W.Frag} {mg : Str → Option Value} {base : Heap} {aW aB : Addr} {cl : Nat → Addr}
theorem sc_raise_more : FnScope ["_law_way", "_law_first", "_law_second", "_law_third"] ["_law_way", "_law_first", "_law_second", "_law_third"] (defScope s_raise_more) := ⟨rfl, rfl, rfl, by decide +kernel, rfl, by decide +kernel, by decide +kernel⟩
theorem ok_raise_more (X : Exs P w K mg base cl) (F : Dfn K mg "_law_raise_more" s_raise_more) : Rdy P w K mg base (L2N.CX P w) 3 "_law_raise_more" ["_law_way", "_law_first", "_law_second", "_law_third"] (spR cl 0 2 3) := by
  refine F.rdyXN sc_raise_more (fun _ _ _ _ _ _ us hl => match us, hl with | [_, _, _, _], _ => rfl) (by rintro _ _ _ _ ⟨_, _, _, _, rfl, _⟩; rfl) (fun f cdv A outer s H vs Q E hr h => ?_)
  obtain ⟨i, x, y, z, rfl, hi, kp, kn⟩ := h
  refine ⟨_, (pss_cons (ps_if (pt_cmpR op_eq (pv 0) pe_int (nomark _)) (pss_one (ps_rx rfl (L2N.takes_of rfl rfl rfl rfl) X.BadFormula (hr.mono (by decide)) (pa_cons (pv 1) (pa_cons (pv 2) (pa_cons (pv 3) pa_nil))))) pss_nil)
      (pss_one (ps_if (pt_cmpR op_eq (pv 0) pe_int (nomark _)) (pss_one (ps_rx rfl (L2N.takes_of rfl rfl rfl rfl) X.CellInUse (hr.mono (by decide)) (pa_cons (pv 1) (pa_cons (pv 2) pa_nil)))) pss_nil))), ?_⟩
  walk_at "sx"
  refine iteD (fun h => ?_) (fun h0 => ?_)
  · obtain rfl : i = 0 := by omega
    exact rx3 fun d H2 s e => kp (by decide) (by decide) d H2 s e
  refine iteD (fun h => ?_) (fun h1 => ?_)
  · obtain rfl : i = 1 := by omega
    exact rx2 fun d H2 s e => kp (by decide) (by decide) d H2 s e
  exact kn (by omega)
theorem sc_raise_one : FnScope ["_law_way", "_law_first"] ["_law_way", "_law_first"] (defScope s_raise_one) := ⟨rfl, rfl, rfl, by decide +kernel, rfl, by decide +kernel, by decide +kernel⟩
theorem ok_raise_one (X : Exs P w K mg base cl) (F : Dfn K mg "_law_raise_one" s_raise_one) : Rdy P w K mg base (L2N.CX P w) 3 "_law_raise_one" ["_law_way", "_law_first"] (spR cl 2 17 1) := by
  refine F.rdyXN sc_raise_one (fun _ _ _ _ _ _ us hl => match us, hl with | [_, _], _ => rfl) (by rintro _ _ _ _ ⟨_, _, _, _, rfl, _⟩; rfl) (fun f cdv A outer s H vs Q E hr h => ?_)
  obtain ⟨i, x, y, z, rfl, hi, kp, kn⟩ := h
  refine ⟨_, (pss_cons (ps_if (pt_cmpR op_eq (pv 0) pe_int (nomark _)) (pss_one (ps_rx rfl (L2N.takes_of rfl rfl rfl rfl) X.InvalidNumber (hr.mono (by decide)) (pa_cons (pv 1) pa_nil))) pss_nil)
      (pss_cons (ps_if (pt_cmpR op_eq (pv 0) pe_int (nomark _)) (pss_one (ps_rx rfl (L2N.takes_of rfl rfl rfl rfl) X.InvalidText (hr.mono (by decide)) (pa_cons (pv 1) pa_nil))) pss_nil)
      (pss_cons (ps_if (pt_cmpR op_eq (pv 0) pe_int (nomark _)) (pss_one (ps_rx rfl (L2N.takes_of rfl rfl rfl rfl) X.FormulaSyntax (hr.mono (by decide)) (pa_cons (pv 1) pa_nil))) pss_nil)
      (pss_cons (ps_if (pt_cmpR op_eq (pv 0) pe_int (nomark _)) (pss_one (ps_rx rfl (L2N.takes_of rfl rfl rfl rfl) X.NotLinear (hr.mono (by decide)) (pa_cons (pv 1) pa_nil))) pss_nil)
      (pss_cons (ps_if (pt_cmpR op_eq (pv 0) pe_int (nomark _)) (pss_one (ps_rx rfl (L2N.takes_of rfl rfl rfl rfl) X.ZeroDivisor (hr.mono (by decide)) (pa_cons (pv 1) pa_nil))) pss_nil)
      (pss_cons (ps_if (pt_cmpR op_eq (pv 0) pe_int (nomark _)) (pss_one (ps_rx rfl (L2N.takes_of rfl rfl rfl rfl) X.InvalidRow (hr.mono (by decide)) (pa_cons (pv 1) pa_nil))) pss_nil)
      (pss_cons (ps_if (pt_cmpR op_eq (pv 0) pe_int (nomark _)) (pss_one (ps_rx rfl (L2N.takes_of rfl rfl rfl rfl) X.InvalidName (hr.mono (by decide)) (pa_cons (pv 1) pa_nil))) pss_nil)
      (pss_cons (ps_if (pt_cmpR op_eq (pv 0) pe_int (nomark _)) (pss_one (ps_rx rfl (L2N.takes_of rfl rfl rfl rfl) X.DuplicateCell (hr.mono (by decide)) (pa_cons (pv 1) pa_nil))) pss_nil)
      (pss_cons (ps_if (pt_cmpR op_eq (pv 0) pe_int (nomark _)) (pss_one (ps_rx rfl (L2N.takes_of rfl rfl rfl rfl) X.UnknownCell (hr.mono (by decide)) (pa_cons (pv 1) pa_nil))) pss_nil)
      (pss_cons (ps_if (pt_cmpR op_eq (pv 0) pe_int (nomark _)) (pss_one (ps_rx rfl (L2N.takes_of rfl rfl rfl rfl) X.CircularCell (hr.mono (by decide)) (pa_cons (pv 1) pa_nil))) pss_nil)
      (pss_cons (ps_if (pt_cmpR op_eq (pv 0) pe_int (nomark _)) (pss_one (ps_rx rfl (L2N.takes_of rfl rfl rfl rfl) X.NotInput (hr.mono (by decide)) (pa_cons (pv 1) pa_nil))) pss_nil)
      (pss_cons (ps_if (pt_cmpR op_eq (pv 0) pe_int (nomark _)) (pss_one (ps_rx rfl (L2N.takes_of rfl rfl rfl rfl) X.NotComputed (hr.mono (by decide)) (pa_cons (pv 1) pa_nil))) pss_nil)
      (pss_cons (ps_if (pt_cmpR op_eq (pv 0) pe_int (nomark _)) (pss_one (ps_rx rfl (L2N.takes_of rfl rfl rfl rfl) X.InvalidTable (hr.mono (by decide)) (pa_cons (pv 1) pa_nil))) pss_nil)
      (pss_cons (ps_if (pt_cmpR op_eq (pv 0) pe_int (nomark _)) (pss_one (ps_rx rfl (L2N.takes_of rfl rfl rfl rfl) X.InvalidWish (hr.mono (by decide)) (pa_cons (pv 1) pa_nil))) pss_nil)
      (pss_one (ps_if (pt_cmpR op_eq (pv 0) pe_int (nomark _)) (pss_one (ps_rx rfl (L2N.takes_of rfl rfl rfl rfl) X.InvalidLimit (hr.mono (by decide)) (pa_cons (pv 1) pa_nil))) pss_nil)))))))))))))))), ?_⟩
  walk_at "sx"
  refine iteD (fun h => ?_) (fun h2 => ?_)
  · obtain rfl : i = 2 := by omega
    exact rx1 (y := y) (z := z) rfl fun d H2 s e => kp (by decide) (by decide) d H2 s e
  refine iteD (fun h => ?_) (fun h3 => ?_)
  · obtain rfl : i = 3 := by omega
    exact rx1 (y := y) (z := z) rfl fun d H2 s e => kp (by decide) (by decide) d H2 s e
  refine iteD (fun h => ?_) (fun h4 => ?_)
  · obtain rfl : i = 4 := by omega
    exact rx1 (y := y) (z := z) rfl fun d H2 s e => kp (by decide) (by decide) d H2 s e
  refine iteD (fun h => ?_) (fun h5 => ?_)
  · obtain rfl : i = 5 := by omega
    exact rx1 (y := y) (z := z) rfl fun d H2 s e => kp (by decide) (by decide) d H2 s e
  refine iteD (fun h => ?_) (fun h6 => ?_)
  · obtain rfl : i = 6 := by omega
    exact rx1 (y := y) (z := z) rfl fun d H2 s e => kp (by decide) (by decide) d H2 s e
  refine iteD (fun h => ?_) (fun h7 => ?_)
  · obtain rfl : i = 7 := by omega
    exact rx1 (y := y) (z := z) rfl fun d H2 s e => kp (by decide) (by decide) d H2 s e
  refine iteD (fun h => ?_) (fun h8 => ?_)
  · obtain rfl : i = 8 := by omega
    exact rx1 (y := y) (z := z) rfl fun d H2 s e => kp (by decide) (by decide) d H2 s e
  refine iteD (fun h => ?_) (fun h9 => ?_)
  · obtain rfl : i = 9 := by omega
    exact rx1 (y := y) (z := z) rfl fun d H2 s e => kp (by decide) (by decide) d H2 s e
  refine iteD (fun h => ?_) (fun h10 => ?_)
  · obtain rfl : i = 10 := by omega
    exact rx1 (y := y) (z := z) rfl fun d H2 s e => kp (by decide) (by decide) d H2 s e
  refine iteD (fun h => ?_) (fun h11 => ?_)
  · obtain rfl : i = 11 := by omega
    exact rx1 (y := y) (z := z) rfl fun d H2 s e => kp (by decide) (by decide) d H2 s e
  refine iteD (fun h => ?_) (fun h12 => ?_)
  · obtain rfl : i = 12 := by omega
    exact rx1 (y := y) (z := z) rfl fun d H2 s e => kp (by decide) (by decide) d H2 s e
  refine iteD (fun h => ?_) (fun h13 => ?_)
  · obtain rfl : i = 13 := by omega
    exact rx1 (y := y) (z := z) rfl fun d H2 s e => kp (by decide) (by decide) d H2 s e
  refine iteD (fun h => ?_) (fun h14 => ?_)
  · obtain rfl : i = 14 := by omega
    exact rx1 (y := y) (z := z) rfl fun d H2 s e => kp (by decide) (by decide) d H2 s e
  refine iteD (fun h => ?_) (fun h15 => ?_)
  · obtain rfl : i = 15 := by omega
    exact rx1 (y := y) (z := z) rfl fun d H2 s e => kp (by decide) (by decide) d H2 s e
  refine iteD (fun h => ?_) (fun h16 => ?_)
  · obtain rfl : i = 16 := by omega
    exact rx1 (y := y) (z := z) rfl fun d H2 s e => kp (by decide) (by decide) d H2 s e
  exact kn (by omega)
theorem sc_raise_other : FnScope ["_law_way", "_law_first"] ["_law_way", "_law_first"] (defScope s_raise_other) := ⟨rfl, rfl, rfl, by decide +kernel, rfl, by decide +kernel, by decide +kernel⟩
theorem ok_raise_other (X : Exs P w K mg base cl) (F : Dfn K mg "_law_raise_other" s_raise_other) : Rdy P w K mg base (L2N.CX P w) 3 "_law_raise_other" ["_law_way", "_law_first"] (spR cl 17 32 1) := by
  refine F.rdyXN sc_raise_other (fun _ _ _ _ _ _ us hl => match us, hl with | [_, _], _ => rfl) (by rintro _ _ _ _ ⟨_, _, _, _, rfl, _⟩; rfl) (fun f cdv A outer s H vs Q E hr h => ?_)
  obtain ⟨i, x, y, z, rfl, hi, kp, kn⟩ := h
  refine ⟨_, (pss_cons (ps_if (pt_cmpR op_eq (pv 0) pe_int (nomark _)) (pss_one (ps_rx rfl (L2N.takes_of rfl rfl rfl rfl) X.EmptyLimit (hr.mono (by decide)) (pa_cons (pv 1) pa_nil))) pss_nil)
      (pss_cons (ps_if (pt_cmpR op_eq (pv 0) pe_int (nomark _)) (pss_one (ps_rx rfl (L2N.takes_of rfl rfl rfl rfl) X.UnknownCondition (hr.mono (by decide)) (pa_cons (pv 1) pa_nil))) pss_nil)
      (pss_cons (ps_if (pt_cmpR op_eq (pv 0) pe_int (nomark _)) (pss_one (ps_rx rfl (L2N.takes_of rfl rfl rfl rfl) X.UnknownSide (hr.mono (by decide)) (pa_cons (pv 1) pa_nil))) pss_nil)
      (pss_cons (ps_if (pt_cmpR op_eq (pv 0) pe_int (nomark _)) (pss_one (ps_rx rfl (L2N.takes_of rfl rfl rfl rfl) X.InvalidMove (hr.mono (by decide)) (pa_cons (pv 1) pa_nil))) pss_nil)
      (pss_cons (ps_if (pt_cmpR op_eq (pv 0) pe_int (nomark _)) (pss_one (ps_rx rfl (L2N.takes_of rfl rfl rfl rfl) X.InvalidForm (hr.mono (by decide)) (pa_cons (pv 1) pa_nil))) pss_nil)
      (pss_cons (ps_if (pt_cmpR op_eq (pv 0) pe_int (nomark _)) (pss_one (ps_rx rfl (L2N.takes_of rfl rfl rfl rfl) X.UnlikeCells (hr.mono (by decide)) (pa_cons (pv 1) pa_nil))) pss_nil)
      (pss_cons (ps_if (pt_cmpR op_eq (pv 0) pe_int (nomark _)) (pss_one (ps_rx rfl (L2N.takes_of rfl rfl rfl rfl) X.AlreadyHeld (hr.mono (by decide)) (pa_cons (pv 1) pa_nil))) pss_nil)
      (pss_cons (ps_if (pt_cmpR op_eq (pv 0) pe_int (nomark _)) (pss_one (ps_rx rfl (L2N.takes_of rfl rfl rfl rfl) X.NotHeld (hr.mono (by decide)) (pa_cons (pv 1) pa_nil))) pss_nil)
      (pss_cons (ps_if (pt_cmpR op_eq (pv 0) pe_int (nomark _)) (pss_one (ps_rx rfl (L2N.takes_of rfl rfl rfl rfl) X.NoLimit (hr.mono (by decide)) (pa_cons (pv 1) pa_nil))) pss_nil)
      (pss_cons (ps_if (pt_cmpR op_eq (pv 0) pe_int (nomark _)) (pss_one (ps_rx rfl (L2N.takes_of rfl rfl rfl rfl) X.Refused (hr.mono (by decide)) (pa_cons (pv 1) pa_nil))) pss_nil)
      (pss_cons (ps_if (pt_cmpR op_eq (pv 0) pe_int (nomark _)) (pss_one (ps_rx rfl (L2N.takes_of rfl rfl rfl rfl) X.RolesKept (hr.mono (by decide)) (pa_cons (pv 1) pa_nil))) pss_nil)
      (pss_cons (ps_if (pt_cmpR op_eq (pv 0) pe_int (nomark _)) (pss_one (ps_rx rfl (L2N.takes_of rfl rfl rfl rfl) X.NoMark (hr.mono (by decide)) (pa_cons (pv 1) pa_nil))) pss_nil)
      (pss_cons (ps_if (pt_cmpR op_eq (pv 0) pe_int (nomark _)) (pss_one (ps_rx rfl (L2N.takes_of rfl rfl rfl rfl) X.InvalidOperation (hr.mono (by decide)) (pa_cons (pv 1) pa_nil))) pss_nil)
      (pss_cons (ps_if (pt_cmpR op_eq (pv 0) pe_int (nomark _)) (pss_one (ps_rx rfl (L2N.takes_of rfl rfl rfl rfl) X.BadText (hr.mono (by decide)) (pa_cons (pv 1) pa_nil))) pss_nil)
      (pss_one (ps_if (pt_cmpR op_eq (pv 0) pe_int (nomark _)) (pss_one (ps_rx rfl (L2N.takes_of rfl rfl rfl rfl) X.BadCommand (hr.mono (by decide)) (pa_cons (pv 1) pa_nil))) pss_nil)))))))))))))))), ?_⟩
  walk_at "sx"
  refine iteD (fun h => ?_) (fun h17 => ?_)
  · obtain rfl : i = 17 := by omega
    exact rx1 (y := y) (z := z) rfl fun d H2 s e => kp (by decide) (by decide) d H2 s e
  refine iteD (fun h => ?_) (fun h18 => ?_)
  · obtain rfl : i = 18 := by omega
    exact rx1 (y := y) (z := z) rfl fun d H2 s e => kp (by decide) (by decide) d H2 s e
  refine iteD (fun h => ?_) (fun h19 => ?_)
  · obtain rfl : i = 19 := by omega
    exact rx1 (y := y) (z := z) rfl fun d H2 s e => kp (by decide) (by decide) d H2 s e
  refine iteD (fun h => ?_) (fun h20 => ?_)
  · obtain rfl : i = 20 := by omega
    exact rx1 (y := y) (z := z) rfl fun d H2 s e => kp (by decide) (by decide) d H2 s e
  refine iteD (fun h => ?_) (fun h21 => ?_)
  · obtain rfl : i = 21 := by omega
    exact rx1 (y := y) (z := z) rfl fun d H2 s e => kp (by decide) (by decide) d H2 s e
  refine iteD (fun h => ?_) (fun h22 => ?_)
  · obtain rfl : i = 22 := by omega
    exact rx1 (y := y) (z := z) rfl fun d H2 s e => kp (by decide) (by decide) d H2 s e
  refine iteD (fun h => ?_) (fun h23 => ?_)
  · obtain rfl : i = 23 := by omega
    exact rx1 (y := y) (z := z) rfl fun d H2 s e => kp (by decide) (by decide) d H2 s e
  refine iteD (fun h => ?_) (fun h24 => ?_)
  · obtain rfl : i = 24 := by omega
    exact rx1 (y := y) (z := z) rfl fun d H2 s e => kp (by decide) (by decide) d H2 s e
  refine iteD (fun h => ?_) (fun h25 => ?_)
  · obtain rfl : i = 25 := by omega
    exact rx1 (y := y) (z := z) rfl fun d H2 s e => kp (by decide) (by decide) d H2 s e
  refine iteD (fun h => ?_) (fun h26 => ?_)
  · obtain rfl : i = 26 := by omega
    exact rx1 (y := y) (z := z) rfl fun d H2 s e => kp (by decide) (by decide) d H2 s e
  refine iteD (fun h => ?_) (fun h27 => ?_)
  · obtain rfl : i = 27 := by omega
    exact rx1 (y := y) (z := z) rfl fun d H2 s e => kp (by decide) (by decide) d H2 s e
  refine iteD (fun h => ?_) (fun h28 => ?_)
  · obtain rfl : i = 28 := by omega
    exact rx1 (y := y) (z := z) rfl fun d H2 s e => kp (by decide) (by decide) d H2 s e
  refine iteD (fun h => ?_) (fun h29 => ?_)
  · obtain rfl : i = 29 := by omega
    exact rx1 (y := y) (z := z) rfl fun d H2 s e => kp (by decide) (by decide) d H2 s e
  refine iteD (fun h => ?_) (fun h30 => ?_)
  · obtain rfl : i = 30 := by omega
    exact rx1 (y := y) (z := z) rfl fun d H2 s e => kp (by decide) (by decide) d H2 s e
  refine iteD (fun h => ?_) (fun h31 => ?_)
  · obtain rfl : i = 31 := by omega
    exact rx1 (y := y) (z := z) rfl fun d H2 s e => kp (by decide) (by decide) d H2 s e
  exact kn (by omega)
theorem sc_raise_bare : FnScope ["_law_way"] ["_law_way"] (defScope s_raise_bare) := ⟨rfl, rfl, rfl, by decide +kernel, rfl, by decide +kernel, by decide +kernel⟩
theorem ok_raise_bare (X : Exs P w K mg base cl) (F : Dfn K mg "_law_raise_bare" s_raise_bare) : Rdy P w K mg base (L2N.CX P w) 3 "_law_raise_bare" ["_law_way"] (spR cl 32 37 0) := by
  refine F.rdyXN sc_raise_bare (fun _ _ _ _ _ _ us hl => match us, hl with | [_], _ => rfl) (by rintro _ _ _ _ ⟨_, _, _, _, rfl, _⟩; rfl) (fun f cdv A outer s H vs Q E hr h => ?_)
  obtain ⟨i, x, y, z, rfl, hi, kp, kn⟩ := h
  refine ⟨_, (pss_cons (ps_if (pt_cmpR op_eq (pv 0) pe_int (nomark _)) (pss_one (ps_rb rfl (L2N.takes_of rfl rfl rfl rfl) X.ZeroBottom)) pss_nil)
      (pss_cons (ps_if (pt_cmpR op_eq (pv 0) pe_int (nomark _)) (pss_one (ps_rb rfl (L2N.takes_of rfl rfl rfl rfl) X.InvalidWeights)) pss_nil)
      (pss_cons (ps_if (pt_cmpR op_eq (pv 0) pe_int (nomark _)) (pss_one (ps_rb rfl (L2N.takes_of rfl rfl rfl rfl) X.NothingToUndo)) pss_nil)
      (pss_cons (ps_if (pt_cmpR op_eq (pv 0) pe_int (nomark _)) (pss_one (ps_rb rfl (L2N.takes_of rfl rfl rfl rfl) X.NothingToRedo)) pss_nil)
      (pss_one (ps_if (pt_cmpR op_eq (pv 0) pe_int (nomark _)) (pss_one (ps_rb rfl (L2N.takes_of rfl rfl rfl rfl) X.SheetError)) pss_nil)))))), ?_⟩
  walk_at "sx"
  refine iteD (fun h => ?_) (fun h32 => ?_)
  · obtain rfl : i = 32 := by omega
    exact kp (by decide) (by decide) _ H (Same.refl _) (.inl ⟨rfl, rfl⟩)
  refine iteD (fun h => ?_) (fun h33 => ?_)
  · obtain rfl : i = 33 := by omega
    exact kp (by decide) (by decide) _ H (Same.refl _) (.inl ⟨rfl, rfl⟩)
  refine iteD (fun h => ?_) (fun h34 => ?_)
  · obtain rfl : i = 34 := by omega
    exact kp (by decide) (by decide) _ H (Same.refl _) (.inl ⟨rfl, rfl⟩)
  refine iteD (fun h => ?_) (fun h35 => ?_)
  · obtain rfl : i = 35 := by omega
    exact kp (by decide) (by decide) _ H (Same.refl _) (.inl ⟨rfl, rfl⟩)
  refine iteD (fun h => ?_) (fun h36 => ?_)
  · obtain rfl : i = 36 := by omega
    exact kp (by decide) (by decide) _ H (Same.refl _) (.inl ⟨rfl, rfl⟩)
  exact kn (by omega)
end
end My
namespace My
open PySem PySem.Spec PyProof.Rows L2
local macro_rules | `(tactic| walk_at "sx") => `(tactic| first | (simp only [cx_K, cx_pn, cxh_pn, cxh_K, tB, iRng1, iRng2, iRng3, iList, iTup, wAs, tXf, tDictZip, tDGet1, rInD, rInT, tChain, tUn, rU, tCallS, WE, wOnly, tSl, tPart, tNoPart, tRevL, tStepL, tM0, tM1, wipe, tYes, Bool.not_eq_true', gCons, gNil, decide_eq_false_iff_not, tCall, tPar, tAndV, tOrV, tNotV, tIf, List.append_nil, rEq, rNe, scal_ii, scal_ss, scal_bb, scal_nn, scal_in, scal_ni, scal_sn, scal_ns, scal_is, scal_si, Bool.and_true, Bool.true_and, Bool.and_false, Bool.false_and, reduceCtorEq, tLst, tTup, Int.reduceToNat, decide_true, decide_false, Bool.not_true, Bool.not_false, Bool.false_eq_true, if_true, if_false, reduceIte, gSub, tAnd, tOr, tNot, tBM, tBM0, tNext, tSeq, tAsg, tOp, rI, rI0, tVar, tC, gName, tRet, tCB, tCons, tNil, tTest, tIfS, tDrop, L2.start, List.map_cons, List.map_nil, List.length_cons, List.length_nil, List.cons_append, List.nil_append, List.replicate, List.getElem?_cons_zero, List.getElem?_cons_succ, List.set_cons_zero, List.set_cons_succ, Option.some.injEq, V.int.injEq, V.str.injEq, V.bl.injEq, V.ref.injEq, exists_eq_left', exists_eq_left, exists_and_left, exists_eq', and_assoc, List.cons.injEq, and_true, true_and, decide_eq_true_eq, Nat.reduceAdd, Nat.reduceSub]) | skip)
local macro_rules | `(tactic| walk_at "isi") => `(tactic| first | (simp only [isi_none_int, isi_none_bool, isi_none_str, isi_none_list, isi_none_tuple, isi_bool_int, isi_bool_bool, isi_bool_str, isi_bool_list, isi_bool_tuple, isi_int_int, isi_int_bool, isi_int_str, isi_int_list, isi_int_tuple, isi_str_int, isi_str_bool, isi_str_str, isi_str_list, isi_str_tuple, isi_list_int, isi_list_bool, isi_list_str, isi_list_list, isi_list_tuple, isi_tuple_int, isi_tuple_bool, isi_tuple_str, isi_tuple_list, isi_tuple_tuple, isInt_none, isInt_bool, isInt_int, isInt_str, isInt_list, isInt_tuple]) | skip)
section
variable {P : Program} {w : World} {K : PySem.W.Frag} {mg : Str → Option Value} {base : Heap} {aW aB : Addr} {cl : Nat → Addr}
theorem ok_fieldsH (T : Txt K mg aW aB) (X : Exs P w K mg base cl) (F : Dfn K mg "_law_fields" s_fields)  : RdyP P w K mg base CX0 1 "_law_fields" ["_law_way", "_law_e"] (fun p => spFields cl [p]) := by
  refine F.rdyP sc_fields (fun _ _ _ _ _ _ us hl => match us, hl with | [_, _], _ => rfl) (by rintro _ _ _ _ _ ⟨_, _, _, _, _, rfl, _⟩; rfl) (fun f cdv A outer s H vs Q E p hot hr h => ?_)
  obtain ⟨i, e, x, y, z, rfl, hi, he, kp⟩ := h
  refine ⟨_, (pss_cons (ps_if (pt_cmpR op_eq (pv 0) pe_int (nomark _)) (pss_one (ps_ret (pe_lst (pa_cons (pe_ef (pv 1)) (pa_cons (pe_ef (pv 1)) (pa_cons (pe_ef (pv 1)) pa_nil)))))) pss_nil)
      (pss_cons (ps_if (pt_cmpR op_eq (pv 0) pe_int (nomark _)) (pss_one (ps_ret (pe_lst (pa_cons (pe_ef (pv 1)) (pa_cons (pe_ef (pv 1)) pa_nil))))) pss_nil)
      (pss_cons (ps_if (pt_cmpR op_in_seq (pv 0) (pe_tup (pa_cons pe_int (pa_cons pe_int pa_nil))) (by rfl)) (pss_one (ps_ret (pe_lst (pa_cons (pe_ef (pv 1)) pa_nil)))) pss_nil)
      (pss_cons (ps_if (pt_cmpR op_eq (pv 0) pe_int (nomark _)) (pss_one (ps_ret (pe_lst (pa_cons (pe_ef (pv 1)) pa_nil)))) pss_nil)
      (pss_cons (ps_if (pt_cmpR op_in_seq (pv 0) (pe_tup (pa_cons pe_int (pa_cons pe_int (pa_cons pe_int pa_nil)))) (by rfl)) (pss_one (ps_ret (pe_lst (pa_cons (pe_ef (pv 1)) pa_nil)))) pss_nil)
      (pss_cons (ps_if (pt_cmpR op_in_seq (pv 0) (pe_tup (pa_cons pe_int (pa_cons pe_int (pa_cons pe_int (pa_cons pe_int pa_nil))))) (by rfl)) (pss_one (ps_ret (pe_lst (pa_cons (pe_ef (pv 1)) pa_nil)))) pss_nil)
      (pss_cons (ps_if (pt_cmpR op_in_seq (pv 0) (pe_tup (pa_cons pe_int (pa_cons pe_int (pa_cons pe_int (pa_cons pe_int (pa_cons pe_int (pa_cons pe_int (pa_cons pe_int (pa_cons pe_int (pa_cons pe_int (pa_cons pe_int (pa_cons pe_int pa_nil)))))))))))) (by rfl)) (pss_one (ps_ret (pe_lst (pa_cons (pe_ef (pv 1)) pa_nil)))) pss_nil)
      (pss_cons (ps_if (pt_cmpR op_eq (pv 0) pe_int (nomark _)) (pss_one (ps_ret (pe_lst (pa_cons (pe_ef (pv 1)) pa_nil)))) pss_nil)
      (pss_cons (ps_if (pt_cmpR op_eq (pv 0) pe_int (nomark _)) (pss_one (ps_ret (pe_lst (pa_cons (pe_ef (pv 1)) pa_nil)))) pss_nil)
      (pss_cons (ps_if (pt_cmpR op_in_seq (pv 0) (pe_tup (pa_cons pe_int (pa_cons pe_int pa_nil))) (by rfl)) (pss_one (ps_ret (pe_lst (pa_cons (pe_ef (pv 1)) pa_nil)))) pss_nil)
      (pss_cons (ps_if (pt_cmpR op_eq (pv 0) pe_int (nomark _)) (pss_one (ps_ret (pe_lst (pa_cons (pe_ef (pv 1)) pa_nil)))) pss_nil)
      (pss_cons (ps_if (pt_cmpR op_eq (pv 0) pe_int (nomark _)) (pss_one (ps_ret (pe_lst (pa_cons (pe_ef (pv 1)) pa_nil)))) pss_nil)
      (pss_cons (ps_if (pt_cmpR op_eq (pv 0) pe_int (nomark _)) (pss_one (ps_ret (pe_lst (pa_cons (pe_ef (pv 1)) pa_nil)))) pss_nil)
      (pss_cons (ps_if (pt_cmpR op_eq (pv 0) pe_int (nomark _)) (pss_one (ps_ret (pe_lst (pa_cons (pe_ef (pv 1)) pa_nil)))) pss_nil)
      (pss_cons (ps_if (pt_cmpR op_eq (pv 0) pe_int (nomark _)) (pss_one (ps_ret (pe_lst (pa_cons (pe_ef (pv 1)) pa_nil)))) pss_nil)
      (pss_one (ps_ret (pe_lst pa_nil)))))))))))))))))), ?_⟩
  walk_at "sx"
  have np : ∀ {H1 : Hp} {p : Addr}, Same H H1 → H1 p = none → H p = none := fun {H1 p} S hp => by
    cases e : H p with
    | none => rfl
    | some o => rw [S _ _ e] at hp; cases hp
  refine iteD (fun h => ?_) (fun h => ?_)
  · obtain rfl : i = 0 := by omega
    refine rd_ef1 X.G hi (by simp [fN]) he (w := x) (by rfl) <| rd_ef1 X.G hi (by simp [fN]) he (w := y) (by rfl) <| rd_ef1 X.G hi (by simp [fN]) he (w := z) (by rfl) <| ⟨size_le (by decide), fun p hp => ?_⟩
    exact kp p _ hp (same_upd hp) upd_same
  have z0 := h
  clear h
  refine iteD (fun h => ?_) (fun h => ?_)
  · obtain rfl : i = 1 := by omega
    refine rd_ef1 X.G hi (by simp [fN]) he (w := x) (by rfl) <| rd_ef1 X.G hi (by simp [fN]) he (w := y) (by rfl) <| ⟨size_le (by decide), fun p hp => ?_⟩
    exact kp p _ hp (same_upd hp) upd_same
  have z1 := h
  clear h
  have S0 : Same H H := Same.refl _
  refine ⟨size_le (by decide), ?_⟩
  intro p1 hp1; generalize e1 : upd _ p1 _ = H1; obtain ⟨S1, t1⟩ := new_of hp1 e1; clear e1
  replace S1 := S0.trans S1
  refine rd_ints (ns := [2, 14]) t1 fun b hb => ⟨_, rfl, iteD (fun h => ?_) (fun h => ?_)⟩
  · rw [hb] at h
    exact leaf1 X.G hi ((by decide +kernel : ∀ i : Nat, i < 37 → (i : Int) ∈ ([2, 14] : List Int) → fN i = [("value" : Str)]) i (by omega) (of_decide_eq_true h)) he S1 kp
  rw [hb, decide_eq_true_eq] at h
  simp only [List.mem_cons, List.not_mem_nil, or_false, not_or] at h
  have q1 := h
  clear h hb
  refine iteD (fun h => ?_) (fun h => ?_)
  · obtain rfl : i = 3 := by omega
    exact leaf1 X.G hi rfl he S1 kp
  have z3 := h
  clear h
  refine ⟨size_le (by decide), ?_⟩
  intro p2 hp2; generalize e2 : upd _ p2 _ = H2; obtain ⟨S2, t2⟩ := new_of hp2 e2; clear e2
  replace S2 := S1.trans S2
  refine rd_ints (ns := [4, 5, 6]) t2 fun b hb => ⟨_, rfl, iteD (fun h => ?_) (fun h => ?_)⟩
  · rw [hb] at h
    exact leaf1 X.G hi ((by decide +kernel : ∀ i : Nat, i < 37 → (i : Int) ∈ ([4, 5, 6] : List Int) → fN i = [("position" : Str)]) i (by omega) (of_decide_eq_true h)) he S2 kp
  rw [hb, decide_eq_true_eq] at h
  simp only [List.mem_cons, List.not_mem_nil, or_false, not_or] at h
  have q2 := h
  clear h hb
  refine ⟨size_le (by decide), ?_⟩
  intro p3 hp3; generalize e3 : upd _ p3 _ = H3; obtain ⟨S3, t3⟩ := new_of hp3 e3; clear e3
  replace S3 := S2.trans S3
  refine rd_ints (ns := [7, 15, 16, 29]) t3 fun b hb => ⟨_, rfl, iteD (fun h => ?_) (fun h => ?_)⟩
  · rw [hb] at h
    exact leaf1 X.G hi ((by decide +kernel : ∀ i : Nat, i < 37 → (i : Int) ∈ ([7, 15, 16, 29] : List Int) → fN i = [("index" : Str)]) i (by omega) (of_decide_eq_true h)) he S3 kp
  rw [hb, decide_eq_true_eq] at h
  simp only [List.mem_cons, List.not_mem_nil, or_false, not_or] at h
  have q3 := h
  clear h hb
  refine ⟨size_le (by decide), ?_⟩
  intro p4 hp4; generalize e4 : upd _ p4 _ = H4; obtain ⟨S4, t4⟩ := new_of hp4 e4; clear e4
  replace S4 := S3.trans S4
  refine rd_ints (ns := [8, 9, 10, 11, 12, 13, 17, 22, 23, 24, 25]) t4 fun b hb => ⟨_, rfl, iteD (fun h => ?_) (fun h => ?_)⟩
  · rw [hb] at h
    exact leaf1 X.G hi ((by decide +kernel : ∀ i : Nat, i < 37 → (i : Int) ∈ ([8, 9, 10, 11, 12, 13, 17, 22, 23, 24, 25] : List Int) → fN i = [("name" : Str)]) i (by omega) (of_decide_eq_true h)) he S4 kp
  rw [hb, decide_eq_true_eq] at h
  simp only [List.mem_cons, List.not_mem_nil, or_false, not_or] at h
  have q4 := h
  clear h hb
  refine iteD (fun h => ?_) (fun h => ?_)
  · obtain rfl : i = 18 := by omega
    exact leaf1 X.G hi rfl he S4 kp
  have z18 := h
  clear h
  refine iteD (fun h => ?_) (fun h => ?_)
  · obtain rfl : i = 19 := by omega
    exact leaf1 X.G hi rfl he S4 kp
  have z19 := h
  clear h
  refine ⟨size_le (by decide), ?_⟩
  intro p5 hp5; generalize e5 : upd _ p5 _ = H5; obtain ⟨S5, t5⟩ := new_of hp5 e5; clear e5
  replace S5 := S4.trans S5
  refine rd_ints (ns := [20, 27]) t5 fun b hb => ⟨_, rfl, iteD (fun h => ?_) (fun h => ?_)⟩
  · rw [hb] at h
    exact leaf1 X.G hi ((by decide +kernel : ∀ i : Nat, i < 37 → (i : Int) ∈ ([20, 27] : List Int) → fN i = [("move" : Str)]) i (by omega) (of_decide_eq_true h)) he S5 kp
  rw [hb, decide_eq_true_eq] at h
  simp only [List.mem_cons, List.not_mem_nil, or_false, not_or] at h
  have q5 := h
  clear h hb
  refine iteD (fun h => ?_) (fun h => ?_)
  · obtain rfl : i = 21 := by omega
    exact leaf1 X.G hi rfl he S5 kp
  have z21 := h
  clear h
  refine iteD (fun h => ?_) (fun h => ?_)
  · obtain rfl : i = 26 := by omega
    exact leaf1 X.G hi rfl he S5 kp
  have z26 := h
  clear h
  refine iteD (fun h => ?_) (fun h => ?_)
  · obtain rfl : i = 28 := by omega
    exact leaf1 X.G hi rfl he S5 kp
  have z28 := h
  clear h
  refine iteD (fun h => ?_) (fun h => ?_)
  · obtain rfl : i = 30 := by omega
    exact leaf1 X.G hi rfl he S5 kp
  have z30 := h
  clear h
  refine iteD (fun h => ?_) (fun h => ?_)
  · obtain rfl : i = 31 := by omega
    exact leaf1 X.G hi rfl he S5 kp
  have z31 := h
  clear h
  refine ⟨size_le (by decide), fun p hp => ?_⟩
  have hv : valsX i x y z = [] := by
    have h32 : 32 ≤ i := by omega
    unfold valsX
    rw [(by decide +kernel : ∀ i : Nat, i < 37 → 32 ≤ i → fN i = []) i (by omega) h32]
    rfl
  exact kp p _ (np S5 hp) (S5.trans (same_upd hp)) (by rw [upd_same, hv])
theorem ok_classesH (T : Txt K mg aW aB) (X : Exs P w K mg base cl) (F : Dfn K mg "_law_classes" s_classes)  : RdyP P w K mg base CX0 1 "_law_classes" ["_law_e"] (fun p => spClasses cl [p]) := by
  refine F.rdyP sc_classes (fun _ _ _ _ _ _ us hl => match us, hl with | [_], _ => rfl) (by rintro _ _ _ _ _ ⟨_, _, _, rfl, _⟩; rfl) (fun f cdv A outer s H vs Q E p hot hr h => ?_)
  obtain ⟨i, e, fs, rfl, hi, he, kp⟩ := h
  refine ⟨_, (pss_cons (ps_set (i := 1) sc_classes.nd rfl (Or.inr rfl) (pe_lst (pa_cons (pe_callB call_isX (by rfl) T.b_isinstance (by decide +kernel) (pa_cons (pv 0) (pa_cons (pe_gl (v := .ref _) ⟨_, X.BadFormula.gC, rfl⟩) pa_nil))) (pa_cons (pe_callB call_isX (by rfl) T.b_isinstance (by decide +kernel) (pa_cons (pv 0) (pa_cons (pe_gl (v := .ref _) ⟨_, X.CellInUse.gC, rfl⟩) pa_nil))) (pa_cons (pe_callB call_isX (by rfl) T.b_isinstance (by decide +kernel) (pa_cons (pv 0) (pa_cons (pe_gl (v := .ref _) ⟨_, X.InvalidNumber.gC, rfl⟩) pa_nil))) pa_nil)))))
      (pss_cons (ps_set (i := 1) sc_classes.nd rfl (Or.inr rfl) (pe_op op_cat (pv 1) (pe_lst (pa_cons (pe_callB call_isX (by rfl) T.b_isinstance (by decide +kernel) (pa_cons (pv 0) (pa_cons (pe_gl (v := .ref _) ⟨_, X.InvalidText.gC, rfl⟩) pa_nil))) (pa_cons (pe_callB call_isX (by rfl) T.b_isinstance (by decide +kernel) (pa_cons (pv 0) (pa_cons (pe_gl (v := .ref _) ⟨_, X.FormulaSyntax.gC, rfl⟩) pa_nil))) (pa_cons (pe_callB call_isX (by rfl) T.b_isinstance (by decide +kernel) (pa_cons (pv 0) (pa_cons (pe_gl (v := .ref _) ⟨_, X.NotLinear.gC, rfl⟩) pa_nil))) pa_nil))))))
      (pss_cons (ps_set (i := 1) sc_classes.nd rfl (Or.inr rfl) (pe_op op_cat (pv 1) (pe_lst (pa_cons (pe_callB call_isX (by rfl) T.b_isinstance (by decide +kernel) (pa_cons (pv 0) (pa_cons (pe_gl (v := .ref _) ⟨_, X.ZeroDivisor.gC, rfl⟩) pa_nil))) (pa_cons (pe_callB call_isX (by rfl) T.b_isinstance (by decide +kernel) (pa_cons (pv 0) (pa_cons (pe_gl (v := .ref _) ⟨_, X.InvalidRow.gC, rfl⟩) pa_nil))) (pa_cons (pe_callB call_isX (by rfl) T.b_isinstance (by decide +kernel) (pa_cons (pv 0) (pa_cons (pe_gl (v := .ref _) ⟨_, X.InvalidName.gC, rfl⟩) pa_nil))) pa_nil))))))
      (pss_cons (ps_set (i := 1) sc_classes.nd rfl (Or.inr rfl) (pe_op op_cat (pv 1) (pe_lst (pa_cons (pe_callB call_isX (by rfl) T.b_isinstance (by decide +kernel) (pa_cons (pv 0) (pa_cons (pe_gl (v := .ref _) ⟨_, X.DuplicateCell.gC, rfl⟩) pa_nil))) (pa_cons (pe_callB call_isX (by rfl) T.b_isinstance (by decide +kernel) (pa_cons (pv 0) (pa_cons (pe_gl (v := .ref _) ⟨_, X.UnknownCell.gC, rfl⟩) pa_nil))) (pa_cons (pe_callB call_isX (by rfl) T.b_isinstance (by decide +kernel) (pa_cons (pv 0) (pa_cons (pe_gl (v := .ref _) ⟨_, X.CircularCell.gC, rfl⟩) pa_nil))) pa_nil))))))
      (pss_cons (ps_set (i := 1) sc_classes.nd rfl (Or.inr rfl) (pe_op op_cat (pv 1) (pe_lst (pa_cons (pe_callB call_isX (by rfl) T.b_isinstance (by decide +kernel) (pa_cons (pv 0) (pa_cons (pe_gl (v := .ref _) ⟨_, X.NotInput.gC, rfl⟩) pa_nil))) (pa_cons (pe_callB call_isX (by rfl) T.b_isinstance (by decide +kernel) (pa_cons (pv 0) (pa_cons (pe_gl (v := .ref _) ⟨_, X.NotComputed.gC, rfl⟩) pa_nil))) (pa_cons (pe_callB call_isX (by rfl) T.b_isinstance (by decide +kernel) (pa_cons (pv 0) (pa_cons (pe_gl (v := .ref _) ⟨_, X.InvalidTable.gC, rfl⟩) pa_nil))) pa_nil))))))
      (pss_cons (ps_set (i := 1) sc_classes.nd rfl (Or.inr rfl) (pe_op op_cat (pv 1) (pe_lst (pa_cons (pe_callB call_isX (by rfl) T.b_isinstance (by decide +kernel) (pa_cons (pv 0) (pa_cons (pe_gl (v := .ref _) ⟨_, X.InvalidWish.gC, rfl⟩) pa_nil))) (pa_cons (pe_callB call_isX (by rfl) T.b_isinstance (by decide +kernel) (pa_cons (pv 0) (pa_cons (pe_gl (v := .ref _) ⟨_, X.InvalidLimit.gC, rfl⟩) pa_nil))) (pa_cons (pe_callB call_isX (by rfl) T.b_isinstance (by decide +kernel) (pa_cons (pv 0) (pa_cons (pe_gl (v := .ref _) ⟨_, X.EmptyLimit.gC, rfl⟩) pa_nil))) pa_nil))))))
      (pss_cons (ps_set (i := 1) sc_classes.nd rfl (Or.inr rfl) (pe_op op_cat (pv 1) (pe_lst (pa_cons (pe_callB call_isX (by rfl) T.b_isinstance (by decide +kernel) (pa_cons (pv 0) (pa_cons (pe_gl (v := .ref _) ⟨_, X.UnknownCondition.gC, rfl⟩) pa_nil))) (pa_cons (pe_callB call_isX (by rfl) T.b_isinstance (by decide +kernel) (pa_cons (pv 0) (pa_cons (pe_gl (v := .ref _) ⟨_, X.UnknownSide.gC, rfl⟩) pa_nil))) (pa_cons (pe_callB call_isX (by rfl) T.b_isinstance (by decide +kernel) (pa_cons (pv 0) (pa_cons (pe_gl (v := .ref _) ⟨_, X.InvalidMove.gC, rfl⟩) pa_nil))) pa_nil))))))
      (pss_cons (ps_set (i := 1) sc_classes.nd rfl (Or.inr rfl) (pe_op op_cat (pv 1) (pe_lst (pa_cons (pe_callB call_isX (by rfl) T.b_isinstance (by decide +kernel) (pa_cons (pv 0) (pa_cons (pe_gl (v := .ref _) ⟨_, X.InvalidForm.gC, rfl⟩) pa_nil))) (pa_cons (pe_callB call_isX (by rfl) T.b_isinstance (by decide +kernel) (pa_cons (pv 0) (pa_cons (pe_gl (v := .ref _) ⟨_, X.UnlikeCells.gC, rfl⟩) pa_nil))) (pa_cons (pe_callB call_isX (by rfl) T.b_isinstance (by decide +kernel) (pa_cons (pv 0) (pa_cons (pe_gl (v := .ref _) ⟨_, X.AlreadyHeld.gC, rfl⟩) pa_nil))) pa_nil))))))
      (pss_cons (ps_set (i := 1) sc_classes.nd rfl (Or.inr rfl) (pe_op op_cat (pv 1) (pe_lst (pa_cons (pe_callB call_isX (by rfl) T.b_isinstance (by decide +kernel) (pa_cons (pv 0) (pa_cons (pe_gl (v := .ref _) ⟨_, X.NotHeld.gC, rfl⟩) pa_nil))) (pa_cons (pe_callB call_isX (by rfl) T.b_isinstance (by decide +kernel) (pa_cons (pv 0) (pa_cons (pe_gl (v := .ref _) ⟨_, X.NoLimit.gC, rfl⟩) pa_nil))) (pa_cons (pe_callB call_isX (by rfl) T.b_isinstance (by decide +kernel) (pa_cons (pv 0) (pa_cons (pe_gl (v := .ref _) ⟨_, X.Refused.gC, rfl⟩) pa_nil))) pa_nil))))))
      (pss_cons (ps_set (i := 1) sc_classes.nd rfl (Or.inr rfl) (pe_op op_cat (pv 1) (pe_lst (pa_cons (pe_callB call_isX (by rfl) T.b_isinstance (by decide +kernel) (pa_cons (pv 0) (pa_cons (pe_gl (v := .ref _) ⟨_, X.RolesKept.gC, rfl⟩) pa_nil))) (pa_cons (pe_callB call_isX (by rfl) T.b_isinstance (by decide +kernel) (pa_cons (pv 0) (pa_cons (pe_gl (v := .ref _) ⟨_, X.NoMark.gC, rfl⟩) pa_nil))) (pa_cons (pe_callB call_isX (by rfl) T.b_isinstance (by decide +kernel) (pa_cons (pv 0) (pa_cons (pe_gl (v := .ref _) ⟨_, X.InvalidOperation.gC, rfl⟩) pa_nil))) pa_nil))))))
      (pss_cons (ps_set (i := 1) sc_classes.nd rfl (Or.inr rfl) (pe_op op_cat (pv 1) (pe_lst (pa_cons (pe_callB call_isX (by rfl) T.b_isinstance (by decide +kernel) (pa_cons (pv 0) (pa_cons (pe_gl (v := .ref _) ⟨_, X.BadText.gC, rfl⟩) pa_nil))) (pa_cons (pe_callB call_isX (by rfl) T.b_isinstance (by decide +kernel) (pa_cons (pv 0) (pa_cons (pe_gl (v := .ref _) ⟨_, X.BadCommand.gC, rfl⟩) pa_nil))) (pa_cons (pe_callB call_isX (by rfl) T.b_isinstance (by decide +kernel) (pa_cons (pv 0) (pa_cons (pe_gl (v := .ref _) ⟨_, X.ZeroBottom.gC, rfl⟩) pa_nil))) pa_nil))))))
      (pss_cons (ps_set (i := 1) sc_classes.nd rfl (Or.inr rfl) (pe_op op_cat (pv 1) (pe_lst (pa_cons (pe_callB call_isX (by rfl) T.b_isinstance (by decide +kernel) (pa_cons (pv 0) (pa_cons (pe_gl (v := .ref _) ⟨_, X.InvalidWeights.gC, rfl⟩) pa_nil))) (pa_cons (pe_callB call_isX (by rfl) T.b_isinstance (by decide +kernel) (pa_cons (pv 0) (pa_cons (pe_gl (v := .ref _) ⟨_, X.NothingToUndo.gC, rfl⟩) pa_nil))) (pa_cons (pe_callB call_isX (by rfl) T.b_isinstance (by decide +kernel) (pa_cons (pv 0) (pa_cons (pe_gl (v := .ref _) ⟨_, X.NothingToRedo.gC, rfl⟩) pa_nil))) pa_nil))))))
      (pss_one (ps_ret (pe_lcH (own := [("_law_place", 2)]) (g := (gName 2)) ⟨p, hot, List.mem_cons_self⟩ sc_classes.nd (L2H.pi_range1H (by rfl) T.b_range (pa_cons (pe_callB call_len (by rfl) T.b_len PySem.boot_len (pa_cons (pv 1) pa_nil)) pa_nil)) (blkOk_by (N := ["_law_e", "_law_found", "_law_place"]) (sc := defScope s_classes) (by decide +kernel)) (fun _ _ _ _ _ => (pg_name (i := 2) sc_classes.nd rfl (Or.inl rfl))) (fun _ _ _ _ _ => (pts_one (pt_val (pe_ix (ixK (K := K) (fun K => rIxL K) ix_list) (pv 1) (pv 2) (fun _ _ => rfl))))) (fun _ _ _ _ _ => (pv 2))))))))))))))))), ?_⟩
  walk_at "sx"
  refine rd_isX X.G hi (by decide) he <| rd_isX X.G hi (by decide) he <| rd_isX X.G hi (by decide) he ⟨size_le (by decide), ?_⟩
  intro g0 n0; generalize e0 : upd _ g0 _ = K0; obtain ⟨s0, h0⟩ := new_of n0 e0; clear e0
  replace he := he.same s0
  have S0 := s0
  have L0 := h0
  refine rd_isX X.G hi (by decide) he <| rd_isX X.G hi (by decide) he <| rd_isX X.G hi (by decide) he ⟨size_le (by decide), ?_⟩
  intro g1 n1; generalize e1 : upd _ g1 _ = K1; obtain ⟨s1, h1⟩ := new_of n1 e1; clear e1
  replace he := he.same s1
  refine rd_cat (s1 _ _ L0) h1 (by simp) fun r1 R1 _ u1 L1 => ?_
  replace he := he.same u1
  have S1 := (S0.trans s1).trans u1
  simp only [List.cons_append, List.nil_append] at L1
  clear L0 S0 h1 s1 u1
  refine rd_isX X.G hi (by decide) he <| rd_isX X.G hi (by decide) he <| rd_isX X.G hi (by decide) he ⟨size_le (by decide), ?_⟩
  intro g2 n2; generalize e2 : upd _ g2 _ = K2; obtain ⟨s2, h2⟩ := new_of n2 e2; clear e2
  replace he := he.same s2
  refine rd_cat (s2 _ _ L1) h2 (by simp) fun r2 R2 _ u2 L2 => ?_
  replace he := he.same u2
  have S2 := (S1.trans s2).trans u2
  simp only [List.cons_append, List.nil_append] at L2
  clear L1 S1 h2 s2 u2
  refine rd_isX X.G hi (by decide) he <| rd_isX X.G hi (by decide) he <| rd_isX X.G hi (by decide) he ⟨size_le (by decide), ?_⟩
  intro g3 n3; generalize e3 : upd _ g3 _ = K3; obtain ⟨s3, h3⟩ := new_of n3 e3; clear e3
  replace he := he.same s3
  refine rd_cat (s3 _ _ L2) h3 (by simp) fun r3 R3 _ u3 L3 => ?_
  replace he := he.same u3
  have S3 := (S2.trans s3).trans u3
  simp only [List.cons_append, List.nil_append] at L3
  clear L2 S2 h3 s3 u3
  refine rd_isX X.G hi (by decide) he <| rd_isX X.G hi (by decide) he <| rd_isX X.G hi (by decide) he ⟨size_le (by decide), ?_⟩
  intro g4 n4; generalize e4 : upd _ g4 _ = K4; obtain ⟨s4, h4⟩ := new_of n4 e4; clear e4
  replace he := he.same s4
  refine rd_cat (s4 _ _ L3) h4 (by simp) fun r4 R4 _ u4 L4 => ?_
  replace he := he.same u4
  have S4 := (S3.trans s4).trans u4
  simp only [List.cons_append, List.nil_append] at L4
  clear L3 S3 h4 s4 u4
  refine rd_isX X.G hi (by decide) he <| rd_isX X.G hi (by decide) he <| rd_isX X.G hi (by decide) he ⟨size_le (by decide), ?_⟩
  intro g5 n5; generalize e5 : upd _ g5 _ = K5; obtain ⟨s5, h5⟩ := new_of n5 e5; clear e5
  replace he := he.same s5
  refine rd_cat (s5 _ _ L4) h5 (by simp) fun r5 R5 _ u5 L5 => ?_
  replace he := he.same u5
  have S5 := (S4.trans s5).trans u5
  simp only [List.cons_append, List.nil_append] at L5
  clear L4 S4 h5 s5 u5
  refine rd_isX X.G hi (by decide) he <| rd_isX X.G hi (by decide) he <| rd_isX X.G hi (by decide) he ⟨size_le (by decide), ?_⟩
  intro g6 n6; generalize e6 : upd _ g6 _ = K6; obtain ⟨s6, h6⟩ := new_of n6 e6; clear e6
  replace he := he.same s6
  refine rd_cat (s6 _ _ L5) h6 (by simp) fun r6 R6 _ u6 L6 => ?_
  replace he := he.same u6
  have S6 := (S5.trans s6).trans u6
  simp only [List.cons_append, List.nil_append] at L6
  clear L5 S5 h6 s6 u6
  refine rd_isX X.G hi (by decide) he <| rd_isX X.G hi (by decide) he <| rd_isX X.G hi (by decide) he ⟨size_le (by decide), ?_⟩
  intro g7 n7; generalize e7 : upd _ g7 _ = K7; obtain ⟨s7, h7⟩ := new_of n7 e7; clear e7
  replace he := he.same s7
  refine rd_cat (s7 _ _ L6) h7 (by simp) fun r7 R7 _ u7 L7 => ?_
  replace he := he.same u7
  have S7 := (S6.trans s7).trans u7
  simp only [List.cons_append, List.nil_append] at L7
  clear L6 S6 h7 s7 u7
  refine rd_isX X.G hi (by decide) he <| rd_isX X.G hi (by decide) he <| rd_isX X.G hi (by decide) he ⟨size_le (by decide), ?_⟩
  intro g8 n8; generalize e8 : upd _ g8 _ = K8; obtain ⟨s8, h8⟩ := new_of n8 e8; clear e8
  replace he := he.same s8
  refine rd_cat (s8 _ _ L7) h8 (by simp) fun r8 R8 _ u8 L8 => ?_
  replace he := he.same u8
  have S8 := (S7.trans s8).trans u8
  simp only [List.cons_append, List.nil_append] at L8
  clear L7 S7 h8 s8 u8
  refine rd_isX X.G hi (by decide) he <| rd_isX X.G hi (by decide) he <| rd_isX X.G hi (by decide) he ⟨size_le (by decide), ?_⟩
  intro g9 n9; generalize e9 : upd _ g9 _ = K9; obtain ⟨s9, h9⟩ := new_of n9 e9; clear e9
  replace he := he.same s9
  refine rd_cat (s9 _ _ L8) h9 (by simp) fun r9 R9 _ u9 L9 => ?_
  replace he := he.same u9
  have S9 := (S8.trans s9).trans u9
  simp only [List.cons_append, List.nil_append] at L9
  clear L8 S8 h9 s9 u9
  refine rd_isX X.G hi (by decide) he <| rd_isX X.G hi (by decide) he <| rd_isX X.G hi (by decide) he ⟨size_le (by decide), ?_⟩
  intro g10 n10; generalize e10 : upd _ g10 _ = K10; obtain ⟨s10, h10⟩ := new_of n10 e10; clear e10
  replace he := he.same s10
  refine rd_cat (s10 _ _ L9) h10 (by simp) fun r10 R10 _ u10 L10 => ?_
  replace he := he.same u10
  have S10 := (S9.trans s10).trans u10
  simp only [List.cons_append, List.nil_append] at L10
  clear L9 S9 h10 s10 u10
  refine rd_isX X.G hi (by decide) he <| rd_isX X.G hi (by decide) he <| rd_isX X.G hi (by decide) he ⟨size_le (by decide), ?_⟩
  intro g11 n11; generalize e11 : upd _ g11 _ = K11; obtain ⟨s11, h11⟩ := new_of n11 e11; clear e11
  replace he := he.same s11
  refine rd_cat (s11 _ _ L10) h11 (by simp) fun r11 R11 _ u11 L11 => ?_
  replace he := he.same u11
  have S11 := (S10.trans s11).trans u11
  simp only [List.cons_append, List.nil_append] at L11
  clear L10 S10 h11 s11 u11
  have L : R11 r11 = some (.lst (((List.range 36).map fun j => decide (i = j ∨ j = 36)).map V.bl)) := L11
  clear L11
  refine rd_lc fun Z hZ => ?_
  walk_at "sx"
  refine rd_lenL (SqL.of L) ?_
  have hlen : (((List.range 36).map fun j => decide (i = j ∨ j = 36)).map V.bl).length = 36 := by simp
  rw [hlen]
  refine ⟨by decide, by decide, hZ _ _ fun D hD => lc_raw K [] no_mem walk_range Fr.nil hD (fun j ds H => ds = ((List.range j).filter fun k => decide (i = k ∨ k = 36)).map fun (k : Nat) => PyData.int k) (fun _ _ => rfl) (fun _ _ => trivial) (fun j x vals acc H1 H' hj hn hv hd hle sb fr hR hY => ?_) fun vals ds H1 hn hv hvs sb fr hle hR => ?_⟩
  · obtain ⟨rfl, rfl⟩ := hY
    have hj36 : j < 36 := by simpa using hj
    walk_at "sx"
    refine rd_ixL (v := .bl (decide (i = j ∨ j = 36))) (sb.nil _ _ L) ?_ ?_
    · rw [show (0 : Int) + (j : Int) = (j : Int) by omega]
      exact atI_nat (by simp [hj36])
    refine ⟨_, rfl, iteD (fun h => ?_) (fun h => ?_)⟩
    · refine lc_put no_mem hD hn hv hd hle (by omega) sb .refl fr (.int _) fun H11 s11 f11 => ?_
      rw [hR, List.range_succ, List.filter_append, List.map_append]
      simp only [List.filter_cons, h, if_true, List.filter_nil, List.map_cons, List.map_nil]
      rw [show (0 : Int) + (j : Int) = (j : Int) by omega]
    · refine lc_skip no_mem hn hv hd hle sb .refl fr ?_
      rw [hR, List.range_succ, List.filter_append, List.map_append]
      simp only [List.filter_cons, h, List.filter_nil, List.map_nil, List.append_nil]
      simp
  · have e36 : ((List.range (36 : Int).toNat).filter fun k => decide (i = k ∨ k = 36)).map (fun (k : Nat) => PyData.int k) = (kinds i).map PyData.int :=
      (by decide +kernel : ∀ i : Nat, i < 37 → ((List.range (36 : Int).toNat).filter fun k => decide (i = k ∨ k = 36)).map (fun (k : Nat) => (k : Int)) = kinds i) i (by omega) ▸ by rw [List.map_map]; rfl
    rw [show ((36 : Nat) : Int) = (36 : Int) from rfl] at hR
    rw [hR, e36] at hvs
    obtain rfl := dps_ints hvs
    have np : H D = none := by
      cases e : H D with
      | none => rfl
      | some o => rw [S11 _ _ e] at hD; cases hD
    exact kp D H1 np (S11.trans sb.nil) hv
end
end My
namespace My
open PySem PySem.Spec PyProof.Rows L2
local macro_rules | `(tactic| walk_at "sx") => `(tactic| first | (simp only [cx_K, cx_pn, cxh_pn, cxh_K, tB, iRng1, iRng2, iRng3, iList, iTup, wAs, tXf, tDictZip, tDGet1, rInD, rInT, tChain, tUn, rU, tCallS, WE, wOnly, tSl, tPart, tNoPart, tRevL, tStepL, tM0, tM1, wipe, tYes, Bool.not_eq_true', gCons, gNil, decide_eq_false_iff_not, tCall, tPar, tAndV, tOrV, tNotV, tIf, List.append_nil, rEq, rNe, scal_ii, scal_ss, scal_bb, scal_nn, scal_in, scal_ni, scal_sn, scal_ns, scal_is, scal_si, Bool.and_true, Bool.true_and, Bool.and_false, Bool.false_and, reduceCtorEq, tLst, tTup, Int.reduceToNat, decide_true, decide_false, Bool.not_true, Bool.not_false, Bool.false_eq_true, if_true, if_false, reduceIte, gSub, tAnd, tOr, tNot, tBM, tBM0, tNext, tSeq, tAsg, tOp, rI, rI0, tVar, tC, gName, tRet, tCB, tCons, tNil, tTest, tIfS, tDrop, L2.start, List.map_cons, List.map_nil, List.length_cons, List.length_nil, List.cons_append, List.nil_append, List.replicate, List.getElem?_cons_zero, List.getElem?_cons_succ, List.set_cons_zero, List.set_cons_succ, Option.some.injEq, V.int.injEq, V.str.injEq, V.bl.injEq, V.ref.injEq, exists_eq_left', exists_eq_left, exists_and_left, exists_eq', and_assoc, List.cons.injEq, and_true, true_and, decide_eq_true_eq, Nat.reduceAdd, Nat.reduceSub]) | skip)
local macro_rules | `(tactic| walk_at "isi") => `(tactic| first | (simp only [isi_none_int, isi_none_bool, isi_none_str, isi_none_list, isi_none_tuple, isi_bool_int, isi_bool_bool, isi_bool_str, isi_bool_list, isi_bool_tuple, isi_int_int, isi_int_bool, isi_int_str, isi_int_list, isi_int_tuple, isi_str_int, isi_str_bool, isi_str_str, isi_str_list, isi_str_tuple, isi_list_int, isi_list_bool, isi_list_str, isi_list_list, isi_list_tuple, isi_tuple_int, isi_tuple_bool, isi_tuple_str, isi_tuple_list, isi_tuple_tuple, isInt_none, isInt_bool, isInt_int, isInt_str, isInt_list, isInt_tuple]) | skip)
theorem takes0N {X : Cx} : L2N.Takes X.nox (fun _ _ _ _ => False) := fun _ _ ⟨_, _, _, _, _, _, _, _, _, _, _, _, _, _, _, _, w⟩ => w.elim
/-- the suite's reading, whatever the exception's object and the pins are -/
def tPin (cls : Value) (d : Option Addr) (ts : Obj → List (Addr × Obj) → TS) : TS := fun D σ H => ∀ oe pn, L2N.Zn cls d oe → (∃ vs, oe.data = .fields vs) → ts oe pn D σ H
theorem pss_pin {X : Cx} {ss : List Stmt} {cls : Value} {d : Option Addr} {ts : Obj → List (Addr × Obj) → TS} {oe : Obj} {pn : List (Addr × Obj)} (hz : L2N.Zn cls d oe) (hf : ∃ vs, oe.data = .fields vs) (h : PSs X ss (ts oe pn)) : PSs X ss (tPin cls d ts) :=
  ⟨fun pins s σ H D I q => h.run pins s σ H D I (q oe pn hz hf)⟩
theorem ps_try_asP {X : Cx} {x n : Str} {c : Value} {i : Nat} {body suite : List Stmt} {b₀ : Stmt} {np pos pos' : Pos} {tb : WX → TS} {ts : Addr → Value → Option Addr → Obj → List (Addr × Obj) → TS} {Wout : WX}
    (hs : X.stack = X.env :: X.outer) (hf : X.env.frame = some X.env.locals) (hN : X.N.Nodup) (hi : X.N[i]? = some n) (hln : X.env.kindOf n = some .local) (hc : Names X x c) (tk : L2N.Takes X Wout)
    (hb : ∀ (W : WX) (pn : List (Addr × Obj)) (xe : Value → Shared → Prop), L2N.Takes (X.tr pn xe) W → PassesOwn (model X.prog X.w) X.A X.env xe → PSs (X.tr pn xe) body (tb W))
    (hsu : ∀ (a : Addr) (oe : Obj) (cls : Value) (d : Option Addr) (pn : List (Addr × Obj)), L2N.Zn cls d oe → (∃ vs, oe.data = .fields vs) → PSs (X.suite a ((a, oe) :: pn)) (b₀ :: suite) (ts a cls d oe pn)) :
    PS X (.Try body [.ExceptHandler (some (.Name x np)) (some n) (b₀ :: suite) pos'] [] [] pos) (fun D σ H => tb (wAs X.K c i (fun a cls d => tPin cls d (ts a cls d)) Wout D) D σ H) :=
  L2N.ps_try_as hs hf hN hi hln hc tk hb fun a oe cls d pn hz hf => pss_pin hz hf (hsu a oe cls d pn hz hf)
def spCaught (cl : Nat → Addr) : Sp := fun vs H Q _ => ∃ (i : Nat) (x y z : V), vs = [.int i, x, y, z] ∧ i ≤ 36 ∧ ∀ p p1 p2 H2, H p = none → H p1 = none → H p2 = none → Same H H2 → H2 p = some (.tup [.ref p1, .ref p2, .bl true]) → H2 p1 = some (.lst (valsX i x y z)) → H2 p2 = some (.lst ((kinds i).map V.int)) → Q (.ref p) H2
section
variable {P : Program} {w : World} {K : PySem.W.Frag} {mg : Str → Option Value} {base : Heap} {aW aB : Addr} {cl : Nat → Addr}
theorem sc_caught : FnScope ["_law_way", "_law_first", "_law_second", "_law_third", "_law_found", "_law_e"] ["_law_way", "_law_first", "_law_second", "_law_third"] (defScope s_caught) := ⟨rfl, rfl, rfl, by decide +kernel, rfl, by decide +kernel, by decide +kernel⟩
theorem ok_caught (T : Txt K mg aW aB) (X : Exs P w K mg base cl) (F : Dfn K mg "_law_caught" s_caught) (R_raise_more : Rdy P w K mg base (L2N.CX P w) 3 "_law_raise_more" ["_law_way", "_law_first", "_law_second", "_law_third"] (spR cl 0 2 3)) (R_raise_one : Rdy P w K mg base (L2N.CX P w) 3 "_law_raise_one" ["_law_way", "_law_first"] (spR cl 2 17 1))
    (R_raise_other : Rdy P w K mg base (L2N.CX P w) 3 "_law_raise_other" ["_law_way", "_law_first"] (spR cl 17 32 1)) (R_raise_bare : Rdy P w K mg base (L2N.CX P w) 3 "_law_raise_bare" ["_law_way"] (spR cl 32 37 0))
    (R_fieldsH : RdyP P w K mg base CX0 1 "_law_fields" ["_law_way", "_law_e"] (fun p => spFields cl [p])) (R_classesH : RdyP P w K mg base CX0 1 "_law_classes" ["_law_e"] (fun p => spClasses cl [p])) :
    Rdy P w K mg base CX0 4 "_law_caught" ["_law_way", "_law_first", "_law_second", "_law_third"] (spCaught cl) := by
  refine F.rdy sc_caught (fun _ _ _ _ _ _ us hl => match us, hl with | [_, _, _, _], _ => rfl) (by rintro _ _ _ _ ⟨_, _, _, _, rfl, _⟩; rfl) (fun f cdv A outer s H vs Q E hr h => ?_)
  obtain ⟨i, x, y, z, rfl, hi, kp⟩ := h
  refine ⟨_, (pss_cons (ps_set (i := 4) sc_caught.nd rfl (Or.inl rfl) pe_non)
      (pss_cons (ps_try_asP (i := 5) rfl rfl sc_caught.nd rfl rfl ⟨rfl, by decide, .inl X.SheetError.gC⟩ takes0N (fun W pn xe tk po => (pss_cons (ps_expr (pe_clSN R_raise_more (hr.mono (by decide)) tk (pa_cons (pv 0) (pa_cons (pv 1) (pa_cons (pv 2) (pa_cons (pv 3) pa_nil)))))) (pss_cons (ps_expr (pe_clSN R_raise_one (hr.mono (by decide)) tk (pa_cons (pv 0) (pa_cons (pv 1) pa_nil)))) (pss_cons (ps_expr (pe_clSN R_raise_other (hr.mono (by decide)) tk (pa_cons (pv 0) (pa_cons (pv 1) pa_nil)))) (pss_one (ps_expr (pe_clSN R_raise_bare (hr.mono (by decide)) tk (pa_cons (pv 0) pa_nil)))))))) (fun a oe cls d pn hz hf => (pss_one (ps_set (i := 4) sc_caught.nd rfl (Or.inl rfl) (pe_tup (pa_cons (pe_clP (p := (a, oe)) R_fieldsH (L2H.roomH_mark (hr.mono (by decide)) _) ⟨rfl, hf.elim fun vs e => ⟨vs, e, hz.2.2 vs e⟩⟩ List.mem_cons_self pass0 (pa_cons (pv 0) (pa_cons (pv 5) pa_nil))) (pa_cons (pe_clP (p := (a, oe)) R_classesH (L2H.roomH_mark (hr.mono (by decide)) _) ⟨rfl, hf.elim fun vs e => ⟨vs, e, hz.2.2 vs e⟩⟩ List.mem_cons_self pass0 (pa_cons (pv 5) pa_nil)) (pa_cons (pe_callB call_isX (by rfl) T.b_isinstance (by decide +kernel) (pa_cons (pv 5) (pa_cons (pe_bltn (v := .ty "ValueError") (by rfl) T.b_ValueError (by decide +kernel) rfl) pa_nil))) pa_nil))))))))
      (pss_one (ps_ret (pv 4))))), ?_⟩
  walk_at "sx"
  have np : ∀ {H1 : Hp} {p : Addr}, Same H H1 → H1 p = none → H p = none := fun {H1 p} S hp => by
    cases e : H p with
    | none => rfl
    | some o => rw [S _ _ e] at hp; cases hp
  generalize hW : WE (wAs _ _ _ _ _ _) _ = Wd
  have key : ∀ d H2, Same H H2 → DX H2 d (flds (fN i) [x, y, z]) → Wd (.ref (cl i)) d H2 := by
    intro d H2 S2 dx
    rw [← hW]
    refine ⟨true, X.G.exm i hi, fun _ a na oe pn hz hf => ?_, fun h => by cases h⟩
    walk_at "sx"
    have ev : EV [(a, oe)] H2 (.ref a) (cl i) (flds (fN i) [x, y, z]) := ⟨a, d, rfl, .inr ⟨oe, List.mem_cons_self, hz.zc, hf⟩, dx⟩
    refine ⟨i, .ref a, x, y, z, rfl, hi, ev, fun p1 H3 n1 S3 e1 => ?_⟩
    refine ⟨i, .ref a, _, rfl, hi, ev.same S3, fun p2 H4 n2 S4 e2 => ?_⟩
    refine rd_isV X.G hi ((ev.pins (by simp)).same (S3.trans S4)) ?_
    refine ⟨size_le (by decide), fun p hp => ?_⟩
    have S24 := S2.trans (S3.trans S4)
    exact kp p p1 p2 _ (np S24 hp) (np S2 n1) (np (S2.trans S3) n2) (S24.trans (same_upd hp)) upd_same (same_upd hp _ _ (S4 _ _ e1)) (same_upd hp _ _ e2)
  clear hW kp
  refine ⟨i, x, y, z, rfl, hi, fun _ _ => key, fun n1 => ?_⟩
  refine ⟨i, x, y, z, rfl, hi, fun _ _ => key, fun n2 => ?_⟩
  refine ⟨i, x, y, z, rfl, hi, fun _ _ => key, fun n3 => ?_⟩
  refine ⟨i, x, y, z, rfl, hi, fun _ _ => key, fun n4 => ?_⟩
  omega
end
end My
namespace My
open PySem PySem.Spec PyProof.Rows L2
local macro_rules | `(tactic| walk_at "sx") => `(tactic| first | (simp only [cx_K, cx_pn, cxh_pn, cxh_K, tB, iRng1, iRng2, iRng3, iList, iTup, wAs, tXf, tDictZip, tDGet1, rInD, rInT, tChain, tUn, rU, tCallS, WE, wOnly, tSl, tPart, tNoPart, tRevL, tStepL, tM0, tM1, wipe, tYes, Bool.not_eq_true', gCons, gNil, decide_eq_false_iff_not, tCall, tPar, tAndV, tOrV, tNotV, tIf, List.append_nil, rEq, rNe, scal_ii, scal_ss, scal_bb, scal_nn, scal_in, scal_ni, scal_sn, scal_ns, scal_is, scal_si, Bool.and_true, Bool.true_and, Bool.and_false, Bool.false_and, reduceCtorEq, tLst, tTup, Int.reduceToNat, decide_true, decide_false, Bool.not_true, Bool.not_false, Bool.false_eq_true, if_true, if_false, reduceIte, gSub, tAnd, tOr, tNot, tBM, tBM0, tNext, tSeq, tAsg, tOp, rI, rI0, tVar, tC, gName, tRet, tCB, tCons, tNil, tTest, tIfS, tDrop, L2.start, List.map_cons, List.map_nil, List.length_cons, List.length_nil, List.cons_append, List.nil_append, List.replicate, List.getElem?_cons_zero, List.getElem?_cons_succ, List.set_cons_zero, List.set_cons_succ, Option.some.injEq, V.int.injEq, V.str.injEq, V.bl.injEq, V.ref.injEq, exists_eq_left', exists_eq_left, exists_and_left, exists_eq', and_assoc, List.cons.injEq, and_true, true_and, decide_eq_true_eq, Nat.reduceAdd, Nat.reduceSub]) | skip)
local macro_rules | `(tactic| walk_at "isi") => `(tactic| first | (simp only [isi_none_int, isi_none_bool, isi_none_str, isi_none_list, isi_none_tuple, isi_bool_int, isi_bool_bool, isi_bool_str, isi_bool_list, isi_bool_tuple, isi_int_int, isi_int_bool, isi_int_str, isi_int_list, isi_int_tuple, isi_str_int, isi_str_bool, isi_str_str, isi_str_list, isi_str_tuple, isi_list_int, isi_list_bool, isi_list_str, isi_list_list, isi_list_tuple, isi_tuple_int, isi_tuple_bool, isi_tuple_str, isi_tuple_list, isi_tuple_tuple, isInt_none, isInt_bool, isInt_int, isInt_str, isInt_list, isInt_tuple]) | skip)
def spLaw (K : PySem.W.Frag) : Sp := fun vs H Q _ => ∃ (p : Addr) (ns : List Int), vs = [.ref p] ∧ SqL K H p (ns.map V.int) ∧ ns.length ≤ 63 ∧ ∀ H', Q (.bl true) H'
section
variable {K : PySem.W.Frag} {X : Cx}
theorem piK {tg iter : Expr} (f : PySem.W.Frag → TI) (h : PI X tg iter (f X.K)) (hK : X.K = K := by rfl) : PI X tg iter (f K) := hK ▸ h
end
theorem cutV_to (xs : List V) (k : Nat) : cutV xs none (some (k : Int)) = xs.take k := by
  unfold cutV
  have e1 : ∀ (n d v : Nat), HT.sIx n d (some (v : Int)) = min v n := fun n d v => by
    show (if ((v : Int)) < 0 then ((v : Int) + (n : Int)).toNat else min ((v : Int)).toNat n) = _
    rw [if_neg (by omega), Int.toNat_natCast]
  rw [e1, show HT.sIx xs.length 0 none = 0 from rfl, List.drop_zero, Nat.sub_zero]
  by_cases h : k ≤ xs.length
  · rw [Nat.min_eq_left h]
  · rw [Nat.min_eq_right (by omega), List.take_length, List.take_of_length_le (by omega)]
theorem sh_things : ∀ d ∈ things, sh 3 d := fun d h => by
  have : (things.all fun d => d.canLay0 && decide (d.depth ≤ 3)) = true := by decide +kernel
  have := List.all_eq_true.mp this d h
  simpa [sh] using this
/-- the box and the three things -/
structure Ctx (K : PySem.W.Frag) (a g s : Addr) (n : Nat) (x y z : V) (d1 d2 d3 : PyData) (H : Hp) : Prop where
  bx : Bx H a g s n
  x : Dp K (dl [a, g, s] H) x d1
  y : Dp K (dl [a, g, s] H) y d2
  z : Dp K (dl [a, g, s] H) z d3
theorem Ctx.same {K : PySem.W.Frag} {a g s : Addr} {n : Nat} {x y z : V} {d1 d2 d3 : PyData} {H H' : Hp} (h : Ctx K a g s n x y z d1 d2 d3 H) (S : Same H H') : Ctx K a g s n x y z d1 d2 d3 H' :=
  ⟨h.bx.same S, dp_same (dl_same S) h.x, dp_same (dl_same S) h.y, dp_same (dl_same S) h.z⟩
/-- the data of the fields; which of them are bools -/
def valsD (i : Nat) (d1 d2 d3 : PyData) : List PyData := [d1, d2, d3].take (fN i).length
def boolK (d : PyData) : PyData := .bool (isiD d "bool")
theorem Ctx.vals {K : PySem.W.Frag} {a g s : Addr} {n : Nat} {x y z : V} {d1 d2 d3 : PyData} {H : Hp} (h : Ctx K a g s n x y z d1 d2 d3 H) (i : Nat) : DpAll K (dl [a, g, s] H) (valsX i x y z) (valsD i d1 d2 d3) :=
  dps_take _ (.cons h.x (.cons h.y (.cons h.z .nil)))
theorem dps_in {K : PySem.W.Frag} {S : List Addr} {H1 H : Hp} {D : Addr} (hD : H1 D = none) (sb : Same H1 H) : ∀ {vs : List V} {ds : List PyData}, DpAll K (dl S H1) vs ds → DpAll K (dl (D :: S) H) vs ds
  | _, _, .nil => .nil
  | _, _, .cons a b => .cons (dp_in hD no_mem (.of sb) a) (dps_in hD sb b)
theorem iteF {k : Bool} {A B : Prop} (h : k = false) (b : B) : if k = true then A else B := by rw [h, if_neg Bool.false_ne_true]; exact b
theorem iteC {k : Bool} {A B : Prop} (h : k = true) (b : B) : if k = false then A else B := by rw [h, if_neg (by simp)]; exact b
theorem rd_neq {K : PySem.W.Frag} {H : Hp} {v u : V} {d : PyData} {n : Nat} {R : Bool → Hp → Prop} (h1 : Dp K H v d) (h2 : Dp K H u d) (s : sh n d) (hn : n ≤ 64) (q : ∀ k, k = false → R k H) : rNeD K v u H fun x H' => ∃ k, x = V.bl k ∧ R k H' :=
  ⟨d, d, h1, h2, s.ok hn, s.ok hn, _, rfl, q _ (by rw [s.refl]; rfl)⟩
theorem sh_vals {i : Nat} {d1 d2 d3 : PyData} (h1 : d1 ∈ things) (h2 : d2 ∈ things) (h3 : d3 ∈ things) : ∀ d ∈ valsD i d1 d2 d3, sh 3 d := fun d hd => by
  have := List.mem_of_mem_take hd
  simp only [List.mem_cons, List.not_mem_nil, or_false] at this
  rcases this with rfl | rfl | rfl
  · exact sh_things _ h1
  · exact sh_things _ h2
  · exact sh_things _ h3
theorem EV.sameB {pn : List (Addr × Obj)} {H H' : Hp} {x : V} {C p : Addr} {fs : List (Str × V)} {xs : List V} (h : EV pn H x C fs) (s : SameB [p] H H') (hp : H p = some (.lst xs)) : EV pn H' x C fs := by
  have key : ∀ {b : Addr} {φ : Heap → Prop}, H b = some (.ext φ) → H' b = some (.ext φ) := fun {b φ} e => s.at e (by
    rw [List.mem_singleton]
    rintro rfl
    rw [hp] at e
    cases e)
  have key2 : ∀ {b : Addr} {fs : List (Str × V)}, H b = some (.xd fs) → H' b = some (.xd fs) := fun {b φ} e => s.at e (by
    rw [List.mem_singleton]
    rintro rfl
    rw [hp] at e
    cases e)
  obtain ⟨a, d, e, io, hd⟩ := h
  refine ⟨a, d, e, io.elim (fun ⟨φ, e, q⟩ => .inl ⟨φ, key e, q⟩) .inr, hd.elim .inl fun ⟨dd, e, f⟩ => .inr ⟨dd, e, ?_⟩⟩
  rcases f with f | f
  · exact .inl (key f)
  · exact .inr (key2 f)
section
variable {P : Program} {w : World} {K : PySem.W.Frag} {mg : Str → Option Value} {base : Heap} {aW aB : Addr} {cl : Nat → Addr}
theorem sc_law : FnScope ["_law_script", "_law_box_here", "_law_way", "_law_first", "_law_second", "_law_third", "_law_due", "_law_made_here", "_law_e", "_law_fields_here", "_law_kinds", "_law_bare", "_law_k", "_law_parts", "_law_part"] ["_law_script"] (defScope s_law) := ⟨rfl, rfl, rfl, by decide +kernel, rfl, by decide +kernel, by decide +kernel⟩
theorem ok_law {f : Addr} {fd : FuncData} (T : Txt K mg aW aB) (X : Exs P w K mg base cl) (F : Fun K "law" "law" s_law f fd) (R_box : Rdy P w K mg base CX0 1 "_law_box" ["_law_script"] (spBox K)) (R_thing : Rdy P w K mg base CX0 3 "_law_thing" ["_law_box_here"] (spThing K))
    (R_made : Rdy P w K mg base CX0 3 "_law_made" ["_law_way", "_law_first", "_law_second", "_law_third"] (spMade cl 36)) (R_named : Rdy P w K mg base CX0 3 "_law_named" ["_law_way", "_law_first", "_law_second", "_law_third"] (spMade cl 32))
    (R_fields : Rdy P w K mg base CX0 1 "_law_fields" ["_law_way", "_law_e"] (spFields cl [])) (R_classes : Rdy P w K mg base CX0 1 "_law_classes" ["_law_e"] (spClasses cl [])) (R_caught : Rdy P w K mg base CX0 4 "_law_caught" ["_law_way", "_law_first", "_law_second", "_law_third"] (spCaught cl)) :
    FnOk P w K mg base CX0 5 f fd ["_law_script"] (spLaw K) := by
  refine F.ok sc_law (by rintro _ _ _ _ ⟨_, _, rfl, _⟩; rfl) (fun cdv A outer s H vs Q E hr h => ?_)
  obtain ⟨p, ns, rfl, hp, hl, kp⟩ := h
  refine ⟨_, (pss_cons (ps_set (i := 1) sc_law.nd rfl (Or.inr rfl) (pe_cl R_box (hr.mono (by decide)) pass0 (pa_cons (pv 0) pa_nil)))
      (pss_cons (ps_for PassesOwn.never rfl (pi_range1 (by rfl) T.b_range (pa_cons pe_int pa_nil)) (pg_name (i := 2) sc_law.nd rfl (Or.inl rfl))
      (pss_cons (ps_asg (pe_lc (own := [("_law_k", 12)]) (g := (gName 12)) (tt := tYes) rfl sc_law.nd (pi_range1 (by rfl) T.b_range (pa_cons pe_int pa_nil)) (blkOk_by (N := ["_law_script", "_law_box_here", "_law_way", "_law_first", "_law_second", "_law_third", "_law_due", "_law_made_here", "_law_e", "_law_fields_here", "_law_kinds", "_law_bare", "_law_k", "_law_parts", "_law_part"]) (sc := defScope s_law) (by decide +kernel)) (fun _ _ _ _ _ => (pg_name (i := 12) sc_law.nd rfl (Or.inl rfl))) (fun _ _ _ _ _ => pts_nil) (fun _ _ _ _ _ => (pe_cl R_thing (hr.mono (by decide)) pass0 (pa_cons (pv 1) pa_nil)))) (pg_lst (n := 3) rfl (pgs_cons (pg_name (i := 3) sc_law.nd rfl (Or.inl rfl)) (pgs_cons (pg_name (i := 4) sc_law.nd rfl (Or.inl rfl)) (pgs_cons (pg_name (i := 5) sc_law.nd rfl (Or.inl rfl)) pgs_nil)))))
      (pss_cons (ps_set (i := 6) sc_law.nd rfl (Or.inl rfl) (pe_slice sl_list (pe_lst (pa_cons (pv 3) pa_nil)) po_none (po_some (pe_callTy call_int1 (by rfl) T.b_int (by decide +kernel) (pa_cons (pe_cmpR op_lt (pv 2) pe_int (nomark _)) pa_nil)))))
      (C8.pss_cut (ps_if (pt_cmpR op_lt (pv 2) pe_int (nomark _)) (pss_one (ps_set (i := 6) sc_law.nd rfl (Or.inl rfl) (pe_slice sl_list (pe_lst (pa_cons (pv 3) (pa_cons (pv 4) (pa_cons (pv 5) pa_nil)))) po_none (po_some (pe_ix ix_list (pe_lst (pa_cons pe_int (pa_cons pe_int pa_nil))) (pv 2) (fun _ _ => rfl)))))) pss_nil)
      (pss_cons (ps_set (i := 7) sc_law.nd rfl (Or.inl rfl) (pe_lst (pa_cons (pe_cl R_made (hr.mono (by decide)) pass0 (pa_cons (pv 2) (pa_cons (pv 3) (pa_cons (pv 4) (pa_cons (pv 5) pa_nil))))) pa_nil)))
      (C8.pss_cut (ps_if (pt_cmpR op_lt (pv 2) pe_int (nomark _)) (pss_one (ps_expr (pe_bm PySem.F.plainAttrs_list PySem.F.slot_list_append PySem.F.type_list_append mt_append (pv 7) (pa_cons (pe_cl R_named (hr.mono (by decide)) pass0 (pa_cons (pv 2) (pa_cons (pv 3) (pa_cons (pv 4) (pa_cons (pv 5) pa_nil))))) pa_nil)))) pss_nil)
      (pss_cons (ps_for PassesOwn.never rfl (pi_list (pv 7)) (pg_name (i := 8) sc_law.nd rfl (Or.inl rfl))
      (pss_cons (ps_set (i := 9) sc_law.nd rfl (Or.inl rfl) (pe_cl R_fields (hr.mono (by decide)) pass0 (pa_cons (pv 2) (pa_cons (pv 8) pa_nil))))
      (pss_cons (ps_setLc (i := 10) (own := [("_law_parts", 13)]) (g := (gName 13)) (tt := tYes) rfl sc_law.nd rfl rfl (sw_true rfl rfl rfl (by decide +kernel)) (pi_tup (pe_tup (pa_cons (pv 9) (pa_cons (pv 6) pa_nil)))) (blkOk_by (N := ["_law_script", "_law_box_here", "_law_way", "_law_first", "_law_second", "_law_third", "_law_due", "_law_made_here", "_law_e", "_law_fields_here", "_law_kinds", "_law_bare", "_law_k", "_law_parts", "_law_part"]) (sc := defScope s_law) (by decide +kernel)) (fun _ _ _ _ _ => (pg_name (i := 13) sc_law.nd rfl (Or.inl rfl))) (fun _ _ _ _ _ => pts_nil) (fun _ _ _ _ _ => (pe_lc (own := [("_law_part", 14)]) (g := (gName 14)) (tt := tYes) rfl sc_law.nd (piK (K := K) (fun K => iList K (tVar 13)) (pi_list (pv 13))) (blkOk_by (N := ["_law_script", "_law_box_here", "_law_way", "_law_first", "_law_second", "_law_third", "_law_due", "_law_made_here", "_law_e", "_law_fields_here", "_law_kinds", "_law_bare", "_law_k", "_law_parts", "_law_part"]) (sc := relS _ (defScope s_law)) (by decide +kernel)) (fun _ _ _ _ _ => (pg_name (i := 14) sc_law.nd rfl (Or.inl rfl))) (fun _ _ _ _ _ => pts_nil) (fun _ _ _ _ _ => (pe_callB (callK (K := K) (fun K => rIsi K) call_isi) (by rfl) T.b_isinstance (by decide +kernel) (pa_cons (pv 14) (pa_cons (pe_bltn (v := .ty "bool") (by rfl) T.b_bool (by decide +kernel) rfl) pa_nil)))))))
      (pss_cons (ps_if (PW.pt (pw_or (pt_cmpR (op_neD hr.units) (pv 9) (pv 6) (nomark _)) (pw_or1 (pt_cmpR (op_neD hr.units) (pe_ix ix_list (pv 10) pe_int (fun _ _ => rfl)) (pe_ix ix_list (pv 10) pe_int (fun _ _ => rfl)) (nomark _))))) (pss_one (ps_ret pe_bl)) pss_nil)
      (pss_cons (ps_if (PW.pt (pw_or (pt_not (pt_val (pe_callB call_isX (by rfl) T.b_isinstance (by decide +kernel) (pa_cons (pv 8) (pa_cons (pe_gl (v := .ref _) ⟨_, X.SheetError.gC, rfl⟩) pa_nil))))) (pw_or1 (pt_not (pt_val (pe_callB call_isX (by rfl) T.b_isinstance (by decide +kernel) (pa_cons (pv 8) (pa_cons (pe_bltn (v := .ty "ValueError") (by rfl) T.b_ValueError (by decide +kernel) rfl) pa_nil)))))))) (pss_one (ps_ret pe_bl)) pss_nil)
      (pss_one (ps_if (pt_cmpR (op_neD hr.units) (pe_cl R_classes (hr.mono (by decide)) pass0 (pa_cons (pv 8) pa_nil)) (pe_lst (pa_cons (pv 2) pa_nil)) (nomark _)) (pss_one (ps_ret pe_bl)) pss_nil)))))))
      (pss_one (ps_if (pt_cmpR (op_neD hr.units) (pe_cl R_caught (hr.mono (by decide)) pass0 (pa_cons (pv 2) (pa_cons (pv 3) (pa_cons (pv 4) (pa_cons (pv 5) pa_nil))))) (pe_tup (pa_cons (pv 6) (pa_cons (pe_lst (pa_cons (pv 2) pa_nil)) (pa_cons pe_bl pa_nil)))) (nomark _)) (pss_one (ps_ret pe_bl)) pss_nil)))))))))
      (pss_cons (ps_set (i := 11) sc_law.nd rfl (Or.inl rfl) (pe_cl R_caught (hr.mono (by decide)) pass0 (pa_cons pe_int (pa_cons pe_int (pa_cons pe_int (pa_cons pe_int pa_nil))))))
      (pss_one (ps_ret (pe_and (pe_cmpR (op_eqD hr.units) (pv 11) (pe_tup (pa_cons (pe_lst pa_nil) (pa_cons (pe_lst pa_nil) (pa_cons pe_bl pa_nil)))) (nomark _)) (pe_one (pe_callB call_isX (by rfl) T.b_isinstance (by decide +kernel) (pa_cons (pe_mb X.SheetError) (pa_cons (pe_bltn (v := .ty "ValueError") (by rfl) T.b_ValueError (by decide +kernel) rfl) pa_nil)))))))))), ?_⟩
  walk_at "sx"
  refine ⟨p, ns, rfl, hp, hl, fun a g s' H1 B1 => ?_⟩
  refine rd_for fun R hR => ?_
  walk_at "sx"
  obtain ⟨Pv, hPv⟩ : ∃ Pv : Nat → L2.St → Hp → Prop, ∀ i σ H2, Pv i σ H2 ↔ ∃ t2 t3 t4 t5 t6 t7 t8 t9 t10 : Option V, σ = [some (.ref p), some (.ref a), t2, t3, t4, t5, t6, t7, t8, t9, t10, none, none, none, none] ∧ Bx H2 a g s' (3 * i) := ⟨_, fun _ _ _ => Iff.rfl⟩
  refine ⟨by decide, by decide, hR _ _ (for_it walk_range Pv ((hPv _ _ _).2 ⟨_, _, _, _, _, _, _, _, _, rfl, B1⟩) (fun _ _ _ _ _ => trivial) (fun i x σ H2 H' hi hp hy => ?_) fun σ H2 hp => ?_)⟩
  · obtain ⟨t2, t3, t4, t5, t6, t7, t8, t9, t10, rfl, B2⟩ := (hPv _ _ _).1 hp
    obtain ⟨rfl, rfl⟩ := hy
    have hi36 : i < 36 := by simpa using hi
    clear hR hp B1 kp
    walk_at "sx"
    rw [Int.zero_add]
    refine rd_lc fun R1 hR1 => ?_
    walk_at "sx"
    obtain ⟨Rr, hRr⟩ : ∃ Rr : Nat → List PyData → Hp → Prop, ∀ j ds H2, Rr j ds H2 ↔ ds.length = j ∧ (∀ d ∈ ds, d ∈ things) ∧ Bx H2 a g s' (3 * i + j) := ⟨_, fun _ _ _ => Iff.rfl⟩
    refine ⟨by decide, by decide, hR1 _ _ fun D hD => lc_raw K [a, g] two_in walk_range B2.fr hD Rr (fun H2 S2 => (hRr _ _ _).2 ⟨rfl, fun _ h => (by cases h), B2.same S2⟩) (fun _ _ => trivial) (fun j x vals acc H3 H4 hj hn hv hd hle sb fr hR hY => ?_) fun vals ds H3 hn hv hvs sb fr hle hR => ?_⟩
    · obtain ⟨rfl, rfl⟩ := hY
      obtain ⟨hal, hat, B3⟩ := (hRr _ _ _).1 hR
      have hj3 : j < 3 := by simpa using hj
      walk_at "sx"
      refine ⟨a, g, s', _, rfl, B3, by omega, fun r v H5 h5 S5 B5 d5 => ?_⟩
      have d6 := d5 (D :: [a, g, s']) (fr.cons hv) (fun x hx => List.mem_cons_of_mem _ (two_in x hx))
      refine lc_put two_in hD hn hv hd hle (by omega) sb S5 B5.fr d6 fun H6 s6 f6 => ?_
      simp only [List.mem_cons, List.not_mem_nil, or_false, not_or] at hn
      refine (hRr _ _ _).2 ⟨by simp [hal], fun d hd => ?_, (B5.sameB s6 (by simpa using Ne.symm hn.1) (by simpa using Ne.symm hn.2.1) (by simpa using Ne.symm hn.2.2)).mono (by omega)⟩
      rcases List.mem_append.mp hd with h | h
      · exact hat d h
      · rw [List.mem_singleton] at h; subst h; exact h5
    · obtain ⟨hal, hat, B3⟩ := (hRr _ _ _).1 hR
      clear hR hRr hR1 hle sb fr B2
      have hvl := dps_len hvs
      match ds, vals, hal, hvl with
      | [d1, d2, d3], [x, y, z], _, _ =>
      refine ⟨D, _, rfl, SqL.of hv, rfl, ?_⟩
      obtain ⟨_, _, e1, x1, r1⟩ := dps_cons (dps_same (dl_mono fun x hx => List.mem_cons_of_mem D hx) hvs)
      cases e1
      obtain ⟨_, _, e2, x2, x3⟩ := dps_2 r1
      cases e2
      have q1 := hat d1 (by simp)
      have q2 := hat d2 (by simp)
      have q3 := hat d3 (by simp)
      have C3 : Ctx K a g s' (3 * i + 3) x y z d1 d2 d3 H3 := ⟨B3, x1, x2, x3⟩
      clear hvs hv hn hat hvl hal r1 B3 x1 x2 x3 hD D
      walk_at "sx"
      refine ⟨size_le (by decide), ?_⟩
      intro p1 hp1; generalize e1 : upd _ p1 _ = H4
      obtain ⟨S4, t4⟩ := new_of hp1 e1
      clear e1
      refine .inr ⟨p1, _, rfl, SqL.of t4, fun p2 hp2 => ?_⟩
      generalize e2 : upd _ p2 _ = H5
      have hsl : cutV [x] none (some (if (i : Int) < 32 then 1 else 0)) = if i < 32 then [x] else [] := by
        by_cases h : i < 32
        · rw [if_pos h, if_pos (by omega)]; rfl
        · rw [if_neg h, if_neg (by omega)]; rfl
      rw [hsl] at e2
      obtain ⟨S5, t5⟩ := new_of hp2 e2
      clear e2 hsl
      have C5 := C3.same (S4.trans S5)
      have np2 : p2 ∉ [a, g, s'] := (C3.same S4).bx.fr.new hp2
      clear C3 S4 S5 t4 hp2 hp1 H3 H4 p1
      obtain ⟨M1, hM1⟩ : ∃ M : L2.St → Hp → Prop, ∀ σ H, M σ H ↔ ∃ (pd : Addr) (t7 t8 t9 t10 : Option V), σ = [some (.ref p), some (.ref a), some (.int i), some x, some y, some z, some (.ref pd), t7, t8, t9, t10, none, none, none, none] ∧ H pd = some (.lst (valsX i x y z)) ∧ pd ∉ [a, g, s'] ∧ Ctx K a g s' (3 * i + 3) x y z d1 d2 d3 H := ⟨_, fun _ _ => Iff.rfl⟩
      refine ⟨M1, ?_, fun σ H6 hm => ?_⟩
      · walk_at "sx"
        have hp2 : p2 ∉ [a, g, s'] := np2
        refine iteD (fun h => ?_) (fun h => ?_)
        · refine ⟨size_le (by decide), ?_⟩
          intro p3 hp3; generalize e3 : upd _ p3 _ = H6
          obtain ⟨S6, t6⟩ := new_of hp3 e3
          clear e3
          refine ⟨size_le (by decide), ?_⟩
          intro p4 hp4; generalize e4 : upd _ p4 _ = H7
          obtain ⟨S7, t7'⟩ := new_of hp4 e4
          clear e4
          obtain ⟨m, hm, hmv⟩ : ∃ m : Nat, atI [V.int 3, V.int 2] (i : Int) = some (.int m) ∧ [x, y, z].take m = valsX i x y z := by
            have : i = 0 ∨ i = 1 := by omega
            rcases this with rfl | rfl
            · exact ⟨3, atI_nat (j := 0) rfl, rfl⟩
            · exact ⟨2, atI_nat (j := 1) rfl, rfl⟩
          refine rd_ixL t7' hm ⟨_, rfl, p3, _, rfl, SqL.of (S7 _ _ t6), fun p5 hp5 => ?_⟩
          generalize e5 : upd _ p5 _ = H8
          rw [cutV_to, hmv] at e5
          obtain ⟨S8, t8'⟩ := new_of hp5 e5
          have C8' := C5.same (S6.trans (S7.trans S8))
          exact (hM1 _ _).2 ⟨p5, _, _, _, _, rfl, t8', (C5.same (S6.trans S7)).bx.fr.new hp5, C8'⟩
        · refine (hM1 _ _).2 ⟨p2, _, _, _, _, rfl, ?_, hp2, C5⟩
          rw [t5]
          have e : (if i < 32 then [x] else []) = valsX i x y z := by
            unfold valsX
            rw [(by decide +kernel : ∀ i : Nat, i < 36 → 2 ≤ i → (fN i).length = if i < 32 then 1 else 0) i hi36 (by omega)]
            by_cases h : i < 32
            · rw [if_pos h, if_pos h]; rfl
            · rw [if_neg h, if_neg h]; rfl
          rw [e]
      · obtain ⟨pd, t7, t8, t9, t10, rfl, hpd, npd, C6⟩ := (hM1 _ _).1 hm
        clear hM1 hm C5 t5
        walk_at "sx"
        refine ⟨i, x, y, z, rfl, hi36, fun ea H7 S7 v7 => ?_⟩
        refine ⟨size_le (by decide), ?_⟩
        intro p1 hp1; generalize e1 : upd _ p1 _ = H8
        obtain ⟨S8, t8'⟩ := new_of hp1 e1
        clear e1
        have C8' := C6.same (S7.trans S8)
        have hpd8 := (S7.trans S8) _ _ hpd
        have v8 := v7.same S8
        have np1 := (C6.same S7).bx.fr.new hp1
        have D8 : Dp K (dl (p1 :: [a, g, s']) H8) x d1 ∧ Dp K (dl (p1 :: [a, g, s']) H8) y d2 ∧ Dp K (dl (p1 :: [a, g, s']) H8) z d3 :=
          ⟨dp_in hp1 no_mem (.of S8) (C6.same S7).x, dp_in hp1 no_mem (.of S8) (C6.same S7).y, dp_in hp1 no_mem (.of S8) (C6.same S7).z⟩
        have npd1 : pd ≠ p1 := ne_of_none (S7 _ _ hpd) hp1
        clear hp1 v7 C6 hpd S7 S8 H6 H7
        obtain ⟨M2, hM2⟩ : ∃ M : L2.St → Hp → Prop, ∀ σ H, M σ H ↔ ∃ (pm : Addr) (es : List V) (t8 t9 t10 : Option V), σ = [some (.ref p), some (.ref a), some (.int i), some x, some y, some z, some (.ref pd), some (.ref pm), t8, t9, t10, none, none, none, none] ∧ H pd = some (.lst (valsX i x y z)) ∧ pd ∉ [a, g, s'] ∧ Ctx K a g s' (3 * i + 3) x y z d1 d2 d3 H ∧
          H pm = some (.lst es) ∧ es.length ≤ 2 ∧ ∀ e ∈ es, EV [] H e (cl i) (flds (fN i) [x, y, z]) := ⟨_, fun _ _ => Iff.rfl⟩
        refine ⟨M2, ?_, fun σ H6 hm => ?_⟩
        · walk_at "sx"
          refine iteD (fun h => ?_) (fun h => ?_)
          · refine ⟨.inl ⟨rfl, _, SqL.of t8'⟩, i, x, y, z, rfl, by omega, fun eb H9 S9 v9 => ?_⟩
            refine rd_append (S9 _ _ t8') (by simp) fun H10 S10 t10' => ?_
            have mono : ∀ q ∈ [p1], q ∈ p1 :: [a, g, s'] := by simp
            have s10 : SameB (p1 :: [a, g, s']) H8 H10 := (SameB.of S9).trans (S10.mono mono)
            have down : Same (dl (p1 :: [a, g, s']) H10) (dl [a, g, s'] H10) := dl_mono fun q hq => List.mem_cons_of_mem _ hq
            have np1' := np1
            simp only [List.mem_cons, List.not_mem_nil, or_false, not_or] at np1'
            refine (hM2 _ _).2 ⟨p1, [.ref ea, .ref eb], _, _, _, rfl, S10.at (S9 _ _ hpd8) (by simpa using npd1), npd, ⟨?_, dp_same down (dp_same s10 D8.1), dp_same down (dp_same s10 D8.2.1), dp_same down (dp_same s10 D8.2.2)⟩, t10', by simp, fun e he => ?_⟩
            · exact (C8'.bx.same S9).sameB S10 (by simpa using Ne.symm np1'.1) (by simpa using Ne.symm np1'.2.1) (by simpa using Ne.symm np1'.2.2)
            · simp only [List.mem_cons, List.not_mem_nil, or_false] at he
              rcases he with rfl | rfl
              · exact (v8.same S9).sameB S10 (S9 _ _ t8')
              · exact v9.sameB S10 (S9 _ _ t8')
          · exact (hM2 _ _).2 ⟨p1, [.ref ea], _, _, _, rfl, hpd8, npd, C8', t8', by simp, fun e he => by rw [List.mem_singleton] at he; subst he; exact v8⟩
        · obtain ⟨pm, es, t8, t9, t10, rfl, hpd, npd, C6, hpm, hel, hev⟩ := (hM2 _ _).1 hm
          clear hM2 hm C8' hpd8 v8 np1 npd1 t8' D8 H8 p1
          refine rd_for fun R hR => ?_
          walk_at "sx"
          obtain ⟨Pv2, hPv2⟩ : ∃ Pv2 : Nat → L2.St → Hp → Prop, ∀ j σ H, Pv2 j σ H ↔ ∃ (t8 t9 t10 : Option V), σ = [some (.ref p), some (.ref a), some (.int i), some x, some y, some z, some (.ref pd), some (.ref pm), t8, t9, t10, none, none, none, none] ∧ H pd = some (.lst (valsX i x y z)) ∧ Ctx K a g s' (3 * i + 3) x y z d1 d2 d3 H ∧
            H pm = some (.lst es) ∧ ∀ e ∈ es, EV [] H e (cl i) (flds (fN i) [x, y, z]) := ⟨_, fun _ _ _ => Iff.rfl⟩
          refine ⟨⟨_, SqL.of hpm⟩, hR _ _ (for_it walk_list Pv2 ((hPv2 _ _ _).2 ⟨_, _, _, rfl, hpd, C6, hpm, hev⟩) (fun j σ H _ h => by obtain ⟨_, _, _, _, _, _, h, _⟩ := (hPv2 _ _ _).1 h; exact SqL.of h) (fun j e σ H7 H' hj hp hy => ?_) fun σ H7 hp => ?_)⟩
          · obtain ⟨rfl, he1⟩ := hy
            obtain ⟨t8, t9, t10, rfl, hpd, C7, hpm, hev⟩ := (hPv2 _ _ _).1 hp
            have ev := hev e (List.mem_of_getElem? he1)
            clear hR hp C6
            walk_at "sx"
            refine ⟨i, e, x, y, z, rfl, by omega, ev, fun pf H8 nf S8 hf => ?_⟩
            have C8 := C7.same S8
            have dv := C8.vals i
            have hdl := dps_len dv
            have npf : pf ∉ [a, g, s'] := C7.bx.fr.new nf
            have hpd8 := S8 _ _ hpd
            refine rd_lc fun R1 hR1 => ?_
            walk_at "sx"
            refine ⟨size_le (by decide), ?_⟩
            intro pt hpt; generalize e9 : upd _ pt _ = H9
            obtain ⟨S9, t9'⟩ := new_of hpt e9
            clear e9
            have C9 := C8.same S9
            have hf9 := S9 _ _ hf
            have hpd9 := S9 _ _ hpd8
            have dv9 := dps_same (dl_same S9) dv
            generalize hvv : valsX i x y z = vv at *
            generalize hvd : valsD i d1 d2 d3 = vd at *
            have hvd3 : vd.length ≤ 3 := by rw [← hvd]; unfold valsD; simp; omega
            refine ⟨⟨_, SqT.of t9'⟩, hR1 _ _ fun D hD => lc_gen K [] no_mem (walk_tup (xs := [.ref pf, .ref pd])) C9.bx.fr hD (fun j ds H => ds = List.replicate j (.list (vd.map boolK))) (fun _ _ => rfl) (fun H2 sb => SqT.of (sb.nil _ _ t9')) (fun k v vals acc H10 H' hk hn hv hd hle sb fr hR4 hY => ?_) fun ds H10 sb fr hdk hle hR4 => ?_⟩
            · obtain ⟨rfl, hx1⟩ := hY
              obtain ⟨q, rfl, hq⟩ : ∃ q, v = .ref q ∧ H' q = some (.lst vv) := by
                have hk2 : k < 2 := by simpa using hk
                rcases (show k = 0 ∨ k = 1 by omega) with rfl | rfl
                · cases hx1; exact ⟨pf, rfl, sb.nil _ _ hf9⟩
                · cases hx1; exact ⟨pd, rfl, sb.nil _ _ hpd9⟩
              have hk2 : k < 2 := by simpa using hk
              have dv10 : DpAll K (dl (D :: [a, g, s']) H') vv vd := dps_in hD sb.nil dv9
              walk_at "sx"
              refine rd_lc fun R2 hR2 => ?_
              walk_at "sx"
              refine ⟨⟨_, SqL.of hq⟩, hR2 _ _ fun D2 hD2 => lc_gen K [] no_mem (walk_list (xs := vv)) (fr.cons hv) hD2 (fun j ds H => ds = (vd.take j).map boolK) (fun _ _ => rfl) (fun H2 sb2 => SqL.of (sb2.nil _ _ hq)) (fun j2 u vals2 acc2 H11 H'' hj2 hn2 hv2 hd2 hle2 sb2 fr2 hR5 hY2 => ?_) fun ds2 H11 sb2 fr2 hdk2 hle2 hR5 => ?_⟩
              · obtain ⟨rfl, hu1⟩ := hY2
                obtain ⟨d, hdd, hud⟩ := dps_get dv10 hu1
                walk_at "sx"
                refine rd_isi (dp_up (dp_same (dl_same sb2.nil) hud)) (by simp) ?_
                refine lc_put no_mem hD2 hn2 hv2 hd2 hle2 (by omega) sb2 .refl fr2 (.bl _) fun H12 s12 f12 => ?_
                rw [hR5, List.take_add_one, hdd]
                simp [boolK]
              · rw [hdl, List.take_length] at hR5
                subst hR5
                refine lc_put no_mem hD hn hv hd hle (by omega) sb sb2 fr2.tail hdk2 fun H12 s12 f12 => ?_
                rw [hR4, List.replicate_succ']
            · have hsv : ∀ d ∈ vd, sh 3 d := by rw [← hvd]; exact sh_vals q1 q2 q3
              have hsl : sh 4 (.list vd) := sh_list hsv
              have S910 := sb.nil
              have C10 := C9.same S910
              have dvt : DpAll K (dl [a, g, s'] H10) vv vd := dps_same (dl_same S910) dv9
              have hpf10 : Dp K (dl [a, g, s'] H10) (.ref pf) (.list vd) := .lst (SqL.of (by rw [dl_out npf]; exact S910 _ _ hf9)) dvt
              have hpd10 : Dp K (dl [a, g, s'] H10) (.ref pd) (.list vd) := .lst (SqL.of (by rw [dl_out npd]; exact S910 _ _ hpd9)) dvt
              refine rd_neq (dp_up hpf10) (dp_up hpd10) hsl (by decide) fun k hk => iteF hk ?_
              rw [show ([V.ref pf, V.ref pd] : List V).length = 2 from rfl] at hR4
              subst hR4
              obtain ⟨b, xs, eb, hb, hxs⟩ := dp_lst hdk
              obtain ⟨k1, k2, rfl, h1, h2⟩ := dps_2 hxs
              rw [eb]
              have hbk : sh 2 (.list (vd.map boolK)) := sh_list fun d hd => by
                obtain ⟨d', _, rfl⟩ := List.mem_map.mp hd
                exact sh_bool
              refine rd_ixL' (seqL_up hb) (atI_nat (j := 0) rfl) (rd_ixL' (seqL_up hb) (atI_nat (j := 1) rfl) ?_)
              refine rd_neq (dp_up h1) (dp_up h2) hbk (by decide) fun k hk => iteF hk ?_
              have ev10 := ev.same (S8.trans (S9.trans S910))
              refine rd_isX X.G (by omega) (by decide) ev10 ⟨_, rfl, iteC (by simp) ?_⟩
              refine rd_isV X.G (by omega) ev10 ⟨_, rfl, iteC rfl ?_⟩
              refine ⟨i, e, _, rfl, by omega, ev10, fun pc H11 nc S11 hc => ⟨size_le (by decide), ?_⟩⟩
              intro pw hpw; generalize e12 : upd _ pw _ = H12
              obtain ⟨S12, t12⟩ := new_of hpw e12
              clear e12
              have hki : kinds i = [(i : Int)] := if_pos hi36
              rw [hki] at hc
              have dc : ∀ {H : Hp} {q : Addr}, H q = some (.lst [V.int i]) → Dp K H (.ref q) (.list [.int i]) := fun h => .lst (SqL.of h) (.cons (.int _) .nil)
              refine rd_neq (dc (S12 _ _ hc)) (dc t12) (sh_list (n := 0) fun d hd => by rw [List.mem_singleton] at hd; subst hd; exact sh_int) (by decide) fun k hk => iteF hk ?_
              have S712 : Same H' H12 := (S8.trans (S9.trans S910)).trans (S11.trans S12)
              exact (hPv2 _ _ _).2 ⟨_, _, _, rfl, S712 _ _ hpd, C7.same S712, S712 _ _ hpm, fun e he => (hev e he).same S712⟩
          · obtain ⟨t8, t9, t10, rfl, hpd, C7, hpm, hev⟩ := (hPv2 _ _ _).1 hp
            clear hR hPv2 hp C6
            walk_at "sx"
            refine ⟨i, x, y, z, rfl, by omega, fun pr p1 p2 H8 nr n1 n2 S8 hr8 h1 h2 => ⟨size_le (by decide), ?_⟩⟩
            intro pw hpw; generalize e12 : upd _ pw _ = H9
            obtain ⟨S9, t9'⟩ := new_of hpw e12
            clear e12
            refine ⟨size_le (by decide), ?_⟩
            intro pt hpt; generalize e13 : upd _ pt _ = H10
            obtain ⟨S10, t10'⟩ := new_of hpt e13
            clear e13
            have C10 := C7.same (S8.trans (S9.trans S10))
            have hki : kinds i = [(i : Int)] := if_pos hi36
            rw [hki] at h2
            have S810 := S9.trans S10
            have dvt := dps_same (dl_sub [a, g, s'] H10) (C10.vals i)
            have hsl : sh 4 (.list (valsD i d1 d2 d3)) := sh_list (sh_vals q1 q2 q3)
            have dc : ∀ {q : Addr}, H10 q = some (.lst [V.int i]) → Dp K H10 (.ref q) (.list [.int i]) := fun h => .lst (SqL.of h) (.cons (.int _) .nil)
            refine rd_neq (d := .tuple [.list (valsD i d1 d2 d3), .list [.int i], .bool true]) (n := 5) (.tup (SqT.of (S810 _ _ hr8)) (.cons (.lst (SqL.of (S810 _ _ h1)) dvt) (.cons (dc (S810 _ _ h2)) (.cons (.bl _) .nil))))
              (.tup (SqT.of t10') (.cons (.lst (SqL.of ((S8.trans S810) _ _ hpd)) dvt) (.cons (dc (S10 _ _ t9')) (.cons (.bl _) .nil)))) (sh_tup fun d hd => ?_) (by decide) fun k hk => iteF hk ?_
            · simp only [List.mem_cons, List.not_mem_nil, or_false] at hd
              rcases hd with rfl | rfl | rfl
              · exact hsl
              · exact (sh_list (n := 0) fun d hd => by rw [List.mem_singleton] at hd; subst hd; exact sh_int).mono (by decide)
              · exact sh_bool
            · exact (hPv _ _ _).2 ⟨_, _, _, _, _, _, _, _, _, rfl, C10.bx.mono (by omega)⟩
  · obtain ⟨t2, t3, t4, t5, t6, t7, t8, t9, t10, rfl, B2⟩ := (hPv _ _ _).1 hp
    clear hR hPv hp B1
    walk_at "sx"
    refine ⟨36, .int 0, .int 0, .int 0, rfl, by decide, fun pr p1 p2 H3 nr n1 n2 S3 hr3 h1 h2 => ⟨size_le (by decide), ?_⟩⟩
    intro pa hpa; generalize e4 : upd _ pa _ = H4
    obtain ⟨S4, t4'⟩ := new_of hpa e4
    clear e4
    refine ⟨size_le (by decide), ?_⟩
    intro pb hpb; generalize e5 : upd _ pb _ = H5
    obtain ⟨S5, t5'⟩ := new_of hpb e5
    clear e5
    refine ⟨size_le (by decide), ?_⟩
    intro pc hpc; generalize e6 : upd _ pc _ = H6
    obtain ⟨S6, t6'⟩ := new_of hpc e6
    clear e6
    have S36 := S4.trans (S5.trans S6)
    have v36 : valsX 36 (.int 0) (.int 0) (.int 0) = [] := rfl
    have k36 : kinds 36 = [] := rfl
    rw [v36] at h1
    rw [k36] at h2
    have de : ∀ {q : Addr}, H6 q = some (.lst []) → Dp K H6 (.ref q) (.list []) := fun h => .lst (SqL.of h) .nil
    have sx : sh 2 (.tuple [.list [], .list [], .bool true]) := ⟨by decide +kernel, by decide⟩
    refine ⟨_, _, .tup (SqT.of (S36 _ _ hr3)) (.cons (de (S36 _ _ h1)) (.cons (de (S36 _ _ h2)) (.cons (.bl _) .nil))), .tup (SqT.of t6') (.cons (de ((S5.trans S6) _ _ t4')) (.cons (de (S6 _ _ t5')) (.cons (.bl _) .nil))), sx.ok (by decide), sx.ok (by decide), ?_⟩
    refine ⟨_, rfl, ?_⟩
    rw [sx.refl, if_pos rfl]
    intro ae H7 na S7 ev
    exact rd_isV X.G (i := 36) (by decide) ev (kp _)
end
end My
/-! HeadX: a head's facts by a check of one's own. -/
namespace My
open PySem PySem.Spec PyProof.Rows L2
def obsX (extra : PySem.W.Frag → Bool) (fn : List He.DefD) (K : PySem.W.Frag) : He.AlD := (extra K && fn.all fun d => d.ok K, fn.map fun d => He.fnW K d.at_)
def SaysX (extra : PySem.W.Frag → Bool) (fn : List He.DefD) (K : PySem.W.Frag) : Prop := obsX extra fn K = He.valD fn
def obsXG (n : Nat) (extra : PySem.W.Frag → Bool) (fn : List He.DefD) (g : Addr → Option Obj) : He.AlD := obsX extra fn (He.frG g (PySem.cStatics :: He.asD g n))
def hookX (n : Nat) (extra : PySem.W.Frag → Bool) (fn : List He.DefD) : PySem.W.Hook where
  α := He.AlD
  obs := fun s => obsXG n extra fn s.heap.get?
  val := fun _ => He.valD fn
  says := fun _ h => ∃ K : PySem.W.Frag, K.In h ∧ SaysX extra fn K
  of := fun _ _ e => ⟨_, He.frG_in, e⟩
  keeps := fun _ _ _ ⟨K, hK, c⟩ k => ⟨K, PySem.W.Frag.In.keeps hK k, c⟩
theorem obsXG_eq {n : Nat} {extra : PySem.W.Frag → Bool} {fn : List He.DefD} {g : Addr → Option Obj} {s : Shared} (h : ∀ a, g a = s.heap.get? a) : obsXG n extra fn g = (hookX n extra fn).obs s := by
  have e : g = s.heap.get? := funext h
  rw [e] <;> rfl
section
variable {extra : PySem.W.Frag → Bool} {fn : List He.DefD} {K : PySem.W.Frag}
theorem SaysX.fact (c : SaysX extra fn K) : extra K = true :=
  (He.ba (show (extra K && fn.all fun d => d.ok K) = true from congrArg (fun z : He.AlD => z.1) c)).1
theorem SaysX.def_ (c : SaysX extra fn K) (i : Nat) {d : He.DefD} (h : fn[i]? = some d := by rfl) : ∃ fd, FunD K d.name d.qual d.params d.body d.scope (d.dvs K) (d.kws K) (He.fAd K d.at_) fd := by
  have c2 := (He.ba (show (extra K && fn.all fun d => d.ok K) = true from congrArg (fun z : He.AlD => z.1) c)).2
  have e : fn.map (fun d => He.fnW K d.at_) = fn.map He.DefD.val := congrArg (fun z : He.AlD => z.2) c
  have e2 : (fn.map fun d => He.fnW K d.at_)[i]? = (fn.map He.DefD.val)[i]? := by rw [e]
  rw [List.getElem?_map, List.getElem?_map, h] at e2
  exact He.DefD.funD (Option.some.inj e2) (List.all_eq_true.mp c2 d (List.mem_of_getElem? h))
end
/-- a plain def's datum -/
abbrev dd (x : Str) (st : Stmt) : He.DefD := ⟨(x, none), x, x, defArgs st, defBody st, defScope st, [], []⟩
/-- a method's -/
abbrev dm (c m : Str) (q : Str) (st : Stmt) : He.DefD := ⟨(c, some m), m, q, defArgs st, defBody st, defScope st, [], []⟩
theorem fun_of {K : PySem.W.Frag} {x q : Str} {st : Stmt} {f : Addr} {fd : FuncData} (F : FunD K x q (defArgs st) (defBody st) (defScope st) [] [] f fd) : Fun K x q st f fd := by
  obtain ⟨oc, od, dV, kV, doc, pm, an, cdv, ct, osl, e, l, c, hd, _⟩ := F.ex
  rcases hd with ⟨_, rfl⟩ | ⟨z, _⟩
  · exact ⟨⟨oc, od, kV, doc, pm, an, cdv, ct, osl, e, l, c⟩, F.kp⟩
  · exact absurd rfl z
/-- names that the module binds; names that it leaves to the built-ins -/
def gloB (K : PySem.W.Frag) (x : Str) : Bool := decide (PySem.W.nsIn K mainGlobals x = some (some (.ref (He.ga K x))))
def freeB (K : PySem.W.Frag) (x : Str) : Bool := decide (PySem.W.nsIn K mainGlobals x = some none)
theorem glo_of {K : PySem.W.Frag} {h : Heap} {mg : Str → Option Value} (X : K.In h) (G : h.Ns mainGlobals mg) {xs : List Str} (c : xs.all (gloB K) = true) {x : Str} (hx : x ∈ xs) : mg x = some (.ref (He.ga K x)) :=
  PySem.W.mg_of X G (of_decide_eq_true (List.all_eq_true.mp c x hx))
theorem free_of {K : PySem.W.Frag} {h : Heap} {mg : Str → Option Value} (X : K.In h) (G : h.Ns mainGlobals mg) {xs : List Str} (c : xs.all (freeB K) = true) {x : Str} (hx : x ∈ xs) : mg x = none :=
  PySem.W.mg_none_of X G (of_decide_eq_true (List.all_eq_true.mp c x hx))
/-- an exception class with an own __init__, over the base at CS -/
def excB (K : PySem.W.Frag) (CS : Addr) (x : Str) : Bool :=
  (match K.lookup (He.ga K x) with
    | some ⟨.type "type", _, .cls cd, sl⟩ => (match cd.mro, sl.toList with
      | .ref C' :: bm, [_, _, _, _, some (.builtin n), _] => C' == He.ga K x && n == "ValueError.__new__" && !cd.hasDel && cd.hasDict && (bm == [.ref CS, .type "ValueError", .type "Exception", .type "BaseException", .type "object"])
      | _, _ => false)
    | _ => false) &&
  (decide (PySem.W.findIn K (.ref (He.ga K x)) "__setattr__" = some (some (.builtin "object.__setattr__"))) && (decide (PySem.W.findIn K (.ref (He.ga K x)) "__init__" = some (some (.ref (He.ma K (He.ga K x) "__init__")))) &&
    (decide (PySem.W.typeIn K (.ref (He.ma K (He.ga K x) "__init__")) = some (.type "function")) && PySem.W.keepIn K (.ref (He.ga K x)))))
structure ExcF (K : PySem.W.Frag) (CS : Addr) (x : Str) : Prop where
  obj : ∃ nm q N bs sn sub ab col dd k0 k1 k2 k3 k5, K.lookup (He.ga K x) = some (excClassObj nm q (He.ga K x) N bs [.ref CS, .type "ValueError", .type "Exception", .type "BaseException", .type "object"] true sn sub ab col dd k0 k1 k2 k3 k5 "ValueError.__new__")
  sa : PySem.W.findIn K (.ref (He.ga K x)) "__setattr__" = some (some (.builtin "object.__setattr__"))
  ini : PySem.W.findIn K (.ref (He.ga K x)) "__init__" = some (some (.ref (He.ma K (He.ga K x) "__init__")))
  ty : PySem.W.typeIn K (.ref (He.ma K (He.ga K x) "__init__")) = some (.type "function")
  kp : PySem.W.keepIn K (.ref (He.ga K x)) = true
theorem excB_ok {K : PySem.W.Frag} {CS : Addr} {x : Str} (h : excB K CS x = true) : ExcF K CS x := by
  obtain ⟨h1, h⟩ := Bool.and_eq_true_iff.mp h
  obtain ⟨h2, h⟩ := Bool.and_eq_true_iff.mp h
  obtain ⟨h3, h⟩ := Bool.and_eq_true_iff.mp h
  obtain ⟨h4, h5⟩ := Bool.and_eq_true_iff.mp h
  refine ⟨?_, of_decide_eq_true h2, of_decide_eq_true h3, of_decide_eq_true h4, h5⟩
  split at h1
  · rename_i d0 cd sl ho
    split at h1
    · rename_i C' bm k0 k1 k2 k3 n k5 hm hs
      simp only [Bool.and_eq_true, beq_iff_eq, Bool.not_eq_true'] at h1
      obtain ⟨⟨⟨⟨rfl, rfl⟩, hdel⟩, hdi⟩, rfl⟩ := h1
      obtain ⟨nm, bs, mro, ns, qn, hd, sn, sub, ab, col, del⟩ := cd
      dsimp only at hm hdel hdi
      subst hm hdel hdi
      have hsl : sl = #[k0, k1, k2, k3, some (.builtin "ValueError.__new__"), k5] := by
        obtain ⟨l⟩ := sl
        simp only at hs
        rw [hs]
      subst hsl
      exact ⟨nm, qn, ns, bs, sn, sub, ab, col, d0, k0, k1, k2, k3, k5, ho⟩
    · cases h1
  · cases h1
end My
/-! End: what the top has written; the law. -/
namespace My
open PySem PySem.Spec PyProof.Rows L2
section
variable {P : Program} {w : World} {K : PySem.W.Frag} {mg : Str → Option Value} {base : Heap}
theorem isc_BadFormula : FnScope ["self", "name", "word", "position"] ["self", "name", "word", "position"] (defScope s_BadFormula_init) := ⟨rfl, rfl, rfl, by decide +kernel, rfl, by decide +kernel, by decide +kernel⟩
theorem ini_BadFormula {C fI : Addr} {fd : FuncData} (B : BaseC K mg "SheetError") (gC : mg "BadFormula" = some (.ref C)) (T : OexC K C) (nf : ∀ f ∈ (["name", "word", "position"] : List Str), PySem.W.findIn K (.ref C) f = some none) (iC : PySem.W.findIn K (.ref C) "__init__" = some (some (.ref fI))) (tI : PySem.W.typeIn K (.ref fI) = some (.type "function")) (F : Fun K "__init__" ("BadFormula" ++ (".__init__" : Str)) s_BadFormula_init fI fd) : ExG P w K mg base "BadFormula" C ["name", "word", "position"] :=
  ⟨gC, T, fI, fd, iC, tI, spin3 T (nf _ (by simp)) (nf _ (by simp)) (nf _ (by simp)) F isc_BadFormula fun cdv A outer s H E => ⟨_, pss_cons (ps_expr (pe_clsinit B (pa_cons (pv 0) (pa_cons pe_str pa_nil)))) (pss_cons (ps_ost (pv 0) (pv 1)) (pss_cons (ps_ost (pv 0) (pv 2)) (pss_one (ps_ost (pv 0) (pv 3)))))⟩, F.binds fun _ _ _ _ _ _ us hl => match us, hl with | [_, _, _, _], _ => rfl,
    fun_kb (n := 0) (ns := ["name", "word", "position"]) F fun _ _ _ _ _ _ us ws h1 h2 => match us, ws, h1, h2 with | [_], [_, _, _], _, _ => rfl⟩
theorem isc_CellInUse : FnScope ["self", "name", "user"] ["self", "name", "user"] (defScope s_CellInUse_init) := ⟨rfl, rfl, rfl, by decide +kernel, rfl, by decide +kernel, by decide +kernel⟩
theorem ini_CellInUse {C fI : Addr} {fd : FuncData} (B : BaseC K mg "SheetError") (gC : mg "CellInUse" = some (.ref C)) (T : OexC K C) (nf : ∀ f ∈ (["name", "user"] : List Str), PySem.W.findIn K (.ref C) f = some none) (iC : PySem.W.findIn K (.ref C) "__init__" = some (some (.ref fI))) (tI : PySem.W.typeIn K (.ref fI) = some (.type "function")) (F : Fun K "__init__" ("CellInUse" ++ (".__init__" : Str)) s_CellInUse_init fI fd) : ExG P w K mg base "CellInUse" C ["name", "user"] :=
  ⟨gC, T, fI, fd, iC, tI, spin2 T (nf _ (by simp)) (nf _ (by simp)) F isc_CellInUse fun cdv A outer s H E => ⟨_, pss_cons (ps_expr (pe_clsinit B (pa_cons (pv 0) (pa_cons pe_str pa_nil)))) (pss_cons (ps_ost (pv 0) (pv 1)) (pss_one (ps_ost (pv 0) (pv 2))))⟩, F.binds fun _ _ _ _ _ _ us hl => match us, hl with | [_, _, _], _ => rfl,
    fun_kb (n := 0) (ns := ["name", "user"]) F fun _ _ _ _ _ _ us ws h1 h2 => match us, ws, h1, h2 with | [_], [_, _], _, _ => rfl⟩
theorem isc_InvalidNumber : FnScope ["self", "value"] ["self", "value"] (defScope s_InvalidNumber_init) := ⟨rfl, rfl, rfl, by decide +kernel, rfl, by decide +kernel, by decide +kernel⟩
theorem ini_InvalidNumber {C fI : Addr} {fd : FuncData} (B : BaseC K mg "SheetError") (gC : mg "InvalidNumber" = some (.ref C)) (T : OexC K C) (nf : ∀ f ∈ (["value"] : List Str), PySem.W.findIn K (.ref C) f = some none) (iC : PySem.W.findIn K (.ref C) "__init__" = some (some (.ref fI))) (tI : PySem.W.typeIn K (.ref fI) = some (.type "function")) (F : Fun K "__init__" ("InvalidNumber" ++ (".__init__" : Str)) s_InvalidNumber_init fI fd) : ExG P w K mg base "InvalidNumber" C ["value"] :=
  ⟨gC, T, fI, fd, iC, tI, spin1 T (nf _ (by simp)) F isc_InvalidNumber fun cdv A outer s H E => ⟨_, pss_cons (ps_expr (pe_clsinit B (pa_cons (pv 0) (pa_cons pe_str pa_nil)))) (pss_one (ps_ost (pv 0) (pv 1)))⟩, F.binds fun _ _ _ _ _ _ us hl => match us, hl with | [_, _], _ => rfl,
    fun_kb (n := 0) (ns := ["value"]) F fun _ _ _ _ _ _ us ws h1 h2 => match us, ws, h1, h2 with | [_], [_], _, _ => rfl⟩
theorem isc_InvalidText : FnScope ["self", "text"] ["self", "text"] (defScope s_InvalidText_init) := ⟨rfl, rfl, rfl, by decide +kernel, rfl, by decide +kernel, by decide +kernel⟩
theorem ini_InvalidText {C fI : Addr} {fd : FuncData} (B : BaseC K mg "SheetError") (gC : mg "InvalidText" = some (.ref C)) (T : OexC K C) (nf : ∀ f ∈ (["text"] : List Str), PySem.W.findIn K (.ref C) f = some none) (iC : PySem.W.findIn K (.ref C) "__init__" = some (some (.ref fI))) (tI : PySem.W.typeIn K (.ref fI) = some (.type "function")) (F : Fun K "__init__" ("InvalidText" ++ (".__init__" : Str)) s_InvalidText_init fI fd) : ExG P w K mg base "InvalidText" C ["text"] :=
  ⟨gC, T, fI, fd, iC, tI, spin1 T (nf _ (by simp)) F isc_InvalidText fun cdv A outer s H E => ⟨_, pss_cons (ps_expr (pe_clsinit B (pa_cons (pv 0) (pa_cons pe_str pa_nil)))) (pss_one (ps_ost (pv 0) (pv 1)))⟩, F.binds fun _ _ _ _ _ _ us hl => match us, hl with | [_, _], _ => rfl,
    fun_kb (n := 0) (ns := ["text"]) F fun _ _ _ _ _ _ us ws h1 h2 => match us, ws, h1, h2 with | [_], [_], _, _ => rfl⟩
theorem isc_FormulaSyntax : FnScope ["self", "position"] ["self", "position"] (defScope s_FormulaSyntax_init) := ⟨rfl, rfl, rfl, by decide +kernel, rfl, by decide +kernel, by decide +kernel⟩
theorem ini_FormulaSyntax {C fI : Addr} {fd : FuncData} (B : BaseC K mg "SheetError") (gC : mg "FormulaSyntax" = some (.ref C)) (T : OexC K C) (nf : ∀ f ∈ (["position"] : List Str), PySem.W.findIn K (.ref C) f = some none) (iC : PySem.W.findIn K (.ref C) "__init__" = some (some (.ref fI))) (tI : PySem.W.typeIn K (.ref fI) = some (.type "function")) (F : Fun K "__init__" ("FormulaSyntax" ++ (".__init__" : Str)) s_FormulaSyntax_init fI fd) : ExG P w K mg base "FormulaSyntax" C ["position"] :=
  ⟨gC, T, fI, fd, iC, tI, spin1 T (nf _ (by simp)) F isc_FormulaSyntax fun cdv A outer s H E => ⟨_, pss_cons (ps_expr (pe_clsinit B (pa_cons (pv 0) (pa_cons pe_str pa_nil)))) (pss_one (ps_ost (pv 0) (pv 1)))⟩, F.binds fun _ _ _ _ _ _ us hl => match us, hl with | [_, _], _ => rfl,
    fun_kb (n := 0) (ns := ["position"]) F fun _ _ _ _ _ _ us ws h1 h2 => match us, ws, h1, h2 with | [_], [_], _, _ => rfl⟩
theorem isc_NotLinear : FnScope ["self", "position"] ["self", "position"] (defScope s_NotLinear_init) := ⟨rfl, rfl, rfl, by decide +kernel, rfl, by decide +kernel, by decide +kernel⟩
theorem ini_NotLinear {C fI : Addr} {fd : FuncData} (B : BaseC K mg "SheetError") (gC : mg "NotLinear" = some (.ref C)) (T : OexC K C) (nf : ∀ f ∈ (["position"] : List Str), PySem.W.findIn K (.ref C) f = some none) (iC : PySem.W.findIn K (.ref C) "__init__" = some (some (.ref fI))) (tI : PySem.W.typeIn K (.ref fI) = some (.type "function")) (F : Fun K "__init__" ("NotLinear" ++ (".__init__" : Str)) s_NotLinear_init fI fd) : ExG P w K mg base "NotLinear" C ["position"] :=
  ⟨gC, T, fI, fd, iC, tI, spin1 T (nf _ (by simp)) F isc_NotLinear fun cdv A outer s H E => ⟨_, pss_cons (ps_expr (pe_clsinit B (pa_cons (pv 0) (pa_cons pe_str pa_nil)))) (pss_one (ps_ost (pv 0) (pv 1)))⟩, F.binds fun _ _ _ _ _ _ us hl => match us, hl with | [_, _], _ => rfl,
    fun_kb (n := 0) (ns := ["position"]) F fun _ _ _ _ _ _ us ws h1 h2 => match us, ws, h1, h2 with | [_], [_], _, _ => rfl⟩
theorem isc_ZeroDivisor : FnScope ["self", "position"] ["self", "position"] (defScope s_ZeroDivisor_init) := ⟨rfl, rfl, rfl, by decide +kernel, rfl, by decide +kernel, by decide +kernel⟩
theorem ini_ZeroDivisor {C fI : Addr} {fd : FuncData} (B : BaseC K mg "SheetError") (gC : mg "ZeroDivisor" = some (.ref C)) (T : OexC K C) (nf : ∀ f ∈ (["position"] : List Str), PySem.W.findIn K (.ref C) f = some none) (iC : PySem.W.findIn K (.ref C) "__init__" = some (some (.ref fI))) (tI : PySem.W.typeIn K (.ref fI) = some (.type "function")) (F : Fun K "__init__" ("ZeroDivisor" ++ (".__init__" : Str)) s_ZeroDivisor_init fI fd) : ExG P w K mg base "ZeroDivisor" C ["position"] :=
  ⟨gC, T, fI, fd, iC, tI, spin1 T (nf _ (by simp)) F isc_ZeroDivisor fun cdv A outer s H E => ⟨_, pss_cons (ps_expr (pe_clsinit B (pa_cons (pv 0) (pa_cons pe_str pa_nil)))) (pss_one (ps_ost (pv 0) (pv 1)))⟩, F.binds fun _ _ _ _ _ _ us hl => match us, hl with | [_, _], _ => rfl,
    fun_kb (n := 0) (ns := ["position"]) F fun _ _ _ _ _ _ us ws h1 h2 => match us, ws, h1, h2 with | [_], [_], _, _ => rfl⟩
theorem isc_InvalidRow : FnScope ["self", "index"] ["self", "index"] (defScope s_InvalidRow_init) := ⟨rfl, rfl, rfl, by decide +kernel, rfl, by decide +kernel, by decide +kernel⟩
theorem ini_InvalidRow {C fI : Addr} {fd : FuncData} (B : BaseC K mg "SheetError") (gC : mg "InvalidRow" = some (.ref C)) (T : OexC K C) (nf : ∀ f ∈ (["index"] : List Str), PySem.W.findIn K (.ref C) f = some none) (iC : PySem.W.findIn K (.ref C) "__init__" = some (some (.ref fI))) (tI : PySem.W.typeIn K (.ref fI) = some (.type "function")) (F : Fun K "__init__" ("InvalidRow" ++ (".__init__" : Str)) s_InvalidRow_init fI fd) : ExG P w K mg base "InvalidRow" C ["index"] :=
  ⟨gC, T, fI, fd, iC, tI, spin1 T (nf _ (by simp)) F isc_InvalidRow fun cdv A outer s H E => ⟨_, pss_cons (ps_expr (pe_clsinit B (pa_cons (pv 0) (pa_cons pe_str pa_nil)))) (pss_one (ps_ost (pv 0) (pv 1)))⟩, F.binds fun _ _ _ _ _ _ us hl => match us, hl with | [_, _], _ => rfl,
    fun_kb (n := 0) (ns := ["index"]) F fun _ _ _ _ _ _ us ws h1 h2 => match us, ws, h1, h2 with | [_], [_], _, _ => rfl⟩
theorem isc_InvalidName : FnScope ["self", "name"] ["self", "name"] (defScope s_InvalidName_init) := ⟨rfl, rfl, rfl, by decide +kernel, rfl, by decide +kernel, by decide +kernel⟩
theorem ini_InvalidName {C fI : Addr} {fd : FuncData} (B : BaseC K mg "SheetError") (gC : mg "InvalidName" = some (.ref C)) (T : OexC K C) (nf : ∀ f ∈ (["name"] : List Str), PySem.W.findIn K (.ref C) f = some none) (iC : PySem.W.findIn K (.ref C) "__init__" = some (some (.ref fI))) (tI : PySem.W.typeIn K (.ref fI) = some (.type "function")) (F : Fun K "__init__" ("InvalidName" ++ (".__init__" : Str)) s_InvalidName_init fI fd) : ExG P w K mg base "InvalidName" C ["name"] :=
  ⟨gC, T, fI, fd, iC, tI, spin1 T (nf _ (by simp)) F isc_InvalidName fun cdv A outer s H E => ⟨_, pss_cons (ps_expr (pe_clsinit B (pa_cons (pv 0) (pa_cons pe_str pa_nil)))) (pss_one (ps_ost (pv 0) (pv 1)))⟩, F.binds fun _ _ _ _ _ _ us hl => match us, hl with | [_, _], _ => rfl,
    fun_kb (n := 0) (ns := ["name"]) F fun _ _ _ _ _ _ us ws h1 h2 => match us, ws, h1, h2 with | [_], [_], _, _ => rfl⟩
theorem isc_DuplicateCell : FnScope ["self", "name"] ["self", "name"] (defScope s_DuplicateCell_init) := ⟨rfl, rfl, rfl, by decide +kernel, rfl, by decide +kernel, by decide +kernel⟩
theorem ini_DuplicateCell {C fI : Addr} {fd : FuncData} (B : BaseC K mg "SheetError") (gC : mg "DuplicateCell" = some (.ref C)) (T : OexC K C) (nf : ∀ f ∈ (["name"] : List Str), PySem.W.findIn K (.ref C) f = some none) (iC : PySem.W.findIn K (.ref C) "__init__" = some (some (.ref fI))) (tI : PySem.W.typeIn K (.ref fI) = some (.type "function")) (F : Fun K "__init__" ("DuplicateCell" ++ (".__init__" : Str)) s_DuplicateCell_init fI fd) : ExG P w K mg base "DuplicateCell" C ["name"] :=
  ⟨gC, T, fI, fd, iC, tI, spin1 T (nf _ (by simp)) F isc_DuplicateCell fun cdv A outer s H E => ⟨_, pss_cons (ps_expr (pe_clsinit B (pa_cons (pv 0) (pa_cons pe_str pa_nil)))) (pss_one (ps_ost (pv 0) (pv 1)))⟩, F.binds fun _ _ _ _ _ _ us hl => match us, hl with | [_, _], _ => rfl,
    fun_kb (n := 0) (ns := ["name"]) F fun _ _ _ _ _ _ us ws h1 h2 => match us, ws, h1, h2 with | [_], [_], _, _ => rfl⟩
theorem isc_UnknownCell : FnScope ["self", "name"] ["self", "name"] (defScope s_UnknownCell_init) := ⟨rfl, rfl, rfl, by decide +kernel, rfl, by decide +kernel, by decide +kernel⟩
theorem ini_UnknownCell {C fI : Addr} {fd : FuncData} (B : BaseC K mg "SheetError") (gC : mg "UnknownCell" = some (.ref C)) (T : OexC K C) (nf : ∀ f ∈ (["name"] : List Str), PySem.W.findIn K (.ref C) f = some none) (iC : PySem.W.findIn K (.ref C) "__init__" = some (some (.ref fI))) (tI : PySem.W.typeIn K (.ref fI) = some (.type "function")) (F : Fun K "__init__" ("UnknownCell" ++ (".__init__" : Str)) s_UnknownCell_init fI fd) : ExG P w K mg base "UnknownCell" C ["name"] :=
  ⟨gC, T, fI, fd, iC, tI, spin1 T (nf _ (by simp)) F isc_UnknownCell fun cdv A outer s H E => ⟨_, pss_cons (ps_expr (pe_clsinit B (pa_cons (pv 0) (pa_cons pe_str pa_nil)))) (pss_one (ps_ost (pv 0) (pv 1)))⟩, F.binds fun _ _ _ _ _ _ us hl => match us, hl with | [_, _], _ => rfl,
    fun_kb (n := 0) (ns := ["name"]) F fun _ _ _ _ _ _ us ws h1 h2 => match us, ws, h1, h2 with | [_], [_], _, _ => rfl⟩
theorem isc_CircularCell : FnScope ["self", "name"] ["self", "name"] (defScope s_CircularCell_init) := ⟨rfl, rfl, rfl, by decide +kernel, rfl, by decide +kernel, by decide +kernel⟩
theorem ini_CircularCell {C fI : Addr} {fd : FuncData} (B : BaseC K mg "SheetError") (gC : mg "CircularCell" = some (.ref C)) (T : OexC K C) (nf : ∀ f ∈ (["name"] : List Str), PySem.W.findIn K (.ref C) f = some none) (iC : PySem.W.findIn K (.ref C) "__init__" = some (some (.ref fI))) (tI : PySem.W.typeIn K (.ref fI) = some (.type "function")) (F : Fun K "__init__" ("CircularCell" ++ (".__init__" : Str)) s_CircularCell_init fI fd) : ExG P w K mg base "CircularCell" C ["name"] :=
  ⟨gC, T, fI, fd, iC, tI, spin1 T (nf _ (by simp)) F isc_CircularCell fun cdv A outer s H E => ⟨_, pss_cons (ps_expr (pe_clsinit B (pa_cons (pv 0) (pa_cons pe_str pa_nil)))) (pss_one (ps_ost (pv 0) (pv 1)))⟩, F.binds fun _ _ _ _ _ _ us hl => match us, hl with | [_, _], _ => rfl,
    fun_kb (n := 0) (ns := ["name"]) F fun _ _ _ _ _ _ us ws h1 h2 => match us, ws, h1, h2 with | [_], [_], _, _ => rfl⟩
theorem isc_NotInput : FnScope ["self", "name"] ["self", "name"] (defScope s_NotInput_init) := ⟨rfl, rfl, rfl, by decide +kernel, rfl, by decide +kernel, by decide +kernel⟩
theorem ini_NotInput {C fI : Addr} {fd : FuncData} (B : BaseC K mg "SheetError") (gC : mg "NotInput" = some (.ref C)) (T : OexC K C) (nf : ∀ f ∈ (["name"] : List Str), PySem.W.findIn K (.ref C) f = some none) (iC : PySem.W.findIn K (.ref C) "__init__" = some (some (.ref fI))) (tI : PySem.W.typeIn K (.ref fI) = some (.type "function")) (F : Fun K "__init__" ("NotInput" ++ (".__init__" : Str)) s_NotInput_init fI fd) : ExG P w K mg base "NotInput" C ["name"] :=
  ⟨gC, T, fI, fd, iC, tI, spin1 T (nf _ (by simp)) F isc_NotInput fun cdv A outer s H E => ⟨_, pss_cons (ps_expr (pe_clsinit B (pa_cons (pv 0) (pa_cons pe_str pa_nil)))) (pss_one (ps_ost (pv 0) (pv 1)))⟩, F.binds fun _ _ _ _ _ _ us hl => match us, hl with | [_, _], _ => rfl,
    fun_kb (n := 0) (ns := ["name"]) F fun _ _ _ _ _ _ us ws h1 h2 => match us, ws, h1, h2 with | [_], [_], _, _ => rfl⟩
theorem isc_NotComputed : FnScope ["self", "name"] ["self", "name"] (defScope s_NotComputed_init) := ⟨rfl, rfl, rfl, by decide +kernel, rfl, by decide +kernel, by decide +kernel⟩
theorem ini_NotComputed {C fI : Addr} {fd : FuncData} (B : BaseC K mg "SheetError") (gC : mg "NotComputed" = some (.ref C)) (T : OexC K C) (nf : ∀ f ∈ (["name"] : List Str), PySem.W.findIn K (.ref C) f = some none) (iC : PySem.W.findIn K (.ref C) "__init__" = some (some (.ref fI))) (tI : PySem.W.typeIn K (.ref fI) = some (.type "function")) (F : Fun K "__init__" ("NotComputed" ++ (".__init__" : Str)) s_NotComputed_init fI fd) : ExG P w K mg base "NotComputed" C ["name"] :=
  ⟨gC, T, fI, fd, iC, tI, spin1 T (nf _ (by simp)) F isc_NotComputed fun cdv A outer s H E => ⟨_, pss_cons (ps_expr (pe_clsinit B (pa_cons (pv 0) (pa_cons pe_str pa_nil)))) (pss_one (ps_ost (pv 0) (pv 1)))⟩, F.binds fun _ _ _ _ _ _ us hl => match us, hl with | [_, _], _ => rfl,
    fun_kb (n := 0) (ns := ["name"]) F fun _ _ _ _ _ _ us ws h1 h2 => match us, ws, h1, h2 with | [_], [_], _, _ => rfl⟩
theorem isc_InvalidTable : FnScope ["self", "value"] ["self", "value"] (defScope s_InvalidTable_init) := ⟨rfl, rfl, rfl, by decide +kernel, rfl, by decide +kernel, by decide +kernel⟩
theorem ini_InvalidTable {C fI : Addr} {fd : FuncData} (B : BaseC K mg "SheetError") (gC : mg "InvalidTable" = some (.ref C)) (T : OexC K C) (nf : ∀ f ∈ (["value"] : List Str), PySem.W.findIn K (.ref C) f = some none) (iC : PySem.W.findIn K (.ref C) "__init__" = some (some (.ref fI))) (tI : PySem.W.typeIn K (.ref fI) = some (.type "function")) (F : Fun K "__init__" ("InvalidTable" ++ (".__init__" : Str)) s_InvalidTable_init fI fd) : ExG P w K mg base "InvalidTable" C ["value"] :=
  ⟨gC, T, fI, fd, iC, tI, spin1 T (nf _ (by simp)) F isc_InvalidTable fun cdv A outer s H E => ⟨_, pss_cons (ps_expr (pe_clsinit B (pa_cons (pv 0) (pa_cons pe_str pa_nil)))) (pss_one (ps_ost (pv 0) (pv 1)))⟩, F.binds fun _ _ _ _ _ _ us hl => match us, hl with | [_, _], _ => rfl,
    fun_kb (n := 0) (ns := ["value"]) F fun _ _ _ _ _ _ us ws h1 h2 => match us, ws, h1, h2 with | [_], [_], _, _ => rfl⟩
theorem isc_InvalidWish : FnScope ["self", "index"] ["self", "index"] (defScope s_InvalidWish_init) := ⟨rfl, rfl, rfl, by decide +kernel, rfl, by decide +kernel, by decide +kernel⟩
theorem ini_InvalidWish {C fI : Addr} {fd : FuncData} (B : BaseC K mg "SheetError") (gC : mg "InvalidWish" = some (.ref C)) (T : OexC K C) (nf : ∀ f ∈ (["index"] : List Str), PySem.W.findIn K (.ref C) f = some none) (iC : PySem.W.findIn K (.ref C) "__init__" = some (some (.ref fI))) (tI : PySem.W.typeIn K (.ref fI) = some (.type "function")) (F : Fun K "__init__" ("InvalidWish" ++ (".__init__" : Str)) s_InvalidWish_init fI fd) : ExG P w K mg base "InvalidWish" C ["index"] :=
  ⟨gC, T, fI, fd, iC, tI, spin1 T (nf _ (by simp)) F isc_InvalidWish fun cdv A outer s H E => ⟨_, pss_cons (ps_expr (pe_clsinit B (pa_cons (pv 0) (pa_cons pe_str pa_nil)))) (pss_one (ps_ost (pv 0) (pv 1)))⟩, F.binds fun _ _ _ _ _ _ us hl => match us, hl with | [_, _], _ => rfl,
    fun_kb (n := 0) (ns := ["index"]) F fun _ _ _ _ _ _ us ws h1 h2 => match us, ws, h1, h2 with | [_], [_], _, _ => rfl⟩
theorem isc_InvalidLimit : FnScope ["self", "index"] ["self", "index"] (defScope s_InvalidLimit_init) := ⟨rfl, rfl, rfl, by decide +kernel, rfl, by decide +kernel, by decide +kernel⟩
theorem ini_InvalidLimit {C fI : Addr} {fd : FuncData} (B : BaseC K mg "SheetError") (gC : mg "InvalidLimit" = some (.ref C)) (T : OexC K C) (nf : ∀ f ∈ (["index"] : List Str), PySem.W.findIn K (.ref C) f = some none) (iC : PySem.W.findIn K (.ref C) "__init__" = some (some (.ref fI))) (tI : PySem.W.typeIn K (.ref fI) = some (.type "function")) (F : Fun K "__init__" ("InvalidLimit" ++ (".__init__" : Str)) s_InvalidLimit_init fI fd) : ExG P w K mg base "InvalidLimit" C ["index"] :=
  ⟨gC, T, fI, fd, iC, tI, spin1 T (nf _ (by simp)) F isc_InvalidLimit fun cdv A outer s H E => ⟨_, pss_cons (ps_expr (pe_clsinit B (pa_cons (pv 0) (pa_cons pe_str pa_nil)))) (pss_one (ps_ost (pv 0) (pv 1)))⟩, F.binds fun _ _ _ _ _ _ us hl => match us, hl with | [_, _], _ => rfl,
    fun_kb (n := 0) (ns := ["index"]) F fun _ _ _ _ _ _ us ws h1 h2 => match us, ws, h1, h2 with | [_], [_], _, _ => rfl⟩
theorem isc_EmptyLimit : FnScope ["self", "name"] ["self", "name"] (defScope s_EmptyLimit_init) := ⟨rfl, rfl, rfl, by decide +kernel, rfl, by decide +kernel, by decide +kernel⟩
theorem ini_EmptyLimit {C fI : Addr} {fd : FuncData} (B : BaseC K mg "SheetError") (gC : mg "EmptyLimit" = some (.ref C)) (T : OexC K C) (nf : ∀ f ∈ (["name"] : List Str), PySem.W.findIn K (.ref C) f = some none) (iC : PySem.W.findIn K (.ref C) "__init__" = some (some (.ref fI))) (tI : PySem.W.typeIn K (.ref fI) = some (.type "function")) (F : Fun K "__init__" ("EmptyLimit" ++ (".__init__" : Str)) s_EmptyLimit_init fI fd) : ExG P w K mg base "EmptyLimit" C ["name"] :=
  ⟨gC, T, fI, fd, iC, tI, spin1 T (nf _ (by simp)) F isc_EmptyLimit fun cdv A outer s H E => ⟨_, pss_cons (ps_expr (pe_clsinit B (pa_cons (pv 0) (pa_cons pe_str pa_nil)))) (pss_one (ps_ost (pv 0) (pv 1)))⟩, F.binds fun _ _ _ _ _ _ us hl => match us, hl with | [_, _], _ => rfl,
    fun_kb (n := 0) (ns := ["name"]) F fun _ _ _ _ _ _ us ws h1 h2 => match us, ws, h1, h2 with | [_], [_], _, _ => rfl⟩
theorem isc_UnknownCondition : FnScope ["self", "condition"] ["self", "condition"] (defScope s_UnknownCondition_init) := ⟨rfl, rfl, rfl, by decide +kernel, rfl, by decide +kernel, by decide +kernel⟩
theorem ini_UnknownCondition {C fI : Addr} {fd : FuncData} (B : BaseC K mg "SheetError") (gC : mg "UnknownCondition" = some (.ref C)) (T : OexC K C) (nf : ∀ f ∈ (["condition"] : List Str), PySem.W.findIn K (.ref C) f = some none) (iC : PySem.W.findIn K (.ref C) "__init__" = some (some (.ref fI))) (tI : PySem.W.typeIn K (.ref fI) = some (.type "function")) (F : Fun K "__init__" ("UnknownCondition" ++ (".__init__" : Str)) s_UnknownCondition_init fI fd) : ExG P w K mg base "UnknownCondition" C ["condition"] :=
  ⟨gC, T, fI, fd, iC, tI, spin1 T (nf _ (by simp)) F isc_UnknownCondition fun cdv A outer s H E => ⟨_, pss_cons (ps_expr (pe_clsinit B (pa_cons (pv 0) (pa_cons pe_str pa_nil)))) (pss_one (ps_ost (pv 0) (pv 1)))⟩, F.binds fun _ _ _ _ _ _ us hl => match us, hl with | [_, _], _ => rfl,
    fun_kb (n := 0) (ns := ["condition"]) F fun _ _ _ _ _ _ us ws h1 h2 => match us, ws, h1, h2 with | [_], [_], _, _ => rfl⟩
theorem isc_UnknownSide : FnScope ["self", "side"] ["self", "side"] (defScope s_UnknownSide_init) := ⟨rfl, rfl, rfl, by decide +kernel, rfl, by decide +kernel, by decide +kernel⟩
theorem ini_UnknownSide {C fI : Addr} {fd : FuncData} (B : BaseC K mg "SheetError") (gC : mg "UnknownSide" = some (.ref C)) (T : OexC K C) (nf : ∀ f ∈ (["side"] : List Str), PySem.W.findIn K (.ref C) f = some none) (iC : PySem.W.findIn K (.ref C) "__init__" = some (some (.ref fI))) (tI : PySem.W.typeIn K (.ref fI) = some (.type "function")) (F : Fun K "__init__" ("UnknownSide" ++ (".__init__" : Str)) s_UnknownSide_init fI fd) : ExG P w K mg base "UnknownSide" C ["side"] :=
  ⟨gC, T, fI, fd, iC, tI, spin1 T (nf _ (by simp)) F isc_UnknownSide fun cdv A outer s H E => ⟨_, pss_cons (ps_expr (pe_clsinit B (pa_cons (pv 0) (pa_cons pe_str pa_nil)))) (pss_one (ps_ost (pv 0) (pv 1)))⟩, F.binds fun _ _ _ _ _ _ us hl => match us, hl with | [_, _], _ => rfl,
    fun_kb (n := 0) (ns := ["side"]) F fun _ _ _ _ _ _ us ws h1 h2 => match us, ws, h1, h2 with | [_], [_], _, _ => rfl⟩
theorem isc_InvalidMove : FnScope ["self", "move"] ["self", "move"] (defScope s_InvalidMove_init) := ⟨rfl, rfl, rfl, by decide +kernel, rfl, by decide +kernel, by decide +kernel⟩
theorem ini_InvalidMove {C fI : Addr} {fd : FuncData} (B : BaseC K mg "SheetError") (gC : mg "InvalidMove" = some (.ref C)) (T : OexC K C) (nf : ∀ f ∈ (["move"] : List Str), PySem.W.findIn K (.ref C) f = some none) (iC : PySem.W.findIn K (.ref C) "__init__" = some (some (.ref fI))) (tI : PySem.W.typeIn K (.ref fI) = some (.type "function")) (F : Fun K "__init__" ("InvalidMove" ++ (".__init__" : Str)) s_InvalidMove_init fI fd) : ExG P w K mg base "InvalidMove" C ["move"] :=
  ⟨gC, T, fI, fd, iC, tI, spin1 T (nf _ (by simp)) F isc_InvalidMove fun cdv A outer s H E => ⟨_, pss_cons (ps_expr (pe_clsinit B (pa_cons (pv 0) (pa_cons pe_str pa_nil)))) (pss_one (ps_ost (pv 0) (pv 1)))⟩, F.binds fun _ _ _ _ _ _ us hl => match us, hl with | [_, _], _ => rfl,
    fun_kb (n := 0) (ns := ["move"]) F fun _ _ _ _ _ _ us ws h1 h2 => match us, ws, h1, h2 with | [_], [_], _, _ => rfl⟩
theorem isc_InvalidForm : FnScope ["self", "form"] ["self", "form"] (defScope s_InvalidForm_init) := ⟨rfl, rfl, rfl, by decide +kernel, rfl, by decide +kernel, by decide +kernel⟩
theorem ini_InvalidForm {C fI : Addr} {fd : FuncData} (B : BaseC K mg "SheetError") (gC : mg "InvalidForm" = some (.ref C)) (T : OexC K C) (nf : ∀ f ∈ (["form"] : List Str), PySem.W.findIn K (.ref C) f = some none) (iC : PySem.W.findIn K (.ref C) "__init__" = some (some (.ref fI))) (tI : PySem.W.typeIn K (.ref fI) = some (.type "function")) (F : Fun K "__init__" ("InvalidForm" ++ (".__init__" : Str)) s_InvalidForm_init fI fd) : ExG P w K mg base "InvalidForm" C ["form"] :=
  ⟨gC, T, fI, fd, iC, tI, spin1 T (nf _ (by simp)) F isc_InvalidForm fun cdv A outer s H E => ⟨_, pss_cons (ps_expr (pe_clsinit B (pa_cons (pv 0) (pa_cons pe_str pa_nil)))) (pss_one (ps_ost (pv 0) (pv 1)))⟩, F.binds fun _ _ _ _ _ _ us hl => match us, hl with | [_, _], _ => rfl,
    fun_kb (n := 0) (ns := ["form"]) F fun _ _ _ _ _ _ us ws h1 h2 => match us, ws, h1, h2 with | [_], [_], _, _ => rfl⟩
theorem isc_UnlikeCells : FnScope ["self", "name"] ["self", "name"] (defScope s_UnlikeCells_init) := ⟨rfl, rfl, rfl, by decide +kernel, rfl, by decide +kernel, by decide +kernel⟩
theorem ini_UnlikeCells {C fI : Addr} {fd : FuncData} (B : BaseC K mg "SheetError") (gC : mg "UnlikeCells" = some (.ref C)) (T : OexC K C) (nf : ∀ f ∈ (["name"] : List Str), PySem.W.findIn K (.ref C) f = some none) (iC : PySem.W.findIn K (.ref C) "__init__" = some (some (.ref fI))) (tI : PySem.W.typeIn K (.ref fI) = some (.type "function")) (F : Fun K "__init__" ("UnlikeCells" ++ (".__init__" : Str)) s_UnlikeCells_init fI fd) : ExG P w K mg base "UnlikeCells" C ["name"] :=
  ⟨gC, T, fI, fd, iC, tI, spin1 T (nf _ (by simp)) F isc_UnlikeCells fun cdv A outer s H E => ⟨_, pss_cons (ps_expr (pe_clsinit B (pa_cons (pv 0) (pa_cons pe_str pa_nil)))) (pss_one (ps_ost (pv 0) (pv 1)))⟩, F.binds fun _ _ _ _ _ _ us hl => match us, hl with | [_, _], _ => rfl,
    fun_kb (n := 0) (ns := ["name"]) F fun _ _ _ _ _ _ us ws h1 h2 => match us, ws, h1, h2 with | [_], [_], _, _ => rfl⟩
theorem isc_AlreadyHeld : FnScope ["self", "name"] ["self", "name"] (defScope s_AlreadyHeld_init) := ⟨rfl, rfl, rfl, by decide +kernel, rfl, by decide +kernel, by decide +kernel⟩
theorem ini_AlreadyHeld {C fI : Addr} {fd : FuncData} (B : BaseC K mg "SheetError") (gC : mg "AlreadyHeld" = some (.ref C)) (T : OexC K C) (nf : ∀ f ∈ (["name"] : List Str), PySem.W.findIn K (.ref C) f = some none) (iC : PySem.W.findIn K (.ref C) "__init__" = some (some (.ref fI))) (tI : PySem.W.typeIn K (.ref fI) = some (.type "function")) (F : Fun K "__init__" ("AlreadyHeld" ++ (".__init__" : Str)) s_AlreadyHeld_init fI fd) : ExG P w K mg base "AlreadyHeld" C ["name"] :=
  ⟨gC, T, fI, fd, iC, tI, spin1 T (nf _ (by simp)) F isc_AlreadyHeld fun cdv A outer s H E => ⟨_, pss_cons (ps_expr (pe_clsinit B (pa_cons (pv 0) (pa_cons pe_str pa_nil)))) (pss_one (ps_ost (pv 0) (pv 1)))⟩, F.binds fun _ _ _ _ _ _ us hl => match us, hl with | [_, _], _ => rfl,
    fun_kb (n := 0) (ns := ["name"]) F fun _ _ _ _ _ _ us ws h1 h2 => match us, ws, h1, h2 with | [_], [_], _, _ => rfl⟩
theorem isc_NotHeld : FnScope ["self", "name"] ["self", "name"] (defScope s_NotHeld_init) := ⟨rfl, rfl, rfl, by decide +kernel, rfl, by decide +kernel, by decide +kernel⟩
theorem ini_NotHeld {C fI : Addr} {fd : FuncData} (B : BaseC K mg "SheetError") (gC : mg "NotHeld" = some (.ref C)) (T : OexC K C) (nf : ∀ f ∈ (["name"] : List Str), PySem.W.findIn K (.ref C) f = some none) (iC : PySem.W.findIn K (.ref C) "__init__" = some (some (.ref fI))) (tI : PySem.W.typeIn K (.ref fI) = some (.type "function")) (F : Fun K "__init__" ("NotHeld" ++ (".__init__" : Str)) s_NotHeld_init fI fd) : ExG P w K mg base "NotHeld" C ["name"] :=
  ⟨gC, T, fI, fd, iC, tI, spin1 T (nf _ (by simp)) F isc_NotHeld fun cdv A outer s H E => ⟨_, pss_cons (ps_expr (pe_clsinit B (pa_cons (pv 0) (pa_cons pe_str pa_nil)))) (pss_one (ps_ost (pv 0) (pv 1)))⟩, F.binds fun _ _ _ _ _ _ us hl => match us, hl with | [_, _], _ => rfl,
    fun_kb (n := 0) (ns := ["name"]) F fun _ _ _ _ _ _ us ws h1 h2 => match us, ws, h1, h2 with | [_], [_], _, _ => rfl⟩
theorem isc_NoLimit : FnScope ["self", "name"] ["self", "name"] (defScope s_NoLimit_init) := ⟨rfl, rfl, rfl, by decide +kernel, rfl, by decide +kernel, by decide +kernel⟩
theorem ini_NoLimit {C fI : Addr} {fd : FuncData} (B : BaseC K mg "SheetError") (gC : mg "NoLimit" = some (.ref C)) (T : OexC K C) (nf : ∀ f ∈ (["name"] : List Str), PySem.W.findIn K (.ref C) f = some none) (iC : PySem.W.findIn K (.ref C) "__init__" = some (some (.ref fI))) (tI : PySem.W.typeIn K (.ref fI) = some (.type "function")) (F : Fun K "__init__" ("NoLimit" ++ (".__init__" : Str)) s_NoLimit_init fI fd) : ExG P w K mg base "NoLimit" C ["name"] :=
  ⟨gC, T, fI, fd, iC, tI, spin1 T (nf _ (by simp)) F isc_NoLimit fun cdv A outer s H E => ⟨_, pss_cons (ps_expr (pe_clsinit B (pa_cons (pv 0) (pa_cons pe_str pa_nil)))) (pss_one (ps_ost (pv 0) (pv 1)))⟩, F.binds fun _ _ _ _ _ _ us hl => match us, hl with | [_, _], _ => rfl,
    fun_kb (n := 0) (ns := ["name"]) F fun _ _ _ _ _ _ us ws h1 h2 => match us, ws, h1, h2 with | [_], [_], _, _ => rfl⟩
theorem isc_Refused : FnScope ["self", "weights"] ["self", "weights"] (defScope s_Refused_init) := ⟨rfl, rfl, rfl, by decide +kernel, rfl, by decide +kernel, by decide +kernel⟩
theorem ini_Refused {C fI : Addr} {fd : FuncData} (B : BaseC K mg "SheetError") (gC : mg "Refused" = some (.ref C)) (T : OexC K C) (nf : ∀ f ∈ (["weights"] : List Str), PySem.W.findIn K (.ref C) f = some none) (iC : PySem.W.findIn K (.ref C) "__init__" = some (some (.ref fI))) (tI : PySem.W.typeIn K (.ref fI) = some (.type "function")) (F : Fun K "__init__" ("Refused" ++ (".__init__" : Str)) s_Refused_init fI fd) : ExG P w K mg base "Refused" C ["weights"] :=
  ⟨gC, T, fI, fd, iC, tI, spin1 T (nf _ (by simp)) F isc_Refused fun cdv A outer s H E => ⟨_, pss_cons (ps_expr (pe_clsinit B (pa_cons (pv 0) (pa_cons pe_str pa_nil)))) (pss_one (ps_ost (pv 0) (pv 1)))⟩, F.binds fun _ _ _ _ _ _ us hl => match us, hl with | [_, _], _ => rfl,
    fun_kb (n := 0) (ns := ["weights"]) F fun _ _ _ _ _ _ us ws h1 h2 => match us, ws, h1, h2 with | [_], [_], _, _ => rfl⟩
theorem isc_RolesKept : FnScope ["self", "move"] ["self", "move"] (defScope s_RolesKept_init) := ⟨rfl, rfl, rfl, by decide +kernel, rfl, by decide +kernel, by decide +kernel⟩
theorem ini_RolesKept {C fI : Addr} {fd : FuncData} (B : BaseC K mg "SheetError") (gC : mg "RolesKept" = some (.ref C)) (T : OexC K C) (nf : ∀ f ∈ (["move"] : List Str), PySem.W.findIn K (.ref C) f = some none) (iC : PySem.W.findIn K (.ref C) "__init__" = some (some (.ref fI))) (tI : PySem.W.typeIn K (.ref fI) = some (.type "function")) (F : Fun K "__init__" ("RolesKept" ++ (".__init__" : Str)) s_RolesKept_init fI fd) : ExG P w K mg base "RolesKept" C ["move"] :=
  ⟨gC, T, fI, fd, iC, tI, spin1 T (nf _ (by simp)) F isc_RolesKept fun cdv A outer s H E => ⟨_, pss_cons (ps_expr (pe_clsinit B (pa_cons (pv 0) (pa_cons pe_str pa_nil)))) (pss_one (ps_ost (pv 0) (pv 1)))⟩, F.binds fun _ _ _ _ _ _ us hl => match us, hl with | [_, _], _ => rfl,
    fun_kb (n := 0) (ns := ["move"]) F fun _ _ _ _ _ _ us ws h1 h2 => match us, ws, h1, h2 with | [_], [_], _, _ => rfl⟩
theorem isc_NoMark : FnScope ["self", "word"] ["self", "word"] (defScope s_NoMark_init) := ⟨rfl, rfl, rfl, by decide +kernel, rfl, by decide +kernel, by decide +kernel⟩
theorem ini_NoMark {C fI : Addr} {fd : FuncData} (B : BaseC K mg "SheetError") (gC : mg "NoMark" = some (.ref C)) (T : OexC K C) (nf : ∀ f ∈ (["word"] : List Str), PySem.W.findIn K (.ref C) f = some none) (iC : PySem.W.findIn K (.ref C) "__init__" = some (some (.ref fI))) (tI : PySem.W.typeIn K (.ref fI) = some (.type "function")) (F : Fun K "__init__" ("NoMark" ++ (".__init__" : Str)) s_NoMark_init fI fd) : ExG P w K mg base "NoMark" C ["word"] :=
  ⟨gC, T, fI, fd, iC, tI, spin1 T (nf _ (by simp)) F isc_NoMark fun cdv A outer s H E => ⟨_, pss_cons (ps_expr (pe_clsinit B (pa_cons (pv 0) (pa_cons pe_str pa_nil)))) (pss_one (ps_ost (pv 0) (pv 1)))⟩, F.binds fun _ _ _ _ _ _ us hl => match us, hl with | [_, _], _ => rfl,
    fun_kb (n := 0) (ns := ["word"]) F fun _ _ _ _ _ _ us ws h1 h2 => match us, ws, h1, h2 with | [_], [_], _, _ => rfl⟩
theorem isc_InvalidOperation : FnScope ["self", "index"] ["self", "index"] (defScope s_InvalidOperation_init) := ⟨rfl, rfl, rfl, by decide +kernel, rfl, by decide +kernel, by decide +kernel⟩
theorem ini_InvalidOperation {C fI : Addr} {fd : FuncData} (B : BaseC K mg "SheetError") (gC : mg "InvalidOperation" = some (.ref C)) (T : OexC K C) (nf : ∀ f ∈ (["index"] : List Str), PySem.W.findIn K (.ref C) f = some none) (iC : PySem.W.findIn K (.ref C) "__init__" = some (some (.ref fI))) (tI : PySem.W.typeIn K (.ref fI) = some (.type "function")) (F : Fun K "__init__" ("InvalidOperation" ++ (".__init__" : Str)) s_InvalidOperation_init fI fd) : ExG P w K mg base "InvalidOperation" C ["index"] :=
  ⟨gC, T, fI, fd, iC, tI, spin1 T (nf _ (by simp)) F isc_InvalidOperation fun cdv A outer s H E => ⟨_, pss_cons (ps_expr (pe_clsinit B (pa_cons (pv 0) (pa_cons pe_str pa_nil)))) (pss_one (ps_ost (pv 0) (pv 1)))⟩, F.binds fun _ _ _ _ _ _ us hl => match us, hl with | [_, _], _ => rfl,
    fun_kb (n := 0) (ns := ["index"]) F fun _ _ _ _ _ _ us ws h1 h2 => match us, ws, h1, h2 with | [_], [_], _, _ => rfl⟩
theorem isc_BadText : FnScope ["self", "at"] ["self", "at"] (defScope s_BadText_init) := ⟨rfl, rfl, rfl, by decide +kernel, rfl, by decide +kernel, by decide +kernel⟩
theorem ini_BadText {C fI : Addr} {fd : FuncData} (B : BaseC K mg "SheetError") (gC : mg "BadText" = some (.ref C)) (T : OexC K C) (nf : ∀ f ∈ (["at"] : List Str), PySem.W.findIn K (.ref C) f = some none) (iC : PySem.W.findIn K (.ref C) "__init__" = some (some (.ref fI))) (tI : PySem.W.typeIn K (.ref fI) = some (.type "function")) (F : Fun K "__init__" ("BadText" ++ (".__init__" : Str)) s_BadText_init fI fd) : ExG P w K mg base "BadText" C ["at"] :=
  ⟨gC, T, fI, fd, iC, tI, spin1 T (nf _ (by simp)) F isc_BadText fun cdv A outer s H E => ⟨_, pss_cons (ps_expr (pe_clsinit B (pa_cons (pv 0) (pa_cons pe_str pa_nil)))) (pss_one (ps_ost (pv 0) (pv 1)))⟩, F.binds fun _ _ _ _ _ _ us hl => match us, hl with | [_, _], _ => rfl,
    fun_kb (n := 0) (ns := ["at"]) F fun _ _ _ _ _ _ us ws h1 h2 => match us, ws, h1, h2 with | [_], [_], _, _ => rfl⟩
theorem isc_BadCommand : FnScope ["self", "line"] ["self", "line"] (defScope s_BadCommand_init) := ⟨rfl, rfl, rfl, by decide +kernel, rfl, by decide +kernel, by decide +kernel⟩
theorem ini_BadCommand {C fI : Addr} {fd : FuncData} (B : BaseC K mg "SheetError") (gC : mg "BadCommand" = some (.ref C)) (T : OexC K C) (nf : ∀ f ∈ (["line"] : List Str), PySem.W.findIn K (.ref C) f = some none) (iC : PySem.W.findIn K (.ref C) "__init__" = some (some (.ref fI))) (tI : PySem.W.typeIn K (.ref fI) = some (.type "function")) (F : Fun K "__init__" ("BadCommand" ++ (".__init__" : Str)) s_BadCommand_init fI fd) : ExG P w K mg base "BadCommand" C ["line"] :=
  ⟨gC, T, fI, fd, iC, tI, spin1 T (nf _ (by simp)) F isc_BadCommand fun cdv A outer s H E => ⟨_, pss_cons (ps_expr (pe_clsinit B (pa_cons (pv 0) (pa_cons pe_str pa_nil)))) (pss_one (ps_ost (pv 0) (pv 1)))⟩, F.binds fun _ _ _ _ _ _ us hl => match us, hl with | [_, _], _ => rfl,
    fun_kb (n := 0) (ns := ["line"]) F fun _ _ _ _ _ _ us ws h1 h2 => match us, ws, h1, h2 with | [_], [_], _, _ => rfl⟩
end
def classes : List Str := (["BadFormula", "CellInUse", "InvalidNumber", "InvalidText", "FormulaSyntax", "NotLinear", "ZeroDivisor", "InvalidRow", "InvalidName", "DuplicateCell", "UnknownCell", "CircularCell"] : List Str) ++ (["NotInput", "NotComputed", "InvalidTable", "InvalidWish", "InvalidLimit", "EmptyLimit", "UnknownCondition", "UnknownSide", "InvalidMove", "InvalidForm", "UnlikeCells", "AlreadyHeld"] : List Str) ++ (["NotHeld", "NoLimit", "Refused", "RolesKept", "NoMark", "InvalidOperation", "BadText", "BadCommand", "ZeroBottom", "InvalidWeights", "NothingToUndo", "NothingToRedo"] : List Str) ++ (["SheetError"] : List Str)
def withIni : List Str := (["BadFormula", "CellInUse", "InvalidNumber", "InvalidText", "FormulaSyntax", "NotLinear", "ZeroDivisor", "InvalidRow", "InvalidName", "DuplicateCell", "UnknownCell", "CircularCell"] : List Str) ++ (["NotInput", "NotComputed", "InvalidTable", "InvalidWish", "InvalidLimit", "EmptyLimit", "UnknownCondition", "UnknownSide", "InvalidMove", "InvalidForm", "UnlikeCells", "AlreadyHeld"] : List Str) ++ (["NotHeld", "NoLimit", "Refused", "RolesKept", "NoMark", "InvalidOperation", "BadText", "BadCommand"] : List Str)
def bares : List Str := (["ZeroBottom", "InvalidWeights", "NothingToUndo", "NothingToRedo", "SheetError"] : List Str)
def defNames : List Str := (["_law_box", "_law_mixed", "_law_take", "_law_thing", "_law_made", "_law_named", "_law_fields", "_law_classes", "_law_raise_more", "_law_raise_one", "_law_raise_other", "_law_raise_bare"] : List Str) ++ (["_law_caught", "law"] : List Str)
def free : List Str := (["len", "max", "int", "bool", "isinstance", "range", "ValueError"] : List Str)
def baseB (K : PySem.W.Frag) (x : Str) : Bool := decide (PySem.W.readsIn K (He.ga K x) (.type "type") = true) && (decide (PySem.W.specialIn K (.ref (He.ga K x)) "__getattribute__" = some (some (.builtin "type.__getattribute__"))) &&
  (match PySem.W.findCls K (.ref (He.ga K x)) (.type "type") "__init__" with | some (.val (.builtin n)) => n == "ValueError.__init__" | _ => false))
theorem baseB_ok {K : PySem.W.Frag} {x : Str} (h : baseB K x = true) : PySem.W.readsIn K (He.ga K x) (.type "type") = true ∧ PySem.W.specialIn K (.ref (He.ga K x)) "__getattribute__" = some (some (.builtin "type.__getattribute__")) ∧ PySem.W.findCls K (.ref (He.ga K x)) (.type "type") "__init__" = some (.val (.builtin "ValueError.__init__")) := by
  obtain ⟨h1, h⟩ := Bool.and_eq_true_iff.mp h
  obtain ⟨h2, h3⟩ := Bool.and_eq_true_iff.mp h
  refine ⟨of_decide_eq_true h1, of_decide_eq_true h2, ?_⟩
  split at h3
  · rename_i n e
    rw [e, beq_iff_eq.mp h3]
  · cases h3
def bareB (K : PySem.W.Frag) (x : Str) : Bool := PySem.W.excIn K (He.ga K x) [.type "ValueError", .type "Exception", .type "BaseException", .type "object"] "ValueError.__new__" && PySem.W.keepIn K (.ref (He.ga K x))
def extra (K : PySem.W.Frag) : Bool := free.all (freeB K) && (classes.all (gloB K) && (defNames.all (gloB K) && (withIni.all (excB K (He.ga K "SheetError")) && (bares.all (bareB K) && (clsAllB K (classes.map (He.ga K)) && (decide ((classes.map (He.ga K)).Nodup) && (baseB K "SheetError" &&
  (decide (PySem.W.specialIn K (.builtin "object.__class__") "__get__" = some (some (.builtin "getset_descriptor.__get__"))) && decide (PySem.W.takesIn K (.builtin "object.__class__") = some true)))))))))
def fn : List He.DefD := ([dd "_law_box" s_box, dd "_law_mixed" s_mixed, dd "_law_take" s_take, dd "_law_thing" s_thing, dd "_law_made" s_made, dd "_law_named" s_named, dd "_law_fields" s_fields, dd "_law_classes" s_classes, dd "_law_raise_more" s_raise_more, dd "_law_raise_one" s_raise_one] : List He.DefD) ++ ([dd "_law_raise_other" s_raise_other, dd "_law_raise_bare" s_raise_bare, dd "_law_caught" s_caught, dd "law" s_law, dm "BadFormula" "__init__" "BadFormula.__init__" s_BadFormula_init, dm "CellInUse" "__init__" "CellInUse.__init__" s_CellInUse_init, dm "InvalidNumber" "__init__" "InvalidNumber.__init__" s_InvalidNumber_init, dm "InvalidText" "__init__" "InvalidText.__init__" s_InvalidText_init, dm "FormulaSyntax" "__init__" "FormulaSyntax.__init__" s_FormulaSyntax_init, dm "NotLinear" "__init__" "NotLinear.__init__" s_NotLinear_init] : List He.DefD) ++ ([dm "ZeroDivisor" "__init__" "ZeroDivisor.__init__" s_ZeroDivisor_init, dm "InvalidRow" "__init__" "InvalidRow.__init__" s_InvalidRow_init, dm "InvalidName" "__init__" "InvalidName.__init__" s_InvalidName_init, dm "DuplicateCell" "__init__" "DuplicateCell.__init__" s_DuplicateCell_init, dm "UnknownCell" "__init__" "UnknownCell.__init__" s_UnknownCell_init, dm "CircularCell" "__init__" "CircularCell.__init__" s_CircularCell_init, dm "NotInput" "__init__" "NotInput.__init__" s_NotInput_init, dm "NotComputed" "__init__" "NotComputed.__init__" s_NotComputed_init, dm "InvalidTable" "__init__" "InvalidTable.__init__" s_InvalidTable_init, dm "InvalidWish" "__init__" "InvalidWish.__init__" s_InvalidWish_init] : List He.DefD) ++ ([dm "InvalidLimit" "__init__" "InvalidLimit.__init__" s_InvalidLimit_init, dm "EmptyLimit" "__init__" "EmptyLimit.__init__" s_EmptyLimit_init, dm "UnknownCondition" "__init__" "UnknownCondition.__init__" s_UnknownCondition_init, dm "UnknownSide" "__init__" "UnknownSide.__init__" s_UnknownSide_init, dm "InvalidMove" "__init__" "InvalidMove.__init__" s_InvalidMove_init, dm "InvalidForm" "__init__" "InvalidForm.__init__" s_InvalidForm_init, dm "UnlikeCells" "__init__" "UnlikeCells.__init__" s_UnlikeCells_init, dm "AlreadyHeld" "__init__" "AlreadyHeld.__init__" s_AlreadyHeld_init, dm "NotHeld" "__init__" "NotHeld.__init__" s_NotHeld_init, dm "NoLimit" "__init__" "NoLimit.__init__" s_NoLimit_init] : List He.DefD) ++ ([dm "Refused" "__init__" "Refused.__init__" s_Refused_init, dm "RolesKept" "__init__" "RolesKept.__init__" s_RolesKept_init, dm "NoMark" "__init__" "NoMark.__init__" s_NoMark_init, dm "InvalidOperation" "__init__" "InvalidOperation.__init__" s_InvalidOperation_init, dm "BadText" "__init__" "BadText.__init__" s_BadText_init, dm "BadCommand" "__init__" "BadCommand.__init__" s_BadCommand_init] : List He.DefD)
theorem rf_ok {c : Addr} : PySem.HandSPX.refsVE [.ref c, .type "ValueError", .type "Exception", .type "BaseException", .type "object"] = true := by
  show PySem.HandSPX.refsVE [.type "ValueError", .type "Exception", .type "BaseException", .type "object"] = true
  decide +kernel
theorem facts {P : Program} {w : World} {K : PySem.W.Frag} {h : Heap} {mg : Str → Option Value} {f : Addr} (X : K.In h) (G : h.Ns mainGlobals mg) (hfa : mg ("law" : Str) = some (.ref f)) (c : SaysX extra fn K) :
    ∃ fd : FuncData, (∀ (s : Shared) (v : Value), BindsTo s fd ⟨[v], []⟩ [("_law_script", v)]) ∧ ∀ base : Heap, K.In base → base.Ns mainGlobals mg → FnOk P w K mg base CX0 5 f fd ["_law_script"] (spLaw K) := by
  obtain ⟨b1, h⟩ := Bool.and_eq_true_iff.mp c.fact
  obtain ⟨b2, h⟩ := Bool.and_eq_true_iff.mp h
  obtain ⟨b3, h⟩ := Bool.and_eq_true_iff.mp h
  obtain ⟨b4, h⟩ := Bool.and_eq_true_iff.mp h
  obtain ⟨b5, h⟩ := Bool.and_eq_true_iff.mp h
  obtain ⟨b6, h⟩ := Bool.and_eq_true_iff.mp h
  obtain ⟨b7, h⟩ := Bool.and_eq_true_iff.mp h
  obtain ⟨b8, h⟩ := Bool.and_eq_true_iff.mp h
  obtain ⟨b9, b10⟩ := Bool.and_eq_true_iff.mp h
  obtain ⟨r1, r2, r3⟩ := baseB_ok b8
  have gl : ∀ x ∈ classes, mg x = some (.ref (He.ga K x)) := fun x hx => glo_of X G b2 hx
  have gd : ∀ x ∈ defNames, mg x = some (.ref (He.ga K x)) := fun x hx => glo_of X G b3 hx
  have T : Txt K mg 0 0 := { b_len := free_of X G b1 (List.mem_of_getElem? (i := 0) rfl), b_max := free_of X G b1 (List.mem_of_getElem? (i := 1) rfl), b_int := free_of X G b1 (List.mem_of_getElem? (i := 2) rfl), b_bool := free_of X G b1 (List.mem_of_getElem? (i := 3) rfl), b_isinstance := free_of X G b1 (List.mem_of_getElem? (i := 4) rfl), b_range := free_of X G b1 (List.mem_of_getElem? (i := 5) rfl), b_ValueError := free_of X G b1 (List.mem_of_getElem? (i := 6) rfl) }
  have B : BaseC K mg "SheetError" := ⟨_, gl _ (List.mem_of_getElem? (i := 36) rfl), r1, r2, r3⟩
  have GC : Cls K fun i => (classes.map (He.ga K)).getD i 0 := cls_mk (by simp [classes]) (of_decide_eq_true b7) b6 (of_decide_eq_true b9) (of_decide_eq_true b10)
  have FC : ∀ i, i ≤ 36 → ClsF K ((classes.map (He.ga K)).getD 36 0) ((classes.map (He.ga K)).getD i 0) (fN i) := fun i hi => clsB_ok (List.all_eq_true.mp b6 i (List.mem_range.mpr (by omega)))
  have XF : ∀ x ∈ withIni, ExcF K (He.ga K "SheetError") x := fun x hx => excB_ok (List.all_eq_true.mp b4 x hx)
  have BF : ∀ x ∈ bares, PySem.W.excIn K (He.ga K x) [.type "ValueError", .type "Exception", .type "BaseException", .type "object"] "ValueError.__new__" = true ∧ PySem.W.keepIn K (.ref (He.ga K x)) = true := fun x hx => Bool.and_eq_true_iff.mp (List.all_eq_true.mp b5 x hx)
  have D_box : Dfn K mg "_law_box" s_box := let ⟨fd, F⟩ := c.def_ 0 (d := dd "_law_box" s_box) rfl; ⟨_, fd, fun_of F, gd _ (List.mem_of_getElem? (i := 0) rfl)⟩
  have D_mixed : Dfn K mg "_law_mixed" s_mixed := let ⟨fd, F⟩ := c.def_ 1 (d := dd "_law_mixed" s_mixed) rfl; ⟨_, fd, fun_of F, gd _ (List.mem_of_getElem? (i := 1) rfl)⟩
  have D_take : Dfn K mg "_law_take" s_take := let ⟨fd, F⟩ := c.def_ 2 (d := dd "_law_take" s_take) rfl; ⟨_, fd, fun_of F, gd _ (List.mem_of_getElem? (i := 2) rfl)⟩
  have D_thing : Dfn K mg "_law_thing" s_thing := let ⟨fd, F⟩ := c.def_ 3 (d := dd "_law_thing" s_thing) rfl; ⟨_, fd, fun_of F, gd _ (List.mem_of_getElem? (i := 3) rfl)⟩
  have D_made : Dfn K mg "_law_made" s_made := let ⟨fd, F⟩ := c.def_ 4 (d := dd "_law_made" s_made) rfl; ⟨_, fd, fun_of F, gd _ (List.mem_of_getElem? (i := 4) rfl)⟩
  have D_named : Dfn K mg "_law_named" s_named := let ⟨fd, F⟩ := c.def_ 5 (d := dd "_law_named" s_named) rfl; ⟨_, fd, fun_of F, gd _ (List.mem_of_getElem? (i := 5) rfl)⟩
  have D_fields : Dfn K mg "_law_fields" s_fields := let ⟨fd, F⟩ := c.def_ 6 (d := dd "_law_fields" s_fields) rfl; ⟨_, fd, fun_of F, gd _ (List.mem_of_getElem? (i := 6) rfl)⟩
  have D_classes : Dfn K mg "_law_classes" s_classes := let ⟨fd, F⟩ := c.def_ 7 (d := dd "_law_classes" s_classes) rfl; ⟨_, fd, fun_of F, gd _ (List.mem_of_getElem? (i := 7) rfl)⟩
  have D_raise_more : Dfn K mg "_law_raise_more" s_raise_more := let ⟨fd, F⟩ := c.def_ 8 (d := dd "_law_raise_more" s_raise_more) rfl; ⟨_, fd, fun_of F, gd _ (List.mem_of_getElem? (i := 8) rfl)⟩
  have D_raise_one : Dfn K mg "_law_raise_one" s_raise_one := let ⟨fd, F⟩ := c.def_ 9 (d := dd "_law_raise_one" s_raise_one) rfl; ⟨_, fd, fun_of F, gd _ (List.mem_of_getElem? (i := 9) rfl)⟩
  have D_raise_other : Dfn K mg "_law_raise_other" s_raise_other := let ⟨fd, F⟩ := c.def_ 10 (d := dd "_law_raise_other" s_raise_other) rfl; ⟨_, fd, fun_of F, gd _ (List.mem_of_getElem? (i := 10) rfl)⟩
  have D_raise_bare : Dfn K mg "_law_raise_bare" s_raise_bare := let ⟨fd, F⟩ := c.def_ 11 (d := dd "_law_raise_bare" s_raise_bare) rfl; ⟨_, fd, fun_of F, gd _ (List.mem_of_getElem? (i := 11) rfl)⟩
  have D_caught : Dfn K mg "_law_caught" s_caught := let ⟨fd, F⟩ := c.def_ 12 (d := dd "_law_caught" s_caught) rfl; ⟨_, fd, fun_of F, gd _ (List.mem_of_getElem? (i := 12) rfl)⟩
  obtain ⟨fd, FL⟩ := c.def_ 13 (d := dd "law" s_law) rfl
  obtain ⟨fd_BadFormula, F_BadFormula⟩ := c.def_ 14 (d := dm "BadFormula" "__init__" "BadFormula.__init__" s_BadFormula_init) rfl
  obtain ⟨fd_CellInUse, F_CellInUse⟩ := c.def_ 15 (d := dm "CellInUse" "__init__" "CellInUse.__init__" s_CellInUse_init) rfl
  obtain ⟨fd_InvalidNumber, F_InvalidNumber⟩ := c.def_ 16 (d := dm "InvalidNumber" "__init__" "InvalidNumber.__init__" s_InvalidNumber_init) rfl
  obtain ⟨fd_InvalidText, F_InvalidText⟩ := c.def_ 17 (d := dm "InvalidText" "__init__" "InvalidText.__init__" s_InvalidText_init) rfl
  obtain ⟨fd_FormulaSyntax, F_FormulaSyntax⟩ := c.def_ 18 (d := dm "FormulaSyntax" "__init__" "FormulaSyntax.__init__" s_FormulaSyntax_init) rfl
  obtain ⟨fd_NotLinear, F_NotLinear⟩ := c.def_ 19 (d := dm "NotLinear" "__init__" "NotLinear.__init__" s_NotLinear_init) rfl
  obtain ⟨fd_ZeroDivisor, F_ZeroDivisor⟩ := c.def_ 20 (d := dm "ZeroDivisor" "__init__" "ZeroDivisor.__init__" s_ZeroDivisor_init) rfl
  obtain ⟨fd_InvalidRow, F_InvalidRow⟩ := c.def_ 21 (d := dm "InvalidRow" "__init__" "InvalidRow.__init__" s_InvalidRow_init) rfl
  obtain ⟨fd_InvalidName, F_InvalidName⟩ := c.def_ 22 (d := dm "InvalidName" "__init__" "InvalidName.__init__" s_InvalidName_init) rfl
  obtain ⟨fd_DuplicateCell, F_DuplicateCell⟩ := c.def_ 23 (d := dm "DuplicateCell" "__init__" "DuplicateCell.__init__" s_DuplicateCell_init) rfl
  obtain ⟨fd_UnknownCell, F_UnknownCell⟩ := c.def_ 24 (d := dm "UnknownCell" "__init__" "UnknownCell.__init__" s_UnknownCell_init) rfl
  obtain ⟨fd_CircularCell, F_CircularCell⟩ := c.def_ 25 (d := dm "CircularCell" "__init__" "CircularCell.__init__" s_CircularCell_init) rfl
  obtain ⟨fd_NotInput, F_NotInput⟩ := c.def_ 26 (d := dm "NotInput" "__init__" "NotInput.__init__" s_NotInput_init) rfl
  obtain ⟨fd_NotComputed, F_NotComputed⟩ := c.def_ 27 (d := dm "NotComputed" "__init__" "NotComputed.__init__" s_NotComputed_init) rfl
  obtain ⟨fd_InvalidTable, F_InvalidTable⟩ := c.def_ 28 (d := dm "InvalidTable" "__init__" "InvalidTable.__init__" s_InvalidTable_init) rfl
  obtain ⟨fd_InvalidWish, F_InvalidWish⟩ := c.def_ 29 (d := dm "InvalidWish" "__init__" "InvalidWish.__init__" s_InvalidWish_init) rfl
  obtain ⟨fd_InvalidLimit, F_InvalidLimit⟩ := c.def_ 30 (d := dm "InvalidLimit" "__init__" "InvalidLimit.__init__" s_InvalidLimit_init) rfl
  obtain ⟨fd_EmptyLimit, F_EmptyLimit⟩ := c.def_ 31 (d := dm "EmptyLimit" "__init__" "EmptyLimit.__init__" s_EmptyLimit_init) rfl
  obtain ⟨fd_UnknownCondition, F_UnknownCondition⟩ := c.def_ 32 (d := dm "UnknownCondition" "__init__" "UnknownCondition.__init__" s_UnknownCondition_init) rfl
  obtain ⟨fd_UnknownSide, F_UnknownSide⟩ := c.def_ 33 (d := dm "UnknownSide" "__init__" "UnknownSide.__init__" s_UnknownSide_init) rfl
  obtain ⟨fd_InvalidMove, F_InvalidMove⟩ := c.def_ 34 (d := dm "InvalidMove" "__init__" "InvalidMove.__init__" s_InvalidMove_init) rfl
  obtain ⟨fd_InvalidForm, F_InvalidForm⟩ := c.def_ 35 (d := dm "InvalidForm" "__init__" "InvalidForm.__init__" s_InvalidForm_init) rfl
  obtain ⟨fd_UnlikeCells, F_UnlikeCells⟩ := c.def_ 36 (d := dm "UnlikeCells" "__init__" "UnlikeCells.__init__" s_UnlikeCells_init) rfl
  obtain ⟨fd_AlreadyHeld, F_AlreadyHeld⟩ := c.def_ 37 (d := dm "AlreadyHeld" "__init__" "AlreadyHeld.__init__" s_AlreadyHeld_init) rfl
  obtain ⟨fd_NotHeld, F_NotHeld⟩ := c.def_ 38 (d := dm "NotHeld" "__init__" "NotHeld.__init__" s_NotHeld_init) rfl
  obtain ⟨fd_NoLimit, F_NoLimit⟩ := c.def_ 39 (d := dm "NoLimit" "__init__" "NoLimit.__init__" s_NoLimit_init) rfl
  obtain ⟨fd_Refused, F_Refused⟩ := c.def_ 40 (d := dm "Refused" "__init__" "Refused.__init__" s_Refused_init) rfl
  obtain ⟨fd_RolesKept, F_RolesKept⟩ := c.def_ 41 (d := dm "RolesKept" "__init__" "RolesKept.__init__" s_RolesKept_init) rfl
  obtain ⟨fd_NoMark, F_NoMark⟩ := c.def_ 42 (d := dm "NoMark" "__init__" "NoMark.__init__" s_NoMark_init) rfl
  obtain ⟨fd_InvalidOperation, F_InvalidOperation⟩ := c.def_ 43 (d := dm "InvalidOperation" "__init__" "InvalidOperation.__init__" s_InvalidOperation_init) rfl
  obtain ⟨fd_BadText, F_BadText⟩ := c.def_ 44 (d := dm "BadText" "__init__" "BadText.__init__" s_BadText_init) rfl
  obtain ⟨fd_BadCommand, F_BadCommand⟩ := c.def_ 45 (d := dm "BadCommand" "__init__" "BadCommand.__init__" s_BadCommand_init) rfl
  have e := hfa.symm.trans (gd "law" (List.mem_of_getElem? (i := 13) rfl))
  cases e
  have FL' : Fun K "law" "law" s_law (He.ga K "law") fd := fun_of FL
  refine ⟨fd, fun s v => ?_, fun base _ _ => ?_⟩
  · obtain ⟨oc, od, kV, doc, pm, an, cdv, ct, osl, rfl, _⟩ := FL'.ex
    exact .of_eq rfl
  have E_BadFormula : ExG P w K mg base "BadFormula" (He.ga K "BadFormula") ["name", "word", "position"] := let x := XF "BadFormula" (List.mem_of_getElem? (i := 0) rfl); let k := FC 0 (by decide); ini_BadFormula B (gl _ (List.mem_of_getElem? (i := 0) rfl)) ⟨let ⟨nm, q, N, bs, sn, sub, ab, col, dd, k0, k1, k2, k3, k5, ho⟩ := x.obj; ⟨nm, q, N, bs, _, sn, sub, ab, col, dd, k0, k1, k2, k3, k5, ho, rf_ok⟩, x.sa, k.xf.exC, k.ty, x.kp⟩ k.nof x.ini x.ty (fun_of F_BadFormula)
  have E_CellInUse : ExG P w K mg base "CellInUse" (He.ga K "CellInUse") ["name", "user"] := let x := XF "CellInUse" (List.mem_of_getElem? (i := 1) rfl); let k := FC 1 (by decide); ini_CellInUse B (gl _ (List.mem_of_getElem? (i := 1) rfl)) ⟨let ⟨nm, q, N, bs, sn, sub, ab, col, dd, k0, k1, k2, k3, k5, ho⟩ := x.obj; ⟨nm, q, N, bs, _, sn, sub, ab, col, dd, k0, k1, k2, k3, k5, ho, rf_ok⟩, x.sa, k.xf.exC, k.ty, x.kp⟩ k.nof x.ini x.ty (fun_of F_CellInUse)
  have E_InvalidNumber : ExG P w K mg base "InvalidNumber" (He.ga K "InvalidNumber") ["value"] := let x := XF "InvalidNumber" (List.mem_of_getElem? (i := 2) rfl); let k := FC 2 (by decide); ini_InvalidNumber B (gl _ (List.mem_of_getElem? (i := 2) rfl)) ⟨let ⟨nm, q, N, bs, sn, sub, ab, col, dd, k0, k1, k2, k3, k5, ho⟩ := x.obj; ⟨nm, q, N, bs, _, sn, sub, ab, col, dd, k0, k1, k2, k3, k5, ho, rf_ok⟩, x.sa, k.xf.exC, k.ty, x.kp⟩ k.nof x.ini x.ty (fun_of F_InvalidNumber)
  have E_InvalidText : ExG P w K mg base "InvalidText" (He.ga K "InvalidText") ["text"] := let x := XF "InvalidText" (List.mem_of_getElem? (i := 3) rfl); let k := FC 3 (by decide); ini_InvalidText B (gl _ (List.mem_of_getElem? (i := 3) rfl)) ⟨let ⟨nm, q, N, bs, sn, sub, ab, col, dd, k0, k1, k2, k3, k5, ho⟩ := x.obj; ⟨nm, q, N, bs, _, sn, sub, ab, col, dd, k0, k1, k2, k3, k5, ho, rf_ok⟩, x.sa, k.xf.exC, k.ty, x.kp⟩ k.nof x.ini x.ty (fun_of F_InvalidText)
  have E_FormulaSyntax : ExG P w K mg base "FormulaSyntax" (He.ga K "FormulaSyntax") ["position"] := let x := XF "FormulaSyntax" (List.mem_of_getElem? (i := 4) rfl); let k := FC 4 (by decide); ini_FormulaSyntax B (gl _ (List.mem_of_getElem? (i := 4) rfl)) ⟨let ⟨nm, q, N, bs, sn, sub, ab, col, dd, k0, k1, k2, k3, k5, ho⟩ := x.obj; ⟨nm, q, N, bs, _, sn, sub, ab, col, dd, k0, k1, k2, k3, k5, ho, rf_ok⟩, x.sa, k.xf.exC, k.ty, x.kp⟩ k.nof x.ini x.ty (fun_of F_FormulaSyntax)
  have E_NotLinear : ExG P w K mg base "NotLinear" (He.ga K "NotLinear") ["position"] := let x := XF "NotLinear" (List.mem_of_getElem? (i := 5) rfl); let k := FC 5 (by decide); ini_NotLinear B (gl _ (List.mem_of_getElem? (i := 5) rfl)) ⟨let ⟨nm, q, N, bs, sn, sub, ab, col, dd, k0, k1, k2, k3, k5, ho⟩ := x.obj; ⟨nm, q, N, bs, _, sn, sub, ab, col, dd, k0, k1, k2, k3, k5, ho, rf_ok⟩, x.sa, k.xf.exC, k.ty, x.kp⟩ k.nof x.ini x.ty (fun_of F_NotLinear)
  have E_ZeroDivisor : ExG P w K mg base "ZeroDivisor" (He.ga K "ZeroDivisor") ["position"] := let x := XF "ZeroDivisor" (List.mem_of_getElem? (i := 6) rfl); let k := FC 6 (by decide); ini_ZeroDivisor B (gl _ (List.mem_of_getElem? (i := 6) rfl)) ⟨let ⟨nm, q, N, bs, sn, sub, ab, col, dd, k0, k1, k2, k3, k5, ho⟩ := x.obj; ⟨nm, q, N, bs, _, sn, sub, ab, col, dd, k0, k1, k2, k3, k5, ho, rf_ok⟩, x.sa, k.xf.exC, k.ty, x.kp⟩ k.nof x.ini x.ty (fun_of F_ZeroDivisor)
  have E_InvalidRow : ExG P w K mg base "InvalidRow" (He.ga K "InvalidRow") ["index"] := let x := XF "InvalidRow" (List.mem_of_getElem? (i := 7) rfl); let k := FC 7 (by decide); ini_InvalidRow B (gl _ (List.mem_of_getElem? (i := 7) rfl)) ⟨let ⟨nm, q, N, bs, sn, sub, ab, col, dd, k0, k1, k2, k3, k5, ho⟩ := x.obj; ⟨nm, q, N, bs, _, sn, sub, ab, col, dd, k0, k1, k2, k3, k5, ho, rf_ok⟩, x.sa, k.xf.exC, k.ty, x.kp⟩ k.nof x.ini x.ty (fun_of F_InvalidRow)
  have E_InvalidName : ExG P w K mg base "InvalidName" (He.ga K "InvalidName") ["name"] := let x := XF "InvalidName" (List.mem_of_getElem? (i := 8) rfl); let k := FC 8 (by decide); ini_InvalidName B (gl _ (List.mem_of_getElem? (i := 8) rfl)) ⟨let ⟨nm, q, N, bs, sn, sub, ab, col, dd, k0, k1, k2, k3, k5, ho⟩ := x.obj; ⟨nm, q, N, bs, _, sn, sub, ab, col, dd, k0, k1, k2, k3, k5, ho, rf_ok⟩, x.sa, k.xf.exC, k.ty, x.kp⟩ k.nof x.ini x.ty (fun_of F_InvalidName)
  have E_DuplicateCell : ExG P w K mg base "DuplicateCell" (He.ga K "DuplicateCell") ["name"] := let x := XF "DuplicateCell" (List.mem_of_getElem? (i := 9) rfl); let k := FC 9 (by decide); ini_DuplicateCell B (gl _ (List.mem_of_getElem? (i := 9) rfl)) ⟨let ⟨nm, q, N, bs, sn, sub, ab, col, dd, k0, k1, k2, k3, k5, ho⟩ := x.obj; ⟨nm, q, N, bs, _, sn, sub, ab, col, dd, k0, k1, k2, k3, k5, ho, rf_ok⟩, x.sa, k.xf.exC, k.ty, x.kp⟩ k.nof x.ini x.ty (fun_of F_DuplicateCell)
  have E_UnknownCell : ExG P w K mg base "UnknownCell" (He.ga K "UnknownCell") ["name"] := let x := XF "UnknownCell" (List.mem_of_getElem? (i := 10) rfl); let k := FC 10 (by decide); ini_UnknownCell B (gl _ (List.mem_of_getElem? (i := 10) rfl)) ⟨let ⟨nm, q, N, bs, sn, sub, ab, col, dd, k0, k1, k2, k3, k5, ho⟩ := x.obj; ⟨nm, q, N, bs, _, sn, sub, ab, col, dd, k0, k1, k2, k3, k5, ho, rf_ok⟩, x.sa, k.xf.exC, k.ty, x.kp⟩ k.nof x.ini x.ty (fun_of F_UnknownCell)
  have E_CircularCell : ExG P w K mg base "CircularCell" (He.ga K "CircularCell") ["name"] := let x := XF "CircularCell" (List.mem_of_getElem? (i := 11) rfl); let k := FC 11 (by decide); ini_CircularCell B (gl _ (List.mem_of_getElem? (i := 11) rfl)) ⟨let ⟨nm, q, N, bs, sn, sub, ab, col, dd, k0, k1, k2, k3, k5, ho⟩ := x.obj; ⟨nm, q, N, bs, _, sn, sub, ab, col, dd, k0, k1, k2, k3, k5, ho, rf_ok⟩, x.sa, k.xf.exC, k.ty, x.kp⟩ k.nof x.ini x.ty (fun_of F_CircularCell)
  have E_NotInput : ExG P w K mg base "NotInput" (He.ga K "NotInput") ["name"] := let x := XF "NotInput" (List.mem_of_getElem? (i := 12) rfl); let k := FC 12 (by decide); ini_NotInput B (gl _ (List.mem_of_getElem? (i := 12) rfl)) ⟨let ⟨nm, q, N, bs, sn, sub, ab, col, dd, k0, k1, k2, k3, k5, ho⟩ := x.obj; ⟨nm, q, N, bs, _, sn, sub, ab, col, dd, k0, k1, k2, k3, k5, ho, rf_ok⟩, x.sa, k.xf.exC, k.ty, x.kp⟩ k.nof x.ini x.ty (fun_of F_NotInput)
  have E_NotComputed : ExG P w K mg base "NotComputed" (He.ga K "NotComputed") ["name"] := let x := XF "NotComputed" (List.mem_of_getElem? (i := 13) rfl); let k := FC 13 (by decide); ini_NotComputed B (gl _ (List.mem_of_getElem? (i := 13) rfl)) ⟨let ⟨nm, q, N, bs, sn, sub, ab, col, dd, k0, k1, k2, k3, k5, ho⟩ := x.obj; ⟨nm, q, N, bs, _, sn, sub, ab, col, dd, k0, k1, k2, k3, k5, ho, rf_ok⟩, x.sa, k.xf.exC, k.ty, x.kp⟩ k.nof x.ini x.ty (fun_of F_NotComputed)
  have E_InvalidTable : ExG P w K mg base "InvalidTable" (He.ga K "InvalidTable") ["value"] := let x := XF "InvalidTable" (List.mem_of_getElem? (i := 14) rfl); let k := FC 14 (by decide); ini_InvalidTable B (gl _ (List.mem_of_getElem? (i := 14) rfl)) ⟨let ⟨nm, q, N, bs, sn, sub, ab, col, dd, k0, k1, k2, k3, k5, ho⟩ := x.obj; ⟨nm, q, N, bs, _, sn, sub, ab, col, dd, k0, k1, k2, k3, k5, ho, rf_ok⟩, x.sa, k.xf.exC, k.ty, x.kp⟩ k.nof x.ini x.ty (fun_of F_InvalidTable)
  have E_InvalidWish : ExG P w K mg base "InvalidWish" (He.ga K "InvalidWish") ["index"] := let x := XF "InvalidWish" (List.mem_of_getElem? (i := 15) rfl); let k := FC 15 (by decide); ini_InvalidWish B (gl _ (List.mem_of_getElem? (i := 15) rfl)) ⟨let ⟨nm, q, N, bs, sn, sub, ab, col, dd, k0, k1, k2, k3, k5, ho⟩ := x.obj; ⟨nm, q, N, bs, _, sn, sub, ab, col, dd, k0, k1, k2, k3, k5, ho, rf_ok⟩, x.sa, k.xf.exC, k.ty, x.kp⟩ k.nof x.ini x.ty (fun_of F_InvalidWish)
  have E_InvalidLimit : ExG P w K mg base "InvalidLimit" (He.ga K "InvalidLimit") ["index"] := let x := XF "InvalidLimit" (List.mem_of_getElem? (i := 16) rfl); let k := FC 16 (by decide); ini_InvalidLimit B (gl _ (List.mem_of_getElem? (i := 16) rfl)) ⟨let ⟨nm, q, N, bs, sn, sub, ab, col, dd, k0, k1, k2, k3, k5, ho⟩ := x.obj; ⟨nm, q, N, bs, _, sn, sub, ab, col, dd, k0, k1, k2, k3, k5, ho, rf_ok⟩, x.sa, k.xf.exC, k.ty, x.kp⟩ k.nof x.ini x.ty (fun_of F_InvalidLimit)
  have E_EmptyLimit : ExG P w K mg base "EmptyLimit" (He.ga K "EmptyLimit") ["name"] := let x := XF "EmptyLimit" (List.mem_of_getElem? (i := 17) rfl); let k := FC 17 (by decide); ini_EmptyLimit B (gl _ (List.mem_of_getElem? (i := 17) rfl)) ⟨let ⟨nm, q, N, bs, sn, sub, ab, col, dd, k0, k1, k2, k3, k5, ho⟩ := x.obj; ⟨nm, q, N, bs, _, sn, sub, ab, col, dd, k0, k1, k2, k3, k5, ho, rf_ok⟩, x.sa, k.xf.exC, k.ty, x.kp⟩ k.nof x.ini x.ty (fun_of F_EmptyLimit)
  have E_UnknownCondition : ExG P w K mg base "UnknownCondition" (He.ga K "UnknownCondition") ["condition"] := let x := XF "UnknownCondition" (List.mem_of_getElem? (i := 18) rfl); let k := FC 18 (by decide); ini_UnknownCondition B (gl _ (List.mem_of_getElem? (i := 18) rfl)) ⟨let ⟨nm, q, N, bs, sn, sub, ab, col, dd, k0, k1, k2, k3, k5, ho⟩ := x.obj; ⟨nm, q, N, bs, _, sn, sub, ab, col, dd, k0, k1, k2, k3, k5, ho, rf_ok⟩, x.sa, k.xf.exC, k.ty, x.kp⟩ k.nof x.ini x.ty (fun_of F_UnknownCondition)
  have E_UnknownSide : ExG P w K mg base "UnknownSide" (He.ga K "UnknownSide") ["side"] := let x := XF "UnknownSide" (List.mem_of_getElem? (i := 19) rfl); let k := FC 19 (by decide); ini_UnknownSide B (gl _ (List.mem_of_getElem? (i := 19) rfl)) ⟨let ⟨nm, q, N, bs, sn, sub, ab, col, dd, k0, k1, k2, k3, k5, ho⟩ := x.obj; ⟨nm, q, N, bs, _, sn, sub, ab, col, dd, k0, k1, k2, k3, k5, ho, rf_ok⟩, x.sa, k.xf.exC, k.ty, x.kp⟩ k.nof x.ini x.ty (fun_of F_UnknownSide)
  have E_InvalidMove : ExG P w K mg base "InvalidMove" (He.ga K "InvalidMove") ["move"] := let x := XF "InvalidMove" (List.mem_of_getElem? (i := 20) rfl); let k := FC 20 (by decide); ini_InvalidMove B (gl _ (List.mem_of_getElem? (i := 20) rfl)) ⟨let ⟨nm, q, N, bs, sn, sub, ab, col, dd, k0, k1, k2, k3, k5, ho⟩ := x.obj; ⟨nm, q, N, bs, _, sn, sub, ab, col, dd, k0, k1, k2, k3, k5, ho, rf_ok⟩, x.sa, k.xf.exC, k.ty, x.kp⟩ k.nof x.ini x.ty (fun_of F_InvalidMove)
  have E_InvalidForm : ExG P w K mg base "InvalidForm" (He.ga K "InvalidForm") ["form"] := let x := XF "InvalidForm" (List.mem_of_getElem? (i := 21) rfl); let k := FC 21 (by decide); ini_InvalidForm B (gl _ (List.mem_of_getElem? (i := 21) rfl)) ⟨let ⟨nm, q, N, bs, sn, sub, ab, col, dd, k0, k1, k2, k3, k5, ho⟩ := x.obj; ⟨nm, q, N, bs, _, sn, sub, ab, col, dd, k0, k1, k2, k3, k5, ho, rf_ok⟩, x.sa, k.xf.exC, k.ty, x.kp⟩ k.nof x.ini x.ty (fun_of F_InvalidForm)
  have E_UnlikeCells : ExG P w K mg base "UnlikeCells" (He.ga K "UnlikeCells") ["name"] := let x := XF "UnlikeCells" (List.mem_of_getElem? (i := 22) rfl); let k := FC 22 (by decide); ini_UnlikeCells B (gl _ (List.mem_of_getElem? (i := 22) rfl)) ⟨let ⟨nm, q, N, bs, sn, sub, ab, col, dd, k0, k1, k2, k3, k5, ho⟩ := x.obj; ⟨nm, q, N, bs, _, sn, sub, ab, col, dd, k0, k1, k2, k3, k5, ho, rf_ok⟩, x.sa, k.xf.exC, k.ty, x.kp⟩ k.nof x.ini x.ty (fun_of F_UnlikeCells)
  have E_AlreadyHeld : ExG P w K mg base "AlreadyHeld" (He.ga K "AlreadyHeld") ["name"] := let x := XF "AlreadyHeld" (List.mem_of_getElem? (i := 23) rfl); let k := FC 23 (by decide); ini_AlreadyHeld B (gl _ (List.mem_of_getElem? (i := 23) rfl)) ⟨let ⟨nm, q, N, bs, sn, sub, ab, col, dd, k0, k1, k2, k3, k5, ho⟩ := x.obj; ⟨nm, q, N, bs, _, sn, sub, ab, col, dd, k0, k1, k2, k3, k5, ho, rf_ok⟩, x.sa, k.xf.exC, k.ty, x.kp⟩ k.nof x.ini x.ty (fun_of F_AlreadyHeld)
  have E_NotHeld : ExG P w K mg base "NotHeld" (He.ga K "NotHeld") ["name"] := let x := XF "NotHeld" (List.mem_of_getElem? (i := 24) rfl); let k := FC 24 (by decide); ini_NotHeld B (gl _ (List.mem_of_getElem? (i := 24) rfl)) ⟨let ⟨nm, q, N, bs, sn, sub, ab, col, dd, k0, k1, k2, k3, k5, ho⟩ := x.obj; ⟨nm, q, N, bs, _, sn, sub, ab, col, dd, k0, k1, k2, k3, k5, ho, rf_ok⟩, x.sa, k.xf.exC, k.ty, x.kp⟩ k.nof x.ini x.ty (fun_of F_NotHeld)
  have E_NoLimit : ExG P w K mg base "NoLimit" (He.ga K "NoLimit") ["name"] := let x := XF "NoLimit" (List.mem_of_getElem? (i := 25) rfl); let k := FC 25 (by decide); ini_NoLimit B (gl _ (List.mem_of_getElem? (i := 25) rfl)) ⟨let ⟨nm, q, N, bs, sn, sub, ab, col, dd, k0, k1, k2, k3, k5, ho⟩ := x.obj; ⟨nm, q, N, bs, _, sn, sub, ab, col, dd, k0, k1, k2, k3, k5, ho, rf_ok⟩, x.sa, k.xf.exC, k.ty, x.kp⟩ k.nof x.ini x.ty (fun_of F_NoLimit)
  have E_Refused : ExG P w K mg base "Refused" (He.ga K "Refused") ["weights"] := let x := XF "Refused" (List.mem_of_getElem? (i := 26) rfl); let k := FC 26 (by decide); ini_Refused B (gl _ (List.mem_of_getElem? (i := 26) rfl)) ⟨let ⟨nm, q, N, bs, sn, sub, ab, col, dd, k0, k1, k2, k3, k5, ho⟩ := x.obj; ⟨nm, q, N, bs, _, sn, sub, ab, col, dd, k0, k1, k2, k3, k5, ho, rf_ok⟩, x.sa, k.xf.exC, k.ty, x.kp⟩ k.nof x.ini x.ty (fun_of F_Refused)
  have E_RolesKept : ExG P w K mg base "RolesKept" (He.ga K "RolesKept") ["move"] := let x := XF "RolesKept" (List.mem_of_getElem? (i := 27) rfl); let k := FC 27 (by decide); ini_RolesKept B (gl _ (List.mem_of_getElem? (i := 27) rfl)) ⟨let ⟨nm, q, N, bs, sn, sub, ab, col, dd, k0, k1, k2, k3, k5, ho⟩ := x.obj; ⟨nm, q, N, bs, _, sn, sub, ab, col, dd, k0, k1, k2, k3, k5, ho, rf_ok⟩, x.sa, k.xf.exC, k.ty, x.kp⟩ k.nof x.ini x.ty (fun_of F_RolesKept)
  have E_NoMark : ExG P w K mg base "NoMark" (He.ga K "NoMark") ["word"] := let x := XF "NoMark" (List.mem_of_getElem? (i := 28) rfl); let k := FC 28 (by decide); ini_NoMark B (gl _ (List.mem_of_getElem? (i := 28) rfl)) ⟨let ⟨nm, q, N, bs, sn, sub, ab, col, dd, k0, k1, k2, k3, k5, ho⟩ := x.obj; ⟨nm, q, N, bs, _, sn, sub, ab, col, dd, k0, k1, k2, k3, k5, ho, rf_ok⟩, x.sa, k.xf.exC, k.ty, x.kp⟩ k.nof x.ini x.ty (fun_of F_NoMark)
  have E_InvalidOperation : ExG P w K mg base "InvalidOperation" (He.ga K "InvalidOperation") ["index"] := let x := XF "InvalidOperation" (List.mem_of_getElem? (i := 29) rfl); let k := FC 29 (by decide); ini_InvalidOperation B (gl _ (List.mem_of_getElem? (i := 29) rfl)) ⟨let ⟨nm, q, N, bs, sn, sub, ab, col, dd, k0, k1, k2, k3, k5, ho⟩ := x.obj; ⟨nm, q, N, bs, _, sn, sub, ab, col, dd, k0, k1, k2, k3, k5, ho, rf_ok⟩, x.sa, k.xf.exC, k.ty, x.kp⟩ k.nof x.ini x.ty (fun_of F_InvalidOperation)
  have E_BadText : ExG P w K mg base "BadText" (He.ga K "BadText") ["at"] := let x := XF "BadText" (List.mem_of_getElem? (i := 30) rfl); let k := FC 30 (by decide); ini_BadText B (gl _ (List.mem_of_getElem? (i := 30) rfl)) ⟨let ⟨nm, q, N, bs, sn, sub, ab, col, dd, k0, k1, k2, k3, k5, ho⟩ := x.obj; ⟨nm, q, N, bs, _, sn, sub, ab, col, dd, k0, k1, k2, k3, k5, ho, rf_ok⟩, x.sa, k.xf.exC, k.ty, x.kp⟩ k.nof x.ini x.ty (fun_of F_BadText)
  have E_BadCommand : ExG P w K mg base "BadCommand" (He.ga K "BadCommand") ["line"] := let x := XF "BadCommand" (List.mem_of_getElem? (i := 31) rfl); let k := FC 31 (by decide); ini_BadCommand B (gl _ (List.mem_of_getElem? (i := 31) rfl)) ⟨let ⟨nm, q, N, bs, sn, sub, ab, col, dd, k0, k1, k2, k3, k5, ho⟩ := x.obj; ⟨nm, q, N, bs, _, sn, sub, ab, col, dd, k0, k1, k2, k3, k5, ho, rf_ok⟩, x.sa, k.xf.exC, k.ty, x.kp⟩ k.nof x.ini x.ty (fun_of F_BadCommand)
  have E : Exs P w K mg base (fun i => (classes.map (He.ga K)).getD i 0) := { G := GC, BadFormula := E_BadFormula, CellInUse := E_CellInUse, InvalidNumber := E_InvalidNumber, InvalidText := E_InvalidText, FormulaSyntax := E_FormulaSyntax, NotLinear := E_NotLinear, ZeroDivisor := E_ZeroDivisor, InvalidRow := E_InvalidRow, InvalidName := E_InvalidName, DuplicateCell := E_DuplicateCell, UnknownCell := E_UnknownCell, CircularCell := E_CircularCell, NotInput := E_NotInput, NotComputed := E_NotComputed, InvalidTable := E_InvalidTable, InvalidWish := E_InvalidWish, InvalidLimit := E_InvalidLimit, EmptyLimit := E_EmptyLimit, UnknownCondition := E_UnknownCondition, UnknownSide := E_UnknownSide, InvalidMove := E_InvalidMove, InvalidForm := E_InvalidForm, UnlikeCells := E_UnlikeCells, AlreadyHeld := E_AlreadyHeld, NotHeld := E_NotHeld, NoLimit := E_NoLimit, Refused := E_Refused, RolesKept := E_RolesKept, NoMark := E_NoMark, InvalidOperation := E_InvalidOperation, BadText := E_BadText, BadCommand := E_BadCommand, ZeroBottom := ⟨gl _ (List.mem_of_getElem? (i := 32) rfl), (BF "ZeroBottom" (List.mem_of_getElem? (i := 0) rfl)).1, (BF "ZeroBottom" (List.mem_of_getElem? (i := 0) rfl)).2, (FC 32 (by decide)).xf.exC, (FC 32 (by decide)).ty⟩, InvalidWeights := ⟨gl _ (List.mem_of_getElem? (i := 33) rfl), (BF "InvalidWeights" (List.mem_of_getElem? (i := 1) rfl)).1, (BF "InvalidWeights" (List.mem_of_getElem? (i := 1) rfl)).2, (FC 33 (by decide)).xf.exC, (FC 33 (by decide)).ty⟩, NothingToUndo := ⟨gl _ (List.mem_of_getElem? (i := 34) rfl), (BF "NothingToUndo" (List.mem_of_getElem? (i := 2) rfl)).1, (BF "NothingToUndo" (List.mem_of_getElem? (i := 2) rfl)).2, (FC 34 (by decide)).xf.exC, (FC 34 (by decide)).ty⟩, NothingToRedo := ⟨gl _ (List.mem_of_getElem? (i := 35) rfl), (BF "NothingToRedo" (List.mem_of_getElem? (i := 3) rfl)).1, (BF "NothingToRedo" (List.mem_of_getElem? (i := 3) rfl)).2, (FC 35 (by decide)).xf.exC, (FC 35 (by decide)).ty⟩, SheetError := ⟨gl _ (List.mem_of_getElem? (i := 36) rfl), (BF "SheetError" (List.mem_of_getElem? (i := 4) rfl)).1, (BF "SheetError" (List.mem_of_getElem? (i := 4) rfl)).2, (FC 36 (by decide)).xf.exC, (FC 36 (by decide)).ty⟩ }
  have R_mixed := ok_mixed (P := P) (w := w) (base := base) D_mixed
  have R_take := ok_take (P := P) (w := w) (base := base) T D_take R_mixed
  have R_box := ok_box (P := P) (w := w) (base := base) T D_box
  have R_thing := ok_thing (P := P) (w := w) (base := base) T D_thing R_take
  have R_made := ok_made (P := P) (w := w) (base := base) T E D_made
  have R_named := ok_named (P := P) (w := w) (base := base) T E D_named
  have R_fields := ok_fields (P := P) (w := w) (base := base) T E D_fields
  have R_classes := ok_classes (P := P) (w := w) (base := base) T E D_classes
  have R_fieldsH := ok_fieldsH (P := P) (w := w) (base := base) T E D_fields
  have R_classesH := ok_classesH (P := P) (w := w) (base := base) T E D_classes
  have R_more := ok_raise_more (P := P) (w := w) (base := base) E D_raise_more
  have R_one := ok_raise_one (P := P) (w := w) (base := base) E D_raise_one
  have R_other := ok_raise_other (P := P) (w := w) (base := base) E D_raise_other
  have R_bare := ok_raise_bare (P := P) (w := w) (base := base) E D_raise_bare
  have R_caught := ok_caught (P := P) (w := w) (base := base) T E D_caught R_more R_one R_other R_bare R_fieldsH R_classesH
  exact ok_law (P := P) (w := w) (base := base) T E FL' R_box R_thing R_made R_named R_fields R_classes R_caught
end My
namespace My
open PySem PySem.Spec PyProof.Rows L2
abbrev RR : PySem.W.OpenRow := PySem.W.OpenLaw.row PySem.Challenge.rw_backsheet_k99_exceptions
abbrev hk : PySem.W.Hook := hookX 4 extra fn
def ob (s : PySem.W.SharedT) : He.AlD := obsXG 4 extra fn (HandSHeadRun.getT s)
theorem ob_eq (s : PySem.W.SharedT) : ob s = hk.obs s.abs := obsXG_eq (HandSHeadRun.getT_eq s)
def loose : List Str := (["SheetError", "ZeroBottom", "InvalidNumber", "InvalidText", "FormulaSyntax", "NotLinear", "ZeroDivisor", "InvalidRow", "InvalidName", "DuplicateCell", "BadFormula", "UnknownCell"] : List Str) ++ (["CircularCell", "NotInput", "NotComputed", "InvalidTable", "CellInUse", "InvalidWish", "InvalidLimit", "EmptyLimit", "UnknownCondition", "InvalidWeights", "UnknownSide", "InvalidMove"] : List Str) ++ (["InvalidForm", "UnlikeCells", "AlreadyHeld", "NotHeld", "NoLimit", "Refused", "RolesKept", "NoMark", "NothingToUndo", "NothingToRedo", "InvalidOperation", "BadText"] : List Str) ++ (["BadCommand", "_law_box", "_law_mixed", "_law_take", "_law_thing", "_law_made", "_law_named", "_law_fields", "_law_classes", "_law_raise_more", "_law_raise_one", "_law_raise_other"] : List Str) ++ (["_law_raise_bare", "_law_caught"] : List Str)
theorem run (w : World) : HandSHeadRun.RunEq RR (PySem.W.view RR.prog [52]) hk ob 20000 loose w := by
  intro os
  kernel_rfl
end My
open PySem PySem.W PySem.Calls PyProof.Rows
theorem PySem.Challenge.cw_backsheet_k99_exceptions_holds : PySem.Challenge.rw_backsheet_k99_exceptions.Holds := by
  w_on; o_law
  refine HandSHeadRun.head_any (r := OpenLaw.row PySem.Challenge.rw_backsheet_k99_exceptions) (q := view (OpenLaw.row PySem.Challenge.rw_backsheet_k99_exceptions).prog [52]) (H := My.hk) (ob := My.ob) (M := 20000) (loose := My.loose) (d := HandSHeadRun.topDef (OpenLaw.row PySem.Challenge.rw_backsheet_k99_exceptions).prog 52) (kwd := []) My.ob_eq
    (by kernel_rfl) (fun s => by kernel_rfl) My.run (by kernel_rfl) (by kernel_rfl) (by kernel_rfl) (by rfl) (by first | assumption | decide +kernel) (by decide +kernel) ⟨rfl, rfl, rfl, rfl, rfl, by decide +kernel⟩ ?hw ?hc
  case hw => w_witness2
  case hc =>
    refine L2.walk_ofE (l := PySem.Challenge.rw_backsheet_k99_exceptions) (n := 63) (k := 5) (x := "_law_script") (CX := L2.CX0) rfl (by decide) (by kernel_rfl) ⟨rfl, by decide, by decide⟩ ?F (fun _ _ _ _ z => z)
    intro w mg fa h Y G hmg0
    obtain ⟨K, KX, c⟩ := Y
    have hmg : mg ("law" : PySem.Str) = some (.ref fa) := by
      have e : (HandSHeadRun.topDef (OpenLaw.row PySem.Challenge.rw_backsheet_k99_exceptions).prog 52).name = ("law" : PySem.Str) := by kernel_rfl
      rw [← e]
      exact hmg0
    obtain ⟨fd, hb, hF⟩ := My.facts (P := (PySem.Challenge.rw_backsheet_k99_exceptions).prog) (w := w) KX G hmg c
    exact ⟨K, fd, My.spLaw K, KX, hb, fun H a ns hl _ hS => ⟨a, ns, rfl, hS, hl, fun _ => rfl⟩, hF⟩
