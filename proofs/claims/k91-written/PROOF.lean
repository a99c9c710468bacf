import PyProof.Rows.All
import Wide.All
import OpenK.AllK
import Wide.FinOn
import HandS.ForMost
import HandS.ForExc
import HandS.Wide
import HandS.Deep
import HandS.IsInst
import HandS.Codes
import HandS.Lambda
import HandS.ExcField
import HandS.TryOnly
import HandS.ExcOwn
import PySem.Challenge.RW_backsheet_k91_tables_and_limits_written
import HandS.Defaults
import HandS.ExcInit
import HandS.Style
import HandS.NoneIn
import HandS.Conv
import HandS.StrSplit
import HandS.More
import HandS.Zip0
import PyProof.StrBlock2
import KE.KUnpackStar
import KE.KDictZip
import HandS.Walk
import KE.IntTextLaws
import PyProof.EqLayable
import PyProof.P3Eq
set_option Elab.async false
set_option linter.all false
set_option maxRecDepth 100000
set_option maxHeartbeats 8000000
/-! Lay: data read beside the objects that change; packages of defs that may be called. -/
namespace My
open PySem PySem.Spec PyProof.Rows L2

theorem room65 {k : Nat} {A : Around} (r : Room k A) : A.units + 65 < cLine := by have := r.un; omega
theorem room1 {k : Nat} {A : Around} (r : Room k A) : A.units + 1 < cLine := by have := r.un; omega
/-! ### the heap without some addresses -/
def dl (S : List Addr) (H : Hp) : Hp := fun b => if b ∈ S then none else H b
theorem dl_in {S : List Addr} {H : Hp} {b : Addr} (h : b ∈ S) : dl S H b = none := if_pos h
theorem dl_out {S : List Addr} {H : Hp} {b : Addr} (h : b ∉ S) : dl S H b = H b := if_neg h
theorem dl_nil {H : Hp} : dl [] H = H := by funext b; exact dl_out (by simp)
theorem dl_none {S : List Addr} {H : Hp} {b : Addr} (h : H b = none) : dl S H b = none := by
  unfold dl; split
  · rfl
  · exact h
theorem dl_some {S : List Addr} {H : Hp} {b : Addr} {o : HO} (h : dl S H b = some o) : H b = some o ∧ b ∉ S := by
  by_cases hb : b ∈ S
  · rw [dl_in hb] at h; cases h
  · rw [dl_out hb] at h; exact ⟨h, hb⟩
theorem dl_sub (S : List Addr) (H : Hp) : Same (dl S H) H := fun b o h => (dl_some h).1
theorem dl_mono {S T : List Addr} {H : Hp} (h : ∀ a ∈ S, a ∈ T) : Same (dl T H) (dl S H) := fun b o e => by
  obtain ⟨e1, e2⟩ := dl_some e
  rw [dl_out (fun z => e2 (h b z))]; exact e1
theorem dl_same {S : List Addr} {H H' : Hp} (h : Same H H') : Same (dl S H) (dl S H') := fun b o e => by
  obtain ⟨e1, e2⟩ := dl_some e
  rw [dl_out e2]; exact h b o e1
theorem dl_upd_in {S : List Addr} {H : Hp} {a : Addr} {o : HO} (h : a ∈ S) : dl S (upd H a o) = dl S H := by
  funext b
  by_cases hb : b ∈ S
  · rw [dl_in hb, dl_in hb]
  · rw [dl_out hb, dl_out hb, upd_ne (fun z => hb (by rw [z]; exact h))]
theorem dl_upd_out {S : List Addr} {H : Hp} {a : Addr} {o : HO} (h : a ∉ S) : dl S (upd H a o) = upd (dl S H) a o := by
  funext b
  by_cases hb : b = a
  · subst hb; rw [dl_out h, upd_same, upd_same]
  · rw [upd_ne hb]
    by_cases hs : b ∈ S
    · rw [dl_in hs, dl_in hs]
    · rw [dl_out hs, dl_out hs, upd_ne hb]
theorem same_upd {H : Hp} {a : Addr} {o : HO} (h : H a = none) : Same H (upd H a o) := fun b u e => by
  rw [upd_ne (ne_of_none e h)]; exact e
/-- all that is tracked stays but what stands at S -/
def SameB (S : List Addr) (H H' : Hp) : Prop := Same (dl S H) (dl S H')
theorem SameB.refl {S : List Addr} {H : Hp} : SameB S H H := Same.refl _
theorem SameB.trans {S : List Addr} {H H1 H2 : Hp} (a : SameB S H H1) (b : SameB S H1 H2) : SameB S H H2 := Same.trans a b
theorem SameB.of {S : List Addr} {H H' : Hp} (h : Same H H') : SameB S H H' := dl_same h
theorem SameB.at {S : List Addr} {H H' : Hp} (h : SameB S H H') {b : Addr} {o : HO} (e : H b = some o) (n : b ∉ S) : H' b = some o := by
  have := h b o (by rw [dl_out n]; exact e)
  exact (dl_some this).1
theorem SameB.mono {S T : List Addr} {H H' : Hp} (a : SameB S H H') (h : ∀ x ∈ S, x ∈ T) : SameB T H H' := fun b o e => by
  obtain ⟨e1, e2⟩ := dl_some e
  rw [dl_out e2]
  exact a.at e1 fun z => e2 (h b z)
theorem SameB.upd_in {S : List Addr} {H : Hp} {a : Addr} {o : HO} (h : a ∈ S) : SameB S H (upd H a o) := by
  unfold SameB; rw [dl_upd_in h]; exact Same.refl _
theorem SameB.upd_new {S : List Addr} {H : Hp} {a : Addr} {o : HO} (h : H a = none) : SameB S H (upd H a o) := .of (same_upd h)
theorem SameB.nil {H H' : Hp} (h : SameB [] H H') : Same H H' := by
  unfold SameB at h; rw [dl_nil, dl_nil] at h; exact h
theorem SameB.free {S : List Addr} {H H' : Hp} (h : SameB S H H') {p : Addr} (e : H' p = none) (n : p ∉ S) : H p = none := by
  cases q : H p with
  | none => rfl
  | some o => rw [h.at q n] at e; cases e

/-! ### data -/
theorem sameT {K : PySem.W.Frag} {H H' : Hp} {a : Addr} {xs : List V} (e : Same H H') (h : SqT K H a xs) : SqT K H' a xs := by
  rcases h with (h | ⟨o, h⟩) | h
  · exact .inl (.inl (e _ _ h))
  · exact .inl (.inr ⟨o, e _ _ h⟩)
  · exact .inr h
section
variable {K : PySem.W.Frag} {H H' : Hp}
theorem dp_same (e : Same H H') : ∀ {v : V} {d : PyData}, Dp K H v d → Dp K H' v d := fun {v d} h =>
  Dp.rec (motive_1 := fun v d _ => Dp K H' v d) (motive_2 := fun vs ds _ => DpAll K H' vs ds)
    .non .bl .int .str (fun s _ ih => .lst (e.seq s) ih) (fun s _ ih => .tup (sameT e s) ih) .nil (fun _ _ i1 i2 => .cons i1 i2) h
theorem dps_same (e : Same H H') : ∀ {vs : List V} {ds : List PyData}, DpAll K H vs ds → DpAll K H' vs ds
  | _, _, .nil => .nil
  | _, _, .cons a b => .cons (dp_same e a) (dps_same e b)
theorem dps_len : ∀ {vs : List V} {ds : List PyData}, DpAll K H vs ds → vs.length = ds.length
  | _, _, .nil => rfl
  | _, _, .cons a b => by simp [dps_len b]
theorem dps_get : ∀ {vs : List V} {ds : List PyData} {i : Nat} {v : V}, DpAll K H vs ds → vs[i]? = some v → ∃ d, ds[i]? = some d ∧ Dp K H v d
  | _, _, _, _, .nil, h => by simp at h
  | _, _, 0, _, .cons a b, h => by simp at h; subst h; exact ⟨_, rfl, a⟩
  | _, _, i + 1, _, .cons a b, h => by
    obtain ⟨d, h1, h2⟩ := dps_get (i := i) b (by simpa using h)
    exact ⟨d, by simpa using h1, h2⟩
theorem dps_app : ∀ {vs ws : List V} {ds es : List PyData}, DpAll K H vs ds → DpAll K H ws es → DpAll K H (vs ++ ws) (ds ++ es)
  | _, _, _, _, .nil, h => h
  | _, _, _, _, .cons a b, h => .cons a (dps_app b h)
theorem dps_one {v : V} {d : PyData} (h : Dp K H v d) : DpAll K H [v] [d] := .cons h .nil
theorem dps_take : ∀ {vs : List V} {ds : List PyData} (n : Nat), DpAll K H vs ds → DpAll K H (vs.take n) (ds.take n)
  | _, _, 0, _ => by simp; exact .nil
  | _, _, n + 1, .nil => by simp; exact .nil
  | _, _, n + 1, .cons a b => by simp; exact .cons a (dps_take n b)
theorem dps_drop : ∀ {vs : List V} {ds : List PyData} (n : Nat), DpAll K H vs ds → DpAll K H (vs.drop n) (ds.drop n)
  | _, _, 0, h => by simpa using h
  | _, _, n + 1, .nil => by simp; exact .nil
  | _, _, n + 1, .cons a b => by simp; exact dps_drop n b
theorem dp_int {v : V} {i : Int} (h : Dp K H v (.int i)) : v = .int i := by cases h; rfl
theorem dp_str {v : V} {i : Str} (h : Dp K H v (.str i)) : v = .str i := by cases h; rfl
theorem dp_bl {v : V} {i : Bool} (h : Dp K H v (.bool i)) : v = .bl i := by cases h; rfl
theorem dp_non {v : V} (h : Dp K H v .none) : v = .non := by cases h; rfl
theorem dp_tup {v : V} {ds : List PyData} (h : Dp K H v (.tuple ds)) : ∃ a xs, v = .ref a ∧ SqT K H a xs ∧ DpAll K H xs ds := by
  cases h with
  | tup s a => exact ⟨_, _, rfl, s, a⟩
theorem dp_lst {v : V} {ds : List PyData} (h : Dp K H v (.list ds)) : ∃ a xs, v = .ref a ∧ SqL K H a xs ∧ DpAll K H xs ds := by
  cases h with
  | lst s a => exact ⟨_, _, rfl, s, a⟩
theorem dps_strs : ∀ {vs : List V} {ss : List Str}, DpAll K H vs (ss.map PyData.str) → vs = ss.map V.str
  | _, [], .nil => rfl
  | _, s :: ss, .cons a b => by rw [dp_str a, dps_strs b]; rfl
theorem dps_of_strs : ∀ (ss : List Str), DpAll K H (ss.map V.str) (ss.map PyData.str)
  | [] => .nil
  | s :: ss => .cons (.str s) (dps_of_strs ss)
theorem dps_ints : ∀ {vs : List V} {ss : List Int}, DpAll K H vs (ss.map PyData.int) → vs = ss.map V.int
  | _, [], .nil => rfl
  | _, s :: ss, .cons a b => by rw [dp_int a, dps_ints b]; rfl
theorem dps_of_ints : ∀ (ss : List Int), DpAll K H (ss.map V.int) (ss.map PyData.int)
  | [] => .nil
  | s :: ss => .cons (.int s) (dps_of_ints ss)
theorem dps_bls : ∀ {vs : List V} {ss : List Bool}, DpAll K H vs (ss.map PyData.bool) → vs = ss.map V.bl
  | _, [], .nil => rfl
  | _, s :: ss, .cons a b => by rw [dp_bl a, dps_bls b]; rfl
theorem dps_nil {vs : List V} (h : DpAll K H vs []) : vs = [] := by cases h; rfl
theorem dps_cons {vs : List V} {d : PyData} {ds : List PyData} (h : DpAll K H vs (d :: ds)) : ∃ v r, vs = v :: r ∧ Dp K H v d ∧ DpAll K H r ds := by
  cases h with
  | cons a b => exact ⟨_, _, rfl, a, b⟩
theorem dps_1 {vs : List V} {a : PyData} (h : DpAll K H vs [a]) : ∃ x, vs = [x] ∧ Dp K H x a := by
  obtain ⟨x, r, rfl, h1, h2⟩ := dps_cons h
  cases dps_nil h2
  exact ⟨x, rfl, h1⟩
theorem dps_2 {vs : List V} {a b : PyData} (h : DpAll K H vs [a, b]) : ∃ x y, vs = [x, y] ∧ Dp K H x a ∧ Dp K H y b := by
  obtain ⟨x, r, rfl, h1, h2⟩ := dps_cons h
  obtain ⟨y, rfl, h3⟩ := dps_1 h2
  exact ⟨x, y, rfl, h1, h3⟩
theorem dps_3 {vs : List V} {a b c : PyData} (h : DpAll K H vs [a, b, c]) : ∃ x y z, vs = [x, y, z] ∧ Dp K H x a ∧ Dp K H y b ∧ Dp K H z c := by
  obtain ⟨x, r, rfl, h1, h2⟩ := dps_cons h
  obtain ⟨y, z, rfl, h3, h4⟩ := dps_2 h2
  exact ⟨x, y, z, rfl, h1, h3, h4⟩
end

/-! ### a def that stands in the text; a def that may be called -/
structure Dfn (K : PySem.W.Frag) (mg : Str → Option Value) (x : Str) (st : Stmt) : Prop where
  ex : ∃ f fd, Fun K x x st f fd ∧ mg x = some (.ref f)
structure Rdy (P : Program) (w : World) (K : PySem.W.Frag) (mg : Str → Option Value) (base : Heap) (CX : CXT) (k : Nat) (x : Str) (ps : List Str) (sp : Sp) : Prop where
  ex : ∃ f fd, mg x = some (.ref f) ∧ PySem.W.keepIn K (.ref f) = true ∧ Binds K fd ps [] ∧ FnOk P w K mg base CX k f fd ps sp
section
variable {P : Program} {w : World} {K : PySem.W.Frag} {mg : Str → Option Value} {base : Heap}
theorem Dfn.rdy {x : Str} {st : Stmt} {N ps : List Str} {k : Nat} {sp : Sp} (F : Dfn K mg x st) (S : FnScope N ps (defScope st))
    (hb : ∀ (kV doc pm : Value) (an : Option Addr) (cdv ct : Value) (us : List Value), us.length = ps.length → bindArgs (PySem.W.fnOf x x (defArgs st) (defBody st) (defScope st) .none kV doc pm an cdv ct) ⟨us, []⟩ = pure (ps.zip us))
    (len : ∀ vs H Q E, sp vs H Q E → vs.length = ps.length)
    (hbody : ∀ (f : Addr) (cdv : Value) (A : Around) (outer : List Env) (s : Shared) (H : Hp) (vs : List V) (Q : VK) (E : XK), Room k (A.deeper (envOfC x (defScope st) s.heap.objs.size f cdv)) → sp vs H Q E →
      ∃ t, PSs (cxOf CX0 P w K mg base N x (defScope st) f cdv A outer s H E).nox (defBody st) t ∧ t { nx := fun _ H' => Q .non H', rt := Q } (start N vs) H) : Rdy P w K mg base CX0 (k + 1) x ps sp := by
  obtain ⟨f, fd, F, hm⟩ := F.ex
  exact ⟨f, fd, hm, F.kp, F.binds hb, F.ok S len (hbody f)⟩
theorem Dfn.rdyX {x : Str} {st : Stmt} {N ps : List Str} {k : Nat} {sp : Sp} (F : Dfn K mg x st) (S : FnScope N ps (defScope st))
    (hb : ∀ (kV doc pm : Value) (an : Option Addr) (cdv ct : Value) (us : List Value), us.length = ps.length → bindArgs (PySem.W.fnOf x x (defArgs st) (defBody st) (defScope st) .none kV doc pm an cdv ct) ⟨us, []⟩ = pure (ps.zip us))
    (len : ∀ vs H Q E, sp vs H Q E → vs.length = ps.length)
    (hbody : ∀ (f : Addr) (cdv : Value) (A : Around) (outer : List Env) (s : Shared) (H : Hp) (vs : List V) (Q : VK) (E : XK), Room k (A.deeper (envOfC x (defScope st) s.heap.objs.size f cdv)) → sp vs H Q E →
      ∃ t, PSs (cxOf (L2.CX P w) P w K mg base N x (defScope st) f cdv A outer s H E) (defBody st) t ∧ t { nx := fun _ H' => Q .non H', rt := Q } (start N vs) H) : Rdy P w K mg base (L2.CX P w) (k + 1) x ps sp := by
  obtain ⟨f, fd, F, hm⟩ := F.ex
  exact ⟨f, fd, hm, F.kp, F.binds hb, F.okX S len (hbody f)⟩
end
section
variable {X : Cx} {CX : CXT} {k : Nat} {ps : List Str} {sp : Sp} {E : XK} {x : Str} {p pos : Pos} {e : Expr} {es : List Expr} {t : TA}
theorem pe_cl (R : Rdy X.prog X.w X.K X.mg X.base CX k x ps sp) (hr : Room k X.A) (hx : Passes CX X E) (ha : PA X (e :: es) t) (hg : Gl X x := by rfl) (hdb : (x == ("__debug__" : Str)) = false := by decide)
    (he : starEach (e :: es) X.env = (false, eval e X.env) :: starEach es X.env := by rfl) (hpl : (backTo pos (starEach es X.env)).any (·.1) = false := by rfl) :
    PE X (.Call (.Name x p) (e :: es) [] pos) (tCall sp [] E t) := by
  obtain ⟨f, fd, hm, hk, hb, F⟩ := R.ex
  exact pe_call F hr hg hm hk hb .nil hx ha hdb he hpl
theorem pe_cl0 (R : Rdy X.prog X.w X.K X.mg X.base CX k x ps sp) (hr : Room k X.A) (hx : Passes CX X E) (hg : Gl X x := by rfl) (hdb : (x == ("__debug__" : Str)) = false := by decide) :
    PE X (.Call (.Name x p) [] [] pos) (tCall sp [] E tNil) := by
  obtain ⟨f, fd, hm, hk, hb, F⟩ := R.ex
  exact pe_call0 F hr hg hm hk hb .nil hx hdb
/-- a def that may raise, called where W is wished of what it raises -/
theorem pe_clS {W : WX} (R : Rdy X.prog X.w X.K X.mg X.base (L2.CX X.prog X.w) k x ps sp) (hr : Room k X.A) (tk : Takes X W) (ha : PA X (e :: es) t) (hg : Gl X x := by rfl) (hdb : (x == ("__debug__" : Str)) = false := by decide)
    (he : starEach (e :: es) X.env = (false, eval e X.env) :: starEach es X.env := by rfl) (hpl : (backTo pos (starEach es X.env)).any (·.1) = false := by rfl) :
    PE X (.Call (.Name x p) (e :: es) [] pos) (tCallS sp (WE W) t) := by
  obtain ⟨f, fd, hm, hk, hb, F⟩ := R.ex
  exact pe_callS F hr hg hm hk hb (fun σ => passAt tk σ) ha hdb he hpl
end

/-! ### readings -/
section
variable {K : PySem.W.Frag} {H : Hp} {Q : VK}
theorem new_of {p : Addr} {o : HO} {H' : Hp} (hp : H p = none) (e : upd H p o = H') : Same H H' ∧ H' p = some o := by subst e; exact ⟨same_upd hp, upd_same⟩
theorem rd_ixL {p : Addr} {xs : List V} {i : Int} {v : V} (h : H p = some (.lst xs)) (e : atI xs i = some v) (q : Q v H) : rIxL K (.ref p) (.int i) H Q := ⟨p, xs, i, v, rfl, rfl, SqL.of h, e, q⟩
theorem rd_ixL' {p : Addr} {xs : List V} {i : Int} {v : V} (h : SqL K H p xs) (e : atI xs i = some v) (q : Q v H) : rIxL K (.ref p) (.int i) H Q := ⟨p, xs, i, v, rfl, rfl, h, e, q⟩
theorem rd_ixT {p : Addr} {xs : List V} {i : Int} {v : V} (h : SqT K H p xs) (e : atI xs i = some v) (q : Q v H) : rIxT K (.ref p) (.int i) H Q := ⟨p, xs, i, v, rfl, rfl, h, e, q⟩
/-- a new object: the heap behind it -/
theorem rd_new {R : Addr → Hp → Prop} {o : HO} (q : ∀ p H', H p = none → Same H H' → H' p = some o → R p H') : ∀ p, H p = none → R p (upd H p o) := fun p hp => q p _ hp (same_upd hp) upd_same
/-- an object written: the heap behind it -/
theorem rd_set {R : Hp → Prop} {p : Addr} {o : HO} (q : ∀ H', SameB [p] H H' → H' p = some o → R H') : R (upd H p o) := q _ (.upd_in (by simp)) upd_same
theorem rd_setL {p : Addr} {xs : List V} {k : Int} {j : Nat} {v : V} {Q : Hp → Prop} (h : H p = some (.lst xs)) (e : ixN xs.length k = some j) (q : ∀ H', SameB [p] H H' → H' p = some (.lst (xs.set j v)) → Q H') : rSetL (.ref p) (.int k) v H Q := ⟨p, xs, k, j, rfl, rfl, h, e, rd_set (R := Q) q⟩
theorem rd_popAt {l : Addr} {xs : List V} {i : Int} {k : Nat} {y : V} (h : H l = some (.lst xs)) (h1 : -(2 ^ 63) ≤ i) (h2 : i < 2 ^ 63) (e : seqIndex? i xs.length = some k) (hy : xs[k]? = some y) (q : ∀ H', SameB [l] H H' → H' l = some (.lst (xs.eraseIdx k)) → Q y H') : rPopAt (.ref l) [.int i] H Q := ⟨l, xs, i, k, y, rfl, rfl, h, h1, h2, e, hy, rd_set (R := Q y) q⟩
theorem rd_cat {l b : Addr} {xs zs : List V} (hl : H l = some (.lst xs)) (hb : H b = some (.lst zs)) (hz : xs.length + zs.length ≤ 1000000) (q : ∀ p H', H p = none → Same H H' → H' p = some (.lst (xs ++ zs)) → Q (.ref p) H') : rCat (.ref l) (.ref b) H Q :=
  ⟨l, b, xs, zs, rfl, rfl, hl, hb, (by rw [sizeLine_eq]; omega), rd_new (R := fun p H' => Q (.ref p) H') q⟩
theorem rd_append {l : Addr} {xs : List V} {y : V} (h : H l = some (.lst xs)) (hz : xs.length ≤ 1000000) (q : ∀ H', SameB [l] H H' → H' l = some (.lst (xs ++ [y])) → Q .non H') : rAppend (.ref l) [y] H Q := ⟨l, xs, y, rfl, rfl, h, (by rw [sizeLine_eq]; omega), rd_set (R := Q .non) q⟩
theorem rd_lenL {p : Addr} {xs : List V} {R : Nat → Prop} (h : SqL K H p xs) (q : R xs.length) : ∃ n, LenV K (.ref p) H n ∧ R n := ⟨_, .inl ⟨_, h, rfl⟩, q⟩
theorem rd_lenT {p : Addr} {xs : List V} {R : Nat → Prop} (h : SqT K H p xs) (q : R xs.length) : ∃ n, LenV K (.ref p) H n ∧ R n := ⟨_, .inr ⟨_, h, rfl⟩, q⟩
theorem rd_lenS {z : Str} {R : Nat → Prop} (h : z.length ≤ 1000000) (q : R z.length) : ∃ n, LenV K (.str z) H n ∧ R n := ⟨_, ⟨by rw [sizeLine_eq]; omega, rfl⟩, q⟩
theorem size_le {n : Nat} (h : n ≤ 1000000) : n ≤ sizeLine := by rw [sizeLine_eq]; omega
theorem atI_lt {α : Type} {xs : List α} {i : Int} (h0 : 0 ≤ i) (h : i < xs.length) : ∃ x, atI xs i = some x ∧ xs[i.toNat]? = some x := by
  have hl : i.toNat < xs.length := by omega
  refine ⟨xs[i.toNat], ?_, List.getElem?_eq_getElem hl⟩
  have := atI_nat (xs := xs) (j := i.toNat) (List.getElem?_eq_getElem hl)
  rwa [show ((i.toNat : Nat) : Int) = i by omega] at this
theorem atI_map {α β : Type} {xs : List α} {g : α → β} {i : Int} (h0 : 0 ≤ i) (h : i < xs.length) : ∃ x, xs[i.toNat]? = some x ∧ atI (xs.map g) i = some (g x) := by
  have hl : i.toNat < xs.length := by omega
  refine ⟨xs[i.toNat], List.getElem?_eq_getElem hl, ?_⟩
  have := atI_nat (xs := xs.map g) (j := i.toNat) (v := g xs[i.toNat]) (by simp [List.getElem?_eq_getElem hl])
  rwa [show ((i.toNat : Nat) : Int) = i by omega] at this
/-- a test's reading, and what follows from what it gives -/
def tMonoT (c : TT) : TT := fun σ H Q => ∃ R, c σ H R ∧ ∀ b H1, R b H1 → Q b H1
theorem pt_mono {X : Cx} {e : Expr} {c : TT} (h : PT X e c) : PT X e (tMonoT c) := ⟨fun pins s σ H Q I q => by
  obtain ⟨R, h1, h2⟩ := q
  exact thn (h.run pins s σ H R I h1) fun b s1 ⟨H1, I1, q⟩ => ⟨H1, I1, h2 _ _ q⟩⟩
/-- a while by its word: W falls at each turn -/
theorem rd_while {c : TT} {tb : TS} {D : Ends} {σ : L2.St} {H : Hp} (W : Nat → L2.St → Hp → Prop) (m : Nat) (h0 : W m σ H)
    (hs : ∀ (m : Nat) (σ : L2.St) (H : Hp), W m σ H → c σ H fun b H1 => if b = true then tb { D with nx := fun σ' H' => ∃ m', m' < m ∧ W m' σ' H', ct := fun σ' H' => ∃ m', m' < m ∧ W m' σ' H', bk := D.nx } σ H1 else D.nx σ H1) : tWhile (tMonoT c) tb D σ H := by
  refine ⟨W, ⟨m, h0⟩, fun m σ H hw => ⟨_, hs m σ H hw, fun b H1 q => ?_⟩⟩
  cases b with
  | true => rw [if_pos rfl] at q; rw [if_pos rfl]; exact ⟨_, fun σ' H' h => h, q⟩
  | false => rw [if_neg Bool.false_ne_true] at q; rw [if_neg Bool.false_ne_true]; exact q
end
theorem scal_ii (i j : Int) : scal (.int i) (.int j) = true := rfl
theorem scal_ss (i j : Str) : scal (.str i) (.str j) = true := rfl
theorem scal_bb (i j : Bool) : scal (.bl i) (.bl j) = true := rfl
theorem scal_nn : scal .non .non = true := rfl
theorem scal_in (i : Int) : scal (.int i) .non = true := rfl
theorem scal_ni (i : Int) : scal .non (.int i) = true := rfl
theorem scal_sn (i : Str) : scal (.str i) .non = true := rfl
theorem scal_ns (i : Str) : scal .non (.str i) = true := rfl
theorem scal_is (i : Int) (j : Str) : scal (.int i) (.str j) = true := rfl
theorem scal_si (i : Int) (j : Str) : scal (.str j) (.int i) = true := rfl
theorem cx_K {CX : CXT} {P : Program} {w : World} {K : PySem.W.Frag} {mg : Str → Option Value} {base : Heap} {N : List Str} {qual : Str} {sc : Scope} {f : Addr} {cd : Value} {A : Around} {outer : List Env} {s : Shared} {H : Hp} {E : XK} : (cxOf CX P w K mg base N qual sc f cd A outer s H E).K = K := rfl
end My
namespace My
open PySem PySem.Spec PyProof.Rows L2
def topS (i : Nat) : Stmt := PySem.Challenge.pw_backsheet_k91_tables_and_limits_written.main.body.getD i (.Pass ⟨0, 0, 0, 0⟩)
abbrev s_box : Stmt := topS 41
abbrev s_mixed : Stmt := topS 42
abbrev s_take : Stmt := topS 43
abbrev s_is_integer : Stmt := topS 10
abbrev s_common_divisor : Stmt := topS 11
abbrev s_is_ratio : Stmt := topS 12
abbrev s_as_ratio : Stmt := topS 13
abbrev s_ratio : Stmt := topS 14
abbrev s_times : Stmt := topS 15
abbrev s_multiply : Stmt := topS 16
abbrev s_digits_of : Stmt := topS 17
abbrev s_number_of : Stmt := topS 18
abbrev s_ratio_text : Stmt := topS 19
abbrev s_is_digits : Stmt := topS 20
abbrev s_read_unsigned : Stmt := topS 21
abbrev s_read_ratio : Stmt := topS 22
abbrev s_is_name : Stmt := topS 27
abbrev s_number_or_none : Stmt := topS 30
abbrev s_parts_of : Stmt := topS 31
abbrev s_without_bad : Stmt := topS 32
abbrev s_table_text : Stmt := topS 33
abbrev s_read_pair : Stmt := topS 34
abbrev s_read_table : Stmt := topS 35
abbrev s_limit_text : Stmt := topS 36
abbrev s_limits_text : Stmt := topS 37
abbrev s_read_limit : Stmt := topS 38
abbrev s_read_limits : Stmt := topS 39
abbrev s_shuffled : Stmt := topS 44
abbrev s_names : Stmt := topS 45
abbrev s_shared : Stmt := topS 46
abbrev s_lratio : Stmt := topS 47
abbrev s_before : Stmt := topS 48
abbrev s_number : Stmt := topS 49
abbrev s_given : Stmt := topS 50
abbrev s_written : Stmt := topS 51
abbrev s_end_text : Stmt := topS 52
abbrev s_reading : Stmt := topS 53
abbrev s_bad_part : Stmt := topS 54
abbrev s_spoilt : Stmt := topS 55
abbrev s_bent_right : Stmt := topS 56
abbrev s_limit_of : Stmt := topS 57
abbrev s_told_again : Stmt := topS 58
abbrev s_law : Stmt := topS 59
abbrev s_iInvalidText : Stmt := inClass (topS 4) 0
abbrev s_iBadText : Stmt := inClass (topS 5) 0
/-- what the walk asks of the module's names -/
structure Txt (K : PySem.W.Frag) (mg : Str → Option Value) (aW aB : Addr) : Prop where
  b_len : mg "len" = none
  b_max : mg "max" = none
  b_abs : mg "abs" = none
  b_int : mg "int" = none
  b_str : mg "str" = none
  b_bool : mg "bool" = none
  b_tuple : mg "tuple" = none
  b_list : mg "list" = none
  b_dict : mg "dict" = none
  b_all : mg "all" = none
  b_isinstance : mg "isinstance" = none
  b_range : mg "range" = none
  b_zip : mg "zip" = none
  b_enumerate : mg "enumerate" = none
  b_sorted : mg "sorted" = none
  c_DIGITS : ∃ u, mg "DIGITS" = some u ∧ RelV (.str "0123456789") u
  c_GROUP : ∃ u, mg "GROUP" = some u ∧ RelV (.int 60) u
  c_WHOLE : ∃ u, mg "WHOLE" = some u ∧ RelV (.int (10 ^ 60)) u
  c_LETTERS : ∃ u, mg "LETTERS" = some u ∧ RelV (.str "abcdefghijklmnopqrstuvwxyz") u
  c_LONGEST_NAME : ∃ u, mg "LONGEST_NAME" = some u ∧ RelV (.int 8) u
  c_WORDS : ∃ u, mg "WORDS" = some u ∧ RelV (.ref aW) u
  c_BOUNDS : ∃ u, mg "BOUNDS" = some u ∧ RelV (.ref aB) u
  d_WORDS : ∀ H, SqT K H aW [.str "sum", .str "average"]
  d_BOUNDS : ∀ H, Dp K H (.ref aB) (.tuple [.tuple [], .tuple [.str "from"], .tuple [.str "to"], .tuple [.str "from", .str "to"]])
end My
/-! Dat: promises by data; isinstance of data; new tuples and lists of data. -/
namespace My
open PySem PySem.Spec PyProof.Rows L2
/-- each of these addresses is tracked -/
def Fr (S : List Addr) (H : Hp) : Prop := ∀ a ∈ S, ∃ o, H a = some o
theorem Fr.nil {H : Hp} : Fr [] H := fun a h => by cases h
theorem Fr.same {S : List Addr} {H H' : Hp} (h : Fr S H) (s : Same H H') : Fr S H' := fun a ha => let ⟨o, e⟩ := h a ha; ⟨o, s a o e⟩
theorem Fr.new {S : List Addr} {H : Hp} {p : Addr} (h : Fr S H) (hp : H p = none) : p ∉ S := fun hm => by
  obtain ⟨o, e⟩ := h p hm; rw [hp] at e; cases e
theorem Fr.cons {S : List Addr} {H : Hp} {p : Addr} {o : HO} (h : Fr S H) (hp : H p = some o) : Fr (p :: S) H := fun a ha => by
  rcases List.mem_cons.mp ha with e | ha
  · subst e; exact ⟨_, hp⟩
  · exact h a ha
theorem Fr.tail {S : List Addr} {H : Hp} {p : Addr} (h : Fr (p :: S) H) : Fr S H := fun a ha => h a (List.mem_cons_of_mem _ ha)
/-- a promise by data -/
def spD (K : PySem.W.Frag) (R : List PyData → PyData → Prop) : Sp := fun vs H Q _ => ∃ (S : List Addr) (ds : List PyData) (r : PyData), Fr S H ∧ DpAll K (dl S H) vs ds ∧ R ds r ∧ ∀ v H', Same H H' → Dp K (dl S H') v r → Q v H'
theorem spD_len {K : PySem.W.Frag} {R : List PyData → PyData → Prop} {n : Nat} (h : ∀ ds r, R ds r → ds.length = n) : ∀ vs H Q E, spD K R vs H Q E → vs.length = n := by
  rintro vs H Q E ⟨S, ds, r, _, hd, hR, _⟩
  rw [dps_len hd]; exact h ds r hR
section
variable {K : PySem.W.Frag} {H : Hp} {Q : VK} {E : XK} {S : List Addr}
theorem rd_D {R : List PyData → PyData → Prop} {vs : List V} {ds : List PyData} {r : PyData} (hF : Fr S H) (hd : DpAll K (dl S H) vs ds) (hR : R ds r) (q : ∀ v H', Same H H' → Dp K (dl S H') v r → Q v H') : spD K R vs H Q E := ⟨S, ds, r, hF, hd, hR, q⟩
/-- a new tuple of data -/
theorem new_tup {p : Addr} {vs : List V} {ds : List PyData} {H' : Hp} (hF : Fr S H) (hp : H p = none) (e : upd H p (.tup vs) = H') (ha : DpAll K (dl S H) vs ds) : Same H H' ∧ Fr S H' ∧ Dp K (dl S H') (.ref p) (.tuple ds) := by
  have s := (new_of hp e).1
  refine ⟨s, hF.same s, .tup (SqT.of (by rw [dl_out (hF.new hp)]; exact (new_of hp e).2)) (dps_same (dl_same s) ha)⟩
theorem new_lst {p : Addr} {vs : List V} {ds : List PyData} {H' : Hp} (hF : Fr S H) (hp : H p = none) (e : upd H p (.lst vs) = H') (ha : DpAll K (dl S H) vs ds) : Same H H' ∧ Fr S H' ∧ Dp K (dl S H') (.ref p) (.list ds) := by
  have s := (new_of hp e).1
  refine ⟨s, hF.same s, .lst (SqL.of (by rw [dl_out (hF.new hp)]; exact (new_of hp e).2)) (dps_same (dl_same s) ha)⟩
theorem seqT_up {a : Addr} {xs : List V} (h : SqT K (dl S H) a xs) : SqT K H a xs := sameT (dl_sub S H) h
theorem seqL_up {a : Addr} {xs : List V} (h : SqL K (dl S H) a xs) : SqL K H a xs := (dl_sub S H).seq h
theorem dp_up {v : V} {d : PyData} (h : Dp K (dl S H) v d) : Dp K H v d := dp_same (dl_sub S H) h
end
/-! ### isinstance of data -/
def tyN : PyData → String
  | .none => "NoneType" | .bool _ => "bool" | .int _ => "int" | .str _ => "str" | .list _ => "list" | .tuple _ => "tuple" | .dict _ => "dict"
def isiS : String → String → Bool
  | "int", "int" => true | "bool", "int" => true | "bool", "bool" => true | "str", "str" => true | "list", "list" => true | "tuple", "tuple" => true
  | _, _ => false
def isiD (d : PyData) (c : String) : Bool := isiS (tyN d) c
theorem isi_none_int  : isiD .none "int" = false := rfl
theorem isi_none_bool  : isiD .none "bool" = false := rfl
theorem isi_none_str  : isiD .none "str" = false := rfl
theorem isi_none_list  : isiD .none "list" = false := rfl
theorem isi_none_tuple  : isiD .none "tuple" = false := rfl
theorem isi_bool_int (b : Bool) : isiD (.bool b) "int" = true := rfl
theorem isi_bool_bool (b : Bool) : isiD (.bool b) "bool" = true := rfl
theorem isi_bool_str (b : Bool) : isiD (.bool b) "str" = false := rfl
theorem isi_bool_list (b : Bool) : isiD (.bool b) "list" = false := rfl
theorem isi_bool_tuple (b : Bool) : isiD (.bool b) "tuple" = false := rfl
theorem isi_int_int (b : Int) : isiD (.int b) "int" = true := rfl
theorem isi_int_bool (b : Int) : isiD (.int b) "bool" = false := rfl
theorem isi_int_str (b : Int) : isiD (.int b) "str" = false := rfl
theorem isi_int_list (b : Int) : isiD (.int b) "list" = false := rfl
theorem isi_int_tuple (b : Int) : isiD (.int b) "tuple" = false := rfl
theorem isi_str_int (b : Str) : isiD (.str b) "int" = false := rfl
theorem isi_str_bool (b : Str) : isiD (.str b) "bool" = false := rfl
theorem isi_str_str (b : Str) : isiD (.str b) "str" = true := rfl
theorem isi_str_list (b : Str) : isiD (.str b) "list" = false := rfl
theorem isi_str_tuple (b : Str) : isiD (.str b) "tuple" = false := rfl
theorem isi_list_int (b : List PyData) : isiD (.list b) "int" = false := rfl
theorem isi_list_bool (b : List PyData) : isiD (.list b) "bool" = false := rfl
theorem isi_list_str (b : List PyData) : isiD (.list b) "str" = false := rfl
theorem isi_list_list (b : List PyData) : isiD (.list b) "list" = true := rfl
theorem isi_list_tuple (b : List PyData) : isiD (.list b) "tuple" = false := rfl
theorem isi_tuple_int (b : List PyData) : isiD (.tuple b) "int" = false := rfl
theorem isi_tuple_bool (b : List PyData) : isiD (.tuple b) "bool" = false := rfl
theorem isi_tuple_str (b : List PyData) : isiD (.tuple b) "str" = false := rfl
theorem isi_tuple_list (b : List PyData) : isiD (.tuple b) "list" = false := rfl
theorem isi_tuple_tuple (b : List PyData) : isiD (.tuple b) "tuple" = true := rfl
/- isiD_tt -/
def isIntD (d : PyData) : Bool := isiD d "int" && !isiD d "bool"
theorem isInt_none  : isIntD .none = false := rfl
theorem isInt_bool (b : Bool) : isIntD (.bool b) = false := rfl
theorem isInt_int (b : Int) : isIntD (.int b) = true := rfl
theorem isInt_str (b : Str) : isIntD (.str b) = false := rfl
theorem isInt_list (b : List PyData) : isIntD (.list b) = false := rfl
theorem isInt_tuple (b : List PyData) : isIntD (.tuple b) = false := rfl
theorem ty_dp {K : PySem.W.Frag} {H : Hp} {v : V} {d : PyData} (h : Dp K H v d) : TyX K H v (.type (tyN d)) := by
  cases h with
  | non => exact .base .non
  | bl b => exact .base (.bl b)
  | int i => exact .base (.int i)
  | str x => exact .base (.str x)
  | lst s a =>
    rcases s with (s | ⟨o, s⟩) | ⟨o, its, n, hk, hc, _⟩
    · exact .base (.lst s)
    · exact .base (.frz s)
    · exact .kList hk hc
  | tup s a =>
    rcases s with (s | ⟨o, s⟩) | ⟨o, its, n, hk, hc, _⟩
    · exact .base (.tup s)
    · exact .fTuple s
    · exact .kTuple hk hc
theorem kit_s : ∀ a ∈ ["NoneType", "bool", "int", "str", "list", "tuple"], ∀ c ∈ ["int", "bool", "str", "list", "tuple"], kitB a c = some (isiS a c) := by decide +kernel
theorem kit_d (d : PyData) (c : String) (h : c ∈ ["int", "bool", "str", "list", "tuple"]) (hd : ∀ k, d ≠ .dict k) : kitB (tyN d) c = some (isiD d c) := by
  cases d with
  | dict k => exact absurd rfl (hd k)
  | none => exact kit_s "NoneType" (by simp) c h
  | bool b => exact kit_s "bool" (by simp) c h
  | int b => exact kit_s "int" (by simp) c h
  | str b => exact kit_s "str" (by simp) c h
  | list b => exact kit_s "list" (by simp) c h
  | tuple b => exact kit_s "tuple" (by simp) c h
section
variable {K : PySem.W.Frag} {H : Hp} {Q : VK}
theorem rd_isi {v : V} {d : PyData} {c : String} (h : Dp K H v d) (hc : c ∈ ["int", "bool", "str", "list", "tuple"]) (q : Q (.bl (isiD d c)) H) : rIsi K [v, .ty c] H Q :=
  ⟨v, .ty c, .type (tyN d), .type c, _, rfl, .ty c, ty_dp h, kit_ty (kit_d d c hc (by rintro k rfl; cases h)), q⟩
end
theorem bltn_ty (x : String) : RelV (.ty x) (Value.type x) := rfl
/-! ### module constants -/
section
variable {X : Cx} {x : Str} {pos : Pos} {v : V}
theorem pe_gl (h : ∃ u, X.mg x = some u ∧ RelV v u) (hg : Gl X x := by rfl) (hd : (x == ("__debug__" : Str)) = false := by decide) : PE X (.Name x pos) (tC v) := by
  obtain ⟨u, hm, r⟩ := h
  exact pe_glob hg hm r hd
end
end My
namespace My
open PySem PySem.Spec PyProof.Rows L2
/-- a def with one default, an int -/
structure DfnD (K : PySem.W.Frag) (mg : Str → Option Value) (x : Str) (st : Stmt) (d : Int) : Prop where
  ex : ∃ f fd, FunD K x x (defArgs st) (defBody st) (defScope st) [.int d] [] f fd ∧ mg x = some (.ref f)
structure RdyD (P : Program) (w : World) (K : PySem.W.Frag) (mg : Str → Option Value) (base : Heap) (CX : CXT) (k : Nat) (x : Str) (ps : List Str) (d : Int) (sp : Sp) : Prop where
  ex : ∃ f fd, mg x = some (.ref f) ∧ PySem.W.keepIn K (.ref f) = true ∧ Binds K fd ps [] ∧ (∃ u, RelV (.int d) u ∧ Binds K fd ps [u]) ∧ FnOk P w K mg base CX k f fd ps sp
section
variable {P : Program} {w : World} {K : PySem.W.Frag} {mg : Str → Option Value} {base : Heap}
theorem DfnD.rdy {x : Str} {st : Stmt} {N : List Str} {p1 p2 : Str} {d : Int} {k : Nat} {sp : Sp} (F : DfnD K mg x st d) (S : FnScope N [p1, p2] (defScope st))
    (h1 : ∀ (T : Addr) (kV doc pm : Value) (an : Option Addr) (cdv ct : Value) (us its : List Value), us.length = 1 → its.length = 1 →
      ∃ k, bindArgs (PySem.W.fnOf x x (defArgs st) (defBody st) (defScope st) (.ref T) kV doc pm an cdv ct) ⟨us, []⟩ = seqItems? (.ref T) >>= k ∧ k (some its.toArray) = pure ([p1, p2].zip (us ++ its.drop 0)))
    (h2 : ∀ (T : Addr) (kV doc pm : Value) (an : Option Addr) (cdv ct : Value) (us its : List Value), us.length = 2 → its.length = 1 →
      ∃ k, bindArgs (PySem.W.fnOf x x (defArgs st) (defBody st) (defScope st) (.ref T) kV doc pm an cdv ct) ⟨us, []⟩ = seqItems? (.ref T) >>= k ∧ k (some its.toArray) = pure ([p1, p2].zip (us ++ its.drop 1)))
    (len : ∀ vs H Q E, sp vs H Q E → vs.length = 2)
    (hbody : ∀ (f : Addr) (cdv : Value) (A : Around) (outer : List Env) (s : Shared) (H : Hp) (vs : List V) (Q : VK) (E : XK), Room k (A.deeper (envOfC x (defScope st) s.heap.objs.size f cdv)) → sp vs H Q E →
      ∃ t, PSs (cxOf CX0 P w K mg base N x (defScope st) f cdv A outer s H E).nox (defBody st) t ∧ t { nx := fun _ H' => Q .non H', rt := Q } (start N vs) H) : RdyD P w K mg base CX0 (k + 1) x [p1, p2] d sp := by
  obtain ⟨f, fd, F, hm⟩ := F.ex
  obtain ⟨ds, r1, b1⟩ := F.binds1 (ps := [p1, p2]) 1 0 (by simp) (by simp) h1
  obtain ⟨es, r2, b2⟩ := F.binds1 (ps := [p1, p2]) 2 1 (by simp) (by simp) h2
  simp only [List.drop_zero, List.drop_succ_cons] at r1 r2
  cases r2
  cases r1 with
  | cons ru rn =>
    cases rn
    refine ⟨f, fd, hm, F.kp, b2, ⟨_, ru, b1⟩, F.ok S len fun cdv A outer s H vs Q E hr hsp => ?_⟩
    obtain ⟨t, h, q⟩ := hbody f cdv A outer s H vs Q E hr hsp
    exact ⟨t, h.nox, q⟩
end
section
variable {X : Cx} {k : Nat} {ps : List Str} {sp : Sp} {E : XK} {x : Str} {p pos : Pos} {e : Expr} {es : List Expr} {t : TA} {d : Int}
theorem pe_rt1 (R : RdyD X.prog X.w X.K X.mg X.base CX0 k x ps d sp) (hr : Room k X.A) (ha : PA X (e :: es) t) (hg : Gl X x := by rfl) (hdb : (x == ("__debug__" : Str)) = false := by decide)
    (he : starEach (e :: es) X.env = (false, eval e X.env) :: starEach es X.env := by rfl) (hpl : (backTo pos (starEach es X.env)).any (·.1) = false := by rfl) :
    PE X (.Call (.Name x p) (e :: es) [] pos) (tCall sp [.int d] E0 t) := by
  obtain ⟨f, fd, hm, hk, hb, ⟨u, ru, hb1⟩, F⟩ := R.ex
  exact pe_call F hr hg hm hk hb1 (.cons ru .nil) pass0 ha hdb he hpl
theorem pe_rt2 (R : RdyD X.prog X.w X.K X.mg X.base CX0 k x ps d sp) (hr : Room k X.A) (ha : PA X (e :: es) t) (hg : Gl X x := by rfl) (hdb : (x == ("__debug__" : Str)) = false := by decide)
    (he : starEach (e :: es) X.env = (false, eval e X.env) :: starEach es X.env := by rfl) (hpl : (backTo pos (starEach es X.env)).any (·.1) = false := by rfl) :
    PE X (.Call (.Name x p) (e :: es) [] pos) (tCall sp [] E0 t) := by
  obtain ⟨f, fd, hm, hk, hb, ⟨u, ru, hb1⟩, F⟩ := R.ex
  exact pe_call F hr hg hm hk hb .nil pass0 ha hdb he hpl
end
end My
/-! Exn: an own exception class X(B) whose __init__ says B.__init__(self, 'text') of an own base B without __init__, then self.f = f. -/
namespace My
open PySem PySem.Spec PyProof.Rows L2
/-- what the written part says of the base class: B.__init__ is ValueError's -/
structure BaseC (K : PySem.W.Frag) (mg : Str → Option Value) (x : Str) : Prop where
  ex : ∃ C0 : Addr, mg x = some (.ref C0) ∧ PySem.W.readsIn K C0 (.type "type") = true ∧ PySem.W.specialIn K (.ref C0) "__getattribute__" = some (some (.builtin "type.__getattribute__")) ∧
    PySem.W.findCls K (.ref C0) (.type "type") "__init__" = some (.val (.builtin "ValueError.__init__"))
section
variable {X : Cx} {x : Str} {e : Expr} {es : List Expr} {ta : TA} {p1 p2 pos : Pos}
theorem pe_clsinit {pl : Sem Bool} (B : BaseC X.K X.mg x) (ha : PA X (e :: es) ta) (hg : Gl X x := by rfl) (hdb : (x == ("__debug__" : Str)) = false := by decide)
    (hc : eval (.Call (.Attribute (.Name x p1) "__init__" p2) (e :: es) [] pos) X.env = (do
      let ov ← eval (.Name x p1) X.env
      standAt p2.atName
      let (f, first) ← holding [ov] (getMethod ov "__init__" pl)
      callWith pos f first (backTo pos (starEach (e :: es) X.env)) (backToKw pos (keywordEach [] X.env))) := by rfl)
    (he : starEach (e :: es) X.env = (false, eval e X.env) :: starEach es X.env := by rfl) (hpl : (backTo pos (starEach es X.env)).any (·.1) = false := by rfl) :
    PE X (.Call (.Attribute (.Name x p1) "__init__" p2) (e :: es) [] pos) (tVeI X.K ta) := by
  obtain ⟨C0, hm, rd, ga, vV⟩ := B.ex
  refine ⟨fun pins s σ H Q I h => ?_⟩
  refine PySem.W.methodCall_KW (ld_glob I hg hm ?_ hdb) hc
  refine PySem.W.method_cls I.kIn ga (PySem.W.cls_value I.kIn rd vV (by decide +kernel) ?_)
  show wpAny _ _ (callWith pos (Value.builtin "ValueError.__init__") [] (backTo pos (starEach (e :: es) X.env)) []) _ _ _
  refine PyProof.Rows.callWith_method1 (thn (ha.run pos pins _ σ H _ (I.tok _) h) fun us s1 ⟨vs, H1, I1, r1, a, C, ws, ev, hl, T, ea, q⟩ => ?_) he hpl
  subst ev
  cases r1 with
  | @cons _ u0 _ ur ra rw' =>
    obtain rfl : u0 = Value.ref a := ra
    have hlen : ur.length ≤ sizeLine := by
      rw [← Paired.length rw', sizeLine_eq]
      omega
    exact oinit_ok T I1 ea hlen fun s' J => ⟨.non, H1, J, rfl, q⟩
end
section
variable {X : Cx} {es : List Expr} {ta : TA} {e : Expr} {te : TE}
/-- any argument list's reading, and what follows from what it gives -/
def tMonoA (ta : TA) : TA := fun σ H Q => ∃ R, ta σ H R ∧ ∀ vs H1, R vs H1 → Q vs H1
theorem pa_mono (ha : PA X es ta) : PA X es (tMonoA ta) := ⟨fun pos pins s σ H Q I h => by
  obtain ⟨R, h1, h2⟩ := h
  exact thn (ha.run pos pins s σ H R I h1) fun us s1 ⟨vs, H1, I1, r, q⟩ => ⟨vs, H1, I1, r, h2 _ _ q⟩⟩
end
/-- an own exception class x with one field f, as it stands behind the top -/
structure Exc1 (K : PySem.W.Frag) (mg : Str → Option Value) (x f : Str) (st : Stmt) (C : Addr) : Prop where
  gC : mg x = some (.ref C)
  T : OexC K C
  nf : PySem.W.findIn K (.ref C) f = some none
  ini : ∃ (fI : Addr) (fd : FuncData), PySem.W.findIn K (.ref C) "__init__" = some (some (.ref fI)) ∧ PySem.W.typeIn K (.ref fI) = some (.type "function") ∧ Fun K "__init__" (x ++ (".__init__" : Str)) st fI fd
def spIni (K : PySem.W.Frag) (C : Addr) (f : Str) : Sp := fun vs H Q _ => ∃ (a : Addr) (v : V), vs = [.ref a, v] ∧ H a = some (exo a C none) ∧ ∀ dx, H dx = none → dx ≠ a → Q .non (upd (upd H dx (exd dx [(f, v)])) a (exo a C (some dx)))
theorem spIni_len {K : PySem.W.Frag} {C : Addr} {f : Str} : ∀ vs H Q E, spIni K C f vs H Q E → vs.length = 2 := by
  rintro vs H Q E ⟨a, v, rfl, _⟩; rfl
/-- X(e): what is handed to the wish -/
def tX1 (C : Addr) (f : Str) (ta : TA) : L2.St → Hp → XK → Prop := fun σ H Q => ta σ H fun vs H1 => ∃ v, vs = [v] ∧ ∀ d H2, H1 d = none → Same H1 H2 → H2 d = some (.xd [(f, v)]) → Q (.ref C) (some d) H2
section
variable {X : Cx} {x f : Str} {e : Expr} {ta : TA} {p pos pos2 : Pos} {C : Addr} {st : Stmt} {ps : List Str} {k : Nat}
theorem pmk_x1 (D : Exc1 X.K X.mg x f st C) (F : ∀ fI fd, Fun X.K "__init__" (x ++ (".__init__" : Str)) st fI fd → FnOk X.prog X.w X.K X.mg X.base CX0 k fI fd ps (spIni X.K C f) ∧ Binds X.K fd ps []) (hr : Room (k + 1) X.A) (ha : PA X [e] ta)
    (hg : Gl X x := by rfl) (hdb : (x == ("__debug__" : Str)) = false := by decide) (he : starEach [e] X.env = (false, eval e X.env) :: starEach [] X.env := by rfl) (hpl : (backTo pos (starEach [] X.env)).any (·.1) = false := by rfl) :
    PMk X (.Call (.Name x p) [e] [] pos) (tX1 C f ta) := by
  obtain ⟨fI, fd, iC, tI, FI⟩ := D.ini
  obtain ⟨F1, b1⟩ := F fI fd FI
  intro pins s σ H Q I h
  refine pmk_oex D.T iC tI F1 hr b1 .nil (fun _ _ _ _ _ _ _ z => z.elim) hg D.gC (pa_mono ha) hdb he hpl pins s σ H Q I ⟨_, h, fun vs H1 hv => ?_⟩
  obtain ⟨v, rfl, q⟩ := hv
  refine ⟨by show 1 ≤ 1000; decide, fun a ha => ⟨a, v, rfl, upd_same, fun dx hdx hne => ⟨rfl, dx, [(f, v)], upd_same, ?_, ?_, ?_⟩⟩⟩
  · rw [upd_ne hne, upd_same]
  · rw [upd_ne hne] at hdx; exact hdx
  · have hd1 : H1 dx = none := by rw [upd_ne hne] at hdx; exact hdx
    refine q dx _ hd1 (fun b o e => ?_) upd_same
    have nb : b ≠ a := ne_of_none e ha
    have nd : b ≠ dx := ne_of_none e hd1
    rw [upd_ne nd, del_ne nb, upd_ne nb, upd_ne nd, upd_ne nb]
    exact e
/-- raise X(e) -/
theorem ps_x1 {W : WX} (hc : X.calm = true) (tk : Takes X W) (D : Exc1 X.K X.mg x f st C) (F : ∀ fI fd, Fun X.K "__init__" (x ++ (".__init__" : Str)) st fI fd → FnOk X.prog X.w X.K X.mg X.base CX0 k fI fd ps (spIni X.K C f) ∧ Binds X.K fd ps []) (hr : Room (k + 1) X.A) (ha : PA X [e] ta)
    (hg : Gl X x := by rfl) (hdb : (x == ("__debug__" : Str)) = false := by decide) (he : starEach [e] X.env = (false, eval e X.env) :: starEach [] X.env := by rfl) (hpl : (backTo pos (starEach [] X.env)).any (·.1) = false := by rfl) :
    PS X (.Raise (some (.Call (.Name x p) [e] [] pos)) none pos2) (fun _ σ H => tX1 C f ta σ H fun cls d H' => W cls d σ H') := ps_raise hc tk (pmk_x1 D F hr ha hg hdb he hpl)
end
/-- the body of such an __init__ -/
theorem ok_ini {P : Program} {w : World} {K : PySem.W.Frag} {mg : Str → Option Value} {base : Heap} {x b f : Str} {st : Stmt} {C fI : Addr} {fd : FuncData} {ps : List Str} (B : BaseC K mg b) (D : Exc1 K mg x f st C) (F : Fun K "__init__" (x ++ (".__init__" : Str)) st fI fd) (S : FnScope ps ps (defScope st)) (hl : ps.length = 2)
    (hbody : ∀ (cdv : Value) (A : Around) (outer : List Env) (s : Shared) (H : Hp) (E : XK), ∃ m, PSs (cxOf CX0 P w K mg base ps (x ++ (".__init__" : Str)) (defScope st) fI cdv A outer s H E).nox (defBody st) (tSeq (tDrop (tVeI K (tCons (tVar 0) (tCons (tC (.str m)) tNil)))) (tOst K f (tVar 0) (tVar 1)))) :
    FnOk P w K mg base CX0 1 fI fd ps (spIni K C f) := by
  refine F.ok S (fun vs H Q E h => ?_) (fun cdv A outer s H vs Q E hr h => ?_)
  · rw [hl]; exact spIni_len vs H Q E h
  · obtain ⟨m, hb⟩ := hbody cdv A outer s H E
    refine ⟨_, hb, ?_⟩
    obtain ⟨a, v, rfl, ha, q⟩ := h
    match ps, hl with
    | [_, _], _ =>
      refine ⟨_, rfl, a, C, [.str m], rfl, (by show 1 ≤ 1000; decide), D.T, ha, _, rfl, _, rfl, a, C, rfl, D.T, D.nf, .inl ⟨ha, fun dx h1 h2 => ?_⟩⟩
      exact q dx h1 h2
end My
/-! Ops: a text times an int; slices of lists with a step; a, *b = a list; x in a tuple of data; dict(zip(a, b)). -/
namespace My
open PySem PySem.Spec PyProof.Rows L2
section
variable {X : Cx}
/-- s * n -/
def rMulS : R2 := fun x y H Q => ∃ (z : Str) (n : Int), x = .str z ∧ y = .int n ∧ z.length ≤ 1000 ∧ -1000 ≤ n ∧ n ≤ 1000 ∧ Q (.str (Txt.mul z n)) H
theorem op_mul_si : OpR X (binaryOp .Mult) rMulS := by
  intro pins s σ H x y v u Q I rx ry h
  obtain ⟨z, n, rfl, rfl, h1, h2, h3, q⟩ := h
  obtain ⟨t, rfl⟩ := rx
  obtain ⟨t', rfl⟩ := ry
  refine SB.mul ⟨?_, fun h4 _ => ?_, fun h4 _ => ?_⟩ fun t'' k => ⟨.str _, H, I.tok _, ⟨_, rfl⟩, q⟩
  · rw [decide_eq_false (by omega), decide_eq_false (by omega)]; rfl
  · have h5 : 1 ≤ n := by omega
    have : (1000 : Int) ≤ (2 ^ 63 - 1) / n := by
      rw [Int.le_ediv_iff_mul_le (by omega)]
      omega
    omega
  · have h5 : 1 ≤ n := by omega
    have : z.length * n.toNat ≤ 1000 * 1000 := Nat.mul_le_mul h1 (by omega)
    unfold Builtin.Str.tooLong
    rw [decide_eq_false]
    rw [sizeLine_eq]
    omega
/-- x in / not in a tuple of data -/
def rInT (K : PySem.W.Frag) (neg : Bool) : R2 := fun x y H Q => ∃ d ds, Dp K H x d ∧ Dp K H y (.tuple ds) ∧ SeqAt.shaped d = true ∧ SeqAt.shaped (.tuple ds) = true ∧ Q (.bl (if neg then !ds.any fun z => PyData.eqv z d else ds.any fun z => PyData.eqv z d)) H
theorem room_inT {ds : List PyData} {d : PyData} {n : Nat} (h : SeqAt.shaped d = true) (hu : n + 65 < cLine) : n + 1 + min (PyData.depthAll ds) d.depth < cLine := by
  have h1 : min (PyData.depthAll ds) d.depth ≤ d.depth := Nat.min_le_right _ _
  have h2 := SeqAt.depth_of_shaped h
  omega
theorem op_inT (hu : X.A.units + 65 < cLine) : OpR X (compareOp .In) (rInT X.K false) := by
  intro pins s σ H x y v u Q I rx ry h
  obtain ⟨d, ds, hd, he, sd, se, q⟩ := h
  obtain ⟨as, r1⟩ := Dp.reads I d x v hd rx
  obtain ⟨bs, r2⟩ := Dp.reads I (.tuple ds) y u he ry
  exact SeqAt.in_tuple_reads r2 r1 (SeqAt.canLay_of_shaped se) (SeqAt.canLay_of_shaped sd) (room_inT sd hu) ⟨.bl _, H, I, rfl, q⟩
theorem op_notInT (hu : X.A.units + 65 < cLine) : OpR X (compareOp .NotIn) (rInT X.K true) := by
  intro pins s σ H x y v u Q I rx ry h
  obtain ⟨d, ds, hd, he, sd, se, q⟩ := h
  obtain ⟨as, r1⟩ := Dp.reads I d x v hd rx
  obtain ⟨bs, r2⟩ := Dp.reads I (.tuple ds) y u he ry
  exact SeqAt.notIn_tuple_reads r2 r1 (SeqAt.canLay_of_shaped se) (SeqAt.canLay_of_shaped sd) (room_inT sd hu) ⟨.bl _, H, I, rfl, q⟩
/-! ### slices of a list with a step -/
def stepIx (n : Nat) (lo hi st : Option Int) : List Nat := sliceRange (sliceBounds lo hi st n).1 (sliceBounds lo hi st n).2.1 (sliceBounds lo hi st n).2.2
def stepL {α : Type} (xs : List α) (lo hi st : Option Int) : List α := (stepIx xs.length lo hi st).filterMap (xs[·]?)
theorem vals_pick {xs : List V} {us : List Value} (r : Vals xs us) : ∀ l : List Nat, Vals (l.filterMap (xs[·]?)) (l.filterMap (us[·]?))
  | [] => .nil
  | i :: l => by
    have t := vals_pick r l
    rw [List.filterMap_cons, List.filterMap_cons]
    cases e : xs[i]? with
    | none =>
      have hl := r.length
      have : us[i]? = none := by
        rw [List.getElem?_eq_none_iff] at e ⊢
        omega
      rw [this]
      exact t
    | some x =>
      obtain ⟨u, eu, ru⟩ := r.get e
      rw [eu]
      exact .cons ru t
theorem stepL_map {α β : Type} (f : α → β) (xs : List α) (lo hi st : Option Int) : stepL (xs.map f) lo hi st = (stepL xs lo hi st).map f := by
  unfold stepL
  rw [List.length_map, List.map_filterMap]
  congr 1
  funext i
  rw [List.getElem?_map]
theorem stepL_mem {α : Type} {xs : List α} {lo hi st : Option Int} {x : α} (h : x ∈ stepL xs lo hi st) : x ∈ xs := by
  obtain ⟨i, _, e⟩ := List.mem_filterMap.mp h
  exact List.mem_of_getElem? e
theorem stepL_le {α : Type} (xs : List α) (lo hi st : Option Int) : (stepL xs lo hi st).length ≤ xs.length := by
  have h := slicePick_size_le (xs.map fun _ => Value.none).toArray lo hi st
  have e : (slicePick (xs.map fun _ => Value.none).toArray lo hi st).size = (stepL (xs.map fun _ => Value.none) lo hi st).length := by
    unfold slicePick stepL stepIx
    rw [List.size_toArray, List.size_toArray]
    simp
  rw [e, stepL_map, List.length_map, List.size_toArray, List.length_map] at h
  exact h
theorem stepL_len {α : Type} (xs : List α) (lo hi st : Option Int) : (stepL xs lo hi st).length ≤ (stepIx xs.length lo hi st).length := List.length_filterMap_le ..
def tStepL (K : PySem.W.Frag) (te : TE) (tl tu ts : TO) : TE := fun σ H Q => te σ H fun x H1 => tl σ H1 fun lo H2 => tu σ H2 fun hi H3 => ts σ H3 fun st H4 => ∃ a xs, x = .ref a ∧ SqL K H4 a xs ∧ st ≠ some 0 ∧ (stepL xs lo hi st).length ≤ 1000000 ∧
  ∀ p, H4 p = none → Q (.ref p) (upd H4 p (.lst (stepL xs lo hi st)))
theorem pe_stepL {e : Expr} {te : TE} {tl tu ts : TO} {lo hi : Option Expr} {st : Expr} {p3 pos : Pos} (he : PE X e te) (hl : PO X lo tl) (hu : PO X hi tu) (hs : PO X (some st) ts)
    (ht : ∀ a b, subscripted (.Slice lo hi (some st) p3) false a b = operate [a, b] (getItem a b) := by intros; with_unfolding_all rfl) : PE X (.Subscript e (.Slice lo hi (some st) p3) pos) (tStepL X.K te tl tu ts) := by
  refine ⟨fun pins s σ H Q I h => ?_⟩
  refine Subscript_ (thn (he.run pins s σ H _ I h) fun v s1 ⟨x, H1, I1, r1, q1⟩ => ?_)
  refine wpAny_Slice (thn (hl.run pins s1 σ H1 _ I1 q1) fun vl s2 ⟨l, H2, I2, pl, q2⟩ => ?_)
  refine thn (hu.run pins s2 σ H2 _ I2 q2) fun vu s3 ⟨u, H3, I3, pu, q3⟩ => ?_
  refine thn (hs.run pins s3 σ H3 _ I3 q3) fun vs s4 ⟨o, H4, I4, ps, q4⟩ => ?_
  obtain ⟨a, xs, ex, hx, ho, hn, q⟩ := q4
  subst ex
  cases r1
  have I5 : Inv X pins σ H4 { s4 with heap := s4.heap.push { cls := .type "slice", data := .fields #[vl, vu, vs] } } := I4.kept (t' := s4.toks) fun b ob q => Heap.get?_push_of_some _ q
  obtain ⟨its, r, ht', hz⟩ := I5.list hx
  have hlen := r.length
  show wpAny (model X.prog X.w) X.A (subscriptTail e (.Slice lo hi (some st) p3) (.ref a) (.ref s4.heap.objs.size)) (EP X pins σ Q) X.xe { s4 with heap := s4.heap.push { cls := .type "slice", data := .fields #[vl, vu, vs] } }
  refine tail_any (ops := [.ref a, .ref s4.heap.objs.size]) ht'.isList.typeIs (PySem.slot_list_getitem.lookup) ?_ (ht _ _)
  refine wpAny_getItem_list_slice ht'.isList (Heap.IsSliceOf.new _ vl vu vs) pl pu ps ho ?_ (by rw [List.size_toArray]; omega)
  have e1 : slicePick its.toArray l u o = ((stepIx xs.length l u o).filterMap (its[·]?)).toArray := by
    unfold slicePick stepIx
    rw [List.size_toArray, hlen]
    simp
  rw [e1]
  refine ⟨.ref _, _, I5.laid (t' := s4.toks) (o := .lst (stepL xs l u o)) (fun b ob q => Heap.get?_push_of_some _ q) (Nat.le_refl _) ?_, rfl, q _ (I5.hok.fresh (Nat.le_refl _))⟩
  exact ⟨size_le hn, _, 0, vals_pick r _, Heap.get?_push_size _ rfl⟩
/-! ### a, *b = a list -/
theorem star_list {prog : Program} {w : World} {A : Around} {E : Value → Shared → Prop} {s : Shared} {l : Addr} {items : Array Value} {Q : List Value → Shared → Prop} (hl : s.heap.IsList l items) (hh : A.handled = none) (hn : 1 ≤ items.size) (hz : items.size ≤ 16384)
    (h : ∀ (h' : Heap) (tk : Nat), (∀ b o, s.heap.get? b = some o → h'.get? b = some o) → Q (items.toList.take 1 ++ [.ref h'.objs.size]) { s with heap := h'.push { cls := .type "list", data := .seq (items.toList.drop 1).toArray }, toks := tk }) : wpAny (model prog w) A (unpackItems (.ref l) 2 (some 1)) Q E s := by
  have hlt : l ≠ s.heap.objs.size := by obtain ⟨o, ho, _⟩ := hl; exact Nat.ne_of_lt (Heap.lt_size ho)
  have hll : l < s.heap.objs.size := by obtain ⟨o, ho, _⟩ := hl; exact Heap.lt_size ho
  unfold unpackItems
  refine wpAny_bind ?_
  unfold notIterableAtAll
  refine wpAny_bind (wpAny_specialOf hl.typeIs slot_list_iter.lookup ?_)
  refine wpAny_pure ?_
  simp only [Bool.false_eq_true, if_false]
  refine wpAny_bind (wpAny_holding (wpAny_pyIter_list hl ?_))
  refine wpAny_bind (wpAny_holding (PySem.W.kun_draw hlt 1 0 _ _ ⟨_, Heap.get?_push_size _ rfl, rfl, rfl⟩ (hl.push _) (by omega) fun h₁ hit₁ hs₁ => ?_))
  have hl₁ : h₁.IsList l items := (hl.push _).extBut hs₁.extBut hlt
  rw [Nat.zero_add] at hit₁
  have hit₁' := hit₁
  obtain ⟨oi, hoi, _⟩ := hit₁'
  have hl₁' := hl₁
  obtain ⟨ol, hol, _⟩ := hl₁'
  rw [List.drop_zero]
  have hfl : (items.toList.take 1).length = 1 := by rw [List.length_take, Array.length_toList]; omega
  rw [if_neg (show ¬ ((items.toList.take 1).length < 1) by rw [hfl]; omega)]
  refine wpAny_bind (wpAny_holding (PySem.W.kun_collect (s := { s with heap := h₁ }) (T := "list_iterator") (.inr (.inr (.inl rfl))) (Walks.list (A := A.in1) hh s.heap.objs.size l hlt items) (fun j u st => st.1.typeIs) (k := 1) (by omega) ⟨hit₁, hl₁⟩ (Heap.lt_size hoi) (Heap.lt_size hol) (fun h₂ tk hk => ?_) (by rw [sizeLine_eq]; omega)))
  have hrl : (items.toList.drop 1).length = items.size - 1 := by rw [List.length_drop, Array.length_toList]
  have hmid : (items.toList.drop 1).length - (2 - 1 - 1) = (items.toList.drop 1).length := by omega
  show wpAny _ _ (if (items.toList.drop 1).length < 2 - 1 - 1 then _ else _) _ _ _
  rw [if_neg (by omega)]
  show wpAny _ _ (newList ((items.toList.drop 1).take ((items.toList.drop 1).length - (2 - 1 - 1))) >>= fun d => pure (items.toList.take 1 ++ [d] ++ (items.toList.drop 1).drop ((items.toList.drop 1).length - (2 - 1 - 1)))) _ _ _
  rw [hmid, List.take_length, List.drop_length]
  refine wpAny_bind (PySem.wpAny_newList ?_ (by rw [hrl, sizeLine_eq]; omega))
  refine wpAny_pure ?_
  rw [List.append_nil]
  exact h h₂ tk fun b o e => hk b o (fun z => by rw [z] at e; exact Nat.lt_irrefl _ (Heap.lt_size e)) (hs₁.extBut b o (fun z => by rw [z] at e; exact Nat.lt_irrefl _ (Heap.lt_size e)) (Heap.get?_push_of_some _ e))
def gStar (K : PySem.W.Frag) (t : TGs) : TG := fun v σ H Q => ∃ a x xs, v = .ref a ∧ SqL K H a (x :: xs) ∧ xs.length ≤ 16000 ∧ ∀ p, H p = none → t [x, .ref p] σ (upd H p (.lst xs)) Q
theorem pg_star {es : List Expr} {k : Nat} {t : TGs} {pos : Pos} (hc : X.calm = true) (h : PGs X es t) (hn : (assignEach es X.env).length = 2 := by rfl) (hst : (assignEach es X.env).findIdx? (·.1) = some 1 := by rfl) : PG X (.Tuple es k pos) (gStar X.K t) := by
  refine ⟨fun pins s σ H v u Q I r hw => ?_⟩
  obtain ⟨a, x, xs, e1, hq, hl, hw⟩ := hw
  subst e1
  cases r
  obtain ⟨its, rv, ht, hz⟩ := I.list hq
  have hlen := rv.length
  rw [List.length_cons] at hlen
  rw [assign_Tuple]
  refine wpAny_bind (wpAny_standAt ?_)
  unfold unpack
  rw [hn, hst]
  refine wpAny_bind (wpAny_holding (star_list ht.isList (I.ok.hd hc) (by rw [List.size_toArray]; omega) (by rw [List.size_toArray]; omega) fun h' tk hk => ?_))
  cases rv with
  | @cons _ u0 _ ur ra rw' =>
    have I0 : Inv X pins σ H { s with heap := h' } := I.kept (t' := s.toks) hk
    have I1 : Inv X pins σ (upd H h'.objs.size (.lst xs)) { s with heap := h'.push { cls := .type "list", data := .seq ((u0 :: ur).toArray.toList.drop 1).toArray }, toks := tk } := by
      refine I0.laid (t' := tk) (o := .lst xs) (fun b ob q => Heap.get?_push_of_some _ q) (Nat.le_refl _) ?_
      exact ⟨size_le (by omega), ur, 0, rw', by rw [show ((u0 :: ur).toArray.toList.drop 1) = ur by simp]; exact Heap.get?_push_size _ rfl⟩
    exact h.run pins _ σ _ [x, .ref h'.objs.size] _ Q I1 (.cons ra (.cons rfl .nil)) (hw _ (I0.hok.fresh (Nat.le_refl _)))
theorem pgs_star {e1 e2 : Expr} {p : Pos} {g1 g2 : TG} (h1 : PG X e1 g1) (h2 : PG X e2 g2) (hs : (assignEach [e1, .Starred e2 p] X.env).map (·.2) = [assign e1 X.env, assign e2 X.env] := by rfl) (hs' : (assignEach [e1, e2] X.env).map (·.2) = [assign e1 X.env, assign e2 X.env] := by rfl)
    (a1 : (assignEach [e1, e2] X.env).map (·.2) = assign e1 X.env :: (assignEach [e2] X.env).map (·.2) := by rfl) (a2 : (assignEach [e2] X.env).map (·.2) = assign e2 X.env :: (assignEach [] X.env).map (·.2) := by rfl) : PGs X [e1, .Starred e2 p] (gCons g1 (gCons g2 gNil)) := by
  have h := pgs_cons h1 (pgs_cons h2 pgs_nil a2) a1
  refine ⟨fun pins s σ H vs us Q I r q => ?_⟩
  rw [hs, ← hs']
  exact h.run pins s σ H vs us Q I r q
end
/-! ### rules with the written part by its name (within a block) -/
section
variable {X : Cx} {K : PySem.W.Frag}
theorem opK {op : Value → Value → Sem Value} (f : PySem.W.Frag → R2) (h : OpR X op (f X.K)) (hK : X.K = K := by rfl) : OpR X op (f K) := hK ▸ h
theorem ixK (f : PySem.W.Frag → R2) (h : IxR X (f X.K)) (hK : X.K = K := by rfl) : IxR X (f K) := hK ▸ h
theorem callK {u : Value} (f : PySem.W.Frag → List V → Hp → VK → Prop) (h : CallR X u (f X.K)) (hK : X.K = K := by rfl) : CallR X u (f K) := hK ▸ h
theorem peK {e : Expr} (f : PySem.W.Frag → TE) (h : PE X e (f X.K)) (hK : X.K = K := by rfl) : PE X e (f K) := hK ▸ h
theorem pe_bmK {o e : Expr} {es : List Expr} {to : TE} {t : TA} {name : Str} {apos cpos : Pos} {T id : String} {r : V → List V → Hp → VK → Prop} (pa : PlainAttrs T) (slot : Slot T name id) (hty : typeOf (.builtin id) = pure (.type "method_descriptor")) (hm : MtR X id r) (ho : PE X o to) (ha : PA X (e :: es) t)
    (hK : X.K = K := by rfl) (hbase : attributeBase o name X.env (eval o X.env) = eval o X.env := by rfl)
    (hfew : ((backTo cpos (starEach (e :: es) X.env)).all (fun x => !x.1) && (backToKw cpos (keywordEach [] X.env)).all (fun x => x.1.isSome)
      && decide ((e :: es).length + ([] : List Keyword).length + (if ([] : List Keyword).isEmpty then 0 else 1) < 30)) = true := by rfl)
    (hline : (apos.endLine == cpos.line) = true := by rfl) (hs : starEach (e :: es) X.env = (false, eval e X.env) :: starEach es X.env := by rfl) (hplain : (backTo cpos (starEach es X.env)).any (·.1) = false := by rfl) :
    PE X (.Call (.Attribute o name apos) (e :: es) [] cpos) (tBM K T r to t) := hK ▸ pe_bm pa slot hty hm ho ha hbase hfew hline hs hplain
end
/-! ### a loop over a list or a tuple -/
section
variable {X : Cx} {tg : Expr}
def SeqIt (K : PySem.W.Frag) (c : Addr) (H : Hp) (R : It → Hp → Prop) : Prop := ((∃ ys, SqL K H c ys) ∧ R (Itl K c) H) ∨ ((∃ ys, SqT K H c ys) ∧ R (Itt K c) H)
def iSeq (K : PySem.W.Frag) (te : TE) : TI := fun σ H R => te σ H fun x H1 => ∃ c, x = .ref c ∧ SeqIt K c H1 R
theorem fp_new {pins : List (Addr × Obj)} {σ : L2.St} {H : Hp} {sh : Shared} (J : Inv X pins σ H sh) : ∀ c ∈ [sh.heap.objs.size], FpOk X pins H c := fun c hc => by
  rw [List.mem_singleton] at hc
  rw [hc]
  exact J.fpOk (Nat.le_refl _) (J.hok.fresh (Nat.le_refl _))
theorem pi_seq {ex : Expr} {te : TE} (he : PE X ex te) : PI X tg ex (iSeq X.K te) := ⟨fun pins sh σ H R J w0 => by
  refine thn (he.run pins sh σ H _ J w0) ?_
  rintro v sh1 ⟨x, H1, J1, rv, c, rfl, w1⟩
  cases rv
  have J2 : ∀ ob : Obj, Inv X pins σ H1 { sh1 with heap := sh1.heap.push ob } := fun ob => J1.kept (t' := sh1.toks) fun d od q => Heap.get?_push_of_some _ q
  rcases w1 with ⟨⟨ys, hy⟩, w1⟩ | ⟨⟨ys, hy⟩, w1⟩
  · obtain ⟨us, ru, pl, _⟩ := J1.list hy
    exact wpAny_pyIter_list pl.isList ⟨_, [_], _, _, H1, rfl, J2 _, turn_list c _, ⟨_, Heap.get?_push_size _ rfl, rfl, rfl⟩, fp_new J1, w1⟩
  · obtain ⟨us, ru, pt, _⟩ := J1.tuple hy
    exact wpAny_pyIter_tuple (show sh1.heap.IsTuple c us.toArray from pt) ⟨_, [_], _, _, H1, rfl, J2 _, turn_tuple c _, ⟨_, Heap.get?_push_size _ rfl, rfl, rfl⟩, fp_new J1, w1⟩⟩
end
section
open PySem
variable {X : Cx}
/-! ### dict(zip(a, b)) -/
theorem kv_zip : ∀ {ys : List V} {us : List Value}, Vals ys us → ∀ ks : List Key, KV (ks.zip ys) (ks.zip us)
  | _, _, _, [] => .nil
  | _, _, .nil, k :: ks => .nil
  | _, _, .cons r t, k :: ks => .cons ⟨rfl, r⟩ (kv_zip t ks)
def tDictZip (K : PySem.W.Frag) (ta : TA) : TE := fun σ H Q => ta σ H fun vs H1 => ∃ (a b : Addr) (ks : List Key) (ys : List V), vs = [.ref a, .ref b] ∧ SqL K H1 a (ks.map kV) ∧ SqL K H1 b ys ∧ ∀ p, H1 p = none → Q (.ref p) (upd H1 p (.dK (mergeK [] (ks.zip ys))))
theorem pe_dictzip {e e2 : Expr} {ta : TA} {p1 p2 pos pos2 : Pos} (hc : X.calm = true) (hd : Gl X "dict") (md : X.mg "dict" = none) (hg : Gl X "zip") (hm : X.mg "zip" = none) (ha : PA X [e, e2] ta)
    (hs : starEach [e, e2] X.env = (false, eval e X.env) :: starEach [e2] X.env := by rfl) (hpl : (backTo pos (starEach [e2] X.env)).any (·.1) = false := by rfl)
    (hs2 : starEach [.Call (.Name "zip" p2) [e, e2] [] pos] X.env = (false, eval (.Call (.Name "zip" p2) [e, e2] [] pos) X.env) :: starEach [] X.env := by rfl) (hpl2 : (backTo pos2 (starEach [] X.env)).any (·.1) = false := by rfl) :
    PE X (.Call (.Name "dict" p1) [.Call (.Name "zip" p2) [e, e2] [] pos] [] pos2) (tDictZip X.K ta) := by
  refine ⟨fun pins s σ H Q I h => ?_⟩
  refine Call_ (ld_blt I hd md PyProof.Rows.boot_dict (PyProof.Rows.callWith_type1 ?_ hs2 hpl2))
  rw [hs2]
  show wpAny _ _ (spliced ((false, eval (.Call (.Name "zip" p2) [e, e2] [] pos) X.env) :: backTo pos2 (starEach [] X.env))) _ _ s
  refine Calls.spliced_cons ?_
  refine Call_ (ld_blt I hg hm PyProof.Rows.boot_zip (PyProof.Rows.callWith_type1 (thn (ha.run pos pins s σ H _ I h) fun us s1 ⟨vs, H1, I1, r1, q1⟩ => ?_) hs hpl))
  obtain ⟨a, b, ks, ys, ex, hqx, hqy, q⟩ := q1
  subst ex
  cases r1 with
  | cons r rr =>
    cases rr with
    | cons r' rr =>
      cases rr
      cases r
      cases r'
      obtain ⟨its, rv, p1, hz1⟩ := I1.list hqx
      obtain ⟨its2, rv2, p2, hz2⟩ := I1.list hqy
      have la : a < s1.heap.objs.size := p1.lt
      have lb : b < s1.heap.objs.size := p2.lt
      refine call_zip_2 p1.isList p2.isList fun h' hz hTI hTO h1 h2 hsz hk => ?_
      show wpAny _ _ (spliced []) _ _ _
      refine Calls.spliced_nil ?_
      have I2 : Inv X pins σ H1 { s1 with heap := h' } := I1.kept (t' := s1.toks) hk
      have l1 : ks.length = its.length := by simpa using rv.length
      have l2 : ys.length = its2.length := rv2.length
      have D : ZipApart (s1.heap.objs.size + 4) (s1.heap.objs.size + 2) (s1.heap.objs.size + 3) s1.heap.objs.size (s1.heap.objs.size + 1) a b := PySem.W.ktu_apart s1.heap.objs.size a b la lb
      refine PySem.call_dict_pairs (knd := mixKind X.prog X.w) (kvs := ks.zip its2) (PairArg.zip _ _ _ _ _ _ _ D its.toArray its2.toArray) (I2.ok.hd hc)
        ⟨hz, hTI, ⟨_, _, hTO⟩, h1, h2, p1.isList.at fun o e => hk _ _ e, p2.isList.at fun o e => hk _ _ e⟩ ⟨by simp [l1], fun i key v hr => ?_⟩ (by simp; omega) fun h2 tk hd2 k2 => ?_
      · obtain ⟨e1, e2⟩ := hr
        have e1' : its[i]? = some key := by simpa using e1
        have e2' : its2[i]? = some v := by simpa using e2
        have hi : i < ks.length := by rw [l1]; exact (List.getElem?_eq_some_iff.mp e1').1
        obtain ⟨u, eu, ru⟩ := rv.get (x := kV ks[i]) (by rw [List.getElem?_map, List.getElem?_eq_getElem hi]; rfl)
        rw [e1'] at eu
        cases eu
        exact ⟨ks[i], by rw [List.getElem?_zip_eq_some]; exact ⟨List.getElem?_eq_getElem hi, e2'⟩, kV_is ru⟩
      · have hpk : ∀ c o, s1.heap.get? c = some o → h2.get? c = some o := fun c o e => k2 c o (by
          have lc := Heap.lt_size e
          intro hm
          have hm' : c = s1.heap.objs.size + 4 ∨ c = s1.heap.objs.size + 3 ∨ c = s1.heap.objs.size ∨ c = s1.heap.objs.size + 1 := by simpa using hm
          rcases hm' with z | z | z | z <;> rw [z] at lc
          · exact Nat.not_lt.mpr (Nat.le_add_right _ _) lc
          · exact Nat.not_lt.mpr (Nat.le_add_right _ _) lc
          · exact Nat.lt_irrefl _ lc
          · exact Nat.not_lt.mpr (Nat.le_add_right _ _) lc) (hk c o e)
        have hmx : (h'.objs.size == sysModules) = false := beq_eq_false_iff_ne.mpr (Nat.ne_of_gt I2.big)
        have rel : KV (ks.zip ys) (ks.zip its2) := by
          exact kv_zip rv2 ks
        have hlen : (mergeK [] (ks.zip ys)).length ≤ sizeLine := by
          refine Nat.le_trans (length_mergeK _ []) ?_
          simp; omega
        exact ⟨.ref h'.objs.size, upd H1 h'.objs.size (.dK (mergeK [] (ks.zip ys))), I1.laid (t' := tk) hpk (by omega) (show ObjOk X.prog X.w _ _ _ (.dK (mergeK [] (ks.zip ys))) from ⟨hlen, hmx, merged [] (ks.zip its2), KV.merge rel .nil, hd2⟩), rfl, q _ (I2.hok.fresh (Nat.le_refl _))⟩
end
end My
/-! Loop: comprehensions of data, beside objects that change. -/
namespace My
open PySem PySem.Spec PyProof.Rows L2
theorem same_of_new {H H' : Hp} {D : Addr} (hD : H D = none) (h : SameB [D] H H') : Same H H' := fun b o e => h.at e (by
  have := ne_of_none e hD
  simpa using this)
theorem SameB.of_new {S : List Addr} {H H' : Hp} {D : Addr} (hD : H D = none) (h : SameB (D :: S) H H') : SameB S H H' := fun b o e => by
  obtain ⟨e1, e2⟩ := dl_some e
  have nb : b ∉ D :: S := by
    intro hm
    rcases List.mem_cons.mp hm with z | z
    · subst z; rw [hD] at e1; cases e1
    · exact e2 z
  rw [dl_out e2]
  exact h.at e1 nb
/-- a comprehension under way: D the new list, S what data does not lean on, T what changes, R by the turn, the data so far and the heap -/
structure PvC (K : PySem.W.Frag) (S T : List Addr) (H1 : Hp) (D : Addr) (R : Nat → List PyData → Hp → Prop) (i : Nat) (H : Hp) : Prop where
  ex : ∃ vs acc, H D = some (.lst vs) ∧ DpAll K (dl (D :: S) H) vs acc ∧ acc.length ≤ i ∧ SameB T H1 H ∧ Fr S H ∧ R i acc H
section
variable {K : PySem.W.Frag} {S T : List Addr} {H1 H H4 : Hp} {D : Addr} {R : Nat → List PyData → Hp → Prop} {i : Nat} {vs : List V} {acc : List PyData}
theorem lc_put {y : V} {d : PyData} (hT : ∀ x ∈ T, x ∈ S) (hD : H1 D = none) (hn : D ∉ S) (hv : H D = some (.lst vs)) (hd : DpAll K (dl (D :: S) H) vs acc) (hl : acc.length ≤ i) (hz : i < 1000000) (sb : SameB T H1 H) (sm : SameB T H H4) (fr : Fr S H4) (hy : Dp K (dl (D :: S) H4) y d)
    (hr : ∀ H5, SameB [D] H4 H5 → Fr S H5 → R (i + 1) (acc ++ [d]) H5) : ∃ acc, H4 D = some (.lst acc) ∧ acc.length < sizeLine ∧ PvC K S T H1 D R (i + 1) (upd H4 D (.lst (acc ++ [y]))) := by
  have hl2 := dps_len hd
  have s5 : SameB [D] H4 (upd H4 D (.lst (vs ++ [y]))) := .upd_in (by simp)
  have f5 : Fr S (upd H4 D (.lst (vs ++ [y]))) := fun b hb => by
    obtain ⟨o, e⟩ := fr b hb
    exact ⟨o, s5.at e (by rintro hm; rw [List.mem_singleton] at hm; subst hm; exact hn hb)⟩
  have e5 : dl (D :: S) (upd H4 D (.lst (vs ++ [y]))) = dl (D :: S) H4 := dl_upd_in (by simp)
  have sm' : SameB (D :: S) H H4 := sm.mono fun x hx => List.mem_cons_of_mem _ (hT x hx)
  refine ⟨vs, sm.at hv (fun z => hn (hT _ z)), by rw [sizeLine_eq]; omega, ⟨vs ++ [y], acc ++ [d], upd_same, ?_, by simp; omega, ?_, f5, hr _ s5 f5⟩⟩
  · rw [e5]
    exact dps_app (dps_same sm' hd) (dps_one hy)
  · refine SameB.of_new hD ?_
    exact ((sb.trans sm).mono fun x hx => List.mem_cons_of_mem _ hx).trans (s5.mono (by simp))
theorem lc_skip (hT : ∀ x ∈ T, x ∈ S) (hn : D ∉ S) (hv : H D = some (.lst vs)) (hd : DpAll K (dl (D :: S) H) vs acc) (hl : acc.length ≤ i) (sb : SameB T H1 H) (sm : SameB T H H4) (fr : Fr S H4) (hr : R (i + 1) acc H4) : PvC K S T H1 D R (i + 1) H4 :=
  ⟨vs, acc, sm.at hv (fun z => hn (hT _ z)), dps_same (sm.mono fun x hx => List.mem_cons_of_mem _ (hT x hx)) hd, by omega, sb.trans sm, fr, hr⟩
end
section
variable {J : It} {n : Nat} {G : Hp → Prop} {Y : Nat → Hp → V → Hp → Prop} {S : List Addr}
theorem lc_raw (K : PySem.W.Frag) (T : List Addr) (hT : ∀ x ∈ T, x ∈ S) (w : Walk J n G Y) {g : TG} {tt : TT} {te : TE} {vs : List Nat} {σ : L2.St} {H1 : Hp} {D : Addr} {Qd : Hp → Prop} (hF : Fr S H1) (hD : H1 D = none) (R : Nat → List PyData → Hp → Prop) (h0 : ∀ H, Same H1 H → R 0 [] H)
    (hG : ∀ H, SameB T H1 H → G H)
    (hs : ∀ i x vals acc H H', i < n → D ∉ S → H D = some (.lst vals) → DpAll K (dl (D :: S) H) vals acc → acc.length ≤ i → SameB T H1 H → Fr S H → R i acc H → Y i H x H' → g x (wipe σ vs) H' fun σ2 H2 => wipe σ2 vs = wipe σ vs ∧ tt σ2 H2 fun b H3 =>
      if b = true then te σ2 H3 fun y H4 => ∃ acc, H4 D = some (.lst acc) ∧ acc.length < sizeLine ∧ PvC K S T H1 D R (i + 1) (upd H4 D (.lst (acc ++ [y]))) else PvC K S T H1 D R (i + 1) H3)
    (hd : ∀ vals ds H, D ∉ S → H D = some (.lst vals) → DpAll K (dl (D :: S) H) vals ds → SameB T H1 H → Fr S H → ds.length ≤ n → R n ds H → Qd H) :
    ∃ W : Nat → Nat → Hp → Prop, (∃ m, W 0 m (upd H1 D (.lst []))) ∧ ∀ i m H, W i m H →
      (J.stop i H ∧ Qd H) ∨ (J.go i H ∧ ∃ Nx : Hp → Prop, (∀ H', Nx H' → ∃ m', m' < m ∧ W (i + 1) m' H') ∧ ∀ x H', J.yld i H x H' → g x (wipe σ vs) H' fun σ2 H2 => wipe σ2 vs = wipe σ vs ∧ tt σ2 H2 fun b H3 =>
        if b = true then te σ2 H3 fun y H4 => ∃ acc, H4 D = some (.lst acc) ∧ acc.length < sizeLine ∧ Nx (upd H4 D (.lst (acc ++ [y]))) else Nx H3) := by
  have hn : D ∉ S := hF.new hD
  refine lc_it w (PvC K S T H1 D R) ?_ (fun i H _ h => ?_) (fun i x H H' hi h hy => ?_) fun H h => ?_
  · exact ⟨[], [], upd_same, .nil, Nat.le_refl _, .upd_new hD, hF.same (same_upd hD), h0 _ (same_upd hD)⟩
  · obtain ⟨_, _, _, _, _, sb, _⟩ := h
    exact hG H sb
  · obtain ⟨v, a, h1, h2, h3, h4, h5, h6⟩ := h
    exact hs i x v a H H' hi hn h1 h2 h3 h4 h5 h6 hy
  · obtain ⟨v, a, h1, h2, h3, h4, h5, h6⟩ := h
    exact hd v a H hn h1 h2 h4 h5 h3 h6
theorem lc_gen (K : PySem.W.Frag) (T : List Addr) (hT : ∀ x ∈ T, x ∈ S) (w : Walk J n G Y) {g : TG} {tt : TT} {te : TE} {vs : List Nat} {σ : L2.St} {H1 : Hp} {D : Addr} {Qd : Hp → Prop} (hF : Fr S H1) (hD : H1 D = none) (R : Nat → List PyData → Hp → Prop) (h0 : ∀ H, Same H1 H → R 0 [] H)
    (hG : ∀ H, SameB T H1 H → G H)
    (hs : ∀ i x vals acc H H', i < n → D ∉ S → H D = some (.lst vals) → DpAll K (dl (D :: S) H) vals acc → acc.length ≤ i → SameB T H1 H → Fr S H → R i acc H → Y i H x H' → g x (wipe σ vs) H' fun σ2 H2 => wipe σ2 vs = wipe σ vs ∧ tt σ2 H2 fun b H3 =>
      if b = true then te σ2 H3 fun y H4 => ∃ acc, H4 D = some (.lst acc) ∧ acc.length < sizeLine ∧ PvC K S T H1 D R (i + 1) (upd H4 D (.lst (acc ++ [y]))) else PvC K S T H1 D R (i + 1) H3)
    (hd : ∀ ds H, SameB T H1 H → Fr S H → Dp K (dl S H) (.ref D) (.list ds) → ds.length ≤ n → R n ds H → Qd H) :
    ∃ W : Nat → Nat → Hp → Prop, (∃ m, W 0 m (upd H1 D (.lst []))) ∧ ∀ i m H, W i m H →
      (J.stop i H ∧ Qd H) ∨ (J.go i H ∧ ∃ Nx : Hp → Prop, (∀ H', Nx H' → ∃ m', m' < m ∧ W (i + 1) m' H') ∧ ∀ x H', J.yld i H x H' → g x (wipe σ vs) H' fun σ2 H2 => wipe σ2 vs = wipe σ vs ∧ tt σ2 H2 fun b H3 =>
        if b = true then te σ2 H3 fun y H4 => ∃ acc, H4 D = some (.lst acc) ∧ acc.length < sizeLine ∧ Nx (upd H4 D (.lst (acc ++ [y]))) else Nx H3) := by
  refine lc_raw K T hT w hF hD R h0 hG hs fun v a H hn h1 h2 h4 h5 h3 h6 => hd a H h4 h5 (.lst (SqL.of (by rw [dl_out hn]; exact h1)) (dps_same (dl_mono fun x hx => List.mem_cons_of_mem _ hx) h2)) h3 h6
end
/-- a list or a tuple walked -/
theorem rd_seq {K : PySem.W.Frag} {a : Addr} {xs : List V} {R : It → Hp → Prop} {H : Hp} (h : SqL K H a xs ∨ SqT K H a xs) (q : ∀ J G, Walk J xs.length G (YAt xs) → (∀ H2, (SqL K H a xs → SqL K H2 a xs) → (SqT K H a xs → SqT K H2 a xs) → G H2) → R J H) : SeqIt K a H R := by
  rcases h with h | h
  · exact .inl ⟨⟨xs, h⟩, q _ _ walk_list fun H2 h1 _ => h1 h⟩
  · exact .inr ⟨⟨xs, h⟩, q _ _ walk_tup fun H2 _ h1 => h1 h⟩
theorem seqL_b {K : PySem.W.Frag} {S : List Addr} {H H' : Hp} {a : Addr} {xs : List V} (h : SameB S H H') (q : SqL K (dl S H) a xs) : SqL K H' a xs := seqL_up (S := S) (h.seq q)
theorem seqT_b {K : PySem.W.Frag} {S : List Addr} {H H' : Hp} {a : Addr} {xs : List V} (h : SameB S H H') (q : SqT K (dl S H) a xs) : SqT K H' a xs := seqT_up (S := S) (sameT h q)
/-- data ahead of a comprehension, within it -/
theorem dp_in {K : PySem.W.Frag} {S T : List Addr} {H1 H : Hp} {D : Addr} {v : V} {d : PyData} (hD : H1 D = none) (hT : ∀ x ∈ T, x ∈ S) (sb : SameB T H1 H) (h : Dp K (dl S H1) v d) : Dp K (dl (D :: S) H) v d := by
  have s1 : SameB (D :: S) H1 H := sb.mono fun x hx => List.mem_cons_of_mem _ (hT x hx)
  have s0 : Same (dl S H1) (dl (D :: S) H1) := fun b o e => by
    obtain ⟨e1, e2⟩ := dl_some e
    have nb : b ≠ D := ne_of_none e1 hD
    rw [dl_out (by simp [nb, e2])]
    exact e1
  exact dp_same s1 (dp_same s0 h)
/-- the turns of a for; of a comprehension -/
def ForTurns (g : TG) (tb : TS) (D : Ends) (σ : L2.St) (J : It) (H : Hp) : Prop := ∃ W : Nat → Nat → L2.St → Hp → Prop, (∃ m, W 0 m σ H) ∧ ∀ i m σ H, W i m σ H →
  (J.stop i H ∧ D.nx σ H) ∨ (J.go i H ∧ ∃ N : L2.St → Hp → Prop, (∀ σ' H', N σ' H' → ∃ m', m' < m ∧ W (i + 1) m' σ' H') ∧ ∀ x H', J.yld i H x H' → g x σ H' fun σ2 H2 => tb { D with nx := N, ct := N, bk := D.nx } σ2 H2)
theorem rd_for {wi : TI} {g : TG} {tb : TS} {D : Ends} {σ : L2.St} {H : Hp} (h : ∀ R : It → Hp → Prop, (∀ J H1, ForTurns g tb D σ J H1 → R J H1) → wi σ H R) : tFor wi g tb D σ H := h _ fun _ _ q => q
def LcTurns (g : TG) (tt : TT) (te : TE) (vs : List Nat) (σ : L2.St) (Q : VK) (J : It) (H1 : Hp) : Prop := ∀ D, H1 D = none → ∃ W : Nat → Nat → Hp → Prop, (∃ m, W 0 m (upd H1 D (.lst []))) ∧ ∀ i m H, W i m H →
  (J.stop i H ∧ Q (.ref D) H) ∨ (J.go i H ∧ ∃ Nx : Hp → Prop, (∀ H', Nx H' → ∃ m', m' < m ∧ W (i + 1) m' H') ∧ ∀ x H', J.yld i H x H' → g x (wipe σ vs) H' fun σ2 H2 => wipe σ2 vs = wipe σ vs ∧ tt σ2 H2 fun b H3 =>
    if b = true then te σ2 H3 fun y H4 => ∃ acc, H4 D = some (.lst acc) ∧ acc.length < sizeLine ∧ Nx (upd H4 D (.lst (acc ++ [y]))) else Nx H3)
theorem rd_lc {wi : TI} {g : TG} {tt : TT} {te : TE} {vs : List Nat} {σ : L2.St} {H : Hp} {Q : VK} (h : ∀ R : It → Hp → Prop, (∀ J H1, LcTurns g tt te vs σ Q J H1 → R J H1) → wi σ H R) : tLc wi g tt te vs σ H Q := h _ fun _ _ q => q
theorem no_mem {S : List Addr} : ∀ x ∈ ([] : List Addr), x ∈ S := fun _ h => by cases h
end My
/-! Pure: texts as lists of code points: numbers written and read. -/
namespace My
open PySem PySem.Spec PyProof.Rows L2
abbrev tx (l : List Nat) : Str := SX.S l
abbrev tD (l : List Nat) : PyData := .str (tx l)
abbrev dVal (l : List Nat) : Nat := NumText.digitsVal l
abbrev numL (n : Nat) : List Nat := TL.numL n
theorem tx_tl (x : Str) : x = tx (TL.tl x) := (TL.mk_tl x).symm
theorem tx_len (l : List Nat) : (tx l).length = l.length := SX.S_len l
theorem tx_cat (a b : List Nat) : tx a ++ tx b = tx (a ++ b) := SX.S_cat a b
theorem tx_cps (l : List Nat) : (tx l).cps.toList = l := rfl
/-- the ratio of two ints, as a pair without a common divisor -/
def qOf (t b : Int) : Int × Int := if b < 0 then ((0 - t) / (Int.gcd t b : Nat), (0 - b) / (Int.gcd t b : Nat)) else (t / (Int.gcd t b : Nat), b / (Int.gcd t b : Nat))
abbrev ratD (q : Int × Int) : PyData := .tuple [.int q.1, .int q.2]
def isDig (c : Nat) : Bool := decide (48 ≤ c) && decide (c ≤ 57)
def isDigL (l : List Nat) : Bool := decide (0 < l.length) && l.all isDig
theorem isDigL_iff {l : List Nat} : isDigL l = true ↔ l ≠ [] ∧ NumText.AllDigits l := by
  unfold isDigL isDig NumText.AllDigits
  rw [Bool.and_eq_true, decide_eq_true_eq, List.all_eq_true]
  simp only [Bool.and_eq_true, decide_eq_true_eq]
  rw [List.length_pos_iff]
theorem dVal_app (a b : List Nat) : dVal (a ++ b) = dVal a * 10 ^ b.length + dVal b := by
  have fold : ∀ (l : List Nat) (n : Nat), l.foldl (fun acc c => acc * 10 + (c - 48)) n = n * 10 ^ l.length + l.foldl (fun acc c => acc * 10 + (c - 48)) 0 := by
    intro l
    induction l with
    | nil => intro n; simp
    | cons c l ih =>
      intro n
      rw [List.foldl_cons, List.foldl_cons, ih, ih (0 * 10 + (c - 48)), List.length_cons, Nat.pow_succ']
      simp only [Nat.add_mul, Nat.zero_mul, Nat.zero_add, Nat.mul_assoc, Nat.add_assoc]
  unfold dVal NumText.digitsVal
  rw [List.foldl_append, fold]
theorem dVal_lt : ∀ {l : List Nat}, NumText.AllDigits l → dVal l < 10 ^ l.length
  | [], _ => by decide
  | c :: l, h => by
    have h1 := h.head
    have h2 := dVal_lt h.tail
    have e : dVal (c :: l) = dVal [c] * 10 ^ l.length + dVal l := dVal_app [c] l
    have e1 : dVal [c] = c - 48 := by simp [dVal, NumText.digitsVal]
    rw [e, e1, List.length_cons, Nat.pow_succ']
    have h3 : (c - 48) * 10 ^ l.length ≤ 9 * 10 ^ l.length := Nat.mul_le_mul_right _ (by omega)
    omega
theorem dVal_one (k : Nat) : dVal (49 :: List.replicate k 48) = 10 ^ k := by
  have e : dVal (49 :: List.replicate k 48) = dVal [49] * 10 ^ (List.replicate k 48).length + dVal (List.replicate k 48) := dVal_app [49] _
  have z : ∀ k, dVal (List.replicate k 48) = 0 := by
    intro k
    induction k with
    | zero => rfl
    | succ k ih => rw [List.replicate_succ]; exact ih
  rw [e, z, List.length_replicate, show dVal [49] = 1 from rfl]
  omega
theorem numL_split (k : Nat) : ∀ m : Nat, 10 ^ (k + 1) ≤ m → numL m = numL (m / 10 ^ (k + 1)) ++ (List.replicate (k + 1 - (numL (m % 10 ^ (k + 1))).length) 48 ++ numL (m % 10 ^ (k + 1))) := by
  induction k with
  | zero =>
    intro m h
    have h' : 10 ≤ m := by simpa using h
    have e : numL (m % 10) = [48 + m % 10] := TL.numL_lt (Nat.mod_lt _ (by decide))
    rw [Nat.zero_add, Nat.pow_one, e]
    simp
    exact TL.numL_step h'
  | succ k ih =>
    intro m h
    have h10 : 10 ≤ m := Nat.le_trans (by rw [Nat.pow_succ]; have := Nat.pow_pos (n := k + 1) (show 0 < 10 by decide); omega) h
    have h1 : 10 ^ (k + 1) ≤ m / 10 := by
      rw [Nat.le_div_iff_mul_le (by decide)]
      rw [Nat.pow_succ] at h
      exact h
    have e1 : m / 10 ^ (k + 1 + 1) = m / 10 / 10 ^ (k + 1) := by rw [Nat.div_div_eq_div_mul, Nat.pow_succ', ]
    have e2 : m % 10 ^ (k + 1 + 1) = 10 * (m / 10 % 10 ^ (k + 1)) + m % 10 := by
      rw [Nat.pow_succ', Nat.mod_mul]
      omega
    rw [show numL m = numL (m / 10) ++ [48 + m % 10] from TL.numL_step h10, ih _ h1, e1, e2]
    generalize m / 10 % 10 ^ (k + 1) = r
    have hd : m % 10 < 10 := Nat.mod_lt _ (by decide)
    generalize m % 10 = c at *
    by_cases hr : r = 0
    · subst hr
      have a1 : numL 0 = [48] := TL.numL_lt (by decide)
      have a2 : numL (10 * 0 + c) = [48 + c] := by rw [Nat.mul_zero, Nat.zero_add]; exact TL.numL_lt hd
      rw [a1, a2]
      simp [List.replicate_succ']
    · have a2 : numL (10 * r + c) = numL r ++ [48 + c] := by
        have := TL.numL_step (n := 10 * r + c) (by omega)
        rw [show (10 * r + c) / 10 = r by omega, show (10 * r + c) % 10 = c by omega] at this
        exact this
      rw [a2]
      simp only [List.length_append, List.length_cons, List.length_nil, Nat.zero_add, List.append_assoc]
      rw [show k + 1 + 1 - ((numL r).length + 1) = k + 1 - (numL r).length by omega]
/-- a text as a number without a sign -/
def readU (l : List Nat) : Option (Int × Int) :=
  match TL.par [47] [] l with
  | some (t, b) => if isDigL t = true ∧ isDigL b = true ∧ 0 < dVal b then some (qOf (dVal t) (dVal b)) else none
  | none =>
    match TL.par [46] [] l with
    | some (t, b) => if isDigL t = true ∧ isDigL b = true then some (qOf (dVal (t ++ b)) ((10 ^ b.length : Nat) : Int)) else none
    | none => if isDigL l = true then some (qOf (dVal l) 1) else none
def readR (l : List Nat) : Option (Int × Int) := if l.head? = some 45 then (readU l.tail).map fun q => qOf (-1 * q.1) (1 * q.2) else readU l
def ratL (q : Int × Int) : List Nat := (if q.1 < 0 then [45] else []) ++ numL q.1.natAbs ++ (if q.2 = 1 then [] else 47 :: numL q.2.toNat)
def optD : Option (Int × Int) → PyData
  | none => .none
  | some q => ratD q
theorem par_some {c : Nat} {l a b : List Nat} (h : TL.par [c] [] l = some (a, b)) : l = a ++ c :: b ∧ c ∉ a := by
  have gen : ∀ (l acc a b : List Nat), TL.par [c] acc l = some (a, b) → acc ++ l = a ++ c :: b ∧ (c ∉ acc → c ∉ a) := by
    intro l
    induction l with
    | nil => intro acc a b h; cases h
    | cons x l ih =>
      intro acc a b h
      by_cases e : x = c
      · subst e
        rw [TL.par_hit (by simp [TL.pre])] at h
        injection h with h
        injection h with h1 h2
        subst h1 h2
        simp
      · rw [TL.par_miss (TL.pre_of_head _ _ e)] at h
        obtain ⟨h1, h2⟩ := ih _ _ _ h
        refine ⟨by rw [← h1]; simp, fun hn => h2 ?_⟩
        intro hm
        rcases List.mem_append.mp hm with z | z
        · exact hn z
        · rw [List.mem_singleton] at z; exact e z.symm
  obtain ⟨h1, h2⟩ := gen l [] a b h
  exact ⟨by simpa using h1, h2 (by simp)⟩
theorem par_mem {c : Nat} {l : List Nat} : TL.par [c] [] l = none ↔ c ∉ l := by
  constructor
  · intro h hm
    have gen : ∀ (l acc : List Nat), c ∈ l → TL.par [c] acc l ≠ none := by
      intro l
      induction l with
      | nil => intro acc h; cases h
      | cons x l ih =>
        intro acc h
        by_cases e : x = c
        · subst e; rw [TL.par_hit (by simp [TL.pre])]; simp
        · rw [TL.par_miss (TL.pre_of_head _ _ e)]
          exact ih _ (by rcases List.mem_cons.mp h with z | z; exact absurd z.symm e; exact z)
    exact gen l [] hm h
  · intro h
    exact TL.par_none1 h
/-! ### texts -/
theorem mul_rep (c : Nat) (k : Int) : Txt.mul (tx [c]) k = tx (List.replicate k.toNat c) := by
  unfold Txt.mul
  split
  · rename_i h
    rw [show k.toNat = 0 by omega]
    rfl
  · rename_i h
    split
    · rename_i h2
      have e : k = 1 := by
        rw [Bool.or_eq_true] at h2
        rcases h2 with h2 | h2
        · exact eq_of_beq h2
        · exact absurd h2 (by simp [Str.length])
      subst e
      rfl
    · generalize k.toNat = n
      have fold : ∀ (n : Nat) (a : Array Nat), (List.replicate n (tx [c]).cps).foldl (· ++ ·) a = a ++ (List.replicate n c).toArray := by
        intro n
        induction n with
        | zero => intro a; simp
        | succ n ih =>
          intro a
          rw [List.replicate_succ, List.foldl_cons, ih, List.replicate_succ]
          apply Array.toList_inj.mp
          simp
      rw [fold]
      simp
theorem num_tx (n : Nat) : Str.ofString (toString ((n : Nat) : Int)) = tx (numL n) := SX.num_S n
theorem cut_nat (l : List Nat) (a b : Nat) : cutS (tx l) (some (a : Int)) (some (b : Int)) = tx ((l.drop a).take (b - a)) := by
  unfold cutS
  have e1 : ∀ (n d v : Nat), HT.sIx n d (some (v : Int)) = min v n := fun n d v => by
    show (if ((v : Int)) < 0 then ((v : Int) + (n : Int)).toNat else min ((v : Int)).toNat n) = _
    rw [if_neg (by omega), Int.toNat_natCast]
  rw [e1, e1, tx_len]
  show SX.S _ = SX.S _
  congr 1
  show ((l.drop (min a l.length)).take (min b l.length - min a l.length)) = _
  by_cases h : a ≤ l.length
  · rw [Nat.min_eq_left h]
    by_cases h2 : b ≤ l.length
    · rw [Nat.min_eq_left h2]
    · rw [Nat.min_eq_right (a := b) (by omega), List.take_of_length_le (by simp), List.take_of_length_le (by simp; omega)]
  · rw [Nat.min_eq_right (a := a) (by omega), List.drop_eq_nil_of_le (Nat.le_refl _), List.drop_eq_nil_of_le (by omega)]
    simp
theorem cut_from (l : List Nat) (a : Nat) : cutS (tx l) (some (a : Int)) none = tx (l.drop a) := by
  unfold cutS
  have e1 : ∀ (n d v : Nat), HT.sIx n d (some (v : Int)) = min v n := fun n d v => by
    show (if ((v : Int)) < 0 then ((v : Int) + (n : Int)).toNat else min ((v : Int)).toNat n) = _
    rw [if_neg (by omega), Int.toNat_natCast]
  rw [e1, show HT.sIx (tx l).length (tx l).length none = (tx l).length from rfl, tx_len]
  show SX.S _ = SX.S _
  congr 1
  show ((l.drop (min a l.length)).take (l.length - min a l.length)) = _
  by_cases h : a ≤ l.length
  · rw [Nat.min_eq_left h, List.take_of_length_le (by simp)]
  · rw [Nat.min_eq_right (by omega), List.drop_eq_nil_of_le (Nat.le_refl _), List.drop_eq_nil_of_le (by omega)]
    simp
theorem cut_to (l : List Nat) (a : Nat) : cutS (tx l) none (some (a : Int)) = tx (l.take a) := by
  have e : cutS (tx l) none (some (a : Int)) = cutS (tx l) (some ((0 : Nat) : Int)) (some (a : Int)) := by
    unfold cutS
    rw [show HT.sIx (tx l).length 0 none = 0 from rfl, show HT.sIx (tx l).length 0 (some ((0 : Nat) : Int)) = 0 by simp [HT.sIx]]
  rw [e, cut_nat, List.drop_zero, Nat.sub_zero]
theorem joinL_nil : ∀ ys : List (List Nat), TL.joinL [] ys = ys.flatten
  | [] => rfl
  | [x] => by simp [TL.joinL]
  | x :: y :: r => by
    show x ++ ([] ++ TL.joinL [] (y :: r)) = _
    rw [joinL_nil (y :: r)]
    simp
theorem join_flat (ys : List (List Nat)) : Txt.join (tx []) (ys.map tx) = tx ys.flatten := by rw [← joinL_nil]; exact SX.join_S [] ys
theorem join_tx (a : List Nat) (ys : List (List Nat)) : Txt.join (tx a) (ys.map tx) = tx (TL.joinL a ys) := SX.join_S a ys
theorem int_tx {l : List Nat} (h : NumText.AllDigits l) (h1 : l ≠ []) (h2 : l.length ≤ 4300) : intText? (tx l) = some ((dVal l : Nat) : Int) := intText_digits (x := tx l) h h1 (by rw [tx_len]; exact h2)
theorem lens_tx (l : List (List Nat)) : (l.map tx).map (·.length) = l.map (·.length) := SX.lens l
theorem sum_le (c : Nat) : ∀ l : List (List Nat), (∀ x ∈ l, x.length ≤ c) → (l.map List.length).sum ≤ l.length * c
  | [], _ => by simp
  | x :: l, h => by
    have h1 := h x (List.mem_cons_self ..)
    have h2 := sum_le c l fun y hy => h y (List.mem_cons_of_mem _ hy)
    rw [List.map_cons, List.sum_cons, List.length_cons, Nat.add_mul]
    omega
theorem ratL_len {q : Int × Int} (h1 : q.1.natAbs < 10 ^ 1200) (h2 : q.2.natAbs < 10 ^ 1200) : (ratL q).length ≤ 2402 := by
  have a1 : (numL q.1.natAbs).length ≤ 1200 := TL.numL_len (by decide) h1
  have a2 : (numL q.2.toNat).length ≤ 1200 := TL.numL_len (by decide) (Nat.lt_of_le_of_lt (by omega) h2)
  clear h1 h2
  unfold ratL
  split <;> split <;> simp <;> omega
theorem split_tx {a b : List Nat} (hb : b ≠ []) (hk : b.all (· < 256) = true) : Txt.split (tx a) (tx b) = (TL.spl b 0 [] a).map tx := SX.split_S hb hk
end My
/-! Shape: data that may be compared. -/
namespace My
open PySem PySem.Spec PyProof.Rows L2
/-- plain data, at most n deep -/
def sh (n : Nat) (d : PyData) : Prop := d.canLay0 = true ∧ d.depth ≤ n
def okT (l : List Nat) : Prop := ∀ c ∈ l, c < 1114112
theorem sh_none {n : Nat} : sh n .none := ⟨rfl, Nat.zero_le _⟩
theorem sh_bool {n : Nat} {b : Bool} : sh n (.bool b) := ⟨rfl, Nat.zero_le _⟩
theorem sh_int {n : Nat} {i : Int} : sh n (.int i) := ⟨rfl, Nat.zero_le _⟩
theorem sh_str {n : Nat} {l : List Nat} (h : okT l) : sh n (tD l) := by
  refine ⟨?_, Nat.zero_le _⟩
  show (tx l).cps.all (fun c => decide (c < 1114112)) = true
  rw [← Array.all_toList, List.all_eq_true]
  intro c hc
  exact decide_eq_true (h c hc)
theorem sh_all {n : Nat} : ∀ {ds : List PyData}, (∀ d ∈ ds, sh n d) → PyData.canLayAll0 ds = true ∧ PyData.depthAll ds ≤ n
  | [], _ => ⟨rfl, Nat.zero_le _⟩
  | d :: ds, h => by
    have h1 := h d (List.mem_cons_self ..)
    have h2 := sh_all fun x hx => h x (List.mem_cons_of_mem _ hx)
    refine ⟨?_, ?_⟩
    · show (d.canLay0 && PyData.canLayAll0 ds) = true
      rw [h1.1, h2.1]; rfl
    · show max d.depth (PyData.depthAll ds) ≤ n
      exact Nat.max_le.mpr ⟨h1.2, h2.2⟩
theorem sh_list {n : Nat} {ds : List PyData} (h : ∀ d ∈ ds, sh n d) : sh (n + 1) (.list ds) := ⟨(sh_all h).1, Nat.succ_le_succ (sh_all h).2⟩
theorem sh_tup {n : Nat} {ds : List PyData} (h : ∀ d ∈ ds, sh n d) : sh (n + 1) (.tuple ds) := ⟨(sh_all h).1, Nat.succ_le_succ (sh_all h).2⟩
theorem sh.mono {m n : Nat} {d : PyData} (h : sh m d) (hl : m ≤ n) : sh n d := ⟨h.1, Nat.le_trans h.2 hl⟩
theorem sh_rat {n : Nat} (q : Int × Int) : sh (n + 1) (ratD q) := sh_tup fun d hd => by
  rcases List.mem_cons.mp hd with rfl | hd
  · exact sh_int
  · rw [List.mem_singleton] at hd; subst hd; exact sh_int
theorem sh_opt {n : Nat} (q : Option (Int × Int)) : sh (n + 1) (optD q) := by cases q; exact sh_none; exact sh_rat _
theorem sh.ok {n : Nat} {d : PyData} (h : sh n d) (hn : n ≤ 64) : SeqAt.shaped d = true := by
  unfold SeqAt.shaped
  rw [h.1, decide_eq_true (Nat.le_trans h.2 hn)]; rfl
theorem sh.refl {n : Nat} {d : PyData} (h : sh n d) : PyData.eqv d d = true := SeqAt.eqv_refl d h.1
theorem eqv_str (a b : List Nat) : PyData.eqv (tD a) (tD b) = decide (a = b) := by
  show (tx a == tx b) = _
  exact SX.S_beq_eq
theorem eqv_tup (a b : List PyData) : PyData.eqv (.tuple a) (.tuple b) = PyData.eqvAll a b := rfl
theorem eqvAll_strs : ∀ a b : List (List Nat), PyData.eqvAll (a.map tD) (b.map tD) = decide (a = b)
  | [], [] => rfl
  | [], _ :: _ => rfl
  | _ :: _, [] => rfl
  | x :: a, y :: b => by
    show (PyData.eqv (tD x) (tD y) && PyData.eqvAll (a.map tD) (b.map tD)) = _
    rw [eqv_str, eqvAll_strs a b, ← Bool.decide_and]
    refine decide_eq_decide.mpr ?_
    simp
/-- words of a text bear its signs -/
theorem spl_mem {S : List Nat} : ∀ (l : List Nat) (k : Nat) (acc : List Nat), ∀ p ∈ TL.spl S k acc l, ∀ c ∈ p, c ∈ acc ∨ c ∈ l
  | [], k, acc, p, h, c, hc => by rw [TL.spl_nil] at h; rw [List.mem_singleton] at h; subst h; exact .inl hc
  | x :: r, 0, acc, p, h, c, hc => by
    by_cases hp : TL.pre S (x :: r) = true
    · rw [TL.spl_hit hp] at h
      rcases List.mem_cons.mp h with z | z
      · subst z; exact .inl hc
      · rcases spl_mem r _ _ p z c hc with q | q
        · cases q
        · exact .inr (List.mem_cons_of_mem _ q)
    · rw [TL.spl_miss (by simpa using hp)] at h
      rcases spl_mem r _ _ p h c hc with q | q
      · rcases List.mem_append.mp q with q | q
        · exact .inl q
        · rw [List.mem_singleton] at q; subst q; exact .inr (List.mem_cons_self ..)
      · exact .inr (List.mem_cons_of_mem _ q)
  | x :: r, k + 1, acc, p, h, c, hc => by
    rcases spl_mem r k acc p h c hc with q | q
    · exact .inl q
    · exact .inr (List.mem_cons_of_mem _ q)
theorem okT_spl {S l : List Nat} (h : okT l) : ∀ p ∈ TL.spl S 0 [] l, okT p := fun p hp c hc => by
  rcases spl_mem l 0 [] p hp c hc with q | q
  · cases q
  · exact h c q
end My
namespace My
open PySem PySem.Spec PyProof.Rows L2
local macro_rules | `(tactic| walk_at "sx") => `(tactic| first | (simp only [cx_K, tB, iRng1, iRng2, iRng3, iList, iTup, wAs, tXf, tDictZip, tDGet1, rInD, rInT, tChain, tUn, rU, tCallS, WE, wOnly, tSl, tPart, tNoPart, tRevL, tStepL, tM0, tM1, wipe, tYes, Bool.not_eq_true', gCons, gNil, decide_eq_false_iff_not, tCall, tPar, tAndV, tOrV, tNotV, tIf, List.append_nil, rEq, rNe, scal_ii, scal_ss, scal_bb, scal_nn, scal_in, scal_ni, scal_sn, scal_ns, scal_is, scal_si, Bool.and_true, Bool.true_and, Bool.and_false, Bool.false_and, reduceCtorEq, tLst, tTup, Int.reduceToNat, decide_true, decide_false, Bool.not_true, Bool.not_false, Bool.false_eq_true, if_true, if_false, reduceIte, gSub, tAnd, tOr, tNot, tBM, tBM0, tNext, tSeq, tAsg, tOp, rI, rI0, tVar, tC, gName, tRet, tCB, tCons, tNil, tTest, tIfS, tDrop, L2.start, List.map_cons, List.map_nil, List.length_cons, List.length_nil, List.cons_append, List.nil_append, List.replicate, List.getElem?_cons_zero, List.getElem?_cons_succ, List.set_cons_zero, List.set_cons_succ, Option.some.injEq, V.int.injEq, V.str.injEq, V.bl.injEq, V.ref.injEq, exists_eq_left', exists_eq_left, exists_and_left, exists_eq', and_assoc, List.cons.injEq, and_true, true_and, decide_eq_true_eq, Nat.reduceAdd, Nat.reduceSub]) | skip)
/-- _law_mixed(cell, k): a number from 0 to 1000000006 -/
def spMixed : Sp := fun vs H Q _ => ∃ c k : Int, vs = [.int c, .int k] ∧ 0 ≤ k ∧ k ≤ 101000000 ∧ ∀ r : Int, 0 ≤ r → r < 1000000007 → Q (.int r) H
theorem sq_le {k n : Int} (h0 : 0 ≤ k) (h : k ≤ n) : 0 ≤ k * k ∧ k * k ≤ n * n :=
  ⟨Int.mul_nonneg h0 h0, Int.mul_le_mul h h h0 (Int.le_trans h0 h)⟩
/-- the box at a: its great cells at g, what is left of the last one, its small cells at s, its count, at most n -/
structure Bx (H : Hp) (a g s : Addr) (n : Nat) : Prop where
  ex : ∃ (gr sm : List Int) (cur cnt : Int), H a = some (.lst [.ref g, .int cur, .ref s, .int cnt]) ∧ H g = some (.lst (gr.map V.int)) ∧ H s = some (.lst (sm.map V.int)) ∧ 0 ≤ cur ∧ (∀ x ∈ gr, 0 ≤ x) ∧ 0 ≤ cnt ∧ cnt ≤ n ∧ gr.length ≤ 63 ∧ sm.length ≤ 63
  ag : a ≠ g
  as : a ≠ s
  gs : g ≠ s
def spTake : Sp := fun vs H Q _ => ∃ (a g s : Addr) (n : Nat) (size : Int), vs = [.ref a, .int size] ∧ Bx H a g s n ∧ 1 ≤ size ∧ size ≤ 1000000000000000000 ∧ n ≤ 100000000 ∧
  ∀ (r : Int) (H' : Hp), 0 ≤ r → r < size → Bx H' a g s (n + 1) → SameB [a, g] H H' → Q (.int r) H'
section
variable {P : Program} {w : World} {K : PySem.W.Frag} {mg : Str → Option Value} {base : Heap}
theorem sc_mixed : FnScope ["_law_cell", "_law_k", "_law_whole"] ["_law_cell", "_law_k"] (defScope s_mixed) := ⟨rfl, rfl, rfl, by decide +kernel, rfl, by decide +kernel, by decide +kernel⟩
theorem ok_mixed (F : Dfn K mg "_law_mixed" s_mixed) : Rdy P w K mg base CX0 1 "_law_mixed" ["_law_cell", "_law_k"] spMixed := by
  refine F.rdy sc_mixed (fun _ _ _ _ _ _ us hl => match us, hl with | [_, _], _ => rfl) (fun vs H Q E h => ?_) (fun f cdv A outer s H vs Q E hr h => ?_)
  · obtain ⟨c, k, rfl, _⟩ := h; rfl
  · obtain ⟨c, k, rfl, hk0, hk1, kp⟩ := h
    refine ⟨_, (pss_cons (ps_set (i := 2) sc_mixed.nd rfl (Or.inl rfl) (pe_op op_mod (pe_op op_pow (pe_op op_add (pe_op op_add (pe_op op_add (pe_op op_mod (pv 0) pe_int) (pe_op op_mul (pe_op op_mul pe_int (pv 1)) (pv 1))) (pe_op op_mul pe_int (pv 1))) pe_int) pe_int) pe_int))
      (pss_one (ps_ret (pe_op op_mod (pe_op op_add (pe_op op_mul (pv 2) pe_int) (pe_op op_mul pe_int (pv 1))) pe_int)))), ?_⟩
    walk_at "sx"
    obtain ⟨q0, q1⟩ := sq_le hk0 hk1
    have e1 : (1009 : Int) * k * k = 1009 * (k * k) := Int.mul_assoc _ _ _
    have b1 := Int.emod_nonneg c (show (2147483647 : Int) ≠ 0 by decide)
    have b2 := Int.emod_lt_of_pos c (show (0 : Int) < 2147483647 by decide)
    rw [e1]
    generalize hx : c % 2147483647 + 1009 * (k * k) + 48611 * k + 17 = x
    generalize hy : x ^ Int.toNat 5 % 2147483647 = y
    have b3 : 0 ≤ y := by rw [← hy]; exact Int.emod_nonneg _ (by decide)
    have b4 : y < 2147483647 := by rw [← hy]; exact Int.emod_lt_of_pos _ (by decide)
    generalize hkk : k * k = kk at *
    refine ⟨by decide, .inl (by omega), .inr (by omega), .inl (by omega), ⟨by decide, by decide, by omega⟩, by decide, .inl (by omega), .inl (by omega), by decide, ?_⟩
    exact kp _ (Int.emod_nonneg _ (by decide)) (Int.emod_lt_of_pos _ (by decide))
theorem sc_take : FnScope ["_law_box_here", "_law_size", "_law_found", "_law_cell", "_law_reach"] ["_law_box_here", "_law_size"] (defScope s_take) := ⟨rfl, rfl, rfl, by decide +kernel, rfl, by decide +kernel, by decide +kernel⟩
theorem ok_take {aW aB : Addr} (T : Txt K mg aW aB) (F : Dfn K mg "_law_take" s_take) (R_mixed : Rdy P w K mg base CX0 1 "_law_mixed" ["_law_cell", "_law_k"] spMixed) : Rdy P w K mg base CX0 2 "_law_take" ["_law_box_here", "_law_size"] spTake := by
  refine F.rdy sc_take (fun _ _ _ _ _ _ us hl => match us, hl with | [_, _], _ => rfl) (fun vs H Q E h => ?_) (fun f cdv A outer s H vs Q E hr h => ?_)
  · obtain ⟨a, g, sl, n, size, rfl, _⟩ := h; rfl
  · obtain ⟨a, g, sl, n, size, rfl, ⟨⟨gr, sm, cur, cnt, ha, hg, hs, hcur, hgr, hc0, hcn, hgl, hsl⟩, nag, nas, ngs⟩, h1, h2, hn, kp⟩ := h
    refine ⟨_, (pss_cons (ps_asg (pe_op op_add (pe_ix ix_list (pv 0) pe_int (fun _ _ => rfl)) pe_int) (pg_sub (pv 0) pe_int set_list))
      (C8.pss_cut (ps_if (PW.pt (pw_and (pt_cmpR op_eq (pe_ix ix_list (pv 0) pe_int (fun _ _ => rfl)) pe_int (nomark _)) (pw_and1 (pt_cmpR op_gt (pe_callB call_len (by rfl) T.b_len PySem.boot_len (pa_cons (pe_ix ix_list (pv 0) pe_int (fun _ _ => rfl)) pa_nil)) pe_int (nomark _))))) (pss_one (ps_asg (pe_bm PySem.F.plainAttrs_list PySem.F.slot_list_pop PySem.F.type_list_pop mt_popAt (pe_ix ix_list (pv 0) pe_int (fun _ _ => rfl)) (pa_cons pe_int pa_nil)) (pg_sub (pv 0) pe_int set_list))) pss_nil)
      (pss_cons (ps_if (pt_cmpR op_gt (pe_ix ix_list (pv 0) pe_int (fun _ _ => rfl)) pe_int (nomark _)) (pss_cons (ps_set (i := 2) sc_take.nd rfl (Or.inl rfl) (pe_op op_mod (pe_ix ix_list (pv 0) pe_int (fun _ _ => rfl)) (pv 1)))
      (pss_cons (ps_asg (pe_op op_fdivW (pe_ix ix_list (pv 0) pe_int (fun _ _ => rfl)) (pv 1)) (pg_sub (pv 0) pe_int set_list))
      (pss_one (ps_ret (pv 2))))) pss_nil)
      (pss_cons (ps_set (i := 3) sc_take.nd rfl (Or.inl rfl) (pe_ix ix_list (pe_op op_cat (pe_ix ix_list (pv 0) pe_int (fun _ _ => rfl)) (pe_lst (pa_cons (pe_op op_mul pe_int (pe_ix ix_list (pv 0) pe_int (fun _ _ => rfl))) pa_nil))) (pe_op op_mod (pe_ix ix_list (pv 0) pe_int (fun _ _ => rfl)) (pe_callB (call_max2 rfl) (by rfl) T.b_max (by decide +kernel) (pa_cons pe_int (pa_cons (pe_callB call_len (by rfl) T.b_len PySem.boot_len (pa_cons (pe_ix ix_list (pv 0) pe_int (fun _ _ => rfl)) pa_nil)) pa_nil)))) (fun _ _ => rfl)))
      (pss_cons (ps_set (i := 2) sc_take.nd rfl (Or.inl rfl) pe_int)
      (pss_cons (ps_set (i := 4) sc_take.nd rfl (Or.inl rfl) pe_int)
      (pss_cons (ps_while PassesOwn.never (pt_mono (pt_cmpR op_lt (pv 4) (pv 1) (nomark _))) (pss_cons (ps_set (i := 2) sc_take.nd rfl (Or.inl rfl) (pe_op op_add (pe_op op_mul (pv 2) pe_int) (pe_cl R_mixed (hr.mono (by decide)) pass0 (pa_cons (pv 3) (pa_cons (pe_op op_add (pe_ix ix_list (pv 0) pe_int (fun _ _ => rfl)) (pe_op op_mul pe_int (pe_op op_mod (pv 2) pe_int))) pa_nil)))))
      (pss_one (ps_set (i := 4) sc_take.nd rfl (Or.inl rfl) (pe_op op_mul (pv 4) pe_int)))))
      (pss_one (ps_ret (pe_op op_mod (pv 2) (pv 1))))))))))), ?_⟩
    walk_at "sx"
    refine rd_ixL ha rfl ?_
    walk_at "sx"
    refine rd_setL ha rfl fun H1 S1 ha1 => ?_
    have hg1 := S1.at hg (by simpa using nag.symm)
    have hs1 := S1.at hs (by simpa using nas.symm)
    replace S1 : SameB [a, g] H H1 := S1.mono (by simp)
    clear ha hg hs
    obtain ⟨Mid, hM⟩ : ∃ M : L2.St → Hp → Prop, ∀ σ H2, M σ H2 ↔ (σ = [some (.ref a), some (.int size), none, none, none] ∧ ∃ (gr : List Int) (cur : Int), H2 a = some (.lst [.ref g, .int cur, .ref sl, .int (cnt + 1)]) ∧ H2 g = some (.lst (gr.map V.int)) ∧ H2 sl = some (.lst (sm.map V.int)) ∧ 0 ≤ cur ∧ (∀ x ∈ gr, 0 ≤ x) ∧ gr.length ≤ 63 ∧ SameB [a, g] H H2) := ⟨_, fun _ _ => Iff.rfl⟩
    refine ⟨Mid, ?_, fun σ H1 hmid => ?_⟩
    · clear kp
      walk_at "sx"
      refine rd_ixL ha1 rfl ?_
      walk_at "sx"
      split
      · refine rd_ixL ha1 rfl ?_
        walk_at "sx"
        refine rd_lenL (SqL.of hg1) ?_
        split
        · rename_i hl
          cases gr with
          | nil => simp at hl
          | cons z gr =>
            refine rd_ixL ha1 rfl ?_
            refine ⟨.inl ⟨rfl, _, SqL.of hg1⟩, ?_⟩
            refine rd_popAt (k := 0) (y := .int z) hg1 (by decide) (by decide) (by simp [seqIndex?]) rfl fun H2 S2 hg2 => ?_
            refine rd_setL (S2.at ha1 (by simpa using nag)) rfl fun H3 S3 ha3 => ?_
            refine (hM _ _).2 ⟨rfl, gr, z, ha3, S3.at hg2 (by simpa using nag.symm), S3.at (S2.at hs1 (by simpa using ngs.symm)) (by simpa using nas.symm), hgr z (by simp), fun x hx => hgr x (by simp [hx]), ?_, ?_⟩
            · simp only [List.length_cons] at hgl; omega
            · exact S1.trans (SameB.trans (S2.mono (by simp)) (S3.mono (by simp)))
        · exact (hM _ _).2 ⟨rfl, gr, cur, ha1, hg1, hs1, hcur, hgr, hgl, S1⟩
      · exact (hM _ _).2 ⟨rfl, gr, cur, ha1, hg1, hs1, hcur, hgr, hgl, S1⟩
    · clear ha1 hg1 hs1 hcur hgr hgl S1
      obtain ⟨rfl, gr, cur, ha, hg, hs, hcur, hgr, hgl, S1⟩ := (hM _ _).1 hmid
      walk_at "sx"
      refine rd_ixL ha rfl ?_
      walk_at "sx"
      split
      · refine rd_ixL ha rfl ?_
        walk_at "sx"
        refine ⟨h1, rd_ixL ha rfl ?_⟩
        walk_at "sx"
        refine ⟨wide_div h1 (b := 64) (by omega) (by decide) (by decide), rd_setL ha rfl fun H3 S3 ha3 => ?_⟩
        exact kp _ _ (Int.emod_nonneg _ (by omega)) (Int.emod_lt_of_pos _ (by omega)) ⟨⟨gr, sm, cur / size, cnt + 1, ha3, S3.at hg (by simpa using nag.symm), S3.at hs (by simpa using nas.symm), Int.ediv_nonneg hcur (by omega), hgr, by omega, by omega, hgl, hsl⟩, nag, nas, ngs⟩ (S1.trans (S3.mono (by simp)))
      · refine rd_ixL ha rfl (rd_ixL ha rfl ?_)
        walk_at "sx"
        refine ⟨.inl (by decide), size_le (by decide), ?_⟩
        intro p hp; generalize e3 : upd _ p _ = H3; obtain ⟨S3, hp3⟩ := new_of hp e3; clear e3
        refine rd_cat (S3 _ _ hs) hp3 (by simp; omega) fun q H4 hq S4 hq4 => ?_
        have S5 := S3.trans S4
        refine rd_ixL (S5 _ _ ha) rfl (rd_ixL (S5 _ _ ha) rfl (rd_lenL (SqL.of (S5 _ _ hs)) ?_))
        walk_at "sx"
        have hj0 : 0 ≤ (cnt + 1) % (if ((sm.map V.int).length : Int) > 1 then ((sm.map V.int).length : Int) else 1) := Int.emod_nonneg _ (by split <;> omega)
        have hj1 : (cnt + 1) % (if ((sm.map V.int).length : Int) > 1 then ((sm.map V.int).length : Int) else 1) < ((sm ++ [7 * (cnt + 1)]).length : Int) := by
          refine Int.lt_of_lt_of_le (Int.emod_lt_of_pos _ (by split <;> omega)) ?_
          simp only [List.length_map, List.length_append, List.length_cons, List.length_nil]
          split <;> omega
        obtain ⟨x, _, hx⟩ := atI_map (g := V.int) hj0 hj1
        rw [List.map_append] at hx
        refine ⟨by split <;> omega, rd_ixL hq4 hx ?_⟩
        have ha4 := S5 _ _ ha
        have hg4 := S5 _ _ hg
        have hs4 := S5 _ _ hs
        have SB : SameB [a, g] H H4 := S1.trans (.of S5)
        clear hx hj0 hj1 hq4 hp3 S3 S4 S5 hp hq ha hg hs S1
        obtain ⟨W, hW⟩ : ∃ W : Nat → L2.St → Hp → Prop, ∀ m σ H2, W m σ H2 ↔ (∃ fd rc : Int, σ = [some (.ref a), some (.int size), some (.int fd), some (.int x), some (.int rc)] ∧ H2 = H4 ∧ 0 ≤ fd ∧ 1 ≤ rc ∧ m = (size - rc).toNat) := ⟨_, fun _ _ _ => Iff.rfl⟩
        refine rd_while W (size - 1).toNat ((hW _ _ _).2 ⟨0, 1, rfl, rfl, by decide, by decide, rfl⟩) (fun m σ H2 hw => ?_)
        · obtain ⟨fd, rc, rfl, rfl, h3, h4, rfl⟩ := (hW _ _ _).1 hw
          walk_at "sx"
          split
          · refine ⟨.inr (by decide), rd_ixL ha4 rfl ?_⟩
            walk_at "sx"
            have b1 := Int.emod_nonneg fd (show (89 : Int) ≠ 0 by decide)
            have b2 := Int.emod_lt_of_pos fd (show (0 : Int) < 89 by decide)
            refine ⟨by decide, .inl (by decide), x, _, rfl, by omega, by omega, fun r h5 h6 => ?_⟩
            walk_at "sx"
            refine ⟨.inr (by decide), (size - rc * 1000000007).toNat, by omega, (hW _ _ _).2 ⟨_, _, rfl, rfl, ?_, by omega, rfl⟩⟩
            have := Int.mul_nonneg h3 (show (0 : Int) ≤ 1000000007 by decide)
            omega
          · refine ⟨h1, kp _ _ (Int.emod_nonneg _ (by omega)) (Int.emod_lt_of_pos _ (by omega)) ⟨⟨gr, sm, cur, cnt + 1, ha4, hg4, hs4, hcur, hgr, by omega, by omega, hgl, hsl⟩, nag, nas, ngs⟩ SB⟩
end
end My
namespace My
open PySem PySem.Spec PyProof.Rows L2
local macro_rules | `(tactic| walk_at "sx") => `(tactic| first | (simp only [cx_K, tB, iRng1, iRng2, iRng3, iList, iTup, wAs, tXf, tDictZip, tDGet1, rInD, rInT, tChain, tUn, rU, tCallS, WE, wOnly, tSl, tPart, tNoPart, tRevL, tStepL, tM0, tM1, wipe, tYes, Bool.not_eq_true', gCons, gNil, decide_eq_false_iff_not, tCall, tPar, tAndV, tOrV, tNotV, tIf, List.append_nil, rEq, rNe, scal_ii, scal_ss, scal_bb, scal_nn, scal_in, scal_ni, scal_sn, scal_ns, scal_is, scal_si, Bool.and_true, Bool.true_and, Bool.and_false, Bool.false_and, reduceCtorEq, tLst, tTup, Int.reduceToNat, decide_true, decide_false, Bool.not_true, Bool.not_false, Bool.false_eq_true, if_true, if_false, reduceIte, gSub, tAnd, tOr, tNot, tBM, tBM0, tNext, tSeq, tAsg, tOp, rI, rI0, tVar, tC, gName, tRet, tCB, tCons, tNil, tTest, tIfS, tDrop, L2.start, List.map_cons, List.map_nil, List.length_cons, List.length_nil, List.cons_append, List.nil_append, List.replicate, List.getElem?_cons_zero, List.getElem?_cons_succ, List.set_cons_zero, List.set_cons_succ, Option.some.injEq, V.int.injEq, V.str.injEq, V.bl.injEq, V.ref.injEq, exists_eq_left', exists_eq_left, exists_and_left, exists_eq', and_assoc, List.cons.injEq, and_true, true_and, decide_eq_true_eq, Nat.reduceAdd, Nat.reduceSub]) | skip)
local macro_rules | `(tactic| walk_at "isi") => `(tactic| first | (simp only [isi_none_int, isi_none_bool, isi_none_str, isi_none_list, isi_none_tuple, isi_bool_int, isi_bool_bool, isi_bool_str, isi_bool_list, isi_bool_tuple, isi_int_int, isi_int_bool, isi_int_str, isi_int_list, isi_int_tuple, isi_str_int, isi_str_bool, isi_str_str, isi_str_list, isi_str_tuple, isi_list_int, isi_list_bool, isi_list_str, isi_list_list, isi_list_tuple, isi_tuple_int, isi_tuple_bool, isi_tuple_str, isi_tuple_list, isi_tuple_tuple, isInt_none, isInt_bool, isInt_int, isInt_str, isInt_list, isInt_tuple]) | skip)
def isRatD : PyData → Bool
  | .tuple [.int t, .int b] => decide (1 ≤ b) && decide (Int.gcd t b = 1)
  | _ => false
def R_is_integer (ds : List PyData) (r : PyData) : Prop := ∃ d, ds = [d] ∧ r = .bool (isIntD d)
def R_common_divisor (ds : List PyData) (r : PyData) : Prop := ∃ a b : Int, ds = [.int a, .int b] ∧ 0 ≤ a ∧ 0 ≤ b ∧ r = .int (Int.gcd a b)
def R_is_ratio (ds : List PyData) (r : PyData) : Prop := ∃ d, ds = [d] ∧ r = .bool (isRatD d)
def R_as_ratio (ds : List PyData) (r : PyData) : Prop := (∃ i, ds = [.int i] ∧ r = .tuple [.int i, .int 1]) ∨ (∃ d, ds = [d] ∧ isRatD d = true ∧ r = d)
theorem gcd_mod {x y : Int} (hx : 0 ≤ x) (hy : 0 ≤ y) : Int.gcd y (x % y) = Int.gcd x y := by
  obtain ⟨m, rfl⟩ := Int.eq_ofNat_of_zero_le hx
  obtain ⟨n, rfl⟩ := Int.eq_ofNat_of_zero_le hy
  show Nat.gcd n (((m : Int) % (n : Int))).natAbs = Nat.gcd m n
  have e : ((m : Int) % (n : Int)).natAbs = m % n := by rw [← Int.natCast_emod]; rfl
  rw [e, Nat.gcd_comm m n, Nat.gcd_rec n m, Nat.gcd_comm]
section
variable {P : Program} {w : World} {K : PySem.W.Frag} {mg : Str → Option Value} {base : Heap} {aW aB : Addr}
theorem sc_is_integer : FnScope ["value"] ["value"] (defScope s_is_integer) := ⟨rfl, rfl, rfl, by decide +kernel, rfl, by decide +kernel, by decide +kernel⟩
theorem ok_is_integer (T : Txt K mg aW aB) (F : Dfn K mg "is_integer" s_is_integer) : Rdy P w K mg base CX0 1 "is_integer" ["value"] (spD K R_is_integer) := by
  refine F.rdy sc_is_integer (fun _ _ _ _ _ _ us hl => match us, hl with | [_], _ => rfl) (spD_len (by rintro _ _ ⟨d, rfl, _⟩; rfl)) (fun f cdv A outer s H vs Q E hr h => ?_)
  obtain ⟨S, ds, r, hF, hd, ⟨d, rfl, rfl⟩, kp⟩ := h
  obtain ⟨v, rfl, h1⟩ := dps_1 hd
  refine ⟨_, (pss_one (ps_ret (pe_and (pe_callB call_isi (by rfl) T.b_isinstance (by decide +kernel) (pa_cons (pv 0) (pa_cons (pe_bltn (v := .ty "int") (by rfl) T.b_int (by decide +kernel) rfl) pa_nil))) (pe_one (pe_not (pe_callB call_isi (by rfl) T.b_isinstance (by decide +kernel) (pa_cons (pv 0) (pa_cons (pe_bltn (v := .ty "bool") (by rfl) T.b_bool (by decide +kernel) rfl) pa_nil)))))))), ?_⟩
  walk_at "sx"
  refine rd_isi (dp_up h1) (by simp) ?_
  walk_at "sx"
  split
  · rename_i e
    refine rd_isi (dp_up h1) (by simp) ?_
    walk_at "sx"
    refine kp _ _ (Same.refl _) ?_
    unfold isIntD
    rw [e]
    exact .bl _
  · rename_i e
    refine kp _ _ (Same.refl _) ?_
    unfold isIntD
    rw [Bool.not_eq_true] at e
    rw [e]
    exact .bl _
theorem sc_common_divisor : FnScope ["one", "other"] ["one", "other"] (defScope s_common_divisor) := ⟨rfl, rfl, rfl, by decide +kernel, rfl, by decide +kernel, by decide +kernel⟩
theorem ok_common_divisor (T : Txt K mg aW aB) (F : Dfn K mg "common_divisor" s_common_divisor) : Rdy P w K mg base CX0 1 "common_divisor" ["one", "other"] (spD K R_common_divisor) := by
  refine F.rdy sc_common_divisor (fun _ _ _ _ _ _ us hl => match us, hl with | [_, _], _ => rfl) (spD_len (by rintro _ _ ⟨d, e, rfl, _⟩; rfl)) (fun f cdv A outer s H vs Q E hr h => ?_)
  obtain ⟨S, ds, r, hF, hd, ⟨a, b, rfl, ha, hb, rfl⟩, kp⟩ := h
  obtain ⟨x, y, rfl, hx, hy⟩ := dps_2 hd
  cases dp_int hx
  cases dp_int hy
  refine ⟨_, (pss_cons (ps_while PassesOwn.never (pt_mono (pt_cmpR op_ne (pv 1) pe_int (nomark _))) (pss_one (ps_par (i := 0) (j := 1) (by rfl) sc_common_divisor.nd rfl rfl (by decide) rfl rfl (pa_cons (pv 1) (pa_cons (pe_op op_mod (pv 0) (pv 1)) pa_nil)) (by rfl))))
      (pss_one (ps_ret (pv 0)))), ?_⟩
  walk_at "sx"
  obtain ⟨W, hW⟩ : ∃ W : Nat → L2.St → Hp → Prop, ∀ m σ H2, W m σ H2 ↔ (∃ x y : Int, σ = [some (.int x), some (.int y)] ∧ H2 = H ∧ 0 ≤ x ∧ 0 ≤ y ∧ Int.gcd x y = Int.gcd a b ∧ m = y.toNat) := ⟨_, fun _ _ _ => Iff.rfl⟩
  refine rd_while W b.toNat ((hW _ _ _).2 ⟨a, b, rfl, rfl, ha, hb, rfl, rfl⟩) (fun m σ H2 hw => ?_)
  obtain ⟨x, y, rfl, rfl, h1, h2, h3, rfl⟩ := (hW _ _ _).1 hw
  walk_at "sx"
  split
  · have hy : 0 < y := by omega
    have h4 := Int.emod_lt_of_pos x hy
    refine ⟨hy, (x % y).toNat, by omega, (hW _ _ _).2 ⟨y, x % y, rfl, rfl, h2, Int.emod_nonneg _ (by omega), ?_, rfl⟩⟩
    rw [← h3]; exact gcd_mod h1 h2
  · have hy : y = 0 := by omega
    subst hy
    rw [Int.gcd_zero_right] at h3
    have : x = ((Int.gcd a b : Nat) : Int) := by rw [← h3]; omega
    rw [← this] at kp
    exact kp _ _ (Same.refl _) (.int _)
theorem sc_is_ratio : FnScope ["value", "top", "bottom"] ["value"] (defScope s_is_ratio) := ⟨rfl, rfl, rfl, by decide +kernel, rfl, by decide +kernel, by decide +kernel⟩
theorem ok_is_ratio (T : Txt K mg aW aB) (F : Dfn K mg "is_ratio" s_is_ratio) (R_is_integer : Rdy P w K mg base CX0 1 "is_integer" ["value"] (spD K R_is_integer)) (R_common_divisor : Rdy P w K mg base CX0 1 "common_divisor" ["one", "other"] (spD K R_common_divisor)) :
    Rdy P w K mg base CX0 2 "is_ratio" ["value"] (spD K R_is_ratio) := by
  refine F.rdy sc_is_ratio (fun _ _ _ _ _ _ us hl => match us, hl with | [_], _ => rfl) (spD_len (by rintro _ _ ⟨d, rfl, _⟩; rfl)) (fun f cdv A outer s H vs Q E hr h => ?_)
  obtain ⟨S, ds, r, hF, hd, ⟨d, rfl, rfl⟩, kp⟩ := h
  obtain ⟨v, rfl, h1⟩ := dps_1 hd
  refine ⟨_, (pss_cons (ps_if (PW.pt (pw_or (pt_not (pt_val (pe_callB call_isi (by rfl) T.b_isinstance (by decide +kernel) (pa_cons (pv 0) (pa_cons (pe_bltn (v := .ty "tuple") (by rfl) T.b_tuple (by decide +kernel) rfl) pa_nil))))) (pw_or1 (pt_cmpR op_ne (pe_callB call_len (by rfl) T.b_len PySem.boot_len (pa_cons (pv 0) pa_nil)) pe_int (nomark _))))) (pss_one (ps_ret pe_bl)) pss_nil)
      (pss_cons (ps_asg (pv 0) (pg_tup (n := 2) rfl (pgs_cons (pg_name (i := 1) sc_is_ratio.nd rfl (Or.inl rfl)) (pgs_cons (pg_name (i := 2) sc_is_ratio.nd rfl (Or.inl rfl)) pgs_nil))))
      (pss_cons (ps_if (PW.pt (pw_or (pt_not (pt_val (pe_cl R_is_integer (hr.mono (by decide)) pass0 (pa_cons (pv 1) pa_nil)))) (pw_or (pt_not (pt_val (pe_cl R_is_integer (hr.mono (by decide)) pass0 (pa_cons (pv 2) pa_nil)))) (pw_or1 (pt_cmpR op_lt (pv 2) pe_int (nomark _)))))) (pss_one (ps_ret pe_bl)) pss_nil)
      (pss_one (ps_ret (pe_cmpR op_eq (pe_cl R_common_divisor (hr.mono (by decide)) pass0 (pa_cons (pe_callB call_abs (by rfl) T.b_abs (by decide +kernel) (pa_cons (pv 1) pa_nil)) (pa_cons (pv 2) pa_nil))) pe_int (nomark _))))))), ?_⟩
  walk_at "sx"
  refine rd_isi (dp_up h1) (by simp) ?_
  walk_at "sx"
  cases d with
  | tuple ds =>
    obtain ⟨a, xs, rfl, hs, ha⟩ := dp_tup h1
    have hl := dps_len ha
    walk_at "isi"
    walk_at "sx"
    refine rd_lenT (seqT_up hs) ?_
    match ds, hl with
    | [], hl => rw [if_pos (by simp [hl])]; exact kp _ _ (Same.refl _) (.bl _)
    | [z], hl => rw [if_pos (by simp [hl])]; rw [show isRatD (.tuple [z]) = false by cases z <;> rfl] at kp; exact kp _ _ (Same.refl _) (.bl _)
    | z :: y :: u :: r, hl => rw [if_pos (by rw [hl]; simp only [List.length_cons]; omega)]; rw [show isRatD (.tuple (z :: y :: u :: r)) = false by cases z <;> first | rfl | (cases y <;> rfl)] at kp; exact kp _ _ (Same.refl _) (.bl _)
    | [d1, d2], hl =>
      rw [if_neg (by simp [hl])]
      obtain ⟨x, y, rfl, hx, hy⟩ := dps_2 ha
      refine ⟨a, _, rfl, seqT_up hs, rfl, ?_⟩
      walk_at "sx"
      refine rd_D hF (dps_one hx) ⟨_, rfl, rfl⟩ fun v2 H2 S2 hv2 => ?_
      cases dp_bl hv2
      walk_at "sx"
      cases d1 with
      | int t =>
        walk_at "isi"
        walk_at "sx"
        refine rd_D (hF.same S2) (dps_one (dp_same (dl_same S2) hy)) ⟨_, rfl, rfl⟩ fun v3 H3 S3 hv3 => ?_
        cases dp_bl hv3
        cases dp_int hx
        walk_at "sx"
        cases d2 with
        | int b =>
          cases dp_int hy
          walk_at "isi"
          walk_at "sx"
          have S4 := S2.trans S3
          split
          · rename_i hb
            refine kp _ _ S4 ?_
            simp only [isRatD, decide_eq_false (show ¬ 1 ≤ b by omega), Bool.false_and]
            exact .bl _
          · rename_i hb
            refine rd_D (hF.same S4) (.cons (.int _) (.cons (.int _) .nil)) ⟨_, _, rfl, (by split <;> omega), by omega, rfl⟩ fun v5 H5 S5 hv5 => ?_
            cases dp_int hv5
            walk_at "sx"
            refine kp _ _ (S4.trans S5) ?_
            have e : ((Int.gcd (if t < 0 then -t else t) b : Nat) : Int) = 1 ↔ Int.gcd t b = 1 := by
              have : Int.gcd (if t < 0 then -t else t) b = Int.gcd t b := by split <;> simp
              rw [this]; omega
            simp only [isRatD, decide_eq_true (show 1 ≤ b by omega), Bool.true_and, ← e]
            exact .bl _
        | _ => exact kp _ _ (S2.trans S3) (.bl _)
      | _ => exact kp _ _ S2 (.bl _)
  | _ => exact kp _ _ (Same.refl _) (.bl _)
theorem sc_as_ratio : FnScope ["value"] ["value"] (defScope s_as_ratio) := ⟨rfl, rfl, rfl, by decide +kernel, rfl, by decide +kernel, by decide +kernel⟩
theorem ok_as_ratio (T : Txt K mg aW aB) (F : Dfn K mg "as_ratio" s_as_ratio) (R_is_integer : Rdy P w K mg base CX0 1 "is_integer" ["value"] (spD K R_is_integer)) (R_is_ratio : Rdy P w K mg base CX0 2 "is_ratio" ["value"] (spD K R_is_ratio)) :
    Rdy P w K mg base CX0 3 "as_ratio" ["value"] (spD K R_as_ratio) := by
  refine F.rdy sc_as_ratio (fun _ _ _ _ _ _ us hl => match us, hl with | [_], _ => rfl) (spD_len (by rintro _ _ (⟨d, rfl, _⟩ | ⟨d, rfl, _⟩) <;> rfl)) (fun f cdv A outer s H vs Q E hr h => ?_)
  obtain ⟨S, ds, r, hF, hd, hR, kp⟩ := h
  refine ⟨_, (pss_cons (ps_if (pt_val (pe_cl R_is_integer (hr.mono (by decide)) pass0 (pa_cons (pv 0) pa_nil))) (pss_one (ps_ret (pe_tup (pa_cons (pv 0) (pa_cons pe_int pa_nil))))) pss_nil)
      (pss_cons (ps_if (pt_not (pt_val (pe_cl R_is_ratio (hr.mono (by decide)) pass0 (pa_cons (pv 0) pa_nil)))) (pss_one ps_never) pss_nil)
      (pss_one (ps_ret (pv 0))))), ?_⟩
  rcases hR with ⟨i, rfl, rfl⟩ | ⟨d, rfl, hq, rfl⟩
  · obtain ⟨v, rfl, h1⟩ := dps_1 hd
    walk_at "sx"
    refine rd_D hF (dps_one h1) ⟨_, rfl, rfl⟩ fun v2 H2 S2 hv2 => ?_
    cases dp_bl hv2
    walk_at "isi"
    walk_at "sx"
    refine ⟨size_le (by decide), ?_⟩
    intro p hp; generalize e3 : upd _ p _ = H3
    obtain ⟨S3, F3, d3⟩ := new_tup (hF.same S2) hp e3 (.cons (dp_same (dl_same S2) h1) (.cons (.int 1) .nil))
    exact kp _ _ (S2.trans S3) d3
  · obtain ⟨v, rfl, h1⟩ := dps_1 hd
    walk_at "sx"
    refine rd_D hF (dps_one h1) ⟨_, rfl, rfl⟩ fun v2 H2 S2 hv2 => ?_
    cases dp_bl hv2
    have e : isIntD r = false := by cases r <;> first | rfl | cases hq
    rw [e]
    walk_at "sx"
    refine rd_D (hF.same S2) (dps_one (dp_same (dl_same S2) h1)) ⟨_, rfl, rfl⟩ fun v3 H3 S3 hv3 => ?_
    cases dp_bl hv3
    rw [hq]
    walk_at "sx"
    exact kp _ _ (S2.trans S3) (dp_same (dl_same (S2.trans S3)) h1)
end
end My
namespace My
open PySem PySem.Spec PyProof.Rows L2
local macro_rules | `(tactic| walk_at "sx") => `(tactic| first | (simp only [cx_K, tB, iRng1, iRng2, iRng3, iList, iTup, wAs, tXf, tDictZip, tDGet1, rInD, rInT, tChain, tUn, rU, tCallS, WE, wOnly, tSl, tPart, tNoPart, tRevL, tStepL, tM0, tM1, wipe, tYes, Bool.not_eq_true', gCons, gNil, decide_eq_false_iff_not, tCall, tPar, tAndV, tOrV, tNotV, tIf, List.append_nil, rEq, rNe, scal_ii, scal_ss, scal_bb, scal_nn, scal_in, scal_ni, scal_sn, scal_ns, scal_is, scal_si, Bool.and_true, Bool.true_and, Bool.and_false, Bool.false_and, reduceCtorEq, tLst, tTup, Int.reduceToNat, decide_true, decide_false, Bool.not_true, Bool.not_false, Bool.false_eq_true, if_true, if_false, reduceIte, gSub, tAnd, tOr, tNot, tBM, tBM0, tNext, tSeq, tAsg, tOp, rI, rI0, tVar, tC, gName, tRet, tCB, tCons, tNil, tTest, tIfS, tDrop, L2.start, List.map_cons, List.map_nil, List.length_cons, List.length_nil, List.cons_append, List.nil_append, List.replicate, List.getElem?_cons_zero, List.getElem?_cons_succ, List.set_cons_zero, List.set_cons_succ, Option.some.injEq, V.int.injEq, V.str.injEq, V.bl.injEq, V.ref.injEq, exists_eq_left', exists_eq_left, exists_and_left, exists_eq', and_assoc, List.cons.injEq, and_true, true_and, decide_eq_true_eq, Nat.reduceAdd, Nat.reduceSub]) | skip)
local macro_rules | `(tactic| walk_at "isi") => `(tactic| first | (simp only [isi_none_int, isi_none_bool, isi_none_str, isi_none_list, isi_none_tuple, isi_bool_int, isi_bool_bool, isi_bool_str, isi_bool_list, isi_bool_tuple, isi_int_int, isi_int_bool, isi_int_str, isi_int_list, isi_int_tuple, isi_str_int, isi_str_bool, isi_str_str, isi_str_list, isi_str_tuple, isi_list_int, isi_list_bool, isi_list_str, isi_list_list, isi_list_tuple, isi_tuple_int, isi_tuple_bool, isi_tuple_str, isi_tuple_list, isi_tuple_tuple, isInt_none, isInt_bool, isInt_int, isInt_str, isInt_list, isInt_tuple]) | skip)
def big (n : Int) : Prop := n.natAbs < 2 ^ 4000
def R_ratio (ds : List PyData) (r : PyData) : Prop := ∃ t b : Int, ds = [.int t, .int b] ∧ b ≠ 0 ∧ b.natAbs < 2 ^ 8000 ∧ r = ratD (qOf t b)
def R_times (ds : List PyData) (r : PyData) : Prop := ∃ p q : Int × Int, ds = [ratD p, ratD q] ∧ 1 ≤ p.2 ∧ 1 ≤ q.2 ∧ big p.1 ∧ big p.2 ∧ big q.1 ∧ big q.2 ∧ r = ratD (qOf (p.1 * q.1) (p.2 * q.2))
/-- the ratio that a number means -/
def numP : PyData → Int × Int
  | .int i => (i, 1)
  | .tuple [.int t, .int b] => (t, b)
  | _ => (0, 1)
def isNumD (d : PyData) : Bool := isIntD d || isRatD d
def R_multiply (ds : List PyData) (r : PyData) : Prop := ∃ d e : PyData, ds = [d, e] ∧ isNumD d = true ∧ isNumD e = true ∧ big (numP d).1 ∧ big (numP d).2 ∧ big (numP e).1 ∧ big (numP e).2 ∧ r = ratD (qOf ((numP d).1 * (numP e).1) ((numP d).2 * (numP e).2))
theorem isRat_num {d : PyData} (h : isRatD d = true) : d = ratD (numP d) ∧ 1 ≤ (numP d).2 ∧ Int.gcd (numP d).1 (numP d).2 = 1 := by
  match d, h with
  | .tuple [.int t, .int b], h =>
    simp only [isRatD, Bool.and_eq_true, decide_eq_true_eq] at h
    exact ⟨rfl, h.1, h.2⟩
theorem isNum_cases {d : PyData} (h : isNumD d = true) : (∃ i, d = .int i) ∨ isRatD d = true := by
  unfold isNumD at h
  cases d with
  | int i => exact .inl ⟨i, rfl⟩
  | _ => exact .inr (by rw [Bool.or_eq_true] at h; exact h.resolve_left (by intro z; cases z))
theorem R_as_num {d : PyData} (h : isNumD d = true) : R_as_ratio [d] (ratD (numP d)) := by
  rcases isNum_cases h with ⟨i, rfl⟩ | h
  · exact .inl ⟨i, rfl, rfl⟩
  · exact .inr ⟨d, rfl, h, (isRat_num h).1.symm⟩
theorem num_pos {d : PyData} (h : isNumD d = true) : 1 ≤ (numP d).2 := by
  rcases isNum_cases h with ⟨i, rfl⟩ | h
  · exact Int.le_refl 1
  · exact (isRat_num h).2.1
theorem gcd_abs (t b : Int) : Int.gcd (if t < 0 then -t else t) b = Int.gcd t b := by split <;> simp
theorem qOf_eq (t b : Int) (hb : b ≠ 0) : 0 < (if b < 0 then 0 - b else b) ∧ Int.gcd (if b < 0 then 0 - t else t) (if b < 0 then 0 - b else b) = Int.gcd t b ∧
    qOf t b = ((if b < 0 then 0 - t else t) / (Int.gcd t b : Nat), (if b < 0 then 0 - b else b) / (Int.gcd t b : Nat)) ∧ (if b < 0 then 0 - b else b).natAbs = b.natAbs := by
  unfold qOf
  split
  · rename_i h
    refine ⟨by omega, ?_, rfl, by omega⟩
    rw [Int.zero_sub, Int.zero_sub, Int.gcd_neg, Int.neg_gcd]
  · exact ⟨by omega, rfl, rfl, rfl⟩
section
variable {P : Program} {w : World} {K : PySem.W.Frag} {mg : Str → Option Value} {base : Heap} {aW aB : Addr}
theorem sc_ratio : FnScope ["top", "bottom", "common"] ["top", "bottom"] (defScope s_ratio) := ⟨rfl, rfl, rfl, by decide +kernel, rfl, by decide +kernel, by decide +kernel⟩
theorem ok_ratio (T : Txt K mg aW aB) (F : DfnD K mg "ratio" s_ratio 1) (R_common_divisor : Rdy P w K mg base CX0 1 "common_divisor" ["one", "other"] (spD K R_common_divisor)) :
    RdyD P w K mg base CX0 2 "ratio" ["top", "bottom"] 1 (spD K R_ratio) := by
  refine F.rdy sc_ratio (fun T kV doc pm an cdv ct us its hu hi => match us, its, hu, hi with | [_], [_], _, _ => ⟨_, rfl, rfl⟩) (fun T kV doc pm an cdv ct us its hu hi => match us, its, hu, hi with | [_, _], [_], _, _ => ⟨_, rfl, rfl⟩)
    (spD_len (by rintro _ _ ⟨d, e, rfl, _⟩; rfl)) (fun f cdv A outer s H vs Q E hr h => ?_)
  obtain ⟨S, ds, r, hF, hd, ⟨t, b, rfl, hb, hbig, rfl⟩, kp⟩ := h
  obtain ⟨x, y, rfl, hx, hy⟩ := dps_2 hd
  cases dp_int hx
  cases dp_int hy
  refine ⟨_, (pss_cons (ps_if (pt_cmpR op_eq (pv 1) pe_int (nomark _)) (pss_one ps_never) pss_nil)
      (C8.pss_cut (ps_if (pt_cmpR op_lt (pv 1) pe_int (nomark _)) (pss_one (ps_par (i := 0) (j := 1) (by rfl) sc_ratio.nd rfl rfl (by decide) rfl rfl (pa_cons (pe_op op_sub pe_int (pv 0)) (pa_cons (pe_op op_sub pe_int (pv 1)) pa_nil)) (by rfl))) pss_nil)
      (pss_cons (ps_set (i := 2) sc_ratio.nd rfl (Or.inl rfl) (pe_cl R_common_divisor (hr.mono (by decide)) pass0 (pa_cons (pe_callB call_abs (by rfl) T.b_abs (by decide +kernel) (pa_cons (pv 0) pa_nil)) (pa_cons (pv 1) pa_nil))))
      (pss_one (ps_ret (pe_tup (pa_cons (pe_op op_fdivW (pv 0) (pv 2)) (pa_cons (pe_op op_fdivW (pv 1) (pv 2)) pa_nil)))))))), ?_⟩
  walk_at "sx"
  rw [if_neg hb]
  obtain ⟨Mid, hM⟩ : ∃ M : L2.St → Hp → Prop, ∀ σ H2, M σ H2 ↔ (σ = [some (.int (if b < 0 then 0 - t else t)), some (.int (if b < 0 then 0 - b else b)), none] ∧ H2 = H) := ⟨_, fun _ _ => Iff.rfl⟩
  refine ⟨Mid, ?_, fun σ H2 hm => ?_⟩
  · walk_at "sx"
    split
    · rename_i hlt
      exact (hM _ _).2 ⟨by rw [if_pos hlt, if_pos hlt], rfl⟩
    · rename_i hlt
      exact (hM _ _).2 ⟨by rw [if_neg hlt, if_neg hlt], rfl⟩
  · obtain ⟨rfl, rfl⟩ := (hM _ _).1 hm
    walk_at "sx"
    obtain ⟨e1, e2, e3, e4⟩ := qOf_eq t b hb
    generalize (if b < 0 then 0 - t else t) = t' at *
    generalize (if b < 0 then 0 - b else b) = b' at *
    refine rd_D hF (.cons (.int _) (.cons (.int _) .nil)) ⟨_, _, rfl, (by split <;> omega), by omega, rfl⟩ fun v3 H3 S3 hv3 => ?_
    cases dp_int hv3
    rw [gcd_abs, e2]
    walk_at "sx"
    have g1 : 0 < Int.gcd t b := Int.gcd_pos_of_ne_zero_right _ hb
    have g2 : Int.gcd t b ≤ b.natAbs := Nat.le_of_dvd (by omega) (Int.gcd_dvd_natAbs_right t b)
    have g3 : CDivW t' (Int.gcd t b : Nat) := wide_div (by omega) (b := 8000) (by omega) (by decide) (by decide)
    refine ⟨g3, g3, size_le (by decide), ?_⟩
    intro p hp; generalize e5 : upd _ p _ = H4
    obtain ⟨S4, F4, d4⟩ := new_tup (K := K) (hF.same S3) hp e5 (.cons (.int _) (.cons (.int _) .nil))
    rw [e3] at kp
    exact kp _ _ (S3.trans S4) d4
theorem sc_times : FnScope ["one", "other"] ["one", "other"] (defScope s_times) := ⟨rfl, rfl, rfl, by decide +kernel, rfl, by decide +kernel, by decide +kernel⟩
theorem ok_times (T : Txt K mg aW aB) (F : Dfn K mg "times" s_times) (R_ratio : RdyD P w K mg base CX0 2 "ratio" ["top", "bottom"] 1 (spD K R_ratio)) : Rdy P w K mg base CX0 3 "times" ["one", "other"] (spD K R_times) := by
  refine F.rdy sc_times (fun _ _ _ _ _ _ us hl => match us, hl with | [_, _], _ => rfl) (spD_len (by rintro _ _ ⟨d, e, rfl, _⟩; rfl)) (fun f cdv A outer s H vs Q E hr h => ?_)
  obtain ⟨S, ds, r, hF, hd, ⟨⟨t1, b1⟩, ⟨t2, b2⟩, rfl, h1, h2, g1, g2, g3, g4, rfl⟩, kp⟩ := h
  obtain ⟨x, y, rfl, hx, hy⟩ := dps_2 hd
  obtain ⟨a, xs, rfl, ha, hxs⟩ := dp_tup hx
  obtain ⟨c, ys, rfl, hc, hys⟩ := dp_tup hy
  obtain ⟨x1, x2, rfl, k1, k2⟩ := dps_2 hxs
  obtain ⟨y1, y2, rfl, k3, k4⟩ := dps_2 hys
  cases dp_int k1; cases dp_int k2; cases dp_int k3; cases dp_int k4
  refine ⟨_, (pss_cons (ps_if (PW.pt (pw_and (pt_cmpR op_eq (pe_ix ix_tup (pv 0) pe_int (fun _ _ => rfl)) pe_int (nomark _)) (pw_and1 (pt_cmpR op_eq (pe_ix ix_tup (pv 1) pe_int (fun _ _ => rfl)) pe_int (nomark _))))) (pss_one (ps_ret (pe_tup (pa_cons (pe_op op_mulW (pe_ix ix_tup (pv 0) pe_int (fun _ _ => rfl)) (pe_ix ix_tup (pv 1) pe_int (fun _ _ => rfl))) (pa_cons pe_int pa_nil))))) pss_nil)
      (pss_one (ps_ret (pe_rt2 R_ratio (hr.mono (by decide)) (pa_cons (pe_op op_mulW (pe_ix ix_tup (pv 0) pe_int (fun _ _ => rfl)) (pe_ix ix_tup (pv 1) pe_int (fun _ _ => rfl))) (pa_cons (pe_op op_mulW (pe_ix ix_tup (pv 0) pe_int (fun _ _ => rfl)) (pe_ix ix_tup (pv 1) pe_int (fun _ _ => rfl))) pa_nil)))))), ?_⟩
  walk_at "sx"
  refine rd_ixT (seqT_up ha) rfl ?_
  walk_at "sx"
  have W1 : CMulW t1 t2 := wide_mul (a := 4000) (b := 4000) g1 g3 (by decide) (by decide) (by decide)
  have W2 : CMulW b1 b2 := wide_mul (a := 4000) (b := 4000) g2 g4 (by decide) (by decide) (by decide)
  have hr2 : b1 * b2 ≠ 0 := Int.ne_of_gt (Int.mul_pos (show 0 < b1 by have : 1 ≤ b1 := h1; omega) (show 0 < b2 by have : 1 ≤ b2 := h2; omega))
  have hr3 : (b1 * b2).natAbs < 2 ^ 8000 := wide_lt (a := 4000) (b := 4000) g2 g4
  have slow : rIxT K (V.ref a) (V.int 0) H fun x H1 => rIxT K (V.ref c) (V.int 0) H1 fun y H2 => ∃ i, x = V.int i ∧ ∃ x, y = V.int x ∧ CMulW i x ∧ rIxT K (V.ref a) (V.int 1) H2 fun x_1 H1 => rIxT K (V.ref c) (V.int 1) H1 fun y H2 =>
      ∃ i_1, x_1 = V.int i_1 ∧ ∃ x_2, y = V.int x_2 ∧ CMulW i_1 x_2 ∧ spD K My.R_ratio [V.int (i * x), V.int (i_1 * x_2)] H2 Q E0 := by
    refine rd_ixT (seqT_up ha) rfl (rd_ixT (seqT_up hc) rfl ⟨_, rfl, _, rfl, W1, rd_ixT (seqT_up ha) rfl (rd_ixT (seqT_up hc) rfl ⟨_, rfl, _, rfl, W2, ?_⟩)⟩)
    exact rd_D hF (.cons (.int _) (.cons (.int _) .nil)) ⟨_, _, rfl, hr2, hr3, rfl⟩ kp
  split
  · rename_i e1
    refine rd_ixT (seqT_up hc) rfl ?_
    walk_at "sx"
    split
    · rename_i e2
      refine rd_ixT (seqT_up ha) rfl (rd_ixT (seqT_up hc) rfl ⟨_, rfl, _, rfl, W1, size_le (by decide), ?_⟩)
      intro p hp; generalize e5 : upd _ p _ = H4
      obtain ⟨S4, F4, d4⟩ := new_tup (K := K) hF hp e5 (.cons (.int _) (.cons (.int _) .nil))
      refine kp _ _ S4 ?_
      show Dp K _ _ (ratD (qOf (t1 * t2) (b1 * b2)))
      subst e1 e2
      rw [show qOf (t1 * t2) (1 * 1) = (t1 * t2, 1) by simp [qOf]]
      exact d4
    · exact slow
  · exact slow
theorem sc_multiply : FnScope ["one", "other"] ["one", "other"] (defScope s_multiply) := ⟨rfl, rfl, rfl, by decide +kernel, rfl, by decide +kernel, by decide +kernel⟩
theorem ok_multiply (T : Txt K mg aW aB) (F : Dfn K mg "multiply" s_multiply) (R_as_ratio : Rdy P w K mg base CX0 3 "as_ratio" ["value"] (spD K R_as_ratio)) (R_times : Rdy P w K mg base CX0 3 "times" ["one", "other"] (spD K R_times)) : Rdy P w K mg base CX0 4 "multiply" ["one", "other"] (spD K R_multiply) := by
  refine F.rdy sc_multiply (fun _ _ _ _ _ _ us hl => match us, hl with | [_, _], _ => rfl) (spD_len (by rintro _ _ ⟨d, e, rfl, _⟩; rfl)) (fun f cdv A outer s H vs Q E hr h => ?_)
  obtain ⟨S, ds, r, hF, hd, ⟨d, e, rfl, h1, h2, g1, g2, g3, g4, rfl⟩, kp⟩ := h
  obtain ⟨x, y, rfl, hx, hy⟩ := dps_2 hd
  refine ⟨_, (pss_one (ps_ret (pe_cl R_times (hr.mono (by decide)) pass0 (pa_cons (pe_cl R_as_ratio (hr.mono (by decide)) pass0 (pa_cons (pv 0) pa_nil)) (pa_cons (pe_cl R_as_ratio (hr.mono (by decide)) pass0 (pa_cons (pv 1) pa_nil)) pa_nil))))), ?_⟩
  walk_at "sx"
  refine rd_D hF (dps_one hx) (R_as_num h1) fun v2 H2 S2 hv2 => ?_
  refine rd_D (hF.same S2) (dps_one (dp_same (dl_same S2) hy)) (R_as_num h2) fun v3 H3 S3 hv3 => ?_
  exact rd_D (hF.same (S2.trans S3)) (.cons (dp_same (dl_same S3) hv2) (dps_one hv3)) ⟨_, _, rfl, num_pos h1, num_pos h2, g1, g2, g3, g4, rfl⟩ fun v H' S' => kp v H' ((S2.trans S3).trans S')
end
end My
namespace My
open PySem PySem.Spec PyProof.Rows L2
local macro_rules | `(tactic| walk_at "sx") => `(tactic| first | (simp only [cx_K, tB, iRng1, iRng2, iRng3, iList, iTup, wAs, tXf, tDictZip, tDGet1, rInD, rInT, tChain, tUn, rU, tCallS, WE, wOnly, tSl, tPart, tNoPart, tRevL, tStepL, tM0, tM1, wipe, tYes, Bool.not_eq_true', gCons, gNil, decide_eq_false_iff_not, tCall, tPar, tAndV, tOrV, tNotV, tIf, List.append_nil, rEq, rNe, scal_ii, scal_ss, scal_bb, scal_nn, scal_in, scal_ni, scal_sn, scal_ns, scal_is, scal_si, Bool.and_true, Bool.true_and, Bool.and_false, Bool.false_and, reduceCtorEq, tLst, tTup, Int.reduceToNat, decide_true, decide_false, Bool.not_true, Bool.not_false, Bool.false_eq_true, if_true, if_false, reduceIte, gSub, tAnd, tOr, tNot, tBM, tBM0, tNext, tSeq, tAsg, tOp, rI, rI0, tVar, tC, gName, tRet, tCB, tCons, tNil, tTest, tIfS, tDrop, L2.start, List.map_cons, List.map_nil, List.length_cons, List.length_nil, List.cons_append, List.nil_append, List.replicate, List.getElem?_cons_zero, List.getElem?_cons_succ, List.set_cons_zero, List.set_cons_succ, Option.some.injEq, V.int.injEq, V.str.injEq, V.bl.injEq, V.ref.injEq, exists_eq_left', exists_eq_left, exists_and_left, exists_eq', and_assoc, List.cons.injEq, and_true, true_and, decide_eq_true_eq, Nat.reduceAdd, Nat.reduceSub]) | skip)
local macro_rules | `(tactic| walk_at "isi") => `(tactic| first | (simp only [isi_none_int, isi_none_bool, isi_none_str, isi_none_list, isi_none_tuple, isi_bool_int, isi_bool_bool, isi_bool_str, isi_bool_list, isi_bool_tuple, isi_int_int, isi_int_bool, isi_int_str, isi_int_list, isi_int_tuple, isi_str_int, isi_str_bool, isi_str_str, isi_str_list, isi_str_tuple, isi_list_int, isi_list_bool, isi_list_str, isi_list_list, isi_list_tuple, isi_tuple_int, isi_tuple_bool, isi_tuple_str, isi_tuple_list, isi_tuple_tuple, isInt_none, isInt_bool, isInt_int, isInt_str, isInt_list, isInt_tuple]) | skip)
def R_is_digits (ds : List PyData) (r : PyData) : Prop := ∃ l : List Nat, ds = [tD l] ∧ l.length ≤ 100000 ∧ r = .bool (isDigL l)
def R_digits_of (ds : List PyData) (r : PyData) : Prop := ∃ n : Nat, ds = [.int n] ∧ n < 10 ^ 1200 ∧ r = tD (numL n)
def R_number_of (ds : List PyData) (r : PyData) : Prop := ∃ l : List Nat, ds = [tD l] ∧ l.length ≤ 1200 ∧ NumText.AllDigits l ∧ r = .int (dVal l)
theorem lit0 : Str.ofString "0" = tx [48] := by decide +kernel
theorem lit1 : Str.ofString "1" = tx [49] := by decide +kernel
theorem lit_ : Str.ofString "" = tx [] := by decide +kernel
theorem rg60 (n : Nat) (h : n ≤ 1200) : RgC 0 (n : Nat) 60 ((n + 59) / 60) := by
  refine ⟨by decide, by decide, ?_, ?_⟩
  · have := (show ∀ m : Fin 1201, Builtin.Range.small 0 ((m.val : Nat) : Int) 60 = true by decide +kernel) ⟨n, by omega⟩
    exact this
  · have := (show ∀ m : Fin 1201, Builtin.Range.rangeSize 0 ((m.val : Nat) : Int) 60 = (((m.val + 59) / 60 : Nat) : Int) by decide +kernel) ⟨n, by omega⟩
    exact this
theorem lg60 {r : Nat} (h : r < 10 ^ 60) : ((r : Nat) : Int).natAbs.log2 < 1920 := by
  rw [Int.natAbs_natCast]
  exact PySem.Flt.log2_lt_of (by decide) (Nat.lt_of_lt_of_le h (by decide +kernel))
theorem in_digits (c : Nat) : decide (c ∈ (Str.ofString "0123456789").cps.toList) = isDig c := by
  rw [show (Str.ofString "0123456789").cps.toList = [48, 49, 50, 51, 52, 53, 54, 55, 56, 57] by decide +kernel]
  unfold isDig
  rw [← Bool.decide_and]
  refine decide_eq_decide.mpr ?_
  simp only [List.mem_cons, List.not_mem_nil, or_false]
  omega
section
variable {P : Program} {w : World} {K : PySem.W.Frag} {mg : Str → Option Value} {base : Heap} {aW aB : Addr}
theorem sc_is_digits : FnScope ["text", "letter"] ["text"] (defScope s_is_digits) := ⟨rfl, rfl, rfl, by decide +kernel, rfl, by decide +kernel, by decide +kernel⟩
theorem ok_is_digits (T : Txt K mg aW aB) (F : Dfn K mg "is_digits" s_is_digits) : Rdy P w K mg base CX0 1 "is_digits" ["text"] (spD K R_is_digits) := by
  refine F.rdy sc_is_digits (fun _ _ _ _ _ _ us hl => match us, hl with | [_], _ => rfl) (spD_len (by rintro _ _ ⟨d, rfl, _⟩; rfl)) (fun f cdv A outer s H vs Q E hr h => ?_)
  obtain ⟨S, ds, r, hF, hd, ⟨l, rfl, hl, rfl⟩, kp⟩ := h
  obtain ⟨x, rfl, hx⟩ := dps_1 hd
  cases dp_str hx
  refine ⟨_, (pss_one (ps_ret (pe_and (pe_cmpR op_gt (pe_callB call_len (by rfl) T.b_len PySem.boot_len (pa_cons (pv 0) pa_nil)) pe_int (nomark _)) (pe_one (pe_callB (cr_all rfl) (by rfl) T.b_all (by decide +kernel) (pa_cons (pe_lc (own := [("letter", 1)]) (g := (gName 1)) (tt := tYes) rfl sc_is_digits.nd (pi_str (pv 0)) (blkOk_by (N := ["text", "letter"]) (sc := defScope s_is_digits) (by decide +kernel)) (fun _ _ _ _ _ => (pg_name (i := 1) sc_is_digits.nd rfl (Or.inl rfl))) (fun _ _ _ _ _ => pts_nil) (fun _ _ _ _ _ => (pe_cmpR op_in_sign (pv 1) (pe_gl T.c_DIGITS) (by rfl)))) pa_nil)))))), ?_⟩
  walk_at "sx"
  refine rd_lenS (by rw [tx_len]; omega) ?_
  rw [tx_len]
  split
  · rename_i hpos
    refine ⟨_, rfl, _, rfl, fun D hD => lc_gen K [] no_mem (walk_str (z := tx l)) hF hD (fun i ds H => ds = ((l.take i).map isDig).map PyData.bool) (fun _ _ => by simp) (fun _ _ => trivial) (fun i x vals acc H1 H' hi hn hv hd hle sb fr hR hY => ?_) fun ds H1 sb fr hd hle hR => ?_⟩
    · obtain ⟨rfl, c, hc, rfl⟩ := hY
      have hc' : l[i]? = some c := by simpa using hc
      walk_at "sx"
      refine ⟨c, rfl, ?_⟩
      rw [in_digits]
      refine lc_put no_mem hD hn hv hd hle (by have := (List.getElem?_eq_some_iff.mp hc').1; omega) sb .refl fr (.bl _) fun H5 s5 f5 => ?_
      rw [hR, List.take_add_one, hc']
      simp
    · obtain ⟨p, xs, e, hs, hx⟩ := dp_lst hd
      cases e
      rw [hR] at hx
      rw [show (tx l).cps.size = l.length from tx_len l, List.take_length] at hx
      obtain rfl := dps_bls hx
      refine ⟨_, _, rfl, seqL_up hs, kp _ _ sb.nil ?_⟩
      rw [show (l.map isDig).all id = isDigL l by unfold isDigL; rw [decide_eq_true (by omega), List.all_map]; rfl]
      exact .bl _
  · rename_i hpos
    refine kp _ _ (Same.refl _) ?_
    have : l = [] := by cases l with | nil => rfl | cons _ _ => simp at hpos
    subst this
    exact .bl _
theorem sc_digits_of : FnScope ["number", "groups", "last"] ["number"] (defScope s_digits_of) := ⟨rfl, rfl, rfl, by decide +kernel, rfl, by decide +kernel, by decide +kernel⟩
theorem ok_digits_of (T : Txt K mg aW aB) (F : Dfn K mg "digits_of" s_digits_of) : Rdy P w K mg base CX0 1 "digits_of" ["number"] (spD K R_digits_of) := by
  refine F.rdy sc_digits_of (fun _ _ _ _ _ _ us hl => match us, hl with | [_], _ => rfl) (spD_len (by rintro _ _ ⟨d, rfl, _⟩; rfl)) (fun f cdv A outer s H vs Q E hr h => ?_)
  obtain ⟨S, ds, r, hF, hd, ⟨n, rfl, hn, rfl⟩, kp⟩ := h
  obtain ⟨x, rfl, hx⟩ := dps_1 hd
  cases dp_int hx
  refine ⟨_, (pss_cons (ps_set (i := 1) sc_digits_of.nd rfl (Or.inl rfl) (pe_lst pa_nil))
      (pss_cons (ps_while PassesOwn.never (pt_mono (pt_cmpR op_ge (pv 0) (pe_gl T.c_WHOLE) (nomark _))) (pss_cons (ps_set (i := 2) sc_digits_of.nd rfl (Or.inl rfl) (pe_callTy call_str_int (by rfl) T.b_str (by decide +kernel) (pa_cons (pe_op op_mod (pv 0) (pe_gl T.c_WHOLE)) pa_nil)))
      (pss_cons (ps_expr (pe_bm PySem.F.plainAttrs_list PySem.F.slot_list_append PySem.F.type_list_append mt_append (pv 1) (pa_cons (pe_op op_add_str (pe_op op_mul_si pe_str (pe_op op_sub (pe_gl T.c_GROUP) (pe_callB call_len (by rfl) T.b_len PySem.boot_len (pa_cons (pv 2) pa_nil)))) (pv 2)) pa_nil)))
      (pss_one (ps_set (i := 0) sc_digits_of.nd rfl (Or.inl rfl) (pe_op op_fdivW (pv 0) (pe_gl T.c_WHOLE)))))))
      (pss_one (ps_ret (pe_op op_add_str (pe_callTy call_str_int (by rfl) T.b_str (by decide +kernel) (pa_cons (pv 0) pa_nil)) (pe_join pe_str (pe_revL (pv 1)))))))), ?_⟩
  walk_at "sx"
  refine ⟨size_le (by decide), ?_⟩
  intro p hp; generalize e1 : upd _ p _ = H1
  obtain ⟨S1, hp1⟩ := new_of hp e1
  have hnl : (numL n).length ≤ 1200 := TL.numL_len (by decide) hn
  clear hn
  refine rd_while (W := fun m' σ H2 => ∃ (m : Nat) (gs : List (List Nat)) (z : Option V), m' = m ∧ σ = [some (.int m), some (.ref p), z] ∧ SameB [p] H1 H2 ∧ H2 p = some (.lst ((gs.map tx).map V.str)) ∧ numL m ++ gs.reverse.flatten = numL n ∧ m ≤ n ∧ ∀ g ∈ gs, g.length = 60) n
    ⟨n, [], none, rfl, rfl, .refl, hp1, by simp, Nat.le_refl _, by simp⟩ (fun m' σ H2 hw => ?_)
  obtain ⟨m, gs, z, rfl, rfl, sb, hq, hnum, hmn, hg⟩ := hw
  have hgl : gs.length * 60 ≤ 1200 := by
    have e := congrArg List.length hnum
    rw [List.length_append, List.length_flatten] at e
    have : ∀ gs : List (List Nat), (∀ g ∈ gs, g.length = 60) → (gs.map List.length).sum = gs.length * 60 := by
      intro gs
      induction gs with
      | nil => intro _; rfl
      | cons g gs ih =>
        intro h
        rw [List.map_cons, List.sum_cons, ih fun x hx => h x (List.mem_cons_of_mem _ hx), h g (List.mem_cons_self ..), List.length_cons]
        omega
    rw [this _ (fun g hgm => hg g (List.mem_reverse.mp hgm)), List.length_reverse] at e
    omega
  walk_at "sx"
  by_cases hW : 10 ^ 60 ≤ m'
  · have hW' : (10 : Int) ^ 60 ≤ (m' : Int) := by exact_mod_cast hW
    rw [if_pos hW']
    rw [show (m' : Int) % 10 ^ 60 = ((m' % 10 ^ 60 : Nat) : Int) by exact_mod_cast rfl, num_tx]
    have hr60 : m' % 10 ^ 60 < 10 ^ 60 := Nat.mod_lt _ (by decide)
    have hspl : numL m' = numL (m' / 10 ^ 60) ++ (List.replicate (60 - (numL (m' % 10 ^ 60)).length) 48 ++ numL (m' % 10 ^ 60)) := numL_split 59 m' hW
    have hdl : (numL (m' % 10 ^ 60)).length ≤ 60 := TL.numL_len (by decide) hr60
    generalize numL (m' % 10 ^ 60) = dg at *
    refine ⟨by decide, lg60 hr60, .inl ⟨rfl, _, SqL.of hq⟩, ?_⟩
    refine rd_lenS (by rw [tx_len]; omega) ⟨_, _, rfl, rfl, by decide, by rw [tx_len]; omega, by rw [tx_len]; omega, _, rfl, ?_⟩
    rw [lit0, mul_rep, tx_len, tx_len, show ((60 : Int) - (dg.length : Nat)).toNat = 60 - dg.length by omega]
    refine ⟨by rw [List.length_replicate]; exact size_le (by omega), ?_⟩
    rw [tx_cat]
    refine rd_append hq (by simp; omega) fun H3 s3 hq3 => ?_
    refine ⟨⟨by decide, by decide +kernel⟩, m' / 10 ^ 60, Nat.div_lt_self (Nat.lt_of_lt_of_le (by decide) hW) (by decide), by exact_mod_cast rfl, sb.trans s3, gs ++ [List.replicate (60 - dg.length) 48 ++ dg], ?_, ?_, ?_, ?_⟩
    · rw [hq3]; simp
    · rw [List.reverse_append, List.reverse_singleton, List.singleton_append, List.flatten_cons, ← List.append_assoc, ← hspl]
      exact hnum
    · exact Nat.le_trans (Nat.div_le_self _ _) hmn
    · intro g hgm
      rcases List.mem_append.mp hgm with h | h
      · exact hg g h
      · rw [List.mem_singleton] at h
        subst h
        simp; omega
  · have hW' : ¬ (10 : Int) ^ 60 ≤ (m' : Int) := by intro z; exact hW (by exact_mod_cast z)
    rw [if_neg hW', num_tx, lit_]
    refine ⟨lg60 (by omega), _, SqL.of hq, ?_⟩
    intro p2 hp2; generalize e5 : upd _ p2 _ = H3
    obtain ⟨S3, hp3⟩ := new_of hp2 e5
    have erev : ((gs.map tx).map V.str).reverse = (gs.reverse.map tx).map V.str := by simp
    refine ⟨gs.reverse.map tx, .inl (SqL.of (by rw [hp3, erev])), ?_, ?_, ?_⟩
    · have : (((gs.reverse.map tx).map fun x => x.length)).sum = gs.length * 60 := by
        rw [lens_tx]
        have gen : ∀ gs : List (List Nat), (∀ g ∈ gs, g.length = 60) → (gs.map List.length).sum = gs.length * 60 := by
          intro gs
          induction gs with
          | nil => intro _; rfl
          | cons g gs ih =>
            intro h
            rw [List.map_cons, List.sum_cons, ih fun x hx => h x (List.mem_cons_of_mem _ hx), h g (List.mem_cons_self ..), List.length_cons]
            omega
        rw [gen _ (fun g hgm => hg g (List.mem_reverse.mp hgm)), List.length_reverse]
      rw [this, tx_len, List.length_nil, Nat.mul_zero]
      omega
    · rw [join_flat, tx_len, tx_len, ← List.length_append, hnum]
      exact size_le (by omega)
    · rw [join_flat, tx_cat, hnum]
      exact kp _ _ ((same_of_new hp ((SameB.of S1).trans sb)).trans S3) (.str _)
theorem sc_number_of : FnScope ["digits", "number", "place", "group"] ["digits"] (defScope s_number_of) := ⟨rfl, rfl, rfl, by decide +kernel, rfl, by decide +kernel, by decide +kernel⟩
theorem ok_number_of (T : Txt K mg aW aB) (F : Dfn K mg "number_of" s_number_of) : Rdy P w K mg base CX0 1 "number_of" ["digits"] (spD K R_number_of) := by
  refine F.rdy sc_number_of (fun _ _ _ _ _ _ us hl => match us, hl with | [_], _ => rfl) (spD_len (by rintro _ _ ⟨d, rfl, _⟩; rfl)) (fun f cdv A outer s H vs Q E hr h => ?_)
  obtain ⟨S, ds, r, hF, hd, ⟨l, rfl, hn, ha, rfl⟩, kp⟩ := h
  obtain ⟨x, rfl, hx⟩ := dps_1 hd
  cases dp_str hx
  refine ⟨_, (pss_cons (ps_set (i := 1) sc_number_of.nd rfl (Or.inl rfl) pe_int)
      (pss_cons (ps_for PassesOwn.never rfl (pi_range3 (by rfl) T.b_range (pa_cons pe_int (pa_cons (pe_callB call_len (by rfl) T.b_len PySem.boot_len (pa_cons (pv 0) pa_nil)) (pa_cons (pe_gl T.c_GROUP) pa_nil)))) (pg_name (i := 2) sc_number_of.nd rfl (Or.inl rfl))
      (pss_cons (ps_set (i := 3) sc_number_of.nd rfl (Or.inl rfl) (pe_slice sl_str (pv 0) (po_some (pv 2)) (po_some (pe_op op_add (pv 2) (pe_gl T.c_GROUP)))))
      (pss_one (ps_set (i := 1) sc_number_of.nd rfl (Or.inl rfl) (pe_op op_add (pe_op op_mulW (pv 1) (pe_callTy call_int_str (by rfl) T.b_int (by decide +kernel) (pa_cons (pe_op op_add_str pe_str (pe_op op_mul_si pe_str (pe_callB call_len (by rfl) T.b_len PySem.boot_len (pa_cons (pv 3) pa_nil)))) pa_nil))) (pe_callTy call_int_str (by rfl) T.b_int (by decide +kernel) (pa_cons (pv 3) pa_nil)))))))
      (pss_one (ps_ret (pv 1))))), ?_⟩
  walk_at "sx"
  refine ⟨_, rfl, _, rfl, _, ⟨by rw [tx_len]; exact size_le (by omega), rfl⟩, 0, (l.length : Nat), 60, (l.length + 59) / 60, by rw [tx_len], rg60 l.length (by omega), for_it walk_rangeC
    (fun i σ H2 => H2 = H ∧ ∃ a b, σ = [some (.str (tx l)), some (.int (dVal (l.take (60 * i)))), a, b]) ⟨rfl, none, none, by simp [dVal, NumText.digitsVal]⟩ (fun _ _ _ _ _ => trivial) (fun i x σ H2 H' hi hp hy => ?_) fun σ H2 hp => ?_⟩
  · obtain ⟨rfl, a, b, rfl⟩ := hp
    obtain ⟨rfl, rfl⟩ := hy
    walk_at "sx"
    rw [show (0 : Int) + ((i : Nat) : Int) * 60 = ((60 * i : Nat) : Int) by omega, show ((60 * i : Nat) : Int) + 60 = ((60 * i + 60 : Nat) : Int) by omega]
    refine ⟨_, rfl, by rw [tx_len]; exact size_le (by omega), ?_⟩
    rw [cut_nat, show 60 * i + 60 - 60 * i = 60 by omega]
    obtain ⟨gr, hgr⟩ : ∃ gr, gr = (l.drop (60 * i)).take 60 := ⟨_, rfl⟩
    rw [← hgr]
    have hlen : gr.length ≤ 60 := by rw [hgr, List.length_take]; omega
    have hne : gr ≠ [] := by
      rw [hgr]
      intro z
      have := congrArg List.length z
      simp at this
      omega
    have had : NumText.AllDigits gr := fun c hc => ha c (List.mem_of_mem_drop (List.mem_of_mem_take (by rw [← hgr]; exact hc)))
    have hao : NumText.AllDigits (49 :: List.replicate gr.length 48) := fun c hc => by
      rcases List.mem_cons.mp hc with z | z
      · subst z; decide
      · rw [List.eq_of_mem_replicate z]; decide
    walk_at "sx"
    refine rd_lenS (by rw [tx_len]; omega) ?_
    walk_at "sx"
    refine ⟨_, _, rfl, rfl, by decide, by omega, by rw [tx_len]; omega, ?_⟩
    rw [lit0, lit1, mul_rep, tx_len, Int.toNat_natCast]
    refine ⟨_, rfl, by rw [tx_len, tx_len, List.length_replicate]; exact size_le (by simp; omega), ?_⟩
    rw [tx_cat, tx_len gr, show [49] ++ List.replicate gr.length 48 = 49 :: List.replicate gr.length 48 from rfl]
    refine ⟨_, int_tx hao (by simp) (by simp; omega), by rw [tx_len]; simp; omega, ?_⟩
    have htk : NumText.AllDigits (l.take (60 * i)) := fun c hc => ha c (List.mem_of_mem_take hc)
    have hb1 : dVal (l.take (60 * i)) < 10 ^ 1200 := Nat.lt_of_lt_of_le (dVal_lt htk) (Nat.pow_le_pow_right (by decide) (by rw [List.length_take]; omega))
    have hb2 : dVal (49 :: List.replicate gr.length 48) < 10 ^ 61 := Nat.lt_of_lt_of_le (dVal_lt hao) (Nat.pow_le_pow_right (by decide) (by simp; omega))
    refine ⟨wide_mul (a := 4000) (b := 4000) ?_ ?_ (by decide) (by decide) (by decide), _, int_tx had hne (by omega), by omega, ?_⟩
    · rw [Int.natAbs_natCast]; exact Nat.lt_trans hb1 (by decide +kernel)
    · rw [Int.natAbs_natCast]; exact Nat.lt_trans hb2 (by decide +kernel)
    · refine ⟨rfl, ?_⟩
      rw [dVal_one]
      have e : l.take (60 * (i + 1)) = l.take (60 * i) ++ gr := by
        rw [hgr, show 60 * (i + 1) = 60 * i + 60 by omega, List.take_add]
      rw [e, dVal_app]
      simp
  · obtain ⟨rfl, a, b, rfl⟩ := hp
    walk_at "sx"
    rw [List.take_of_length_le (by omega)]
    exact kp _ _ (Same.refl _) (.int _)
end
end My
namespace My
open PySem PySem.Spec PyProof.Rows L2
local macro_rules | `(tactic| walk_at "sx") => `(tactic| first | (simp only [cx_K, tB, iRng1, iRng2, iRng3, iList, iTup, wAs, tXf, tDictZip, tDGet1, rInD, rInT, tChain, tUn, rU, tCallS, WE, wOnly, tSl, tPart, tNoPart, tRevL, tStepL, tM0, tM1, wipe, tYes, Bool.not_eq_true', gCons, gNil, decide_eq_false_iff_not, tCall, tPar, tAndV, tOrV, tNotV, tIf, List.append_nil, rEq, rNe, scal_ii, scal_ss, scal_bb, scal_nn, scal_in, scal_ni, scal_sn, scal_ns, scal_is, scal_si, Bool.and_true, Bool.true_and, Bool.and_false, Bool.false_and, reduceCtorEq, tLst, tTup, Int.reduceToNat, decide_true, decide_false, Bool.not_true, Bool.not_false, Bool.false_eq_true, if_true, if_false, reduceIte, gSub, tAnd, tOr, tNot, tBM, tBM0, tNext, tSeq, tAsg, tOp, rI, rI0, tVar, tC, gName, tRet, tCB, tCons, tNil, tTest, tIfS, tDrop, L2.start, List.map_cons, List.map_nil, List.length_cons, List.length_nil, List.cons_append, List.nil_append, List.replicate, List.getElem?_cons_zero, List.getElem?_cons_succ, List.set_cons_zero, List.set_cons_succ, Option.some.injEq, V.int.injEq, V.str.injEq, V.bl.injEq, V.ref.injEq, exists_eq_left', exists_eq_left, exists_and_left, exists_eq', and_assoc, List.cons.injEq, and_true, true_and, decide_eq_true_eq, Nat.reduceAdd, Nat.reduceSub]) | skip)
local macro_rules | `(tactic| walk_at "isi") => `(tactic| first | (simp only [isi_none_int, isi_none_bool, isi_none_str, isi_none_list, isi_none_tuple, isi_bool_int, isi_bool_bool, isi_bool_str, isi_bool_list, isi_bool_tuple, isi_int_int, isi_int_bool, isi_int_str, isi_int_list, isi_int_tuple, isi_str_int, isi_str_bool, isi_str_str, isi_str_list, isi_str_tuple, isi_list_int, isi_list_bool, isi_list_str, isi_list_list, isi_list_tuple, isi_tuple_int, isi_tuple_bool, isi_tuple_str, isi_tuple_list, isi_tuple_tuple, isInt_none, isInt_bool, isInt_int, isInt_str, isInt_list, isInt_tuple]) | skip)
def R_ratio_text (ds : List PyData) (r : PyData) : Prop := ∃ d : PyData, ds = [d] ∧ isNumD d = true ∧ (numP d).1.natAbs < 10 ^ 1200 ∧ (numP d).2.natAbs < 10 ^ 1200 ∧ r = tD (ratL (numP d))
def R_read_unsigned (ds : List PyData) (r : PyData) : Prop := ∃ l : List Nat, ds = [tD l] ∧ l.length ≤ 1000 ∧ r = optD (readU l)
theorem lit_sl : Str.ofString "/" = tx [47] := by decide +kernel
theorem lit_mi : Str.ofString "-" = tx [45] := by decide +kernel
theorem lit_dot : Str.ofString "." = tx [46] := by decide +kernel
theorem in_tx (l : List Nat) (c : Nat) : (!(Builtin.Str.occurrences (tx l) (tx [c]) 0 (tx l).length 1).isEmpty) = decide (c ∈ l) := SX.in_one l c
theorem in_tx' (l : List Nat) (c : Nat) : ((Builtin.Str.occurrences (tx l) (tx [c]) 0 (tx l).length 1).isEmpty = false) ↔ c ∈ l := by
  rw [← Bool.not_eq_true', in_tx, decide_eq_true_eq]
section
variable {P : Program} {w : World} {K : PySem.W.Frag} {mg : Str → Option Value} {base : Heap} {aW aB : Addr}
theorem sc_ratio_text : FnScope ["number", "top", "bottom", "text"] ["number"] (defScope s_ratio_text) := ⟨rfl, rfl, rfl, by decide +kernel, rfl, by decide +kernel, by decide +kernel⟩
theorem ok_ratio_text (T : Txt K mg aW aB) (F : Dfn K mg "ratio_text" s_ratio_text) (R_as_ratio : Rdy P w K mg base CX0 3 "as_ratio" ["value"] (spD K R_as_ratio)) (R_digits_of : Rdy P w K mg base CX0 1 "digits_of" ["number"] (spD K R_digits_of)) :
    Rdy P w K mg base CX0 4 "ratio_text" ["number"] (spD K R_ratio_text) := by
  refine F.rdy sc_ratio_text (fun _ _ _ _ _ _ us hl => match us, hl with | [_], _ => rfl) (spD_len (by rintro _ _ ⟨d, rfl, _⟩; rfl)) (fun f cdv A outer s H vs Q E hr h => ?_)
  obtain ⟨S, ds, r, hF, hd, ⟨d, rfl, hn, hb1, hb2, rfl⟩, kp⟩ := h
  obtain ⟨x, rfl, hx⟩ := dps_1 hd
  refine ⟨_, (pss_cons (ps_asg (pe_cl R_as_ratio (hr.mono (by decide)) pass0 (pa_cons (pv 0) pa_nil)) (pg_tup (n := 2) rfl (pgs_cons (pg_name (i := 1) sc_ratio_text.nd rfl (Or.inl rfl)) (pgs_cons (pg_name (i := 2) sc_ratio_text.nd rfl (Or.inl rfl)) pgs_nil))))
      (pss_cons (ps_set (i := 3) sc_ratio_text.nd rfl (Or.inl rfl) (pe_op op_add_str (pe_ifExp (pt_cmpR op_lt (pv 1) pe_int (nomark _)) pe_str pe_str) (pe_cl R_digits_of (hr.mono (by decide)) pass0 (pa_cons (pe_callB call_abs (by rfl) T.b_abs (by decide +kernel) (pa_cons (pv 1) pa_nil)) pa_nil))))
      (pss_one (ps_ret (pe_ifExp (pt_cmpR op_eq (pv 2) pe_int (nomark _)) (pv 3) (pe_op op_add_str (pe_op op_add_str (pv 3) pe_str) (pe_cl R_digits_of (hr.mono (by decide)) pass0 (pa_cons (pv 2) pa_nil)))))))), ?_⟩
  walk_at "sx"
  refine rd_D hF (dps_one hx) (R_as_num hn) fun v2 H2 S2 hv2 => ?_
  obtain ⟨a, xs, rfl, ha, hxs⟩ := dp_tup hv2
  obtain ⟨x1, x2, rfl, k1, k2⟩ := dps_2 hxs
  cases dp_int k1; cases dp_int k2
  refine ⟨_, _, rfl, seqT_up ha, rfl, ?_⟩
  walk_at "sx"
  obtain ⟨e2, p2, g2⟩ : d = d ∧ 1 ≤ (numP d).2 ∧ True := ⟨rfl, num_pos hn, trivial⟩
  obtain ⟨hn1, hn2, hd0⟩ : (numL (numP d).1.natAbs).length ≤ 1200 ∧ (numL (numP d).2.natAbs).length ≤ 1200 ∧ True := ⟨TL.numL_len (by decide) hb1, TL.numL_len (by decide) hb2, trivial⟩
  have fin : ∀ sg : List Nat, sg.length ≤ 1 → sg = (if (numP d).1 < 0 then [45] else []) →
      spD K My.R_digits_of [V.int (if (numP d).1 < 0 then -(numP d).1 else (numP d).1)] H2 (fun y H2 => ∃ x_1, y = V.str x_1 ∧ (tx sg).length + x_1.length ≤ sizeLine ∧
        if (numP d).2 = 1 then Q (V.str (tx sg ++ x_1)) H2
        else (tx sg ++ x_1).length + (Str.ofString "/").length ≤ sizeLine ∧ spD K My.R_digits_of [V.int (numP d).2] H2 (fun y H2 => ∃ x_2, y = V.str x_2 ∧ (tx sg ++ x_1 ++ Str.ofString "/").length + x_2.length ≤ sizeLine ∧ Q (V.str (tx sg ++ x_1 ++ Str.ofString "/" ++ x_2)) H2) E0) E0 := by
    intro sg hsl hsg
    rw [show (if (numP d).1 < 0 then -(numP d).1 else (numP d).1) = (((numP d).1.natAbs : Nat) : Int) by split <;> omega]
    refine rd_D (hF.same S2) (.cons (.int _) .nil) ⟨_, rfl, hb1, rfl⟩ fun v3 H3 S3 hv3 => ?_
    cases dp_str hv3
    refine ⟨_, rfl, by rw [tx_len, tx_len]; exact size_le (by omega), ?_⟩
    rw [tx_cat, lit_sl]
    split
    · rename_i h1
      have er : ratL (numP d) = sg ++ numL (numP d).1.natAbs := by unfold ratL; rw [if_pos h1, ← hsg, List.append_nil]
      rw [er] at kp
      exact kp _ _ (S2.trans S3) (.str _)
    · rename_i h1
      have er : ratL (numP d) = sg ++ numL (numP d).1.natAbs ++ [47] ++ numL (numP d).2.natAbs := by
        unfold ratL
        rw [if_neg h1, ← hsg, show (numP d).2.toNat = (numP d).2.natAbs by omega]
        simp
      rw [er] at kp
      refine ⟨by rw [tx_len, tx_len]; exact size_le (by simp; omega), ?_⟩
      rw [show V.int (numP d).2 = V.int (((numP d).2.natAbs : Nat) : Int) by congr 1; omega]
      refine rd_D (hF.same (S2.trans S3)) (.cons (.int _) .nil) ⟨_, rfl, hb2, rfl⟩ fun v4 H4 S4 hv4 => ?_
      cases dp_str hv4
      rw [tx_cat]
      refine ⟨_, rfl, by rw [tx_len, tx_len]; exact size_le (by simp; omega), ?_⟩
      rw [tx_cat]
      exact kp _ _ ((S2.trans S3).trans S4) (.str _)
  split
  · rename_i h1
    rw [lit_mi]
    have h := fin [45] (by simp) (by rw [if_pos h1])
    rw [if_pos h1] at h
    exact h
  · rename_i h1
    rw [lit_]
    have h := fin [] (by simp) (by rw [if_neg h1])
    rw [if_neg h1] at h
    exact h
theorem sc_read_unsigned : FnScope ["text", "top", "mark", "bottom", "whole", "part"] ["text"] (defScope s_read_unsigned) := ⟨rfl, rfl, rfl, by decide +kernel, rfl, by decide +kernel, by decide +kernel⟩
theorem ok_read_unsigned (T : Txt K mg aW aB) (F : Dfn K mg "read_unsigned" s_read_unsigned) (R_is_digits : Rdy P w K mg base CX0 1 "is_digits" ["text"] (spD K R_is_digits)) (R_number_of : Rdy P w K mg base CX0 1 "number_of" ["digits"] (spD K R_number_of))
    (R_ratio : RdyD P w K mg base CX0 2 "ratio" ["top", "bottom"] 1 (spD K R_ratio)) :
    Rdy P w K mg base CX0 3 "read_unsigned" ["text"] (spD K R_read_unsigned) := by
  refine F.rdy sc_read_unsigned (fun _ _ _ _ _ _ us hl => match us, hl with | [_], _ => rfl) (spD_len (by rintro _ _ ⟨d, rfl, _⟩; rfl)) (fun f cdv A outer s H vs Q E hr h => ?_)
  obtain ⟨S, ds, r, hF, hd, ⟨l, rfl, hl, rfl⟩, kp⟩ := h
  obtain ⟨x, rfl, hx⟩ := dps_1 hd
  cases dp_str hx
  refine ⟨_, (pss_cons (ps_if (pt_cmpR op_in_str pe_str (pv 0) (by rfl)) (pss_cons (ps_asg (pe_partition (pv 0) pe_str) (pg_tup (n := 3) rfl (pgs_cons (pg_name (i := 1) sc_read_unsigned.nd rfl (Or.inl rfl)) (pgs_cons (pg_name (i := 2) sc_read_unsigned.nd rfl (Or.inl rfl)) (pgs_cons (pg_name (i := 3) sc_read_unsigned.nd rfl (Or.inl rfl)) pgs_nil)))))
      (pss_cons (ps_if (PW.pt (pw_and (pt_val (pe_cl R_is_digits (hr.mono (by decide)) pass0 (pa_cons (pv 1) pa_nil))) (pw_and (pt_val (pe_cl R_is_digits (hr.mono (by decide)) pass0 (pa_cons (pv 3) pa_nil))) (pw_and1 (pt_cmpR op_gt (pe_cl R_number_of (hr.mono (by decide)) pass0 (pa_cons (pv 3) pa_nil)) pe_int (nomark _)))))) (pss_one (ps_ret (pe_rt2 R_ratio (hr.mono (by decide)) (pa_cons (pe_cl R_number_of (hr.mono (by decide)) pass0 (pa_cons (pv 1) pa_nil)) (pa_cons (pe_cl R_number_of (hr.mono (by decide)) pass0 (pa_cons (pv 3) pa_nil)) pa_nil))))) pss_nil)
      (pss_one (ps_ret pe_non)))) pss_nil)
      (pss_cons (ps_if (pt_cmpR op_in_str pe_str (pv 0) (by rfl)) (pss_cons (ps_asg (pe_partition (pv 0) pe_str) (pg_tup (n := 3) rfl (pgs_cons (pg_name (i := 4) sc_read_unsigned.nd rfl (Or.inl rfl)) (pgs_cons (pg_name (i := 2) sc_read_unsigned.nd rfl (Or.inl rfl)) (pgs_cons (pg_name (i := 5) sc_read_unsigned.nd rfl (Or.inl rfl)) pgs_nil)))))
      (pss_cons (ps_if (PW.pt (pw_and (pt_val (pe_cl R_is_digits (hr.mono (by decide)) pass0 (pa_cons (pv 4) pa_nil))) (pw_and1 (pt_val (pe_cl R_is_digits (hr.mono (by decide)) pass0 (pa_cons (pv 5) pa_nil)))))) (pss_one (ps_ret (pe_rt2 R_ratio (hr.mono (by decide)) (pa_cons (pe_cl R_number_of (hr.mono (by decide)) pass0 (pa_cons (pe_op op_add_str (pv 4) (pv 5)) pa_nil)) (pa_cons (pe_cl R_number_of (hr.mono (by decide)) pass0 (pa_cons (pe_op op_add_str pe_str (pe_op op_mul_si pe_str (pe_callB call_len (by rfl) T.b_len PySem.boot_len (pa_cons (pv 5) pa_nil)))) pa_nil)) pa_nil))))) pss_nil)
      (pss_one (ps_ret pe_non)))) pss_nil)
      (pss_one (ps_ret (pe_ifExp (pt_val (pe_cl R_is_digits (hr.mono (by decide)) pass0 (pa_cons (pv 0) pa_nil))) (pe_rt1 R_ratio (hr.mono (by decide)) (pa_cons (pe_cl R_number_of (hr.mono (by decide)) pass0 (pa_cons (pv 0) pa_nil)) pa_nil)) pe_non))))), ?_⟩
  walk_at "sx"
  rw [lit_sl, lit_dot]
  have hlt : ∀ l : List Nat, NumText.AllDigits l → l.length ≤ 1000 → (dVal l) < 2 ^ 3400 := fun l h1 h2 => Nat.lt_of_lt_of_le (dVal_lt h1) (Nat.le_trans (Nat.pow_le_pow_right (by decide) h2) (by decide +kernel))
  split
  · rename_i hin
    rw [in_tx'] at hin
    refine ⟨rfl, by rw [tx_len]; exact size_le (by omega), ?_⟩
    intro p hp; generalize e1 : upd _ p _ = H1
    obtain ⟨S1, hp1⟩ := new_of hp e1
    obtain ⟨⟨t, b⟩, hpar⟩ : ∃ z, TL.par [47] [] l = some z := Option.ne_none_iff_exists'.mp fun z => par_mem.mp z hin
    rw [SX.partition_some (by simp) hpar] at hp1
    obtain ⟨el, _⟩ := par_some hpar
    have hlt1 : t.length ≤ 1000 ∧ b.length ≤ 1000 := by
      have := congrArg List.length el
      simp at this
      omega
    have er : readU l = if isDigL t = true ∧ isDigL b = true ∧ 0 < dVal b then some (qOf (dVal t) (dVal b)) else none := by unfold readU; rw [hpar]
    rw [er] at kp
    refine ⟨_, _, rfl, SqT.of hp1, rfl, ?_⟩
    walk_at "sx"
    refine rd_D (hF.same S1) (.cons (.str _) .nil) ⟨_, rfl, by omega, rfl⟩ fun v2 H2 S2 hv2 => ?_
    cases dp_bl hv2
    refine ⟨_, rfl, ?_⟩
    split
    · rename_i ht
      refine rd_D (hF.same (S1.trans S2)) (.cons (.str _) .nil) ⟨_, rfl, by omega, rfl⟩ fun v3 H3 S3 hv3 => ?_
      cases dp_bl hv3
      refine ⟨_, rfl, ?_⟩
      split
      · rename_i hb
        have S13 := (S1.trans S2).trans S3
        refine rd_D (hF.same S13) (.cons (.str _) .nil) ⟨_, rfl, by omega, (isDigL_iff.mp hb).2, rfl⟩ fun v4 H4 S4 hv4 => ?_
        cases dp_int hv4
        refine ⟨_, rfl, ?_⟩
        split
        · rename_i hpos
          have hpos' : 0 < dVal b := by omega
          refine rd_D (hF.same (S13.trans S4)) (.cons (.str _) .nil) ⟨_, rfl, by omega, (isDigL_iff.mp ht).2, rfl⟩ fun v5 H5 S5 hv5 => ?_
          cases dp_int hv5
          refine rd_D (hF.same ((S13.trans S4).trans S5)) (.cons (.str _) .nil) ⟨_, rfl, by omega, (isDigL_iff.mp hb).2, rfl⟩ fun v6 H6 S6 hv6 => ?_
          cases dp_int hv6
          rw [if_pos ⟨ht, hb, hpos'⟩] at kp
          refine rd_D (hF.same (((S13.trans S4).trans S5).trans S6)) (.cons (.int _) (.cons (.int _) .nil)) ⟨_, _, rfl, by omega, ?_, rfl⟩ fun v7 H7 S7 hv7 => kp _ _ ((((S13.trans S4).trans S5).trans S6).trans S7) hv7
          rw [Int.natAbs_natCast]
          exact Nat.lt_trans (hlt _ (isDigL_iff.mp hb).2 hlt1.2) (by decide +kernel)
        · rename_i hpos
          rw [if_neg (by intro z; exact hpos (by have := z.2.2; omega))] at kp
          exact kp _ _ (S13.trans S4) .non
      · rename_i hb
        rw [if_neg (by intro z; exact hb z.2.1)] at kp
        exact kp _ _ ((S1.trans S2).trans S3) .non
    · rename_i ht
      rw [if_neg (by intro z; exact ht z.1)] at kp
      exact kp _ _ (S1.trans S2) .non
  · rename_i hin
    rw [in_tx'] at hin
    have hn47 := par_mem.mpr hin
    split
    · rename_i hin2
      rw [in_tx'] at hin2
      refine ⟨rfl, by rw [tx_len]; exact size_le (by omega), ?_⟩
      intro p hp; generalize e1 : upd _ p _ = H1
      obtain ⟨S1, hp1⟩ := new_of hp e1
      obtain ⟨⟨t, b⟩, hpar⟩ : ∃ z, TL.par [46] [] l = some z := Option.ne_none_iff_exists'.mp fun z => par_mem.mp z hin2
      rw [SX.partition_some (by simp) hpar] at hp1
      obtain ⟨el, _⟩ := par_some hpar
      have hlt1 : t.length + b.length ≤ 1000 := by
        have := congrArg List.length el
        simp at this
        omega
      have er : readU l = if isDigL t = true ∧ isDigL b = true then some (qOf (dVal (t ++ b)) ((10 ^ b.length : Nat) : Int)) else none := by unfold readU; rw [hn47, hpar]
      rw [er] at kp
      refine ⟨_, _, rfl, SqT.of hp1, rfl, ?_⟩
      walk_at "sx"
      refine rd_D (hF.same S1) (.cons (.str _) .nil) ⟨_, rfl, by omega, rfl⟩ fun v2 H2 S2 hv2 => ?_
      cases dp_bl hv2
      refine ⟨_, rfl, ?_⟩
      split
      · rename_i ht
        refine rd_D (hF.same (S1.trans S2)) (.cons (.str _) .nil) ⟨_, rfl, by omega, rfl⟩ fun v3 H3 S3 hv3 => ?_
        cases dp_bl hv3
        refine ⟨_, rfl, ?_⟩
        split
        · rename_i hb
          have S13 := (S1.trans S2).trans S3
          have had : NumText.AllDigits (t ++ b) := fun c hc => by
            rcases List.mem_append.mp hc with z | z
            · exact (isDigL_iff.mp ht).2 c z
            · exact (isDigL_iff.mp hb).2 c z
          have hao : NumText.AllDigits (49 :: List.replicate b.length 48) := fun c hc => by
            rcases List.mem_cons.mp hc with z | z
            · subst z; decide
            · rw [List.eq_of_mem_replicate z]; decide
          rw [tx_len, tx_len, tx_cat]
          refine ⟨size_le (by omega), ?_⟩
          refine rd_D (hF.same S13) (.cons (.str _) .nil) ⟨_, rfl, by simp; omega, had, rfl⟩ fun v4 H4 S4 hv4 => ?_
          cases dp_int hv4
          refine rd_lenS (by rw [tx_len]; omega) ⟨_, _, rfl, rfl, by decide, by omega, by rw [tx_len]; omega, _, rfl, ?_⟩
          rw [lit0, lit1, mul_rep, tx_len, tx_len, tx_len, Int.toNat_natCast, tx_cat, show [49] ++ List.replicate b.length 48 = 49 :: List.replicate b.length 48 from rfl]
          refine ⟨size_le (by simp; omega), ?_⟩
          refine rd_D (hF.same (S13.trans S4)) (.cons (.str _) .nil) ⟨_, rfl, by simp; omega, hao, rfl⟩ fun v5 H5 S5 hv5 => ?_
          cases dp_int hv5
          rw [if_pos ⟨ht, hb⟩] at kp
          rw [dVal_one]
          refine rd_D (hF.same ((S13.trans S4).trans S5)) (.cons (.int _) (.cons (.int _) .nil)) ⟨_, _, rfl, ?_, ?_, rfl⟩ fun v7 H7 S7 hv7 => kp _ _ (((S13.trans S4).trans S5).trans S7) hv7
          · have := Nat.pow_pos (n := b.length) (show 0 < 10 by decide)
            omega
          · rw [Int.natAbs_natCast]
            exact Nat.lt_of_le_of_lt (Nat.pow_le_pow_right (by decide) (show b.length ≤ 1000 by omega)) (by decide +kernel)
        · rename_i hb
          rw [if_neg (by intro z; exact hb z.2)] at kp
          exact kp _ _ ((S1.trans S2).trans S3) .non
      · rename_i ht
        rw [if_neg (by intro z; exact ht z.1)] at kp
        exact kp _ _ (S1.trans S2) .non
    · rename_i hin2
      rw [in_tx'] at hin2
      have er : readU l = if isDigL l = true then some (qOf (dVal l) 1) else none := by unfold readU; rw [hn47, par_mem.mpr hin2]
      rw [er] at kp
      refine rd_D hF (.cons (.str _) .nil) ⟨_, rfl, by omega, rfl⟩ fun v2 H2 S2 hv2 => ?_
      cases dp_bl hv2
      refine ⟨_, rfl, ?_⟩
      split
      · rename_i ht
        rw [if_pos ht] at kp
        refine rd_D (hF.same S2) (.cons (.str _) .nil) ⟨_, rfl, by omega, (isDigL_iff.mp ht).2, rfl⟩ fun v3 H3 S3 hv3 => ?_
        cases dp_int hv3
        exact rd_D (hF.same (S2.trans S3)) (.cons (.int _) (.cons (.int _) .nil)) ⟨_, _, rfl, by decide, by decide +kernel, rfl⟩ fun v7 H7 S7 hv7 => kp _ _ ((S2.trans S3).trans S7) hv7
      · rename_i ht
        rw [if_neg ht] at kp
        exact kp _ _ S2 .non
end
end My
namespace My
open PySem PySem.Spec PyProof.Rows L2
local macro_rules | `(tactic| walk_at "sx") => `(tactic| first | (simp only [cx_K, tB, iRng1, iRng2, iRng3, iList, iTup, wAs, tXf, tDictZip, tDGet1, rInD, rInT, tChain, tUn, rU, tCallS, WE, wOnly, tSl, tPart, tNoPart, tRevL, tStepL, tM0, tM1, wipe, tYes, Bool.not_eq_true', gCons, gNil, decide_eq_false_iff_not, tCall, tPar, tAndV, tOrV, tNotV, tIf, List.append_nil, rEq, rNe, scal_ii, scal_ss, scal_bb, scal_nn, scal_in, scal_ni, scal_sn, scal_ns, scal_is, scal_si, Bool.and_true, Bool.true_and, Bool.and_false, Bool.false_and, reduceCtorEq, tLst, tTup, Int.reduceToNat, decide_true, decide_false, Bool.not_true, Bool.not_false, Bool.false_eq_true, if_true, if_false, reduceIte, gSub, tAnd, tOr, tNot, tBM, tBM0, tNext, tSeq, tAsg, tOp, rI, rI0, tVar, tC, gName, tRet, tCB, tCons, tNil, tTest, tIfS, tDrop, L2.start, List.map_cons, List.map_nil, List.length_cons, List.length_nil, List.cons_append, List.nil_append, List.replicate, List.getElem?_cons_zero, List.getElem?_cons_succ, List.set_cons_zero, List.set_cons_succ, Option.some.injEq, V.int.injEq, V.str.injEq, V.bl.injEq, V.ref.injEq, exists_eq_left', exists_eq_left, exists_and_left, exists_eq', and_assoc, List.cons.injEq, and_true, true_and, decide_eq_true_eq, Nat.reduceAdd, Nat.reduceSub]) | skip)
local macro_rules | `(tactic| walk_at "isi") => `(tactic| first | (simp only [isi_none_int, isi_none_bool, isi_none_str, isi_none_list, isi_none_tuple, isi_bool_int, isi_bool_bool, isi_bool_str, isi_bool_list, isi_bool_tuple, isi_int_int, isi_int_bool, isi_int_str, isi_int_list, isi_int_tuple, isi_str_int, isi_str_bool, isi_str_str, isi_str_list, isi_str_tuple, isi_list_int, isi_list_bool, isi_list_str, isi_list_list, isi_list_tuple, isi_tuple_int, isi_tuple_bool, isi_tuple_str, isi_tuple_list, isi_tuple_tuple, isInt_none, isInt_bool, isInt_int, isInt_str, isInt_list, isInt_tuple]) | skip)
theorem qOf_rat {t b : Int} (hb : b ≠ 0) : isRatD (ratD (qOf t b)) = true ∧ (qOf t b).1.natAbs ≤ t.natAbs ∧ (qOf t b).2.natAbs ≤ b.natAbs := by
  obtain ⟨e1, e2, e3, e4⟩ := qOf_eq t b hb
  rw [e3]
  have ht : (if b < 0 then 0 - t else t).natAbs = t.natAbs := by split <;> omega
  rw [← ht, ← e4]
  generalize (if b < 0 then 0 - t else t) = t' at *
  generalize (if b < 0 then 0 - b else b) = b' at *
  rw [← e2]
  have g1 : 0 < Int.gcd t' b' := Int.gcd_pos_of_ne_zero_right _ (by omega)
  have d1 : ((Int.gcd t' b' : Nat) : Int) ∣ t' := Int.gcd_dvd_left t' b'
  have d2 : ((Int.gcd t' b' : Nat) : Int) ∣ b' := Int.gcd_dvd_right t' b'
  refine ⟨?_, ?_, ?_⟩
  · simp only [isRatD, Bool.and_eq_true, decide_eq_true_eq]
    refine ⟨?_, ?_⟩
    · have : 0 < b' / ((Int.gcd t' b' : Nat) : Int) := Int.ediv_pos_of_pos_of_dvd e1 (by omega) d2
      omega
    · exact Int.gcd_ediv_gcd_ediv_gcd g1
  · rw [Int.natAbs_ediv_of_dvd d1]
    exact Nat.div_le_self _ _
  · rw [Int.natAbs_ediv_of_dvd d2]
    exact Nat.div_le_self _ _
theorem qOf_id {t b : Int} (hb : 1 ≤ b) (h : Int.gcd t b = 1) : qOf t b = (t, b) := by
  unfold qOf
  rw [if_neg (by omega), h]
  simp
theorem pow_big {n : Nat} (h : n ≤ 10 ^ 1000) : n < 2 ^ 4000 := Nat.lt_of_le_of_lt h (by decide +kernel)
/-- what a text without a sign reads as: a ratio in lowest terms, of no more digits than signs -/
theorem readU_ok {l : List Nat} {q : Int × Int} (h : readU l = some q) (hl : l.length ≤ 1000) : isRatD (ratD q) = true ∧ big q.1 ∧ big q.2 ∧ q.1.natAbs ≤ 10 ^ l.length ∧ q.2.natAbs ≤ 10 ^ l.length := by
  have fin : ∀ (t b : Nat), 0 < b → t ≤ 10 ^ l.length → b ≤ 10 ^ l.length → q = qOf t b → isRatD (ratD q) = true ∧ big q.1 ∧ big q.2 ∧ q.1.natAbs ≤ 10 ^ l.length ∧ q.2.natAbs ≤ 10 ^ l.length := by
    rintro t b hb ht hbb rfl
    obtain ⟨h1, h2, h3⟩ := qOf_rat (t := (t : Int)) (b := (b : Int)) (by omega)
    rw [Int.natAbs_natCast] at h2 h3
    have hp : 10 ^ l.length ≤ 10 ^ 1000 := Nat.pow_le_pow_right (by decide) hl
    exact ⟨h1, pow_big (Nat.le_trans h2 (Nat.le_trans ht hp)), pow_big (Nat.le_trans h3 (Nat.le_trans hbb hp)), Nat.le_trans h2 ht, Nat.le_trans h3 hbb⟩
  have dl : ∀ m : List Nat, NumText.AllDigits m → m.length ≤ l.length → dVal m ≤ 10 ^ l.length := fun m h1 h2 => Nat.le_of_lt (Nat.lt_of_lt_of_le (dVal_lt h1) (Nat.pow_le_pow_right (by decide) h2))
  unfold readU at h
  cases h47 : TL.par [47] [] l with
  | some z =>
    obtain ⟨t, b⟩ := z
    rw [h47] at h
    simp only at h
    obtain ⟨el, _⟩ := par_some h47
    have hlen := congrArg List.length el
    simp at hlen
    split at h
    · rename_i hc
      injection h with h
      exact fin _ _ hc.2.2 (dl t (isDigL_iff.mp hc.1).2 (by omega)) (dl b (isDigL_iff.mp hc.2.1).2 (by omega)) h.symm
    · cases h
  | none =>
    rw [h47] at h
    simp only at h
    cases h46 : TL.par [46] [] l with
    | some z =>
      obtain ⟨t, b⟩ := z
      rw [h46] at h
      simp only at h
      obtain ⟨el, _⟩ := par_some h46
      have hlen := congrArg List.length el
      simp at hlen
      split at h
      · rename_i hc
        injection h with h
        refine fin _ _ (Nat.pow_pos (by decide)) (dl _ (fun c hm => ?_) (by simp; omega)) (Nat.pow_le_pow_right (by decide) (by omega)) h.symm
        rcases List.mem_append.mp hm with z | z
        · exact (isDigL_iff.mp hc.1).2 c z
        · exact (isDigL_iff.mp hc.2).2 c z
      · cases h
    | none =>
      rw [h46] at h
      simp only at h
      split at h
      · rename_i hc
        injection h with h
        exact fin _ 1 (by decide) (dl l (isDigL_iff.mp hc).2 (Nat.le_refl _)) (Nat.pow_pos (by decide)) h.symm
      · cases h
theorem readR_ok {l : List Nat} {q : Int × Int} (h : readR l = some q) (hl : l.length ≤ 1000) : isRatD (ratD q) = true ∧ big q.1 ∧ big q.2 := by
  unfold readR at h
  split at h
  · cases hu : readU l.tail with
    | none => rw [hu] at h; cases h
    | some p =>
      rw [hu] at h
      injection h with h
      subst h
      obtain ⟨h1, h2, h3, h4, h5⟩ := readU_ok hu (by simp; omega)
      simp only [isRatD, Bool.and_eq_true, decide_eq_true_eq] at h1
      obtain ⟨g1, g2, g3⟩ := qOf_rat (t := -1 * p.1) (b := 1 * p.2) (by omega)
      exact ⟨g1, Nat.lt_of_le_of_lt g2 (by rw [Int.natAbs_mul]; simpa [big] using h2), Nat.lt_of_le_of_lt g3 (by rw [Int.natAbs_mul]; simpa [big] using h3)⟩
  · obtain ⟨h1, h2, h3, _, _⟩ := readU_ok h hl
    exact ⟨h1, h2, h3⟩
/-- what raises InvalidText -/
structure ExcT (P : Program) (w : World) (K : PySem.W.Frag) (mg : Str → Option Value) (base : Heap) (x f : Str) (st : Stmt) (ps : List Str) (C : Addr) : Prop where
  D : Exc1 K mg x f st C
  F : ∀ fI fd, Fun K "__init__" (x ++ (".__init__" : Str)) st fI fd → FnOk P w K mg base CX0 1 fI fd ps (spIni K C f) ∧ Binds K fd ps []
  me : PySem.W.exmOne K (.ref C) (.ref C) = some true
def sp_read_ratio (K : PySem.W.Frag) (C : Addr) : Sp := fun vs H Q E => ∃ (S : List Addr) (l : List Nat), Fr S H ∧ vs = [.str (tx l)] ∧ l.length ≤ 1000 ∧ (∀ q, readR l = some q → ∀ v H', Same H H' → Dp K (dl S H') v (ratD q) → Q v H') ∧
  (readR l = none → ∀ d H', Same H H' → H' d = some (.xd [("text", .str (tx l))]) → E (.ref C) (some d) H')
def R_number_or_none (ds : List PyData) (r : PyData) : Prop := ∃ l : List Nat, ds = [tD l] ∧ l.length ≤ 1000 ∧ r = optD (readR l)
theorem take1 {l : List Nat} : l.take 1 = [45] ↔ l.head? = some 45 := by cases l <;> simp
section
variable {P : Program} {w : World} {K : PySem.W.Frag} {mg : Str → Option Value} {base : Heap} {aW aB C : Addr} {ps : List Str}
theorem sc_read_ratio : FnScope ["text", "below", "found"] ["text"] (defScope s_read_ratio) := ⟨rfl, rfl, rfl, by decide +kernel, rfl, by decide +kernel, by decide +kernel⟩
theorem ok_read_ratio (T : Txt K mg aW aB) (X1 : ExcT P w K mg base "InvalidText" "text" s_iInvalidText ps C) (F : Dfn K mg "read_ratio" s_read_ratio) (R_read_unsigned : Rdy P w K mg base CX0 3 "read_unsigned" ["text"] (spD K R_read_unsigned)) (R_multiply : Rdy P w K mg base CX0 4 "multiply" ["one", "other"] (spD K R_multiply)) :
    Rdy P w K mg base (L2.CX P w) 5 "read_ratio" ["text"] (sp_read_ratio K C) := by
  refine F.rdyX sc_read_ratio (fun _ _ _ _ _ _ us hl => match us, hl with | [_], _ => rfl) (by rintro _ _ _ _ ⟨_, _, _, rfl, _⟩; rfl) (fun f cdv A outer s H vs Q E hr h => ?_)
  obtain ⟨S, l, hF, rfl, hl, kq, kn⟩ := h
  refine ⟨_, (pss_cons (ps_set (i := 1) sc_read_ratio.nd rfl (Or.inl rfl) (pe_cmpR op_eq (pe_slice sl_str (pv 0) po_none (po_some pe_int)) pe_str (nomark _)))
      (pss_cons (ps_set (i := 2) sc_read_ratio.nd rfl (Or.inl rfl) (pe_cl R_read_unsigned (hr.mono (by decide)) pass0 (pa_cons (pe_ifExp (pt_truth (pv 1) (by intro _; rfl)) (pe_slice sl_str (pv 0) (po_some pe_int) po_none) (pv 0)) pa_nil)))
      (pss_cons (ps_if (pt_cmpR op_isN (pv 2) pe_non (nomark _)) (pss_one (ps_x1 rfl (takes_of rfl rfl rfl rfl) X1.D X1.F (hr.mono (by decide)) (pa_cons (pv 0) pa_nil))) pss_nil)
      (pss_one (ps_ret (pe_ifExp (pt_truth (pv 1) (by intro _; rfl)) (pe_cl R_multiply (hr.mono (by decide)) pass0 (pa_cons (pe_un un_neg pe_int) (pa_cons (pv 2) pa_nil))) (pv 2))))))), ?_⟩
  walk_at "sx"
  refine ⟨_, rfl, by rw [tx_len]; exact size_le (by omega), ?_⟩
  rw [show cutS (tx l) none (some 1) = tx (l.take 1) from cut_to l 1]
  have hdec : decide (V.str (tx (l.take 1)) = V.str (Str.ofString "-")) = decide (l.head? = some 45) := by
    refine decide_eq_decide.mpr ?_
    rw [lit_mi, V.str.injEq, ← take1]
    exact ⟨fun h => SX.S_inj h, fun h => by rw [h]⟩
  dsimp only
  rw [hdec]
  have raised : readR l = none → ∀ H2, Same H H2 → ∀ b : Bool, tX1 C (Str.ofString "text") (tCons (tVar 0) tNil) [some (V.str (tx l)), some (V.bl b), some V.non] H2 fun cls d H' => E cls d H' := by
    intro hn H2 S2 b
    exact ⟨_, rfl, _, rfl, fun d H3 _ S3 h3 => kn hn d H3 (S2.trans S3) h3⟩
  refine ⟨rfl, _, rfl, ?_⟩
  by_cases h45 : l.head? = some 45
  · rw [decide_eq_true h45, if_pos rfl]
    have er : readR l = (readU l.tail).map fun q => qOf (-1 * q.1) (1 * q.2) := by unfold readR; rw [if_pos h45]
    refine ⟨_, rfl, by rw [tx_len]; exact size_le (by omega), ?_⟩
    rw [show cutS (tx l) (some 1) none = tx (l.drop 1) from cut_from l 1, List.drop_one]
    refine rd_D hF (.cons (.str _) .nil) ⟨_, rfl, by simp; omega, rfl⟩ fun v2 H2 S2 hv2 => ?_
    cases hu : readU l.tail with
    | none =>
      rw [hu] at hv2 er
      cases dp_non hv2
      rw [if_pos rfl]
      exact raised er H2 S2 _
    | some q =>
      rw [hu] at hv2 er
      obtain ⟨h1, h2, h3, _, _⟩ := readU_ok hu (by simp; omega)
      have hnn : v2 ≠ .non := by rintro rfl; cases hv2
      rw [if_neg hnn]
      refine ⟨_, rfl, ?_⟩
      rw [if_pos rfl]
      refine rd_D (hF.same S2) (.cons (.int _) (dps_one hv2)) ⟨_, _, rfl, rfl, by unfold isNumD; rw [show isRatD (optD (some q)) = true from h1, Bool.or_true], ?_, ?_, h2, h3, rfl⟩ fun v3 H3 S3 hv3 => kq _ er _ _ (S2.trans S3) hv3
      · show (-1 : Int).natAbs < _
        exact Nat.lt_of_lt_of_le (by decide) (Nat.pow_le_pow_right (show 0 < 2 by decide) (show 1 ≤ 4000 by decide))
      · show (1 : Int).natAbs < _
        exact Nat.lt_of_lt_of_le (by decide) (Nat.pow_le_pow_right (show 0 < 2 by decide) (show 1 ≤ 4000 by decide))
  · rw [decide_eq_false h45, if_neg Bool.false_ne_true]
    have er : readR l = readU l := by unfold readR; rw [if_neg h45]
    refine rd_D hF (.cons (.str _) .nil) ⟨_, rfl, hl, rfl⟩ fun v2 H2 S2 hv2 => ?_
    cases hu : readU l with
    | none =>
      rw [hu] at hv2 er
      cases dp_non hv2
      rw [if_pos rfl]
      exact raised er H2 S2 _
    | some q =>
      rw [hu] at hv2 er
      have hnn : v2 ≠ .non := by rintro rfl; cases hv2
      rw [if_neg hnn]
      refine ⟨_, rfl, ?_⟩
      rw [if_neg Bool.false_ne_true]
      exact kq _ er _ _ S2 hv2
theorem sc_number_or_none : FnScope ["text", "found"] ["text"] (defScope s_number_or_none) := ⟨rfl, rfl, rfl, by decide +kernel, rfl, by decide +kernel, by decide +kernel⟩
theorem ok_number_or_none (T : Txt K mg aW aB) (X1 : ExcT P w K mg base "InvalidText" "text" s_iInvalidText ps C) (F : Dfn K mg "number_or_none" s_number_or_none) (R_read_ratio : Rdy P w K mg base (L2.CX P w) 5 "read_ratio" ["text"] (sp_read_ratio K C)) :
    Rdy P w K mg base CX0 6 "number_or_none" ["text"] (spD K R_number_or_none) := by
  refine F.rdy sc_number_or_none (fun _ _ _ _ _ _ us hl => match us, hl with | [_], _ => rfl) (spD_len (by rintro _ _ ⟨d, rfl, _⟩; rfl)) (fun f cdv A outer s H vs Q E hr h => ?_)
  obtain ⟨S, ds, r, hF, hd, ⟨l, rfl, hl, rfl⟩, kp⟩ := h
  obtain ⟨x, rfl, hx⟩ := dps_1 hd
  cases dp_str hx
  refine ⟨_, (pss_cons (ps_try_only rfl rfl ⟨rfl, by decide, .inl X1.D.gC⟩ takes0 (fun W pn xe tk po => (pss_one (ps_set (i := 1) sc_number_or_none.nd rfl (Or.inl rfl) (pe_clS R_read_ratio (hr.mono (by decide)) tk (pa_cons (pv 0) pa_nil))))) (fun a oe cls d pn hz hf => (pss_one (ps_set (i := 1) sc_number_or_none.nd rfl (Or.inl rfl) pe_non))))
      (pss_one (ps_ret (pv 1)))), ?_⟩
  walk_at "sx"
  refine ⟨S, l, hF, rfl, hl, fun q hq v H' S' hv => ?_, fun hn d H' S' hx => ?_⟩
  · rw [hq] at kp
    exact kp _ _ S' hv
  · rw [hn] at kp
    refine ⟨true, X1.me, fun _ a ha => ?_, fun z => by cases z⟩
    walk_at "sx"
    exact kp _ _ S' .non
end
end My
namespace My
open PySem PySem.Spec PyProof.Rows L2
local macro_rules | `(tactic| walk_at "sx") => `(tactic| first | (simp only [cx_K, tB, iRng1, iRng2, iRng3, iList, iTup, wAs, tXf, tDictZip, tDGet1, rInD, rInT, tChain, tUn, rU, tCallS, WE, wOnly, tSl, tPart, tNoPart, tRevL, tStepL, tM0, tM1, wipe, tYes, Bool.not_eq_true', gCons, gNil, decide_eq_false_iff_not, tCall, tPar, tAndV, tOrV, tNotV, tIf, List.append_nil, rEq, rNe, scal_ii, scal_ss, scal_bb, scal_nn, scal_in, scal_ni, scal_sn, scal_ns, scal_is, scal_si, Bool.and_true, Bool.true_and, Bool.and_false, Bool.false_and, reduceCtorEq, tLst, tTup, Int.reduceToNat, decide_true, decide_false, Bool.not_true, Bool.not_false, Bool.false_eq_true, if_true, if_false, reduceIte, gSub, tAnd, tOr, tNot, tBM, tBM0, tNext, tSeq, tAsg, tOp, rI, rI0, tVar, tC, gName, tRet, tCB, tCons, tNil, tTest, tIfS, tDrop, L2.start, List.map_cons, List.map_nil, List.length_cons, List.length_nil, List.cons_append, List.nil_append, List.replicate, List.getElem?_cons_zero, List.getElem?_cons_succ, List.set_cons_zero, List.set_cons_succ, Option.some.injEq, V.int.injEq, V.str.injEq, V.bl.injEq, V.ref.injEq, exists_eq_left', exists_eq_left, exists_and_left, exists_eq', and_assoc, List.cons.injEq, and_true, true_and, decide_eq_true_eq, Nat.reduceAdd, Nat.reduceSub]) | skip)
local macro_rules | `(tactic| walk_at "isi") => `(tactic| first | (simp only [isi_none_int, isi_none_bool, isi_none_str, isi_none_list, isi_none_tuple, isi_bool_int, isi_bool_bool, isi_bool_str, isi_bool_list, isi_bool_tuple, isi_int_int, isi_int_bool, isi_int_str, isi_int_list, isi_int_tuple, isi_str_int, isi_str_bool, isi_str_str, isi_str_list, isi_str_tuple, isi_list_int, isi_list_bool, isi_list_str, isi_list_list, isi_list_tuple, isi_tuple_int, isi_tuple_bool, isi_tuple_str, isi_tuple_list, isi_tuple_tuple, isInt_none, isInt_bool, isInt_int, isInt_str, isInt_list, isInt_tuple]) | skip)
def isLow (c : Nat) : Bool := decide (97 ≤ c) && decide (c ≤ 122)
def cSum : List Nat := [115, 117, 109]
def cAvg : List Nat := [97, 118, 101, 114, 97, 103, 101]
def isNameL (l : List Nat) : Bool := decide (1 ≤ l.length) && decide (l.length ≤ 8) && !decide (l = cSum) && !decide (l = cAvg) && l.all isLow
def partsL (sep l : List Nat) : List (List Nat) := if l = [] then [] else TL.spl sep 0 [] l
theorem spl_len {S : List Nat} : ∀ (l : List Nat) (k : Nat) (acc : List Nat), ∀ p ∈ TL.spl S k acc l, p.length ≤ acc.length + l.length
  | [], k, acc, p, h => by rw [TL.spl_nil] at h; rw [List.mem_singleton] at h; subst h; simp
  | c :: r, 0, acc, p, h => by
    by_cases hp : TL.pre S (c :: r) = true
    · rw [TL.spl_hit hp] at h
      rcases List.mem_cons.mp h with z | z
      · subst z; simp
      · have := spl_len r _ _ p z; simp at this ⊢; omega
    · rw [TL.spl_miss (by simpa using hp)] at h
      have := spl_len r _ _ p h; simp at this ⊢; omega
  | c :: r, k + 1, acc, p, h => by
    have := spl_len r k acc p h; simp at this ⊢; omega
theorem spl_count {S : List Nat} : ∀ (l : List Nat) (k : Nat) (acc : List Nat), (TL.spl S k acc l).length ≤ l.length + 1
  | [], k, acc => by rw [TL.spl_nil]; simp
  | c :: r, 0, acc => by
    by_cases hp : TL.pre S (c :: r) = true
    · rw [TL.spl_hit hp]; have := spl_count (S := S) r (S.length - 1) []; simp; omega
    · rw [TL.spl_miss (by simpa using hp)]; have := spl_count (S := S) r 0 (acc ++ [c]); simp; omega
  | c :: r, k + 1, acc => by have := spl_count (S := S) r k acc; simp [TL.spl]; omega
theorem spl_ne {S : List Nat} : ∀ (l : List Nat) (k : Nat) (acc : List Nat), TL.spl S k acc l ≠ []
  | [], k, acc => by rw [TL.spl_nil]; simp
  | c :: r, 0, acc => by
    by_cases hp : TL.pre S (c :: r) = true
    · rw [TL.spl_hit hp]; simp
    · rw [TL.spl_miss (by simpa using hp)]; exact spl_ne r 0 _
  | c :: r, k + 1, acc => by show TL.spl S k acc r ≠ []; exact spl_ne r k acc
def R_is_name (ds : List PyData) (r : PyData) : Prop := ∃ l : List Nat, ds = [tD l] ∧ l.length ≤ 100000 ∧ r = .bool (isNameL l)
def R_parts_of (ds : List PyData) (r : PyData) : Prop := ∃ l sep : List Nat, ds = [tD l, tD sep] ∧ sep ≠ [] ∧ sep.all (· < 256) = true ∧ l.length ≤ 100000 ∧ r = .list ((partsL sep l).map tD)
theorem in_low (c : Nat) : decide (c ∈ (Str.ofString "abcdefghijklmnopqrstuvwxyz").cps.toList) = isLow c := by
  rw [show (Str.ofString "abcdefghijklmnopqrstuvwxyz").cps.toList = [97, 98, 99, 100, 101, 102, 103, 104, 105, 106, 107, 108, 109, 110, 111, 112, 113, 114, 115, 116, 117, 118, 119, 120, 121, 122] by decide +kernel]
  unfold isLow
  rw [← Bool.decide_and]
  refine decide_eq_decide.mpr ?_
  simp only [List.mem_cons, List.not_mem_nil, or_false]
  omega
section
variable {P : Program} {w : World} {K : PySem.W.Frag} {mg : Str → Option Value} {base : Heap} {aW aB : Addr}
theorem sc_is_name : FnScope ["value", "letter"] ["value"] (defScope s_is_name) := ⟨rfl, rfl, rfl, by decide +kernel, rfl, by decide +kernel, by decide +kernel⟩
theorem ok_is_name (T : Txt K mg aW aB) (F : Dfn K mg "is_name" s_is_name) : Rdy P w K mg base CX0 1 "is_name" ["value"] (spD K R_is_name) := by
  refine F.rdy sc_is_name (fun _ _ _ _ _ _ us hl => match us, hl with | [_], _ => rfl) (spD_len (by rintro _ _ ⟨d, rfl, _⟩; rfl)) (fun f cdv A outer s H vs Q E hr h => ?_)
  obtain ⟨S, ds, r, hF, hd, ⟨l, rfl, hl, rfl⟩, kp⟩ := h
  obtain ⟨x, rfl, hx⟩ := dps_1 hd
  cases dp_str hx
  refine ⟨_, (pss_cons (ps_if (PW.pt (pw_or (pt_not (pt_val (pe_callB call_isi (by rfl) T.b_isinstance (by decide +kernel) (pa_cons (pv 0) (pa_cons (pe_bltn (v := .ty "str") (by rfl) T.b_str (by decide +kernel) rfl) pa_nil))))) (pw_or (pt_not (pt_chain op_le op_le pe_int (pe_callB call_len (by rfl) T.b_len PySem.boot_len (pa_cons (pv 0) pa_nil)) (pe_gl T.c_LONGEST_NAME))) (pw_or1 (pt_cmpR op_in_seq (pv 0) (pe_gl T.c_WORDS) (by rfl)))))) (pss_one (ps_ret pe_bl)) pss_nil)
      (pss_one (ps_ret (pe_callB (cr_all rfl) (by rfl) T.b_all (by decide +kernel) (pa_cons (pe_lc (own := [("letter", 1)]) (g := (gName 1)) (tt := tYes) rfl sc_is_name.nd (pi_str (pv 0)) (blkOk_by (N := ["value", "letter"]) (sc := defScope s_is_name) (by decide +kernel)) (fun _ _ _ _ _ => (pg_name (i := 1) sc_is_name.nd rfl (Or.inl rfl))) (fun _ _ _ _ _ => pts_nil) (fun _ _ _ _ _ => (pe_cmpR op_in_sign (pv 1) (pe_gl T.c_LETTERS) (by rfl)))) pa_nil))))), ?_⟩
  walk_at "sx"
  refine rd_isi (dp_up hx) (by simp) ?_
  walk_at "isi"
  walk_at "sx"
  refine rd_lenS (by rw [tx_len]; omega) ?_
  rw [tx_len]
  have e0 : isNameL l = (decide (1 ≤ l.length) && decide (l.length ≤ 8) && !decide (l = cSum) && !decide (l = cAvg) && l.all isLow) := rfl
  by_cases h1 : 1 ≤ l.length
  · rw [if_pos (show (1 : Int) ≤ (l.length : Nat) by omega)]
    by_cases h8 : l.length ≤ 8
    · rw [if_neg (show ¬ ¬ ((l.length : Nat) : Int) ≤ 8 by omega)]
      refine ⟨aW, _, rfl, .inr (T.d_WORDS H), rfl, rfl, _, rfl, ?_⟩
      have ein : inV (V.str (tx l)) [V.str "sum", V.str "average"] = (decide (l = cSum) || decide (l = cAvg)) := by
        show ((Str.ofString "sum" == tx l) || ((Str.ofString "average" == tx l) || false)) = _
        rw [Bool.or_false, show Str.ofString "sum" = tx cSum by decide +kernel, show Str.ofString "average" = tx cAvg by decide +kernel, SX.S_beq_eq, SX.S_beq_eq, decide_eq_decide.mpr (eq_comm (a := cSum)), decide_eq_decide.mpr (eq_comm (a := cAvg))]
      rw [if_neg Bool.false_ne_true, ein]
      rw [decide_eq_true h1, decide_eq_true h8, Bool.true_and, Bool.true_and] at e0
      by_cases hw : l = cSum ∨ l = cAvg
      · rw [if_pos (by rcases hw with h | h <;> simp [h])]
        rw [show isNameL l = false by rw [e0]; rcases hw with h | h <;> simp [h]] at kp
        exact kp _ _ (Same.refl _) (.bl _)
      · have hw1 : ¬ l = cSum := fun z => hw (.inl z)
        have hw2 : ¬ l = cAvg := fun z => hw (.inr z)
        rw [decide_eq_false hw1, decide_eq_false hw2, if_neg (by decide)]
        rw [decide_eq_false hw1, decide_eq_false hw2, Bool.not_false, Bool.true_and, Bool.true_and] at e0
        refine ⟨_, rfl, _, rfl, fun D hD => lc_gen K [] no_mem (walk_str (z := tx l)) hF hD (fun i ds H => ds = ((l.take i).map isLow).map PyData.bool) (fun _ _ => by simp) (fun _ _ => trivial) (fun i x vals acc H1 H' hi hn hv hd hle sb fr hR hY => ?_) fun ds H1 sb fr hd hle hR => ?_⟩
        · obtain ⟨rfl, c, hc, rfl⟩ := hY
          have hc' : l[i]? = some c := by simpa using hc
          walk_at "sx"
          refine ⟨c, rfl, ?_⟩
          rw [in_low]
          refine lc_put no_mem hD hn hv hd hle (by have := (List.getElem?_eq_some_iff.mp hc').1; omega) sb .refl fr (.bl _) fun H5 s5 f5 => ?_
          rw [hR, List.take_add_one, hc']
          simp
        · obtain ⟨p, xs, e, hs, hx⟩ := dp_lst hd
          cases e
          rw [hR] at hx
          rw [show (tx l).cps.size = l.length from tx_len l, List.take_length] at hx
          obtain rfl := dps_bls hx
          refine ⟨_, _, rfl, seqL_up hs, kp _ _ sb.nil ?_⟩
          rw [show (l.map isLow).all id = isNameL l by rw [e0, List.all_map]; rfl]
          exact .bl _
    · rw [if_pos (show ¬ ((l.length : Nat) : Int) ≤ 8 by omega)]
      rw [decide_eq_false h8, Bool.and_false, Bool.false_and, Bool.false_and, Bool.false_and] at e0
      rw [e0] at kp
      exact kp _ _ (Same.refl _) (.bl _)
  · rw [if_neg (show ¬ (1 : Int) ≤ (l.length : Nat) by omega)]
    rw [decide_eq_false h1, Bool.false_and, Bool.false_and, Bool.false_and, Bool.false_and] at e0
    rw [e0] at kp
    exact kp _ _ (Same.refl _) (.bl _)
theorem sc_parts_of : FnScope ["text", "separator"] ["text", "separator"] (defScope s_parts_of) := ⟨rfl, rfl, rfl, by decide +kernel, rfl, by decide +kernel, by decide +kernel⟩
theorem ok_parts_of (T : Txt K mg aW aB) (F : Dfn K mg "parts_of" s_parts_of) : Rdy P w K mg base CX0 1 "parts_of" ["text", "separator"] (spD K R_parts_of) := by
  refine F.rdy sc_parts_of (fun _ _ _ _ _ _ us hl => match us, hl with | [_, _], _ => rfl) (spD_len (by rintro _ _ ⟨d, e, rfl, _⟩; rfl)) (fun f cdv A outer s H vs Q E hr h => ?_)
  obtain ⟨S, ds, r, hF, hd, ⟨l, sep, rfl, hs, hk, hl, rfl⟩, kp⟩ := h
  obtain ⟨x, y, rfl, hx, hy⟩ := dps_2 hd
  cases dp_str hx; cases dp_str hy
  refine ⟨_, (pss_one (ps_ret (pe_ifExp (pt_cmpR op_ne (pv 0) pe_str (nomark _)) (pe_split (pv 0) (pv 1)) (pe_lst pa_nil)))), ?_⟩
  walk_at "sx"
  by_cases hl0 : l = []
  · subst hl0
    rw [if_neg (fun z => z (by decide +kernel))]
    refine ⟨size_le (by decide), ?_⟩
    intro p hp; generalize e1 : upd _ p _ = H1
    obtain ⟨S1, F1, d1⟩ := new_lst (K := K) hF hp e1 .nil
    exact kp _ _ S1 d1
  · rw [if_pos (fun z => hl0 (SX.S_inj (z.trans lit_)))]
    refine ⟨by rw [tx_len]; cases sep with | nil => exact absurd rfl hs | cons _ _ => rfl, by rw [tx_len]; exact size_le (by omega), ?_⟩
    have e : Txt.split (tx l) (tx sep) = (TL.spl sep 0 [] l).map tx := SX.split_S hs hk
    rw [e]
    intro p hp; generalize e1 : upd _ p _ = H1
    have e2 : partsL sep l = TL.spl sep 0 [] l := by unfold partsL; rw [if_neg hl0]
    rw [e2] at kp
    have hda : DpAll K (dl S H) (((TL.spl sep 0 [] l).map tx).map V.str) ((TL.spl sep 0 [] l).map tD) := by
      have := dps_of_strs (K := K) (H := dl S H) ((TL.spl sep 0 [] l).map tx)
      rw [show ((TL.spl sep 0 [] l).map tx).map PyData.str = (TL.spl sep 0 [] l).map tD by simp] at this
      exact this
    obtain ⟨S1, F1, d1⟩ := new_lst (K := K) hF hp e1 hda
    exact kp _ _ S1 d1
end
end My
namespace My
open PySem PySem.Spec PyProof.Rows L2
local macro_rules | `(tactic| walk_at "sx") => `(tactic| first | (simp only [cx_K, tB, iRng1, iRng2, iRng3, iList, iTup, wAs, tXf, tDictZip, tDGet1, rInD, rInT, tChain, tUn, rU, tCallS, WE, wOnly, tSl, tPart, tNoPart, tRevL, tStepL, tM0, tM1, wipe, tYes, Bool.not_eq_true', gCons, gNil, decide_eq_false_iff_not, tCall, tPar, tAndV, tOrV, tNotV, tIf, List.append_nil, rEq, rNe, scal_ii, scal_ss, scal_bb, scal_nn, scal_in, scal_ni, scal_sn, scal_ns, scal_is, scal_si, Bool.and_true, Bool.true_and, Bool.and_false, Bool.false_and, reduceCtorEq, tLst, tTup, Int.reduceToNat, decide_true, decide_false, Bool.not_true, Bool.not_false, Bool.false_eq_true, if_true, if_false, reduceIte, gSub, tAnd, tOr, tNot, tBM, tBM0, tNext, tSeq, tAsg, tOp, rI, rI0, tVar, tC, gName, tRet, tCB, tCons, tNil, tTest, tIfS, tDrop, L2.start, List.map_cons, List.map_nil, List.length_cons, List.length_nil, List.cons_append, List.nil_append, List.replicate, List.getElem?_cons_zero, List.getElem?_cons_succ, List.set_cons_zero, List.set_cons_succ, Option.some.injEq, V.int.injEq, V.str.injEq, V.bl.injEq, V.ref.injEq, exists_eq_left', exists_eq_left, exists_and_left, exists_eq', and_assoc, List.cons.injEq, and_true, true_and, decide_eq_true_eq, Nat.reduceAdd, Nat.reduceSub]) | skip)
local macro_rules | `(tactic| walk_at "isi") => `(tactic| first | (simp only [isi_none_int, isi_none_bool, isi_none_str, isi_none_list, isi_none_tuple, isi_bool_int, isi_bool_bool, isi_bool_str, isi_bool_list, isi_bool_tuple, isi_int_int, isi_int_bool, isi_int_str, isi_int_list, isi_int_tuple, isi_str_int, isi_str_bool, isi_str_str, isi_str_list, isi_str_tuple, isi_list_int, isi_list_bool, isi_list_str, isi_list_list, isi_list_tuple, isi_tuple_int, isi_tuple_bool, isi_tuple_str, isi_tuple_list, isi_tuple_tuple, isInt_none, isInt_bool, isInt_int, isInt_str, isInt_list, isInt_tuple]) | skip)
def isNoneD : PyData → Bool
  | .none => true
  | _ => false
/-- the place of the first None -/
def noneAt (ds : List PyData) : Option Nat := ds.findIdx? isNoneD
/-- what is promised of a list of parts: the tuple, or BadText at the first None -/
def wbPost (K : PySem.W.Frag) (C : Addr) (S : List Addr) (ds : List PyData) (H : Hp) (Q : VK) (E : XK) : Prop :=
  (noneAt ds = none → ∀ v H', Same H H' → Dp K (dl S H') v (.tuple ds) → Q v H') ∧ (∀ i, noneAt ds = some i → ∀ d H', Same H H' → H' d = some (.xd [("at", .int i)]) → E (.ref C) (some d) H')
def sp_without_bad (K : PySem.W.Frag) (C : Addr) : Sp := fun vs H Q E => ∃ (S : List Addr) (v : V) (ds : List PyData), Fr S H ∧ vs = [v] ∧ Dp K (dl S H) v (.list ds) ∧ ds.length ≤ 1000000 ∧ wbPost K C S ds H Q E
/-- what is promised of a text read part by part -/
def sp_read (K : PySem.W.Frag) (C : Addr) (rd : List Nat → PyData) : Sp := fun vs H Q E => ∃ (S : List Addr) (l : List Nat), Fr S H ∧ vs = [.str (tx l)] ∧ l.length ≤ 100000 ∧ okT l ∧ (∀ p ∈ partsL [44, 32] l, p.length ≤ 1000) ∧ wbPost K C S ((partsL [44, 32] l).map rd) H Q E
/-- a row of a table as it is written -/
def rowOk (d : PyData) : Prop := ∃ (l : List Nat) (n : PyData), d = .tuple [tD l, n] ∧ l.length ≤ 1000 ∧ isNumD n = true ∧ (numP n).1.natAbs < 10 ^ 1200 ∧ (numP n).2.natAbs < 10 ^ 1200
def rowL : PyData → List Nat
  | .tuple [.str x, n] => TL.tl x ++ ([32, 61, 32] ++ ratL (numP n))
  | _ => []
def R_table_text (ds : List PyData) (r : PyData) : Prop := ∃ (t : PyData) (rows : List PyData), ds = [t] ∧ (t = .list rows ∨ t = .tuple rows) ∧ rows.length ≤ 1000 ∧ (∀ d ∈ rows, rowOk d) ∧ r = tD (TL.joinL [44, 32] (rows.map rowL))
/-- a pair read -/
def readPair (l : List Nat) : PyData :=
  match TL.spl [32] 0 [] l with
  | [a, b, c] => if isNameL a = true ∧ b = [61] then (match readR c with | some q => .tuple [tD a, ratD q] | none => .none) else .none
  | _ => .none
def R_read_pair (ds : List PyData) (r : PyData) : Prop := ∃ l : List Nat, ds = [tD l] ∧ l.length ≤ 1000 ∧ r = readPair l
theorem lit_eq : Str.ofString " = " = tx [32, 61, 32] := by decide +kernel
theorem lit_cs : Str.ofString ", " = tx [44, 32] := by decide +kernel
theorem lit_sp : Str.ofString " " = tx [32] := by decide +kernel
theorem lit_e : Str.ofString "=" = tx [61] := by decide +kernel
theorem dp_isNone {K : PySem.W.Frag} {H : Hp} {v : V} {d : PyData} (h : Dp K H v d) : v = .non ↔ isNoneD d = true := by
  cases h <;> simp [isNoneD]
section
variable {P : Program} {w : World} {K : PySem.W.Frag} {mg : Str → Option Value} {base : Heap} {aW aB C : Addr} {ps : List Str}
theorem sc_without_bad : FnScope ["values", "at", "value"] ["values"] (defScope s_without_bad) := ⟨rfl, rfl, rfl, by decide +kernel, rfl, by decide +kernel, by decide +kernel⟩
theorem ok_without_bad (T : Txt K mg aW aB) (X2 : ExcT P w K mg base "BadText" "at" s_iBadText ps C) (F : Dfn K mg "without_bad" s_without_bad) : Rdy P w K mg base (L2.CX P w) 3 "without_bad" ["values"] (sp_without_bad K C) := by
  refine F.rdyX sc_without_bad (fun _ _ _ _ _ _ us hl => match us, hl with | [_], _ => rfl) (by rintro _ _ _ _ ⟨_, _, _, _, rfl, _⟩; rfl) (fun f cdv A outer s H vs Q E hr h => ?_)
  obtain ⟨S, v, ds, hF, rfl, hv, hlen, kq, kn⟩ := h
  obtain ⟨a, xs, rfl, ha, hxs⟩ := dp_lst hv
  refine ⟨_, (pss_cons (ps_for (passes_of rfl) rfl (pi_enum (by rfl) T.b_enumerate (pa_cons (pv 0) pa_nil)) (pg_tup (n := 2) rfl (pgs_cons (pg_name (i := 1) sc_without_bad.nd rfl (Or.inl rfl)) (pgs_cons (pg_name (i := 2) sc_without_bad.nd rfl (Or.inl rfl)) pgs_nil)))
      (pss_one (ps_if (pt_cmpR op_isN (pv 2) pe_non (nomark _)) (pss_one (ps_x1 rfl (takes_of rfl rfl rfl rfl) X2.D X2.F (hr.mono (by decide)) (pa_cons (pv 1) pa_nil))) pss_nil)))
      (pss_one (ps_ret (pe_callTy call_tuple_of (by rfl) T.b_tuple (by decide +kernel) (pa_cons (pv 0) pa_nil))))), ?_⟩
  walk_at "sx"
  have hlx := dps_len hxs
  refine ⟨_, rfl, a, xs, rfl, seqL_up ha, for_it walk_enum (fun i σ H2 => Same H H2 ∧ (∀ (j : Nat) (d : PyData), j < i → ds[j]? = some d → isNoneD d = false) ∧ ∃ a1 b1, σ = [some (.ref a), a1, b1]) ⟨.refl _, fun _ _ h => absurd h (Nat.not_lt_zero _), _, _, rfl⟩
    (fun i σ H2 _ h => seqL_up ((dl_same h.1).seq ha)) (fun i x σ H2 H3 hi h hy => ?_) fun σ H2 h => ?_⟩
  · obtain ⟨S2, hno, a1, b1, rfl⟩ := h
    obtain ⟨t, y, z, rfl, ht, rfl, e1, e2⟩ := hy
    cases e1
    generalize e5 : upd _ t _ = H4
    obtain ⟨S4, h4⟩ := new_of ht e5
    refine ⟨t, _, rfl, SqT.of h4, rfl, ?_⟩
    walk_at "sx"
    obtain ⟨d, hd1, hd2⟩ := dps_get hxs e2
    have hin := dp_isNone hd2
    split
    · rename_i hz
      subst hz
      refine ⟨_, rfl, _, rfl, fun dx H5 _ S5 h5 => kn i ?_ dx H5 ((S2.trans S4).trans S5) h5⟩
      unfold noneAt
      rw [List.findIdx?_eq_some_iff_getElem]
      obtain ⟨hlt, hget⟩ := List.getElem?_eq_some_iff.mp hd1
      refine ⟨hlt, by rw [hget]; exact hin.mp rfl, fun j hj => ?_⟩
      have := hno j _ hj (List.getElem?_eq_getElem (by omega))
      rw [this]
      exact Bool.false_ne_true
    · rename_i hz
      refine ⟨S2.trans S4, fun j e hj he => ?_⟩
      by_cases hji : j = i
      · subst hji
        rw [hd1] at he
        cases he
        cases hq : isNoneD d
        · rfl
        · exact absurd (hin.mpr hq) hz
      · exact hno j e (by omega) he
  · obtain ⟨S2, hno, a1, b1, rfl⟩ := h
    walk_at "sx"
    have ha2 := (dl_same (S := S) S2).seq ha
    refine ⟨_, .inl ⟨seqL_up ha2, ?_⟩⟩
    intro p hp; generalize e5 : upd _ p _ = H4
    obtain ⟨S4, F4, d4⟩ := new_tup (K := K) (hF.same S2) hp e5 (dps_same (dl_same S2) hxs)
    refine kq ?_ _ _ (S2.trans S4) d4
    unfold noneAt
    rw [List.findIdx?_eq_none_iff]
    intro d hd
    obtain ⟨j, hj⟩ := List.mem_iff_getElem?.mp hd
    have hjl := (List.getElem?_eq_some_iff.mp hj).1
    exact hno j d (by omega) hj
theorem sc_table_text : FnScope ["table", "name", "number"] ["table"] (defScope s_table_text) := ⟨rfl, rfl, rfl, by decide +kernel, rfl, by decide +kernel, by decide +kernel⟩
theorem ok_table_text (T : Txt K mg aW aB) (F : Dfn K mg "table_text" s_table_text) (R_ratio_text : Rdy P w K mg base CX0 4 "ratio_text" ["number"] (spD K R_ratio_text)) : Rdy P w K mg base CX0 5 "table_text" ["table"] (spD K R_table_text) := by
  refine F.rdy sc_table_text (fun _ _ _ _ _ _ us hl => match us, hl with | [_], _ => rfl) (spD_len (by rintro _ _ ⟨d, e, rfl, _⟩; rfl)) (fun f cdv A outer s H vs Q E hr h => ?_)
  obtain ⟨S, ds, r, hF, hd, ⟨t, rows, rfl, ht, hlen, hrows, rfl⟩, kp⟩ := h
  obtain ⟨x, rfl, hx⟩ := dps_1 hd
  refine ⟨_, (pss_one (ps_ret (pe_join pe_str (pe_lc (own := [("name", 1), ("number", 2)]) (g := (gTup _ 2 (gCons (gName 1) (gCons (gName 2) gNil)))) (tt := tYes) rfl sc_table_text.nd (pi_seq (pv 0)) (blkOk_by (N := ["table", "name", "number"]) (sc := defScope s_table_text) (by decide +kernel)) (fun _ _ _ _ _ => (pg_tup (n := 2) rfl (pgs_cons (pg_name (i := 1) sc_table_text.nd rfl (Or.inl rfl)) (pgs_cons (pg_name (i := 2) sc_table_text.nd rfl (Or.inl rfl)) pgs_nil)))) (fun _ _ _ _ _ => pts_nil) (fun _ _ _ _ _ => (pe_op op_add_str (pe_op op_add_str (pv 1) pe_str) (pe_cl R_ratio_text (hr.mono (by decide)) pass0 (pa_cons (pv 2) pa_nil)))))))), ?_⟩
  walk_at "sx"
  obtain ⟨a, xs, rfl, hsq, hxs⟩ : ∃ a xs, x = .ref a ∧ (SqL K (dl S H) a xs ∨ SqT K (dl S H) a xs) ∧ DpAll K (dl S H) xs rows := by
    rcases ht with rfl | rfl
    · obtain ⟨a, xs, e, h1, h2⟩ := dp_lst hx
      exact ⟨a, xs, e, .inl h1, h2⟩
    · obtain ⟨a, xs, e, h1, h2⟩ := dp_tup hx
      exact ⟨a, xs, e, .inr h1, h2⟩
  have hlx := dps_len hxs
  refine ⟨_, rfl, a, rfl, rd_seq (xs := xs) (by rcases hsq with h | h; exact .inl (seqL_up h); exact .inr (seqT_up h)) fun J G wk hG => ?_⟩
  intro D hD
  refine lc_gen K [] no_mem wk hF hD (fun i ds H => ds = (rows.take i).map fun d => tD (rowL d)) (fun _ _ => by simp) (fun H2 sb => hG H2 (fun h => sb.nil.seq h) fun h => sameT sb.nil h) (fun i x vals acc H1 H' hi hn hv hd hle sb fr hR hY => ?_) fun ds H1 sb fr hd hle hR => ?_
  · obtain ⟨rfl, hx1⟩ := hY
    obtain ⟨d, hd1, hd2⟩ := dps_get hxs hx1
    obtain ⟨l, n, rfl, hll, hnn, hn1, hn2⟩ := hrows d (List.mem_of_getElem? hd1)
    obtain ⟨b, ys, rfl, hb, hys⟩ := dp_tup (dp_same (dl_same sb.nil) hd2)
    obtain ⟨y1, y2, rfl, k1, k2⟩ := dps_2 hys
    cases dp_str k1
    refine ⟨_, _, rfl, seqT_up hb, rfl, ?_⟩
    walk_at "sx"
    rw [lit_eq]
    refine ⟨by rw [tx_len, tx_len]; exact size_le (by simp; omega), ?_⟩
    rw [tx_cat]
    have hlr := ratL_len hn1 hn2
    refine rd_D fr (dps_one k2) ⟨_, rfl, hnn, hn1, hn2, rfl⟩ fun v5 H5 S5 hv5 => ?_
    cases dp_str hv5
    clear hn1 hn2
    refine ⟨_, rfl, by rw [tx_len, tx_len]; exact size_le (by simp; omega), ?_⟩
    rw [tx_cat]
    refine lc_put no_mem hD hn hv hd hle (by omega) sb (.of S5) (fr.same S5) (.str _) fun H6 s6 f6 => ?_
    rw [hR, List.take_add_one, hd1]
    simp [rowL, tD]
  · rw [hlx, List.take_length] at hR
    obtain ⟨p, ys, e, hs, hys⟩ := dp_lst hd
    cases e
    have e1 : ds = ((rows.map rowL).map tx).map PyData.str := by rw [hR]; simp
    rw [e1] at hys
    obtain rfl := dps_strs hys
    have hall : ∀ x ∈ rows.map rowL, x.length ≤ 3405 := by
      intro x hx
      obtain ⟨d, hd, rfl⟩ := List.mem_map.mp hx
      obtain ⟨l, n, rfl, hll, hnn, hn1, hn2⟩ := hrows d hd
      have := ratL_len hn1 hn2
      clear hn1 hn2
      simp [rowL]
      omega
    refine ⟨_, rfl, _, .inl (seqL_up hs), ?_, ?_⟩
    · rw [lens_tx, lit_cs, tx_len]
      have := sum_le 3405 _ hall
      rw [List.length_map] at this ⊢
      rw [List.length_map]
      have h2 : ((rows.map rowL).map fun x => x.length).sum = ((rows.map rowL).map List.length).sum := rfl
      rw [h2]
      simp only [List.length_cons, List.length_nil]
      omega
    · rw [lit_cs, join_tx]
      exact kp _ _ sb.nil (.str _)
theorem sc_read_pair : FnScope ["part", "words", "number"] ["part"] (defScope s_read_pair) := ⟨rfl, rfl, rfl, by decide +kernel, rfl, by decide +kernel, by decide +kernel⟩
theorem ok_read_pair (T : Txt K mg aW aB) (F : Dfn K mg "read_pair" s_read_pair) (R_is_name : Rdy P w K mg base CX0 1 "is_name" ["value"] (spD K R_is_name)) (R_number_or_none : Rdy P w K mg base CX0 6 "number_or_none" ["text"] (spD K R_number_or_none)) :
    Rdy P w K mg base CX0 7 "read_pair" ["part"] (spD K R_read_pair) := by
  refine F.rdy sc_read_pair (fun _ _ _ _ _ _ us hl => match us, hl with | [_], _ => rfl) (spD_len (by rintro _ _ ⟨d, rfl, _⟩; rfl)) (fun f cdv A outer s H vs Q E hr h => ?_)
  obtain ⟨S, ds, r, hF, hd, ⟨l, rfl, hl, rfl⟩, kp⟩ := h
  obtain ⟨x, rfl, hx⟩ := dps_1 hd
  cases dp_str hx
  refine ⟨_, (pss_cons (ps_set (i := 1) sc_read_pair.nd rfl (Or.inl rfl) (pe_split (pv 0) pe_str))
      (pss_cons (ps_if (PW.pt (pw_or (pt_cmpR op_ne (pe_callB call_len (by rfl) T.b_len PySem.boot_len (pa_cons (pv 1) pa_nil)) pe_int (nomark _)) (pw_or (pt_not (pt_val (pe_cl R_is_name (hr.mono (by decide)) pass0 (pa_cons (pe_ix ix_list (pv 1) pe_int (fun _ _ => rfl)) pa_nil)))) (pw_or1 (pt_cmpR op_ne (pe_ix ix_list (pv 1) pe_int (fun _ _ => rfl)) pe_str (nomark _)))))) (pss_one (ps_ret pe_non)) pss_nil)
      (pss_cons (ps_set (i := 2) sc_read_pair.nd rfl (Or.inl rfl) (pe_cl R_number_or_none (hr.mono (by decide)) pass0 (pa_cons (pe_ix ix_list (pv 1) pe_int (fun _ _ => rfl)) pa_nil)))
      (pss_one (ps_ret (pe_ifExp (pt_cmpR op_isN (pv 2) pe_non (nomark _)) pe_non (pe_tup (pa_cons (pe_ix ix_list (pv 1) pe_int (fun _ _ => rfl)) (pa_cons (pv 2) pa_nil))))))))), ?_⟩
  walk_at "sx"
  rw [lit_sp, SX.split_S (by simp) (by decide)]
  refine ⟨rfl, by rw [tx_len]; exact size_le (by omega), ?_⟩
  intro p hp; generalize e1 : upd _ p _ = H1
  obtain ⟨S1, hp1⟩ := new_of hp e1
  refine rd_lenL (SqL.of hp1) ?_
  have hlen : ∀ p ∈ TL.spl [32] 0 [] l, p.length ≤ 1000 := fun p h => by
    have := spl_len l 0 [] p h
    simp at this
    omega
  have er : readPair l = (match TL.spl [32] 0 [] l with | [a, b, c] => if isNameL a = true ∧ b = [61] then (match readR c with | some q => .tuple [tD a, ratD q] | none => .none) else .none | _ => .none) := rfl
  rw [List.length_map, List.length_map]
  generalize TL.spl [32] 0 [] l = ws at *
  split
  · rename_i h3
    have : readPair l = .none := by
      rw [er]
      match ws, h3 with
      | [], _ => rfl
      | [_], _ => rfl
      | [_, _], _ => rfl
      | [_, _, _], h => exact absurd rfl h
      | _ :: _ :: _ :: _ :: _, _ => rfl
    rw [this] at kp
    exact kp _ _ S1 .non
  · rename_i h3
    obtain ⟨a, b, c, rfl⟩ : ∃ a b c, ws = [a, b, c] := by
      match ws, h3 with
      | [], h => exact absurd (show ¬ ((0 : Nat) : Int) = 3 by decide) h
      | [_], h => exact absurd (show ¬ ((1 : Nat) : Int) = 3 by decide) h
      | [_, _], h => exact absurd (show ¬ ((2 : Nat) : Int) = 3 by decide) h
      | [a, b, c], _ => exact ⟨a, b, c, rfl⟩
      | _ :: _ :: _ :: _ :: r, h => exact absurd (by simp; omega) h
    have ha := hlen a (by simp)
    have hc := hlen c (by simp)
    simp only [List.map_cons, List.map_nil] at hp1
    dsimp only at er
    refine rd_ixL hp1 rfl ?_
    refine rd_D (hF.same S1) (.cons (.str _) .nil) ⟨_, rfl, by omega, rfl⟩ fun v2 H2 S2 hv2 => ?_
    cases dp_bl hv2
    refine ⟨_, rfl, ?_⟩
    have hp2 := S2 _ _ hp1
    cases hna : isNameL a with
    | false =>
      rw [if_pos rfl]
      rw [if_neg (by rw [hna]; simp)] at er
      rw [er] at kp
      exact kp _ _ (S1.trans S2) .non
    | true =>
      rw [if_neg (by decide)]
      refine rd_ixL hp2 rfl ⟨rfl, ?_⟩
      by_cases hb : b = [61]
      · rw [if_neg (fun z => z (by rw [hb, lit_e]))]
        rw [if_pos ⟨hna, hb⟩] at er
        refine rd_ixL hp2 rfl ?_
        refine rd_D (hF.same (S1.trans S2)) (.cons (.str _) .nil) ⟨_, rfl, by omega, rfl⟩ fun v3 H3 S3 hv3 => ?_
        cases hq : readR c with
        | none =>
          rw [hq] at hv3 er
          cases dp_non hv3
          rw [if_pos rfl]
          rw [er] at kp
          exact kp _ _ ((S1.trans S2).trans S3) .non
        | some q =>
          rw [hq] at hv3 er
          have hnn : v3 ≠ .non := by rintro rfl; cases hv3
          rw [if_neg hnn]
          refine rd_ixL (S3 _ _ hp2) rfl ⟨size_le (by decide), ?_⟩
          intro p3 hp3; generalize e5 : upd _ p3 _ = H4
          obtain ⟨S4, F4, d4⟩ := new_tup (K := K) (ds := [tD a, ratD q]) (hF.same ((S1.trans S2).trans S3)) hp3 e5 (.cons (.str _) (.cons hv3 .nil))
          rw [er] at kp
          exact kp _ _ (((S1.trans S2).trans S3).trans S4) d4
      · rw [if_pos (fun z => hb (SX.S_inj ((V.str.inj z).trans lit_e)))]
        rw [if_neg (fun z => hb z.2)] at er
        rw [er] at kp
        exact kp _ _ (S1.trans S2) .non
theorem sc_read_table : FnScope ["text", "part"] ["text"] (defScope s_read_table) := ⟨rfl, rfl, rfl, by decide +kernel, rfl, by decide +kernel, by decide +kernel⟩
theorem ok_read_table (T : Txt K mg aW aB) (F : Dfn K mg "read_table" s_read_table) (R_parts_of : Rdy P w K mg base CX0 1 "parts_of" ["text", "separator"] (spD K R_parts_of)) (R_read_pair : Rdy P w K mg base CX0 7 "read_pair" ["part"] (spD K R_read_pair))
    (R_without_bad : Rdy P w K mg base (L2.CX P w) 3 "without_bad" ["values"] (sp_without_bad K C)) :
    Rdy P w K mg base (L2.CX P w) 8 "read_table" ["text"] (sp_read K C readPair) := by
  refine F.rdyX sc_read_table (fun _ _ _ _ _ _ us hl => match us, hl with | [_], _ => rfl) (by rintro _ _ _ _ ⟨_, _, _, rfl, _⟩; rfl) (fun f cdv A outer s H vs Q E hr h => ?_)
  obtain ⟨S, l, hF, rfl, hl, hok, hp, hw⟩ := h
  refine ⟨_, (pss_one (ps_ret (pe_clS R_without_bad (hr.mono (by decide)) (takes_of rfl rfl rfl rfl) (pa_cons (pe_lc (own := [("part", 1)]) (g := (gName 1)) (tt := tYes) rfl sc_read_table.nd (pi_list (pe_cl R_parts_of (hr.mono (by decide)) pass0 (pa_cons (pv 0) (pa_cons pe_str pa_nil)))) (blkOk_by (N := ["text", "part"]) (sc := defScope s_read_table) (by decide +kernel)) (fun _ _ _ _ _ => (pg_name (i := 1) sc_read_table.nd rfl (Or.inl rfl))) (fun _ _ _ _ _ => pts_nil) (fun _ _ _ _ _ => (pe_cl R_read_pair (hr.mono (by decide)) pass0 (pa_cons (pv 1) pa_nil)))) pa_nil)))), ?_⟩
  walk_at "sx"
  rw [lit_cs]
  refine ⟨_, rfl, rd_D (E := E0) hF (.cons (.str _) (.cons (.str _) .nil)) ⟨_, _, rfl, by simp, by decide, hl, rfl⟩ fun v2 H2 S2 hv2 => ?_⟩
  obtain ⟨a, xs, rfl, ha, hxs⟩ := dp_lst hv2
  generalize hparts : partsL [44, 32] l = parts at *
  have hlp : parts.length ≤ 100001 := by
    rw [← hparts]
    unfold partsL
    split
    · simp
    · have := spl_count (S := [44, 32]) l 0 []
      omega
  have hlx := dps_len hxs
  rw [List.length_map] at hlx
  refine ⟨a, rfl, ⟨_, seqL_up ha⟩, ?_⟩
  intro D hD
  refine lc_gen K [] no_mem (walk_list (xs := xs)) (hF.same S2) hD (fun i ds H => ds = (parts.take i).map readPair) (fun _ _ => by simp) (fun H3 sb => seqL_up ((dl_same sb.nil).seq ha)) (fun i x vals acc H3 H' hi hn hv hd hle sb fr hR hY => ?_) fun ds H3 sb fr hd hle hR => ?_
  · obtain ⟨rfl, hx1⟩ := hY
    obtain ⟨d, hd1, hd2⟩ := dps_get hxs hx1
    rw [List.getElem?_map] at hd1
    obtain ⟨p, hp1, rfl⟩ := Option.map_eq_some_iff.mp hd1
    cases dp_str hd2
    walk_at "sx"
    refine rd_D (fr.cons hv) (.cons (.str _) .nil) ⟨_, rfl, hp p (List.mem_of_getElem? hp1), rfl⟩ fun v5 H5 S5 hv5 => ?_
    refine lc_put no_mem hD hn hv hd hle (by omega) sb (.of S5) (fr.same S5) hv5 fun H6 s6 f6 => ?_
    rw [hR, List.take_add_one, hp1]
    simp
  · rw [hlx, List.take_length] at hR
    subst hR
    refine ⟨S, _, _, fr, rfl, hd, by simp; omega, fun hn v H' S' hv => hw.1 hn v H' ((S2.trans sb.nil).trans S') hv, fun i hi d H' S' hv => hw.2 i hi d H' ((S2.trans sb.nil).trans S') hv⟩
end
end My
namespace My
open PySem PySem.Spec PyProof.Rows L2
local macro_rules | `(tactic| walk_at "sx") => `(tactic| first | (simp only [cx_K, tB, iRng1, iRng2, iRng3, iList, iTup, wAs, tXf, tDictZip, tDGet1, rInD, rInT, tChain, tUn, rU, tCallS, WE, wOnly, tSl, tPart, tNoPart, tRevL, tStepL, tM0, tM1, wipe, tYes, Bool.not_eq_true', gCons, gNil, decide_eq_false_iff_not, tCall, tPar, tAndV, tOrV, tNotV, tIf, List.append_nil, rEq, rNe, scal_ii, scal_ss, scal_bb, scal_nn, scal_in, scal_ni, scal_sn, scal_ns, scal_is, scal_si, Bool.and_true, Bool.true_and, Bool.and_false, Bool.false_and, reduceCtorEq, tLst, tTup, Int.reduceToNat, decide_true, decide_false, Bool.not_true, Bool.not_false, Bool.false_eq_true, if_true, if_false, reduceIte, gSub, tAnd, tOr, tNot, tBM, tBM0, tNext, tSeq, tAsg, tOp, rI, rI0, tVar, tC, gName, tRet, tCB, tCons, tNil, tTest, tIfS, tDrop, L2.start, List.map_cons, List.map_nil, List.length_cons, List.length_nil, List.cons_append, List.nil_append, List.replicate, List.getElem?_cons_zero, List.getElem?_cons_succ, List.set_cons_zero, List.set_cons_succ, Option.some.injEq, V.int.injEq, V.str.injEq, V.bl.injEq, V.ref.injEq, exists_eq_left', exists_eq_left, exists_and_left, exists_eq', and_assoc, List.cons.injEq, and_true, true_and, decide_eq_true_eq, Nat.reduceAdd, Nat.reduceSub]) | skip)
local macro_rules | `(tactic| walk_at "isi") => `(tactic| first | (simp only [isi_none_int, isi_none_bool, isi_none_str, isi_none_list, isi_none_tuple, isi_bool_int, isi_bool_bool, isi_bool_str, isi_bool_list, isi_bool_tuple, isi_int_int, isi_int_bool, isi_int_str, isi_int_list, isi_int_tuple, isi_str_int, isi_str_bool, isi_str_str, isi_str_list, isi_str_tuple, isi_list_int, isi_list_bool, isi_list_str, isi_list_list, isi_list_tuple, isi_tuple_int, isi_tuple_bool, isi_tuple_str, isi_tuple_list, isi_tuple_tuple, isInt_none, isInt_bool, isInt_int, isInt_str, isInt_list, isInt_tuple]) | skip)
def cFrom : List Nat := [102, 114, 111, 109]
def cTo : List Nat := [116, 111]
/-- an end of a limit: None or a number -/
def endOk (d : PyData) : Prop := d = .none ∨ (isNumD d = true ∧ (numP d).1.natAbs < 10 ^ 1200 ∧ (numP d).2.natAbs < 10 ^ 1200)
def endL (k : List Nat) (d : PyData) : List Nat := if isNoneD d = true then [] else 32 :: (k ++ 32 :: ratL (numP d))
def limOk (d : PyData) : Prop := ∃ (l : List Nat) (lo hi : PyData), d = .tuple [tD l, lo, hi] ∧ l.length ≤ 1000 ∧ endOk lo ∧ endOk hi
def limL : PyData → List Nat
  | .tuple [.str x, lo, hi] => TL.tl x ++ (endL cFrom lo ++ endL cTo hi)
  | _ => []
def R_limit_text (ds : List PyData) (r : PyData) : Prop := ∃ d : PyData, ds = [d] ∧ limOk d ∧ r = tD (limL d)
def R_limits_text (ds : List PyData) (r : PyData) : Prop := ∃ (t : PyData) (rows : List PyData), ds = [t] ∧ (t = .list rows ∨ t = .tuple rows) ∧ rows.length ≤ 1000 ∧ (∀ d ∈ rows, limOk d) ∧ r = tD (TL.joinL [44, 32] (rows.map limL))
def bounds : List (List (List Nat)) := [[], [cFrom], [cTo], [cFrom, cTo]]
def limOf (a : List Nat) : List (List Nat × PyData) → PyData
  | [(k, q)] => if k = cFrom then .tuple [tD a, q, .none] else .tuple [tD a, .none, q]
  | [(_, p), (_, q)] => .tuple [tD a, p, q]
  | _ => .tuple [tD a, .none, .none]
def readLimit (l : List Nat) : PyData :=
  match TL.spl [32] 0 [] l with
  | [] => .none
  | a :: ws => if isNameL a = true ∧ stepL ws none none (some 2) ∈ bounds ∧ ws.length % 2 = 0 ∧ (stepL ws (some 1) none (some 2)).all (fun x => (readR x).isSome) = true then
      limOf a ((stepL ws none none (some 2)).zip ((stepL ws (some 1) none (some 2)).map fun x => optD (readR x))) else .none
def R_read_limit (ds : List PyData) (r : PyData) : Prop := ∃ l : List Nat, ds = [tD l] ∧ l.length ≤ 1000 ∧ okT l ∧ r = readLimit l
theorem lit_from : Str.ofString " from " = tx [32, 102, 114, 111, 109, 32] := by decide +kernel
theorem lit_to : Str.ofString " to " = tx [32, 116, 111, 32] := by decide +kernel
theorem lit_kf : Str.ofString "from" = tx cFrom := by decide +kernel
theorem lit_kt : Str.ofString "to" = tx cTo := by decide +kernel
theorem endL_len {d : PyData} (k : List Nat) (hk : k.length ≤ 4) (h : endOk d) : (endL k d).length ≤ 2410 := by
  unfold endL
  split
  · simp
  · rename_i hn
    rcases h with rfl | ⟨_, h1, h2⟩
    · exact absurd rfl hn
    · have := ratL_len h1 h2
      clear h1 h2
      simp; omega
theorem limL_len {d : PyData} (h : limOk d) : (limL d).length ≤ 6000 := by
  obtain ⟨l, lo, hi, rfl, hl, h1, h2⟩ := h
  have a := endL_len cFrom (by decide) h1
  have b := endL_len cTo (by decide) h2
  simp [limL]
  omega
theorem any_bounds (ev : List (List Nat)) : ([PyData.tuple [], .tuple [.str "from"], .tuple [.str "to"], .tuple [.str "from", .str "to"]].any fun z => PyData.eqv z (.tuple (ev.map tD))) = decide (ev ∈ bounds) := by
  rw [show ([PyData.tuple [], .tuple [.str "from"], .tuple [.str "to"], .tuple [.str "from", .str "to"]] : List PyData) = bounds.map fun b => .tuple (b.map tD) by
    rw [show (PyData.str "from") = tD cFrom from congrArg PyData.str lit_kf, show (PyData.str "to") = tD cTo from congrArg PyData.str lit_kt]; rfl]
  rw [List.any_map]
  have e : ((fun z => PyData.eqv z (.tuple (ev.map tD))) ∘ fun b : List (List Nat) => PyData.tuple (b.map tD)) = fun b => decide (b = ev) := by
    funext b
    exact eqvAll_strs b ev
  rw [e]
  simp [bounds, eq_comm]
theorem any_none (os : List (List Nat)) : ((os.map fun x => optD (readR x)).any fun z => PyData.eqv z .none) = !os.all fun x => (readR x).isSome := by
  induction os with
  | nil => rfl
  | cons x os ih =>
    rw [List.map_cons, List.any_cons, List.all_cons, ih]
    cases readR x <;> simp [optD, PyData.eqv]
theorem lim_get {K : PySem.W.Frag} {H : Hp} {xs : List V} {ds : List PyData} {ev : List (List Nat)} {a : List Nat} (hb : ev ∈ bounds) (h : DpAll K H xs ds) : ∃ x y, limOf a (ev.zip ds) = .tuple [tD a, x, y] ∧
    Dp K H ((valV (mergeK [] ((ev.map fun x => (Sum.inr (tx x) : Key)).zip xs)) (Sum.inr (tx cFrom))).getD .non) x ∧ Dp K H ((valV (mergeK [] ((ev.map fun x => (Sum.inr (tx x) : Key)).zip xs)) (Sum.inr (tx cTo))).getD .non) y := by
  have ne1 : (Sum.inr (tx cFrom) : Key) ≠ Sum.inr (tx cTo) := by decide +kernel
  have ne2 : (Sum.inr (tx cTo) : Key) ≠ Sum.inr (tx cFrom) := by decide +kernel
  have nf : ¬ cTo = cFrom := by decide
  simp only [bounds, List.mem_cons, List.not_mem_nil, or_false] at hb
  rcases hb with rfl | rfl | rfl | rfl
  · exact ⟨_, _, rfl, .non, .non⟩
  · cases h with
    | nil => exact ⟨_, _, rfl, .non, .non⟩
    | cons h1 h2 =>
      refine ⟨_, _, by simp only [List.zip_cons_cons, List.zip_nil_left, limOf, if_true]; rfl, ?_, ?_⟩
      · simp [mergeK, putK, valV]; exact h1
      · simp [mergeK, putK, valV, ne1]; exact .non
  · cases h with
    | nil => exact ⟨_, _, rfl, .non, .non⟩
    | cons h1 h2 =>
      refine ⟨_, _, by simp only [List.zip_cons_cons, List.zip_nil_left, limOf, if_neg nf]; rfl, ?_, ?_⟩
      · simp [mergeK, putK, valV, ne2]; exact .non
      · simp [mergeK, putK, valV]; exact h1
  · cases h with
    | nil => exact ⟨_, _, rfl, .non, .non⟩
    | cons h1 h2 =>
      cases h2 with
      | nil =>
        refine ⟨_, _, by simp only [List.zip_cons_cons, List.zip_nil_right, limOf, if_true]; rfl, ?_, ?_⟩
        · simp [mergeK, putK, valV]; exact h1
        · simp [mergeK, putK, valV, ne1]; exact .non
      | cons h3 h4 =>
        refine ⟨_, _, by simp only [List.zip_cons_cons, List.zip_nil_left, limOf]; rfl, ?_, ?_⟩
        · simp [mergeK, putK, valV, ne1]; exact h1
        · simp [mergeK, putK, valV, ne1, ne2]; exact h3
section
variable {P : Program} {w : World} {K : PySem.W.Frag} {mg : Str → Option Value} {base : Heap} {aW aB C : Addr} {ps : List Str}
theorem sc_limit_text : FnScope ["limit", "name", "low", "high", "text"] ["limit"] (defScope s_limit_text) := ⟨rfl, rfl, rfl, by decide +kernel, rfl, by decide +kernel, by decide +kernel⟩
theorem ok_limit_text (T : Txt K mg aW aB) (F : Dfn K mg "limit_text" s_limit_text) (R_ratio_text : Rdy P w K mg base CX0 4 "ratio_text" ["number"] (spD K R_ratio_text)) : Rdy P w K mg base CX0 5 "limit_text" ["limit"] (spD K R_limit_text) := by
  refine F.rdy sc_limit_text (fun _ _ _ _ _ _ us hl => match us, hl with | [_], _ => rfl) (spD_len (by rintro _ _ ⟨d, rfl, _⟩; rfl)) (fun f cdv A outer s H vs Q E hr h => ?_)
  obtain ⟨S, ds, r, hF, hd, ⟨d, rfl, ⟨l, lo, hi, rfl, hl, hlo, hhi⟩, rfl⟩, kp⟩ := h
  obtain ⟨x, rfl, hx⟩ := dps_1 hd
  obtain ⟨a, xs, rfl, ha, hxs⟩ := dp_tup hx
  obtain ⟨x1, x2, x3, rfl, k1, k2, k3⟩ := dps_3 hxs
  cases dp_str k1
  refine ⟨_, (pss_cons (ps_asg (pv 0) (pg_tup (n := 3) rfl (pgs_cons (pg_name (i := 1) sc_limit_text.nd rfl (Or.inl rfl)) (pgs_cons (pg_name (i := 2) sc_limit_text.nd rfl (Or.inl rfl)) (pgs_cons (pg_name (i := 3) sc_limit_text.nd rfl (Or.inl rfl)) pgs_nil)))))
      (pss_cons (ps_set (i := 4) sc_limit_text.nd rfl (Or.inl rfl) (pe_ifExp (pt_cmpR op_isN (pv 2) pe_non (nomark _)) (pv 1) (pe_op op_add_str (pe_op op_add_str (pv 1) pe_str) (pe_cl R_ratio_text (hr.mono (by decide)) pass0 (pa_cons (pv 2) pa_nil)))))
      (pss_one (ps_ret (pe_ifExp (pt_cmpR op_isN (pv 3) pe_non (nomark _)) (pv 4) (pe_op op_add_str (pe_op op_add_str (pv 4) pe_str) (pe_cl R_ratio_text (hr.mono (by decide)) pass0 (pa_cons (pv 3) pa_nil)))))))), ?_⟩
  walk_at "sx"
  refine ⟨_, _, rfl, seqT_up ha, rfl, ?_⟩
  walk_at "sx"
  rw [lit_from, lit_to]
  have erl : limL (.tuple [tD l, lo, hi]) = l ++ (endL cFrom lo ++ endL cTo hi) := rfl
  rw [erl] at kp
  have i2 := dp_isNone k2
  have i3 := dp_isNone k3
  have to_ : ∀ (H2 : Hp) (S2 : Same H H2) (m : List Nat), m.length ≤ 4000 → l ++ (endL cFrom lo ++ endL cTo hi) = m ++ endL cTo hi →
      if x3 = V.non then Q (V.str (tx m)) H2
      else (tx m).length + (tx [32, 116, 111, 32]).length ≤ sizeLine ∧ spD K My.R_ratio_text [x3] H2 (fun y H2 => ∃ x_1, y = V.str x_1 ∧ (tx m ++ tx [32, 116, 111, 32]).length + x_1.length ≤ sizeLine ∧ Q (V.str (tx m ++ tx [32, 116, 111, 32] ++ x_1)) H2) E0 := by
    intro H2 S2 m hm em
    rw [em] at kp
    split
    · rename_i hz
      rw [show endL cTo hi = [] by unfold endL; rw [if_pos (i3.mp hz)], List.append_nil] at kp
      exact kp _ _ S2 (.str _)
    · rename_i hz
      obtain ⟨hn, h1, h2⟩ : isNumD hi = true ∧ (numP hi).1.natAbs < 10 ^ 1200 ∧ (numP hi).2.natAbs < 10 ^ 1200 := by
        rcases hhi with rfl | h
        · exact absurd (i3.mpr rfl) hz
        · exact h
      have hlr := ratL_len h1 h2
      refine ⟨by rw [tx_len, tx_len]; exact size_le (by simp; omega), ?_⟩
      rw [tx_cat]
      refine rd_D (hF.same S2) (dps_one (dp_same (dl_same S2) k3)) ⟨_, rfl, hn, h1, h2, rfl⟩ fun v5 H5 S5 hv5 => ?_
      cases dp_str hv5
      clear h1 h2
      refine ⟨_, rfl, by rw [tx_len, tx_len]; exact size_le (by simp; omega), ?_⟩
      rw [tx_cat]
      rw [show endL cTo hi = [32, 116, 111, 32] ++ ratL (numP hi) by unfold endL; rw [if_neg (fun z => hz (i3.mpr z))]; rfl, ← List.append_assoc] at kp
      exact kp _ _ (S2.trans S5) (.str _)
  split
  · rename_i hz
    exact to_ H (.refl _) l (by omega) (by rw [show endL cFrom lo = [] by unfold endL; rw [if_pos (i2.mp hz)], List.nil_append])
  · rename_i hz
    obtain ⟨hn, h1, h2⟩ : isNumD lo = true ∧ (numP lo).1.natAbs < 10 ^ 1200 ∧ (numP lo).2.natAbs < 10 ^ 1200 := by
      rcases hlo with rfl | h
      · exact absurd (i2.mpr rfl) hz
      · exact h
    have hlr := ratL_len h1 h2
    refine ⟨by rw [tx_len, tx_len]; exact size_le (by simp; omega), ?_⟩
    rw [tx_cat]
    refine rd_D hF (dps_one k2) ⟨_, rfl, hn, h1, h2, rfl⟩ fun v5 H5 S5 hv5 => ?_
    cases dp_str hv5
    clear h1 h2
    refine ⟨_, rfl, by rw [tx_len, tx_len]; exact size_le (by simp; omega), ?_⟩
    rw [tx_cat]
    exact to_ H5 S5 _ (by simp; omega) (by rw [show endL cFrom lo = [32, 102, 114, 111, 109, 32] ++ ratL (numP lo) by unfold endL; rw [if_neg (fun z => hz (i2.mpr z))]; rfl]; simp)
theorem sc_limits_text : FnScope ["limits", "limit"] ["limits"] (defScope s_limits_text) := ⟨rfl, rfl, rfl, by decide +kernel, rfl, by decide +kernel, by decide +kernel⟩
theorem ok_limits_text (T : Txt K mg aW aB) (F : Dfn K mg "limits_text" s_limits_text) (R_limit_text : Rdy P w K mg base CX0 5 "limit_text" ["limit"] (spD K R_limit_text)) : Rdy P w K mg base CX0 6 "limits_text" ["limits"] (spD K R_limits_text) := by
  refine F.rdy sc_limits_text (fun _ _ _ _ _ _ us hl => match us, hl with | [_], _ => rfl) (spD_len (by rintro _ _ ⟨d, e, rfl, _⟩; rfl)) (fun f cdv A outer s H vs Q E hr h => ?_)
  obtain ⟨S, ds, r, hF, hd, ⟨t, rows, rfl, ht, hlen, hrows, rfl⟩, kp⟩ := h
  obtain ⟨x, rfl, hx⟩ := dps_1 hd
  refine ⟨_, (pss_one (ps_ret (pe_join pe_str (pe_lc (own := [("limit", 1)]) (g := (gName 1)) (tt := tYes) rfl sc_limits_text.nd (pi_seq (pv 0)) (blkOk_by (N := ["limits", "limit"]) (sc := defScope s_limits_text) (by decide +kernel)) (fun _ _ _ _ _ => (pg_name (i := 1) sc_limits_text.nd rfl (Or.inl rfl))) (fun _ _ _ _ _ => pts_nil) (fun _ _ _ _ _ => (pe_cl R_limit_text (hr.mono (by decide)) pass0 (pa_cons (pv 1) pa_nil))))))), ?_⟩
  walk_at "sx"
  obtain ⟨a, xs, rfl, hsq, hxs⟩ : ∃ a xs, x = .ref a ∧ (SqL K (dl S H) a xs ∨ SqT K (dl S H) a xs) ∧ DpAll K (dl S H) xs rows := by
    rcases ht with rfl | rfl
    · obtain ⟨a, xs, e, h1, h2⟩ := dp_lst hx
      exact ⟨a, xs, e, .inl h1, h2⟩
    · obtain ⟨a, xs, e, h1, h2⟩ := dp_tup hx
      exact ⟨a, xs, e, .inr h1, h2⟩
  have hlx := dps_len hxs
  refine ⟨_, rfl, a, rfl, rd_seq (xs := xs) (by rcases hsq with h | h; exact .inl (seqL_up h); exact .inr (seqT_up h)) fun J G wk hG => ?_⟩
  intro D hD
  refine lc_gen K [] no_mem wk hF hD (fun i ds H => ds = (rows.take i).map fun d => tD (limL d)) (fun _ _ => by simp) (fun H2 sb => hG H2 (fun h => sb.nil.seq h) fun h => sameT sb.nil h) (fun i x vals acc H1 H' hi hn hv hd hle sb fr hR hY => ?_) fun ds H1 sb fr hd hle hR => ?_
  · obtain ⟨rfl, hx1⟩ := hY
    obtain ⟨d, hd1, hd2⟩ := dps_get hxs hx1
    walk_at "sx"
    refine rd_D fr (dps_one (dp_same (dl_same sb.nil) hd2)) ⟨_, rfl, hrows d (List.mem_of_getElem? hd1), rfl⟩ fun v5 H5 S5 hv5 => ?_
    cases dp_str hv5
    refine lc_put no_mem hD hn hv hd hle (by omega) sb (.of S5) (fr.same S5) (.str _) fun H6 s6 f6 => ?_
    rw [hR, List.take_add_one, hd1]
    simp
  · rw [hlx, List.take_length] at hR
    obtain ⟨p, ys, e, hs, hys⟩ := dp_lst hd
    cases e
    have e1 : ds = ((rows.map limL).map tx).map PyData.str := by rw [hR]; simp
    rw [e1] at hys
    obtain rfl := dps_strs hys
    have hall : ∀ x ∈ rows.map limL, x.length ≤ 6000 := by
      intro x hx
      obtain ⟨d, hd, rfl⟩ := List.mem_map.mp hx
      exact limL_len (hrows d hd)
    refine ⟨_, rfl, _, .inl (seqL_up hs), ?_, ?_⟩
    · rw [lens_tx, lit_cs, tx_len]
      have := sum_le 6000 _ hall
      rw [List.length_map] at this ⊢
      rw [List.length_map]
      have h2 : ((rows.map limL).map fun x => x.length).sum = ((rows.map limL).map List.length).sum := rfl
      rw [h2]
      simp only [List.length_cons, List.length_nil]
      omega
    · rw [lit_cs, join_tx]
      exact kp _ _ sb.nil (.str _)
theorem sc_read_limit : FnScope ["part", "name", "words", "numbers", "bounds", "word"] ["part"] (defScope s_read_limit) := ⟨rfl, rfl, rfl, by decide +kernel, rfl, by decide +kernel, by decide +kernel⟩
theorem ok_read_limit (T : Txt K mg aW aB) (F : Dfn K mg "read_limit" s_read_limit) (R_is_name : Rdy P w K mg base CX0 1 "is_name" ["value"] (spD K R_is_name)) (R_number_or_none : Rdy P w K mg base CX0 6 "number_or_none" ["text"] (spD K R_number_or_none)) :
    Rdy P w K mg base CX0 7 "read_limit" ["part"] (spD K R_read_limit) := by
  refine F.rdy sc_read_limit (fun _ _ _ _ _ _ us hl => match us, hl with | [_], _ => rfl) (spD_len (by rintro _ _ ⟨d, rfl, _⟩; rfl)) (fun f cdv A outer s H vs Q E hr h => ?_)
  obtain ⟨S, ds, r, hF, hd, ⟨l, rfl, hl, hok, rfl⟩, kp⟩ := h
  obtain ⟨x, rfl, hx⟩ := dps_1 hd
  cases dp_str hx
  refine ⟨_, (pss_cons (ps_asg (pe_split (pv 0) pe_str) (pg_star rfl (pgs_star (pg_name (i := 1) sc_read_limit.nd rfl (Or.inl rfl)) (pg_name (i := 2) sc_read_limit.nd rfl (Or.inl rfl)))))
      (pss_cons (ps_setLc (i := 3) (own := [("word", 5)]) (g := (gName 5)) (tt := tYes) rfl sc_read_limit.nd rfl rfl (sw_true rfl rfl rfl (by decide +kernel)) (pi_list (pe_stepL (pv 2) (po_some pe_int) po_none (po_some pe_int))) (blkOk_by (N := ["part", "name", "words", "numbers", "bounds", "word"]) (sc := defScope s_read_limit) (by decide +kernel)) (fun _ _ _ _ _ => (pg_name (i := 5) sc_read_limit.nd rfl (Or.inl rfl))) (fun _ _ _ _ _ => pts_nil) (fun _ _ _ _ _ => (pe_cl R_number_or_none (hr.mono (by decide)) pass0 (pa_cons (pv 5) pa_nil))))
      (pss_cons (ps_if (PW.pt (pw_or (pt_not (pt_val (pe_cl R_is_name (hr.mono (by decide)) pass0 (pa_cons (pv 1) pa_nil)))) (pw_or (pt_cmpR (op_notInT (room65 hr)) (pe_callTy call_tuple_of (by rfl) T.b_tuple (by decide +kernel) (pa_cons (pe_stepL (pv 2) po_none po_none (po_some pe_int)) pa_nil)) (pe_gl T.c_BOUNDS) (by rfl)) (pw_or (pt_cmpR op_eq (pe_op op_mod (pe_callB call_len (by rfl) T.b_len PySem.boot_len (pa_cons (pv 2) pa_nil)) pe_int) pe_int (nomark _)) (pw_or1 (pt_cmpR (op_inD (room65 hr)) pe_non (pv 3) (by rfl))))))) (pss_one (ps_ret pe_non)) pss_nil)
      (pss_cons (ps_set (i := 4) sc_read_limit.nd rfl (Or.inl rfl) (pe_dictzip rfl (by rfl) T.b_dict (by rfl) T.b_zip (pa_cons (pe_stepL (pv 2) po_none po_none (po_some pe_int)) (pa_cons (pv 3) pa_nil))))
      (pss_one (ps_ret (pe_tup (pa_cons (pv 1) (pa_cons (pe_dget1 (room1 hr) (pv 4) pe_str ⟨rfl, rfl, rfl, rfl⟩) (pa_cons (pe_dget1 (room1 hr) (pv 4) pe_str ⟨rfl, rfl, rfl, rfl⟩) pa_nil)))))))))), ?_⟩
  walk_at "sx"
  rw [lit_sp, split_tx (by simp) (by decide)]
  refine ⟨rfl, by rw [tx_len]; exact size_le (by omega), ?_⟩
  intro p hp; generalize e1 : upd _ p _ = H1
  obtain ⟨S1, hp1⟩ := new_of hp e1
  have hlen : ∀ p ∈ TL.spl [32] 0 [] l, p.length ≤ 1000 := fun p h => by
    have := spl_len l 0 [] p h
    simp at this
    omega
  have hokw := okT_spl (S := [32]) hok
  have hcount := spl_count (S := [32]) l 0 []
  have hne := spl_ne (S := [32]) l 0 []
  have er : readLimit l = (match TL.spl [32] 0 [] l with
    | [] => PyData.none
    | a :: ws => if isNameL a = true ∧ stepL ws none none (some 2) ∈ bounds ∧ ws.length % 2 = 0 ∧ (stepL ws (some 1) none (some 2)).all (fun x => (readR x).isSome) = true then
        limOf a ((stepL ws none none (some 2)).zip ((stepL ws (some 1) none (some 2)).map fun x => optD (readR x))) else .none) := rfl
  generalize TL.spl [32] 0 [] l = all at *
  obtain ⟨a, ws, rfl⟩ : ∃ a ws, all = a :: ws := by cases all with | nil => exact absurd rfl hne | cons a ws => exact ⟨a, ws, rfl⟩
  dsimp only at er
  simp only [List.map_cons] at hp1
  rw [List.length_cons] at hcount
  refine ⟨p, _, _, rfl, SqL.of hp1, by simp; omega, ?_⟩
  intro p2 hp2; generalize e2 : upd _ p2 _ = H2
  obtain ⟨S2, hq2⟩ := new_of hp2 e2
  walk_at "sx"
  have hod : (stepL ws (some 1) none (some 2)).length ≤ ws.length := stepL_le ..
  have hev : (stepL ws none none (some 2)).length ≤ ws.length := stepL_le ..
  refine ⟨_, rfl, 1, rfl, 2, rfl, p2, _, rfl, SqL.of hq2, by decide, by rw [stepL_map, stepL_map, List.length_map, List.length_map]; omega, ?_⟩
  rw [stepL_map, stepL_map]
  intro p3 hp3; generalize e3 : upd _ p3 _ = H3
  obtain ⟨S3, hq3⟩ := new_of hp3 e3
  refine ⟨p3, rfl, ⟨_, SqL.of hq3⟩, ?_⟩
  have S13 := (S1.trans S2).trans S3
  intro D hD
  refine lc_gen K [] no_mem (walk_list (xs := ((stepL ws (some 1) none (some 2)).map tx).map V.str)) (hF.same S13) hD (fun i ds H => ds = ((stepL ws (some 1) none (some 2)).take i).map fun x => optD (readR x)) (fun _ _ => by simp) (fun H3 sb => SqL.of (sb.nil _ _ hq3)) (fun i x vals acc H4 H' hi hn hv hd hle sb fr hR hY => ?_) fun ds H4 sb fr hd hle hR => ?_
  · obtain ⟨rfl, hx1⟩ := hY
    simp only [List.getElem?_map, Option.map_map] at hx1
    obtain ⟨y, hy, rfl⟩ := Option.map_eq_some_iff.mp hx1
    walk_at "sx"
    refine rd_D (fr.cons hv) (.cons (.str _) .nil) ⟨y, rfl, hlen y (List.mem_cons_of_mem _ (stepL_mem (List.mem_of_getElem? hy))), rfl⟩ fun v5 H5 S5 hv5 => ?_
    refine lc_put no_mem hD hn hv hd hle (by simp at hi; omega) sb (.of S5) (fr.same S5) hv5 fun H6 s6 f6 => ?_
    rw [hR, List.take_add_one, hy]
    simp
  · rw [show (((stepL ws (some 1) none (some 2)).map tx).map V.str).length = (stepL ws (some 1) none (some 2)).length by simp, List.take_length] at hR
    have S14 := S13.trans sb.nil
    refine rd_D fr (.cons (.str _) .nil) ⟨a, rfl, by have := hlen a (by simp); omega, rfl⟩ fun v5 H5 S5 hv5 => ?_
    cases dp_bl hv5
    refine ⟨_, rfl, ?_⟩
    cases hna : isNameL a with
    | false =>
      rw [if_pos rfl]
      rw [if_neg (by rw [hna]; simp)] at er
      rw [er] at kp
      exact kp _ _ (S14.trans S5) .non
    | true =>
      rw [if_neg (by decide)]
      have hq25 := ((S3.trans sb.nil).trans S5) _ _ hq2
      refine ⟨_, SqL.of hq25, by decide, by rw [stepL_map, stepL_map, List.length_map, List.length_map]; omega, ?_⟩
      rw [stepL_map, stepL_map]
      intro p6 hp6; generalize e6 : upd _ p6 _ = H6
      obtain ⟨S6, hq6⟩ := new_of hp6 e6
      refine ⟨_, .inl ⟨SqL.of hq6, ?_⟩⟩
      intro p7 hp7; generalize e7 : upd _ p7 _ = H7
      have hev7 : DpAll K (dl S H6) (((stepL ws none none (some 2)).map tx).map V.str) ((stepL ws none none (some 2)).map tD) := by
        have := dps_of_strs (K := K) (H := dl S H6) ((stepL ws none none (some 2)).map tx)
        rw [show ((stepL ws none none (some 2)).map tx).map PyData.str = (stepL ws none none (some 2)).map tD by simp] at this
        exact this
      obtain ⟨S7, F7, d7⟩ := new_tup (K := K) (fr.same (S5.trans S6)) hp7 e7 hev7
      have S17 := (S14.trans S5).trans (S6.trans S7)
      have S47 := S5.trans (S6.trans S7)
      have hsh : sh 1 (.tuple ((stepL ws none none (some 2)).map tD)) := sh_tup fun d hd => by
        obtain ⟨y, hy, rfl⟩ := List.mem_map.mp hd
        exact sh_str (hokw y (List.mem_cons_of_mem _ (stepL_mem hy)))
      refine ⟨_, dp_up d7, _, T.d_BOUNDS H7, hsh.ok (by decide), by decide +kernel, ?_⟩
      rw [any_bounds]
      by_cases hb : stepL ws none none (some 2) ∈ bounds
      · rw [decide_eq_true hb, if_neg (by decide)]
        have hq27 := ((S5.trans (S6.trans S7))) _ _ ((S3.trans sb.nil) _ _ hq2)
        refine rd_lenL (SqL.of hq27) ⟨by decide, ?_⟩
        rw [List.length_map, List.length_map]
        by_cases hodd : ((ws.length : Nat) : Int) % 2 = 1
        · rw [if_pos hodd]
          rw [if_neg (by intro z; have := z.2.2.1; omega)] at er
          rw [er] at kp
          exact kp _ _ S17 .non
        · rw [if_neg hodd]
          have d7D : Dp K (dl S H7) (.ref D) (.list ds) := dp_same (dl_same S47) hd
          have hshd : sh 2 (.list ds) := sh_list fun d hd => by
            rw [hR] at hd
            obtain ⟨y, _, rfl⟩ := List.mem_map.mp hd
            exact sh_opt _
          refine ⟨.none, .non, ds, dp_up d7D, (sh_none (n := 0)).ok (by decide), hshd.ok (by decide), ?_⟩
          rw [hR, any_none]
          by_cases hall : (stepL ws (some 1) none (some 2)).all (fun x => (readR x).isSome) = true
          · rw [hall, if_neg (by decide)]
            rw [if_pos ⟨hna, hb, by omega, hall⟩] at er
            refine ⟨_, SqL.of hq27, by decide, by rw [stepL_map, stepL_map, List.length_map, List.length_map]; omega, ?_⟩
            rw [stepL_map, stepL_map]
            intro p8 hp8; generalize e8 : upd _ p8 _ = H8
            obtain ⟨S8, hq8⟩ := new_of hp8 e8
            obtain ⟨_, xd, e, hxd, hxds⟩ := dp_lst d7D
            cases e
            refine ⟨D, rfl, (stepL ws none none (some 2)).map fun x => Sum.inr (tx x), SqL.of (by rw [hq8]; simp [kV]), xd, S8.seq (seqL_up hxd), ?_⟩
            intro p9 hp9; generalize e9 : upd _ p9 _ = H9
            obtain ⟨S9, hq9⟩ := new_of hp9 e9
            obtain ⟨x, y, hlim, hx, hy⟩ := lim_get (a := a) hb hxds
            refine ⟨.inl ⟨_, .inl hq9⟩, _, .inl ⟨_, .inr (tx cFrom), .inl hq9, by rw [lit_kf]; rfl, rfl⟩, .inl ⟨_, .inl hq9⟩, _, .inl ⟨_, .inr (tx cTo), .inl hq9, by rw [lit_kt]; rfl, rfl⟩, size_le (by decide), ?_⟩
            intro p10 hp10; generalize e10 : upd _ p10 _ = H10
            obtain ⟨S10, F10, d10⟩ := new_tup (K := K) (ds := [tD a, x, y]) (F7.same (S8.trans S9)) hp10 e10 (.cons (.str _) (.cons (dp_same (dl_same (S8.trans S9)) hx) (.cons (dp_same (dl_same (S8.trans S9)) hy) .nil)))
            rw [er, ← hR, hlim] at kp
            exact kp _ _ ((S17.trans S8).trans (S9.trans S10)) d10
          · rw [eq_false_of_ne_true hall, if_pos (by decide)]
            rw [if_neg (fun z => hall z.2.2.2)] at er
            rw [er] at kp
            exact kp _ _ S17 .non
      · rw [decide_eq_false hb, if_pos rfl]
        rw [if_neg (fun z => hb z.2.1)] at er
        rw [er] at kp
        exact kp _ _ S17 .non
theorem sc_read_limits : FnScope ["text", "part"] ["text"] (defScope s_read_limits) := ⟨rfl, rfl, rfl, by decide +kernel, rfl, by decide +kernel, by decide +kernel⟩
theorem ok_read_limits (T : Txt K mg aW aB) (F : Dfn K mg "read_limits" s_read_limits) (R_parts_of : Rdy P w K mg base CX0 1 "parts_of" ["text", "separator"] (spD K R_parts_of)) (R_read_limit : Rdy P w K mg base CX0 7 "read_limit" ["part"] (spD K R_read_limit))
    (R_without_bad : Rdy P w K mg base (L2.CX P w) 3 "without_bad" ["values"] (sp_without_bad K C)) :
    Rdy P w K mg base (L2.CX P w) 8 "read_limits" ["text"] (sp_read K C readLimit) := by
  refine F.rdyX sc_read_limits (fun _ _ _ _ _ _ us hl => match us, hl with | [_], _ => rfl) (by rintro _ _ _ _ ⟨_, _, _, rfl, _⟩; rfl) (fun f cdv A outer s H vs Q E hr h => ?_)
  obtain ⟨S, l, hF, rfl, hl, hok, hp, hw⟩ := h
  refine ⟨_, (pss_one (ps_ret (pe_clS R_without_bad (hr.mono (by decide)) (takes_of rfl rfl rfl rfl) (pa_cons (pe_lc (own := [("part", 1)]) (g := (gName 1)) (tt := tYes) rfl sc_read_limits.nd (pi_list (pe_cl R_parts_of (hr.mono (by decide)) pass0 (pa_cons (pv 0) (pa_cons pe_str pa_nil)))) (blkOk_by (N := ["text", "part"]) (sc := defScope s_read_limits) (by decide +kernel)) (fun _ _ _ _ _ => (pg_name (i := 1) sc_read_limits.nd rfl (Or.inl rfl))) (fun _ _ _ _ _ => pts_nil) (fun _ _ _ _ _ => (pe_cl R_read_limit (hr.mono (by decide)) pass0 (pa_cons (pv 1) pa_nil)))) pa_nil)))), ?_⟩
  walk_at "sx"
  rw [lit_cs]
  refine ⟨_, rfl, rd_D (E := E0) hF (.cons (.str _) (.cons (.str _) .nil)) ⟨_, _, rfl, by simp, by decide, hl, rfl⟩ fun v2 H2 S2 hv2 => ?_⟩
  obtain ⟨a, xs, rfl, ha, hxs⟩ := dp_lst hv2
  have okp : ∀ p ∈ partsL [44, 32] l, okT p := fun p hpm => by
    unfold partsL at hpm
    split at hpm
    · cases hpm
    · exact okT_spl hok p hpm
  generalize hparts : partsL [44, 32] l = parts at *
  have hlp : parts.length ≤ 100001 := by
    rw [← hparts]
    unfold partsL
    split
    · simp
    · have := spl_count (S := [44, 32]) l 0 []
      omega
  have hlx := dps_len hxs
  rw [List.length_map] at hlx
  refine ⟨a, rfl, ⟨_, seqL_up ha⟩, ?_⟩
  intro D hD
  refine lc_gen K [] no_mem (walk_list (xs := xs)) (hF.same S2) hD (fun i ds H => ds = (parts.take i).map readLimit) (fun _ _ => by simp) (fun H3 sb => seqL_up ((dl_same sb.nil).seq ha)) (fun i x vals acc H3 H' hi hn hv hd hle sb fr hR hY => ?_) fun ds H3 sb fr hd hle hR => ?_
  · obtain ⟨rfl, hx1⟩ := hY
    obtain ⟨d, hd1, hd2⟩ := dps_get hxs hx1
    rw [List.getElem?_map] at hd1
    obtain ⟨p, hp1, rfl⟩ := Option.map_eq_some_iff.mp hd1
    cases dp_str hd2
    walk_at "sx"
    refine rd_D (fr.cons hv) (.cons (.str _) .nil) ⟨_, rfl, hp p (List.mem_of_getElem? hp1), okp p (List.mem_of_getElem? hp1), rfl⟩ fun v5 H5 S5 hv5 => ?_
    refine lc_put no_mem hD hn hv hd hle (by omega) sb (.of S5) (fr.same S5) hv5 fun H6 s6 f6 => ?_
    rw [hR, List.take_add_one, hp1]
    simp
  · rw [hlx, List.take_length] at hR
    subst hR
    refine ⟨S, _, _, fr, rfl, hd, by simp; omega, fun hn v H' S' hv => hw.1 hn v H' ((S2.trans sb.nil).trans S') hv, fun i hi d H' S' hv => hw.2 i hi d H' ((S2.trans sb.nil).trans S') hv⟩
end
end My
namespace My
open PySem PySem.Spec PyProof.Rows L2
local macro_rules | `(tactic| walk_at "sx") => `(tactic| first | (simp only [cx_K, tB, iRng1, iRng2, iRng3, iList, iTup, wAs, tXf, tDictZip, tDGet1, rInD, rInT, tChain, tUn, rU, tCallS, WE, wOnly, tSl, tPart, tNoPart, tRevL, tStepL, tM0, tM1, wipe, tYes, Bool.not_eq_true', gCons, gNil, decide_eq_false_iff_not, tCall, tPar, tAndV, tOrV, tNotV, tIf, List.append_nil, rEq, rNe, scal_ii, scal_ss, scal_bb, scal_nn, scal_in, scal_ni, scal_sn, scal_ns, scal_is, scal_si, Bool.and_true, Bool.true_and, Bool.and_false, Bool.false_and, reduceCtorEq, tLst, tTup, Int.reduceToNat, decide_true, decide_false, Bool.not_true, Bool.not_false, Bool.false_eq_true, if_true, if_false, reduceIte, gSub, tAnd, tOr, tNot, tBM, tBM0, tNext, tSeq, tAsg, tOp, rI, rI0, tVar, tC, gName, tRet, tCB, tCons, tNil, tTest, tIfS, tDrop, L2.start, List.map_cons, List.map_nil, List.length_cons, List.length_nil, List.cons_append, List.nil_append, List.replicate, List.getElem?_cons_zero, List.getElem?_cons_succ, List.set_cons_zero, List.set_cons_succ, Option.some.injEq, V.int.injEq, V.str.injEq, V.bl.injEq, V.ref.injEq, exists_eq_left', exists_eq_left, exists_and_left, exists_eq', and_assoc, List.cons.injEq, and_true, true_and, decide_eq_true_eq, Nat.reduceAdd, Nat.reduceSub]) | skip)
local macro_rules | `(tactic| walk_at "isi") => `(tactic| first | (simp only [isi_none_int, isi_none_bool, isi_none_str, isi_none_list, isi_none_tuple, isi_bool_int, isi_bool_bool, isi_bool_str, isi_bool_list, isi_bool_tuple, isi_int_int, isi_int_bool, isi_int_str, isi_int_list, isi_int_tuple, isi_str_int, isi_str_bool, isi_str_str, isi_str_list, isi_str_tuple, isi_list_int, isi_list_bool, isi_list_str, isi_list_list, isi_list_tuple, isi_tuple_int, isi_tuple_bool, isi_tuple_str, isi_tuple_list, isi_tuple_tuple, isInt_none, isInt_bool, isInt_int, isInt_str, isInt_list, isInt_tuple]) | skip)
def R_shared (ds : List PyData) (r : PyData) : Prop := ∃ a b : Int, ds = [.int a, .int b] ∧ 0 < b ∧ r = .int (Int.gcd a b)
def R_lratio (ds : List PyData) (r : PyData) : Prop := ∃ t b : Int, ds = [.int t, .int b] ∧ 0 < b ∧ b.natAbs < 2 ^ 8000 ∧ r = ratD (qOf t b)
def R_before (ds : List PyData) (r : PyData) : Prop := ∃ p q : Int × Int, ds = [ratD p, ratD q] ∧ big p.1 ∧ big p.2 ∧ big q.1 ∧ big q.2 ∧ r = .bool (decide (p.1 * q.2 < q.1 * p.2))
/-- a law's number: in lowest terms, of at most 13 digits -/
def lawNum (q : Int × Int) : Prop := isRatD (ratD q) = true ∧ q.1.natAbs ≤ 10 ^ 12 ∧ q.2.natAbs ≤ 10 ^ 12
def R_written (ds : List PyData) (r : PyData) : Prop := ∃ q : Int × Int, ds = [ratD q] ∧ lawNum q ∧ r = tD (ratL q)
theorem int_txt (i : Int) : Str.ofString (toString i) = tx ((if i < 0 then [45] else []) ++ numL i.natAbs) := by
  cases i with
  | ofNat n =>
    rw [if_neg (by simp), List.nil_append]
    exact num_tx n
  | negSucc n =>
    rw [if_pos (Int.negSucc_lt_zero n)]
    have e : toString (Int.negSucc n) = "-" ++ toString (((n + 1 : Nat) : Nat) : Int) := rfl
    rw [e]
    refine TL.ext_tl ?_
    rw [TL.tl_ofString, String.toList_append, List.map_append, ← TL.tl_ofString, ← TL.tl_ofString, TL.tl_num]
    rfl
theorem mul_0 (l : List Nat) : Txt.mul (tx l) 0 = tx [] := by unfold Txt.mul; rw [if_pos (by decide)]; rfl
theorem mul_1 (l : List Nat) : Txt.mul (tx l) 1 = tx l := by
  unfold Txt.mul
  rw [if_neg (by decide)]
  split
  · rfl
  · rename_i h
    exact absurd (by rfl) h
theorem gcd_mod2 (x y : Int) : Int.gcd y (x % y) = Int.gcd x y := by
  have e : x % y = x - y * (x / y) := by have := Int.emod_add_mul_ediv x y; omega
  rw [e, Int.gcd_sub_mul_left_right, Int.gcd_comm]
section
variable {P : Program} {w : World} {K : PySem.W.Frag} {mg : Str → Option Value} {base : Heap} {aW aB : Addr}
theorem sc_shared : FnScope ["_law_one", "_law_other"] ["_law_one", "_law_other"] (defScope s_shared) := ⟨rfl, rfl, rfl, by decide +kernel, rfl, by decide +kernel, by decide +kernel⟩
theorem ok_shared (T : Txt K mg aW aB) (F : Dfn K mg "_law_shared" s_shared) : Rdy P w K mg base CX0 1 "_law_shared" ["_law_one", "_law_other"] (spD K R_shared) := by
  refine F.rdy sc_shared (fun _ _ _ _ _ _ us hl => match us, hl with | [_, _], _ => rfl) (spD_len (by rintro _ _ ⟨d, e, rfl, _⟩; rfl)) (fun f cdv A outer s H vs Q E hr h => ?_)
  obtain ⟨S, ds, r, hF, hd, ⟨a, b, rfl, hb, rfl⟩, kp⟩ := h
  obtain ⟨x, y, rfl, hx, hy⟩ := dps_2 hd
  cases dp_int hx
  cases dp_int hy
  refine ⟨_, (pss_cons (ps_while PassesOwn.never (pt_mono (pt_cmpR op_ne (pv 1) pe_int (nomark _))) (pss_one (ps_par (i := 0) (j := 1) (by rfl) sc_shared.nd rfl rfl (by decide) rfl rfl (pa_cons (pv 1) (pa_cons (pe_op op_mod (pv 0) (pv 1)) pa_nil)) (by rfl))))
      (pss_one (ps_ret (pe_callB call_abs (by rfl) T.b_abs (by decide +kernel) (pa_cons (pv 0) pa_nil))))), ?_⟩
  walk_at "sx"
  obtain ⟨W, hW⟩ : ∃ W : Nat → L2.St → Hp → Prop, ∀ m σ H2, W m σ H2 ↔ (∃ x y : Int, σ = [some (.int x), some (.int y)] ∧ H2 = H ∧ 0 ≤ y ∧ Int.gcd x y = Int.gcd a b ∧ m = y.toNat) := ⟨_, fun _ _ _ => Iff.rfl⟩
  refine rd_while W b.toNat ((hW _ _ _).2 ⟨a, b, rfl, rfl, by omega, rfl, rfl⟩) (fun m σ H2 hw => ?_)
  obtain ⟨x, y, rfl, rfl, h2, h3, rfl⟩ := (hW _ _ _).1 hw
  walk_at "sx"
  split
  · have hy : 0 < y := by omega
    have h4 := Int.emod_lt_of_pos x hy
    refine ⟨hy, (x % y).toNat, by omega, (hW _ _ _).2 ⟨y, x % y, rfl, rfl, Int.emod_nonneg _ (by omega), ?_, rfl⟩⟩
    rw [← h3]; exact gcd_mod2 x y
  · have hy : y = 0 := by omega
    subst hy
    rw [Int.gcd_zero_right] at h3
    have : (if x < 0 then -x else x) = ((Int.gcd a b : Nat) : Int) := by rw [← h3]; split <;> omega
    rw [this]
    exact kp _ _ (Same.refl _) (.int _)
theorem sc_lratio : FnScope ["_law_top", "_law_bottom", "_law_by"] ["_law_top", "_law_bottom"] (defScope s_lratio) := ⟨rfl, rfl, rfl, by decide +kernel, rfl, by decide +kernel, by decide +kernel⟩
theorem ok_lratio (T : Txt K mg aW aB) (F : Dfn K mg "_law_ratio" s_lratio) (R_shared : Rdy P w K mg base CX0 1 "_law_shared" ["_law_one", "_law_other"] (spD K R_shared)) : Rdy P w K mg base CX0 2 "_law_ratio" ["_law_top", "_law_bottom"] (spD K R_lratio) := by
  refine F.rdy sc_lratio (fun _ _ _ _ _ _ us hl => match us, hl with | [_, _], _ => rfl) (spD_len (by rintro _ _ ⟨d, e, rfl, _⟩; rfl)) (fun f cdv A outer s H vs Q E hr h => ?_)
  obtain ⟨S, ds, r, hF, hd, ⟨t, b, rfl, hb, hbig, rfl⟩, kp⟩ := h
  obtain ⟨x, y, rfl, hx, hy⟩ := dps_2 hd
  cases dp_int hx
  cases dp_int hy
  refine ⟨_, (C8.pss_cut (ps_if (pt_cmpR op_lt (pv 1) pe_int (nomark _)) (pss_one (ps_par (i := 0) (j := 1) (by rfl) sc_lratio.nd rfl rfl (by decide) rfl rfl (pa_cons (pe_op op_sub pe_int (pv 0)) (pa_cons (pe_op op_sub pe_int (pv 1)) pa_nil)) (by rfl))) pss_nil)
      (pss_cons (ps_set (i := 2) sc_lratio.nd rfl (Or.inl rfl) (pe_cl R_shared (hr.mono (by decide)) pass0 (pa_cons (pv 0) (pa_cons (pv 1) pa_nil))))
      (pss_one (ps_ret (pe_tup (pa_cons (pe_op op_fdivW (pv 0) (pv 2)) (pa_cons (pe_op op_fdivW (pv 1) (pv 2)) pa_nil))))))), ?_⟩
  walk_at "sx"
  obtain ⟨Mid, hM⟩ : ∃ M : L2.St → Hp → Prop, ∀ σ H2, M σ H2 ↔ (σ = [some (.int t), some (.int b), none] ∧ H2 = H) := ⟨_, fun _ _ => Iff.rfl⟩
  refine ⟨Mid, ?_, fun σ H2 hm => ?_⟩
  · walk_at "sx"
    rw [if_neg (by omega)]
    exact (hM _ _).2 ⟨rfl, rfl⟩
  · obtain ⟨rfl, rfl⟩ := (hM _ _).1 hm
    walk_at "sx"
    refine rd_D hF (.cons (.int _) (.cons (.int _) .nil)) ⟨_, _, rfl, hb, rfl⟩ fun v3 H3 S3 hv3 => ?_
    cases dp_int hv3
    walk_at "sx"
    have g1 : 0 < Int.gcd t b := Int.gcd_pos_of_ne_zero_right _ (by omega)
    have g2 : Int.gcd t b ≤ b.natAbs := Nat.le_of_dvd (by omega) (Int.gcd_dvd_natAbs_right t b)
    have g3 : CDivW t (Int.gcd t b : Nat) := wide_div (by omega) (b := 8000) (by omega) (by decide) (by decide)
    refine ⟨g3, g3, size_le (by decide), ?_⟩
    intro p hp; generalize e5 : upd _ p _ = H4
    obtain ⟨S4, F4, d4⟩ := new_tup (K := K) (hF.same S3) hp e5 (.cons (.int _) (.cons (.int _) .nil))
    rw [show qOf t b = (t / (Int.gcd t b : Nat), b / (Int.gcd t b : Nat)) by unfold qOf; rw [if_neg (by omega)]] at kp
    exact kp _ _ (S3.trans S4) d4
theorem sc_before : FnScope ["_law_one", "_law_other"] ["_law_one", "_law_other"] (defScope s_before) := ⟨rfl, rfl, rfl, by decide +kernel, rfl, by decide +kernel, by decide +kernel⟩
theorem ok_before (T : Txt K mg aW aB) (F : Dfn K mg "_law_before" s_before) : Rdy P w K mg base CX0 1 "_law_before" ["_law_one", "_law_other"] (spD K R_before) := by
  refine F.rdy sc_before (fun _ _ _ _ _ _ us hl => match us, hl with | [_, _], _ => rfl) (spD_len (by rintro _ _ ⟨d, e, rfl, _⟩; rfl)) (fun f cdv A outer s H vs Q E hr h => ?_)
  obtain ⟨S, ds, r, hF, hd, ⟨⟨t1, b1⟩, ⟨t2, b2⟩, rfl, g1, g2, g3, g4, rfl⟩, kp⟩ := h
  obtain ⟨x, y, rfl, hx, hy⟩ := dps_2 hd
  obtain ⟨a, xs, rfl, ha, hxs⟩ := dp_tup hx
  obtain ⟨c, ys, rfl, hc, hys⟩ := dp_tup hy
  obtain ⟨x1, x2, rfl, k1, k2⟩ := dps_2 hxs
  obtain ⟨y1, y2, rfl, k3, k4⟩ := dps_2 hys
  cases dp_int k1; cases dp_int k2; cases dp_int k3; cases dp_int k4
  refine ⟨_, (pss_one (ps_ret (pe_cmpR op_lt (pe_op op_mulW (pe_ix ix_tup (pv 0) pe_int (fun _ _ => rfl)) (pe_ix ix_tup (pv 1) pe_int (fun _ _ => rfl))) (pe_op op_mulW (pe_ix ix_tup (pv 1) pe_int (fun _ _ => rfl)) (pe_ix ix_tup (pv 0) pe_int (fun _ _ => rfl))) (nomark _)))), ?_⟩
  walk_at "sx"
  refine rd_ixT (seqT_up ha) rfl (rd_ixT (seqT_up hc) rfl ⟨_, rfl, _, rfl, wide_mul (a := 4000) (b := 4000) g1 g4 (by decide) (by decide) (by decide), rd_ixT (seqT_up hc) rfl (rd_ixT (seqT_up ha) rfl ⟨_, rfl, _, rfl, wide_mul (a := 4000) (b := 4000) g3 g2 (by decide) (by decide) (by decide), ?_⟩)⟩)
  exact kp _ _ (Same.refl _) (.bl _)
theorem sc_written : FnScope ["_law_number_here"] ["_law_number_here"] (defScope s_written) := ⟨rfl, rfl, rfl, by decide +kernel, rfl, by decide +kernel, by decide +kernel⟩
theorem ok_written (T : Txt K mg aW aB) (F : Dfn K mg "_law_written" s_written) : Rdy P w K mg base CX0 1 "_law_written" ["_law_number_here"] (spD K R_written) := by
  refine F.rdy sc_written (fun _ _ _ _ _ _ us hl => match us, hl with | [_], _ => rfl) (spD_len (by rintro _ _ ⟨d, rfl, _⟩; rfl)) (fun f cdv A outer s H vs Q E hr h => ?_)
  obtain ⟨S, ds, r, hF, hd, ⟨q, rfl, hq, rfl⟩, kp⟩ := h
  obtain ⟨x, rfl, hx⟩ := dps_1 hd
  obtain ⟨a, xs, rfl, ha, hxs⟩ := dp_tup hx
  obtain ⟨x1, x2, rfl, k1, k2⟩ := dps_2 hxs
  cases dp_int k1; cases dp_int k2
  refine ⟨_, (pss_one (ps_ret (pe_op op_add_str (pe_callTy call_str_int (by rfl) T.b_str (by decide +kernel) (pa_cons (pe_ix ix_tup (pv 0) pe_int (fun _ _ => rfl)) pa_nil)) (pe_op op_mul_si (pe_op op_add_str pe_str (pe_callTy call_str_int (by rfl) T.b_str (by decide +kernel) (pa_cons (pe_ix ix_tup (pv 0) pe_int (fun _ _ => rfl)) pa_nil))) (pe_callTy call_int1 (by rfl) T.b_int (by decide +kernel) (pa_cons (pe_cmpR op_gt (pe_ix ix_tup (pv 0) pe_int (fun _ _ => rfl)) pe_int (nomark _)) pa_nil)))))), ?_⟩
  walk_at "sx"
  obtain ⟨h1, h2, h3⟩ := hq
  simp only [isRatD, Bool.and_eq_true, decide_eq_true_eq] at h1
  have hp : (10 : Nat) ^ 12 < 10 ^ 60 := by decide
  have l1 : (numL q.1.natAbs).length ≤ 13 := TL.numL_len (by decide) (Nat.lt_of_le_of_lt h2 (by decide))
  have l2 : (numL q.2.natAbs).length ≤ 13 := TL.numL_len (by decide) (Nat.lt_of_le_of_lt h3 (by decide))
  have g1 : ∀ i : Int, i.natAbs ≤ 10 ^ 12 → i.natAbs.log2 < 1920 := fun i hi => PySem.Flt.log2_lt_of (by decide) (Nat.lt_of_le_of_lt hi (by decide +kernel))
  have h2' := g1 _ h2
  have h3' := g1 _ h3
  refine rd_ixT (seqT_up ha) rfl ⟨_, rfl, h2', rd_ixT (seqT_up ha) rfl ⟨_, rfl, h3', ?_⟩⟩
  rw [int_txt, int_txt, if_neg (show ¬ q.2 < 0 by omega), List.nil_append, lit_sl, tx_cat, tx_len, tx_len, tx_len]
  refine ⟨size_le (by simp; omega), rd_ixT (seqT_up ha) rfl ⟨_, rfl, .inr ⟨_, _, rfl, rfl, by rw [tx_len]; simp; omega, by split <;> decide, by split <;> decide, _, rfl, ?_⟩⟩⟩
  have er : ratL q = (if q.1 < 0 then [45] else []) ++ numL q.1.natAbs ++ (if q.2 = 1 then [] else [47] ++ numL q.2.natAbs) := by
    unfold ratL
    rw [show q.2.toNat = q.2.natAbs by omega]
    rfl
  have l0 : (if q.1 < 0 then [45] else [] : List Nat).length ≤ 1 := by split <;> simp
  by_cases hq1 : q.2 = 1
  · rw [if_neg (show ¬ (1 : Int) < q.2 by omega), mul_0]
    rw [if_pos hq1] at er
    rw [er] at kp
    refine ⟨by rw [tx_len]; exact size_le (by simp; omega), ?_⟩
    rw [tx_cat]
    exact kp _ _ (Same.refl _) (.str _)
  · rw [if_pos (show (1 : Int) < q.2 by omega), mul_1]
    rw [if_neg hq1] at er
    rw [er] at kp
    refine ⟨by rw [tx_len]; exact size_le (by simp; omega), ?_⟩
    rw [tx_cat]
    exact kp _ _ (Same.refl _) (.str _)
end
end My
namespace My
open PySem PySem.Spec PyProof.Rows L2
local macro_rules | `(tactic| walk_at "sx") => `(tactic| first | (simp only [cx_K, tB, iRng1, iRng2, iRng3, iList, iTup, wAs, tXf, tDictZip, tDGet1, rInD, rInT, tChain, tUn, rU, tCallS, WE, wOnly, tSl, tPart, tNoPart, tRevL, tStepL, tM0, tM1, wipe, tYes, Bool.not_eq_true', gCons, gNil, decide_eq_false_iff_not, tCall, tPar, tAndV, tOrV, tNotV, tIf, List.append_nil, rEq, rNe, scal_ii, scal_ss, scal_bb, scal_nn, scal_in, scal_ni, scal_sn, scal_ns, scal_is, scal_si, Bool.and_true, Bool.true_and, Bool.and_false, Bool.false_and, reduceCtorEq, tLst, tTup, Int.reduceToNat, decide_true, decide_false, Bool.not_true, Bool.not_false, Bool.false_eq_true, if_true, if_false, reduceIte, gSub, tAnd, tOr, tNot, tBM, tBM0, tNext, tSeq, tAsg, tOp, rI, rI0, tVar, tC, gName, tRet, tCB, tCons, tNil, tTest, tIfS, tDrop, L2.start, List.map_cons, List.map_nil, List.length_cons, List.length_nil, List.cons_append, List.nil_append, List.replicate, List.getElem?_cons_zero, List.getElem?_cons_succ, List.set_cons_zero, List.set_cons_succ, Option.some.injEq, V.int.injEq, V.str.injEq, V.bl.injEq, V.ref.injEq, exists_eq_left', exists_eq_left, exists_and_left, exists_eq', and_assoc, List.cons.injEq, and_true, true_and, decide_eq_true_eq, Nat.reduceAdd, Nat.reduceSub]) | skip)
local macro_rules | `(tactic| walk_at "isi") => `(tactic| first | (simp only [isi_none_int, isi_none_bool, isi_none_str, isi_none_list, isi_none_tuple, isi_bool_int, isi_bool_bool, isi_bool_str, isi_bool_list, isi_bool_tuple, isi_int_int, isi_int_bool, isi_int_str, isi_int_list, isi_int_tuple, isi_str_int, isi_str_bool, isi_str_str, isi_str_list, isi_str_tuple, isi_list_int, isi_list_bool, isi_list_str, isi_list_list, isi_list_tuple, isi_tuple_int, isi_tuple_bool, isi_tuple_str, isi_tuple_list, isi_tuple_tuple, isInt_none, isInt_bool, isInt_int, isInt_str, isInt_list, isInt_tuple]) | skip)
/-! ### promises of defs that take from the box -/
theorem Bx.fr {H : Hp} {a g s : Addr} {n : Nat} (h : Bx H a g s n) : Fr [a, g, s] H := by
  obtain ⟨⟨gr, sm, cur, cnt, ha, hg, hs, _⟩, _⟩ := h
  intro b hb
  simp only [List.mem_cons, List.not_mem_nil, or_false] at hb
  rcases hb with rfl | rfl | rfl
  · exact ⟨_, ha⟩
  · exact ⟨_, hg⟩
  · exact ⟨_, hs⟩
theorem Bx.same {H H' : Hp} {a g s : Addr} {n : Nat} (h : Bx H a g s n) (e : Same H H') : Bx H' a g s n := by
  obtain ⟨⟨gr, sm, cur, cnt, ha, hg, hs, hr⟩, h1, h2, h3⟩ := h
  exact ⟨⟨gr, sm, cur, cnt, e _ _ ha, e _ _ hg, e _ _ hs, hr⟩, h1, h2, h3⟩
theorem Bx.sameB {T : List Addr} {H H' : Hp} {a g s : Addr} {n : Nat} (h : Bx H a g s n) (e : SameB T H H') (na : a ∉ T) (ng : g ∉ T) (ns : s ∉ T) : Bx H' a g s n := by
  obtain ⟨⟨gr, sm, cur, cnt, ha, hg, hs, hr⟩, h1, h2, h3⟩ := h
  exact ⟨⟨gr, sm, cur, cnt, e.at ha na, e.at hg ng, e.at hs ns, hr⟩, h1, h2, h3⟩
theorem Bx.mono {H : Hp} {a g s : Addr} {m n : Nat} (h : Bx H a g s m) (hl : m ≤ n) : Bx H a g s n := by
  obtain ⟨⟨gr, sm, cur, cnt, ha, hg, hs, h1, h2, h3, h4, h5⟩, h6, h7, h8⟩ := h
  exact ⟨⟨gr, sm, cur, cnt, ha, hg, hs, h1, h2, h3, by omega, h5⟩, h6, h7, h8⟩
theorem two_in {a g s : Addr} : ∀ x ∈ [a, g], x ∈ [a, g, s] := fun x hx => by simp at hx ⊢; rcases hx with h | h <;> simp [h]
theorem SameB.d3 {H H' : Hp} {a g s : Addr} (h : SameB [a, g] H H') : Same (dl [a, g, s] H) (dl [a, g, s] H') := h.mono two_in
theorem new_not {H : Hp} {a g s : Addr} {n : Nat} {D : Addr} (h : Bx H a g s n) (hD : H D = none) : a ∉ [D] ∧ g ∉ [D] ∧ s ∉ [D] := by
  obtain ⟨⟨gr, sm, cur, cnt, ha, hg, hs, _⟩, _⟩ := h
  refine ⟨?_, ?_, ?_⟩
  · have := ne_of_none ha hD; simpa using this
  · have := ne_of_none hg hD; simpa using this
  · have := ne_of_none hs hD; simpa using this
theorem Bx.np {H : Hp} {a g s : Addr} {n : Nat} {D : Addr} (h : Bx H a g s n) (hD : H D = none) : D ∉ [a, g] := by
  obtain ⟨h1, h2, h3⟩ := new_not h hD
  intro z
  simp only [List.mem_cons, List.not_mem_nil, or_false] at h1 h2 z
  rcases z with z | z
  · exact h1 z.symm
  · exact h2 z.symm
/-- at most c takes; pre of the data given, R of what is returned -/
def spB (K : PySem.W.Frag) (c : Nat) (pre : List PyData → Prop) (R : List PyData → PyData → Prop) : Sp := fun vs H Q _ => ∃ (a g s : Addr) (n : Nat) (ws : List V) (ds : List PyData), vs = .ref a :: ws ∧ Bx H a g s n ∧ n + c ≤ 100000000 ∧ DpAll K (dl [a, g, s] H) ws ds ∧ pre ds ∧
  ∀ r v H', R ds r → SameB [a, g] H H' → Bx H' a g s (n + c) → Dp K (dl [a, g, s] H') v r → Q v H'
theorem spB_len {K : PySem.W.Frag} {c k : Nat} {pre : List PyData → Prop} {R : List PyData → PyData → Prop} (h : ∀ ds, pre ds → ds.length = k) : ∀ vs H Q E, spB K c pre R vs H Q E → vs.length = k + 1 := by
  rintro vs H Q E ⟨a, g, s, n, ws, ds, rfl, _, _, hd, hp, _⟩
  rw [List.length_cons, dps_len hd, h ds hp]
section
variable {K : PySem.W.Frag} {H : Hp} {Q : VK} {E : XK} {a g s : Addr} {n : Nat}
theorem rd_B {c : Nat} {pre : List PyData → Prop} {R : List PyData → PyData → Prop} {ws : List V} {ds : List PyData} (hB : Bx H a g s n) (hn : n + c ≤ 100000000) (hd : DpAll K (dl [a, g, s] H) ws ds) (hp : pre ds)
    (q : ∀ r v H', R ds r → SameB [a, g] H H' → Bx H' a g s (n + c) → Dp K (dl [a, g, s] H') v r → Q v H') : spB K c pre R (.ref a :: ws) H Q E := ⟨a, g, s, n, ws, ds, rfl, hB, hn, hd, hp, q⟩
theorem rd_take {size : Int} (hB : Bx H a g s n) (hn : n ≤ 100000000) (h1 : 1 ≤ size) (h2 : size ≤ 1000000000000000000) (q : ∀ (r : Int) (H' : Hp), 0 ≤ r → r < size → Bx H' a g s (n + 1) → SameB [a, g] H H' → Q (.int r) H') : spTake [.ref a, .int size] H Q E :=
  ⟨a, g, s, n, size, rfl, hB, h1, h2, hn, q⟩
end
theorem rd_take' {K : PySem.W.Frag} {H : Hp} {Q : VK} {E : XK} {a g s : Addr} {n : Nat} {size : Int} (hB : Bx H a g s n) (hn : n ≤ 100000000) (h1 : 1 ≤ size) (h2 : size ≤ 1000000000000000000) (q : ∀ (r : Int) (H' : Hp), 0 ≤ r → r < size → Bx H' a g s (n + 1) → SameB [a, g] H H' → Q (.int r) H') : spTake ([.ref a, .int size] ++ []) H Q E :=
  ⟨a, g, s, n, size, rfl, hB, h1, h2, hn, q⟩
def R_number (_ : List PyData) (r : PyData) : Prop := ∃ q : Int × Int, r = ratD q ∧ lawNum q
def preGiven (ds : List PyData) : Prop := ∃ q : Int × Int, ds = [ratD q]
def R_given (ds : List PyData) (r : PyData) : Prop := ∃ q : Int × Int, ds = [ratD q] ∧ (r = ratD q ∨ (q.2 = 1 ∧ r = .int q.1))
/-- a limit of the law's -/
def lawEnd (d : PyData) : Prop := d = .none ∨ ∃ q : Int × Int, d = ratD q ∧ lawNum q
def R_end_text (ds : List PyData) (r : PyData) : Prop := ∃ (l : List Nat) (lo hi : PyData), ds = [.tuple [tD l, lo, hi]] ∧ l.length ≤ 1000 ∧ lawEnd lo ∧ lawEnd hi ∧ r = tD (limL (.tuple [tD l, lo, hi]))
section
variable {P : Program} {w : World} {K : PySem.W.Frag} {mg : Str → Option Value} {base : Heap} {aW aB : Addr}
theorem sc_number : FnScope ["_law_box_here", "_law_way", "_law_top"] ["_law_box_here"] (defScope s_number) := ⟨rfl, rfl, rfl, by decide +kernel, rfl, by decide +kernel, by decide +kernel⟩
theorem ok_number (T : Txt K mg aW aB) (F : Dfn K mg "_law_number" s_number) (R_take : Rdy P w K mg base CX0 2 "_law_take" ["_law_box_here", "_law_size"] spTake) (R_lratio : Rdy P w K mg base CX0 2 "_law_ratio" ["_law_top", "_law_bottom"] (spD K R_lratio)) :
    Rdy P w K mg base CX0 3 "_law_number" ["_law_box_here"] (spB K 5 (· = []) R_number) := by
  refine F.rdy sc_number (fun _ _ _ _ _ _ us hl => match us, hl with | [_], _ => rfl) (spB_len (by rintro _ rfl; rfl)) (fun f cdv A outer s H vs Q E hr h => ?_)
  obtain ⟨a, g, s', n, ws, ds, rfl, hB, hn, hd, rfl, kp⟩ := h
  cases dps_nil hd
  refine ⟨_, (pss_cons (ps_set (i := 1) sc_number.nd rfl (Or.inl rfl) (pe_cl R_take (hr.mono (by decide)) pass0 (pa_cons (pv 0) (pa_cons pe_int pa_nil))))
      (pss_cons (ps_if (pt_cmpR op_lt (pv 1) pe_int (nomark _)) (pss_one (ps_ret (pe_tup (pa_cons (pe_op op_sub (pe_cl R_take (hr.mono (by decide)) pass0 (pa_cons (pv 0) (pa_cons pe_int pa_nil))) pe_int) (pa_cons pe_int pa_nil))))) pss_nil)
      (pss_cons (ps_if (pt_cmpR op_lt (pv 1) pe_int (nomark _)) (pss_one (ps_ret (pe_cl R_lratio (hr.mono (by decide)) pass0 (pa_cons (pe_op op_sub (pe_cl R_take (hr.mono (by decide)) pass0 (pa_cons (pv 0) (pa_cons pe_int pa_nil))) pe_int) (pa_cons (pe_op op_add pe_int (pe_cl R_take (hr.mono (by decide)) pass0 (pa_cons (pv 0) (pa_cons pe_int pa_nil)))) pa_nil))))) pss_nil)
      (pss_cons (ps_set (i := 2) sc_number.nd rfl (Or.inl rfl) (pe_op op_mulW (pe_cl R_take (hr.mono (by decide)) pass0 (pa_cons (pv 0) (pa_cons (pe_op op_pow pe_int pe_int) pa_nil))) (pe_ix ix_list (pe_lst (pa_cons pe_int (pa_cons (pe_un un_neg pe_int) pa_nil))) (pe_cl R_take (hr.mono (by decide)) pass0 (pa_cons (pv 0) (pa_cons pe_int pa_nil))) (fun _ _ => rfl))))
      (pss_one (ps_ret (pe_cl R_lratio (hr.mono (by decide)) pass0 (pa_cons (pv 2) (pa_cons (pe_ix ix_list (pe_lst (pa_cons pe_int (pa_cons (pe_op op_add pe_int (pe_cl R_take (hr.mono (by decide)) pass0 (pa_cons (pv 0) (pa_cons (pe_op op_sub (pe_op op_pow pe_int pe_int) pe_int) pa_nil)))) pa_nil))) (pe_cl R_take (hr.mono (by decide)) pass0 (pa_cons (pv 0) (pa_cons pe_int pa_nil))) (fun _ _ => rfl)) pa_nil))))))))), ?_⟩
  walk_at "sx"
  have hrat : ∀ (t b : Int) (H2 : Hp), t.natAbs ≤ 10 ^ 12 → 0 < b → b.natAbs ≤ 10 ^ 12 → SameB [a, g] H H2 → Bx H2 a g s' (n + 5) → spD K My.R_lratio [V.int t, V.int b] H2 Q E0 := by
    intro t b H2 h1 h2 h3 S2 B2
    obtain ⟨g1, g2, g3⟩ := qOf_rat (t := t) (b := b) (by omega)
    refine rd_D B2.fr (.cons (.int _) (.cons (.int _) .nil)) ⟨_, _, rfl, h2, Nat.lt_of_le_of_lt h3 (by decide +kernel), rfl⟩ fun v H3 S3 hv => ?_
    exact kp _ _ _ ⟨_, rfl, g1, Nat.le_trans g2 h1, Nat.le_trans g3 h3⟩ (S2.trans (.of S3)) (B2.same S3) hv
  refine rd_take hB (by omega) (by decide) (by decide) fun way H1 w0 w1 B1 S1 => ⟨_, rfl, ?_⟩
  split
  · refine rd_take B1 (by omega) (by decide) (by decide) fun i H2 i0 i1 B2 S2 => ⟨_, rfl, size_le (by decide), ?_⟩
    intro p hp; generalize e3 : upd _ p _ = H3
    obtain ⟨S3, F3, d3⟩ := new_tup (K := K) B2.fr hp e3 (.cons (.int (i - 10)) (.cons (.int 1) .nil))
    exact kp _ _ _ ⟨(i - 10, 1), rfl, by simp [isRatD], by show (i - 10).natAbs ≤ _; omega, show (1 : Int).natAbs ≤ 10 ^ 12 by decide⟩ ((S1.trans S2).trans (.of S3)) ((B2.same S3).mono (by omega)) d3
  · refine ⟨_, rfl, ?_⟩
    split
    · refine rd_take B1 (by omega) (by decide) (by decide) fun i H2 i0 i1 B2 S2 => ⟨_, rfl, ?_⟩
      refine rd_take B2 (by omega) (by decide) (by decide) fun j H3 j0 j1 B3 S3 => ⟨_, rfl, ?_⟩
      exact hrat _ _ _ (by omega) (by omega) (by omega) ((S1.trans S2).trans S3) (B3.mono (by omega))
    · have hcp : CPow 10 12 := ⟨by decide, by decide, by decide⟩
      refine ⟨hcp, rd_take B1 (by omega) (by decide) (by decide) fun i H2 i0 i1 B2 S2 => ⟨size_le (by decide), ?_⟩⟩
      intro p hp; generalize e3 : upd _ p _ = H3
      obtain ⟨S3, hp3⟩ := new_of hp e3
      refine rd_take (B2.same S3) (by omega) (by decide) (by decide) fun j H4 j0 j1 B4 S4 => ?_
      have np := (new_not B2 hp)
      have hp4 := S4.at hp3 (by intro z; simp at z np; rcases z with z | z; exact np.1 z.symm; exact np.2.1 z.symm)
      obtain ⟨x, _, hx⟩ := atI_map (xs := [(1 : Int), -1]) (g := V.int) j0 (by simpa using j1)
      have hx1 : x = 1 ∨ x = -1 := by
        have : j = 0 ∨ j = 1 := by omega
        rcases this with rfl | rfl
        · cases hx; exact .inl rfl
        · cases hx; exact .inr rfl
      refine rd_ixL hp4 hx ⟨_, rfl, _, rfl, ?_, hcp, ?_⟩
      · refine wide_mul (a := 64) (b := 64) ?_ ?_ (by decide) (by decide) (by decide)
        · exact Nat.lt_of_le_of_lt (show i.natAbs ≤ 10 ^ 12 by omega) (by decide)
        · exact Nat.lt_of_le_of_lt (show x.natAbs ≤ 1 by omega) (by decide)
      · have hix : (i * x).natAbs ≤ 10 ^ 12 := by
          rcases hx1 with rfl | rfl
          · rw [Int.mul_one]; omega
          · rw [Int.mul_neg_one]; omega
        refine rd_take B4 (by omega) (by decide) (by decide) fun k H5 k0 k1 B5 S5 => ⟨_, rfl, size_le (by decide), ?_⟩
        intro p2 hp2; generalize e6 : upd _ p2 _ = H6
        obtain ⟨S6, hp6⟩ := new_of hp2 e6
        refine rd_take (B5.same S6) (by omega) (by decide) (by decide) fun m H7 m0 m1 B7 S7 => ?_
        have np2 := (new_not B5 hp2)
        have hp7 := S7.at hp6 (by intro z; simp at z np2; rcases z with z | z; exact np2.1 z.symm; exact np2.2.1 z.symm)
        obtain ⟨y, _, hy⟩ := atI_map (xs := [(1 : Int), 1 + k]) (g := V.int) m0 (by simpa using m1)
        have hy1 : y = 1 ∨ y = 1 + k := by
          have : m = 0 ∨ m = 1 := by omega
          rcases this with rfl | rfl
          · cases hy; exact .inl rfl
          · cases hy; exact .inr rfl
        refine rd_ixL hp7 hy ?_
        exact hrat _ _ _ hix (by omega) (by omega) (((((S1.trans S2).trans (.of S3)).trans S4).trans S5).trans ((SameB.of S6).trans S7)) (B7.mono (by omega))
theorem sc_given : FnScope ["_law_box_here", "_law_number_here"] ["_law_box_here", "_law_number_here"] (defScope s_given) := ⟨rfl, rfl, rfl, by decide +kernel, rfl, by decide +kernel, by decide +kernel⟩
theorem ok_given (T : Txt K mg aW aB) (F : Dfn K mg "_law_given" s_given) (R_take : Rdy P w K mg base CX0 2 "_law_take" ["_law_box_here", "_law_size"] spTake) :
    Rdy P w K mg base CX0 3 "_law_given" ["_law_box_here", "_law_number_here"] (spB K 1 preGiven R_given) := by
  refine F.rdy sc_given (fun _ _ _ _ _ _ us hl => match us, hl with | [_, _], _ => rfl) (spB_len (by rintro _ ⟨_, rfl⟩; rfl)) (fun f cdv A outer s H vs Q E hr h => ?_)
  obtain ⟨a, g, s', n, ws, ds, rfl, hB, hn, hd, ⟨q, rfl⟩, kp⟩ := h
  obtain ⟨x, rfl, hx⟩ := dps_1 hd
  obtain ⟨b, xs, rfl, hb, hxs⟩ := dp_tup hx
  obtain ⟨x1, x2, rfl, k1, k2⟩ := dps_2 hxs
  cases dp_int k1; cases dp_int k2
  refine ⟨_, (pss_one (ps_ret (pe_ifExp (PW.pt (pw_and (pt_cmpR op_eq (pe_ix ix_tup (pv 1) pe_int (fun _ _ => rfl)) pe_int (nomark _)) (pw_and1 (pt_cmpR op_eq (pe_cl R_take (hr.mono (by decide)) pass0 (pa_cons (pv 0) (pa_cons pe_int pa_nil))) pe_int (nomark _))))) (pe_ix ix_tup (pv 1) pe_int (fun _ _ => rfl)) (pv 1)))), ?_⟩
  walk_at "sx"
  refine rd_ixT (seqT_up hb) rfl ⟨rfl, ?_⟩
  split
  · rename_i h1
    have hq1 : q.2 = 1 := V.int.inj h1
    refine rd_take hB (by omega) (by decide) (by decide) fun i H2 i0 i1 B2 S2 => ⟨rfl, ?_⟩
    split
    · exact rd_ixT (seqT_up (sameT S2.d3 hb)) rfl (kp _ _ _ ⟨q, rfl, .inr ⟨hq1, rfl⟩⟩ S2 B2 (.int _))
    · exact kp _ _ _ ⟨q, rfl, .inl rfl⟩ S2 B2 (dp_same S2.d3 hx)
  · exact kp _ _ _ ⟨q, rfl, .inl rfl⟩ .refl (hB.mono (by omega)) hx
theorem sc_end_text : FnScope ["_law_limit", "_law_name", "_law_low", "_law_high", "_law_text"] ["_law_limit"] (defScope s_end_text) := ⟨rfl, rfl, rfl, by decide +kernel, rfl, by decide +kernel, by decide +kernel⟩
theorem ok_end_text (T : Txt K mg aW aB) (F : Dfn K mg "_law_end_text" s_end_text) (R_written : Rdy P w K mg base CX0 1 "_law_written" ["_law_number_here"] (spD K R_written)) :
    Rdy P w K mg base CX0 2 "_law_end_text" ["_law_limit"] (spD K R_end_text) := by
  refine F.rdy sc_end_text (fun _ _ _ _ _ _ us hl => match us, hl with | [_], _ => rfl) (spD_len (by rintro _ _ ⟨_, _, _, rfl, _⟩; rfl)) (fun f cdv A outer s H vs Q E hr h => ?_)
  obtain ⟨S, ds, r, hF, hd, ⟨l, lo, hi, rfl, hl, hlo, hhi, rfl⟩, kp⟩ := h
  obtain ⟨x, rfl, hx⟩ := dps_1 hd
  obtain ⟨a, xs, rfl, ha, hxs⟩ := dp_tup hx
  obtain ⟨x1, x2, x3, rfl, k1, k2, k3⟩ := dps_3 hxs
  cases dp_str k1
  refine ⟨_, (pss_cons (ps_asg (pv 0) (pg_tup (n := 3) rfl (pgs_cons (pg_name (i := 1) sc_end_text.nd rfl (Or.inl rfl)) (pgs_cons (pg_name (i := 2) sc_end_text.nd rfl (Or.inl rfl)) (pgs_cons (pg_name (i := 3) sc_end_text.nd rfl (Or.inl rfl)) pgs_nil)))))
      (pss_cons (ps_set (i := 4) sc_end_text.nd rfl (Or.inl rfl) (pv 1))
      (C8.pss_cut (ps_if (pt_cmpR op_notN (pv 2) pe_non (nomark _)) (pss_one (ps_set (i := 4) sc_end_text.nd rfl (Or.inl rfl) (pe_op op_add_str (pe_op op_add_str (pv 4) pe_str) (pe_cl R_written (hr.mono (by decide)) pass0 (pa_cons (pv 2) pa_nil))))) pss_nil)
      (C8.pss_cut (ps_if (pt_cmpR op_notN (pv 3) pe_non (nomark _)) (pss_one (ps_set (i := 4) sc_end_text.nd rfl (Or.inl rfl) (pe_op op_add_str (pe_op op_add_str (pv 4) pe_str) (pe_cl R_written (hr.mono (by decide)) pass0 (pa_cons (pv 3) pa_nil))))) pss_nil)
      (pss_one (ps_ret (pv 4))))))), ?_⟩
  walk_at "sx"
  refine ⟨_, _, rfl, seqT_up ha, rfl, ?_⟩
  walk_at "sx"
  have i2 := dp_isNone k2
  have i3 := dp_isNone k3
  have elen : ∀ (k : List Nat) (d : PyData), k.length ≤ 4 → lawEnd d → (endL k d).length ≤ 2410 := fun k d hk h => endL_len k hk (by
    rcases h with rfl | ⟨q, rfl, h1, h2, h3⟩
    · exact .inl rfl
    · exact .inr ⟨by unfold isNumD; rw [h1, Bool.or_true], Nat.lt_of_le_of_lt h2 (by decide +kernel), Nat.lt_of_le_of_lt h3 (by decide +kernel)⟩)
  have el1 := elen cFrom lo (by decide) hlo
  have el2 := elen cTo hi (by decide) hhi
  have erl : limL (.tuple [tD l, lo, hi]) = l ++ (endL cFrom lo ++ endL cTo hi) := rfl
  rw [erl] at kp
  clear elen
  obtain ⟨M1, hM1⟩ : ∃ M : L2.St → Hp → Prop, ∀ σ H2, M σ H2 ↔ (σ = [some (.ref a), some (.str (tx l)), some x2, some x3, some (.str (tx (l ++ endL cFrom lo)))] ∧ Same H H2) := ⟨_, fun _ _ => Iff.rfl⟩
  refine ⟨M1, ?_, fun σ H2 hm => ?_⟩
  · walk_at "sx"
    split
    · rename_i hz
      obtain ⟨q, rfl, hq⟩ : ∃ q : Int × Int, lo = ratD q ∧ lawNum q := by
        rcases hlo with rfl | h
        · exact absurd (i2.mpr rfl) (by simpa using hz)
        · exact h
      have e2 : endL cFrom (ratD q) = [32, 102, 114, 111, 109, 32] ++ ratL q := rfl
      rw [e2] at el1 hM1
      rw [lit_from, tx_cat, tx_len, tx_len]
      simp only [List.length_append, List.length_cons, List.length_nil] at el1
      refine ⟨size_le (by simp; omega), rd_D hF (dps_one k2) ⟨q, rfl, hq, rfl⟩ fun v3 H3 S3 hv3 => ?_⟩
      cases dp_str hv3
      refine ⟨_, rfl, by rw [tx_len, tx_len]; exact size_le (by simp; omega), ?_⟩
      rw [tx_cat, List.append_assoc]
      exact (hM1 _ _).2 ⟨rfl, S3⟩
    · rename_i hz
      have : isNoneD lo = true := i2.mp (by simpa using hz)
      exact (hM1 _ _).2 ⟨by rw [show endL cFrom lo = [] by unfold endL; rw [if_pos this], List.append_nil], .refl _⟩
  · obtain ⟨rfl, S2⟩ := (hM1 _ _).1 hm
    obtain ⟨M2, hM2⟩ : ∃ M : L2.St → Hp → Prop, ∀ σ H2, M σ H2 ↔ (σ = [some (.ref a), some (.str (tx l)), some x2, some x3, some (.str (tx (l ++ (endL cFrom lo ++ endL cTo hi))))] ∧ Same H H2) := ⟨_, fun _ _ => Iff.rfl⟩
    refine ⟨M2, ?_, fun σ H3 hm => ?_⟩
    · walk_at "sx"
      split
      · rename_i hz
        obtain ⟨q, rfl, hq⟩ : ∃ q : Int × Int, hi = ratD q ∧ lawNum q := by
          rcases hhi with rfl | h
          · exact absurd (i3.mpr rfl) (by simpa using hz)
          · exact h
        have e2 : endL cTo (ratD q) = [32, 116, 111, 32] ++ ratL q := rfl
        rw [e2] at el2 hM2
        rw [lit_to, tx_cat, tx_len, tx_len]
        simp only [List.length_append, List.length_cons, List.length_nil] at el2
        refine ⟨size_le (by simp; omega), rd_D (hF.same S2) (dps_one (dp_same (dl_same S2) k3)) ⟨q, rfl, hq, rfl⟩ fun v3 H3 S3 hv3 => ?_⟩
        cases dp_str hv3
        refine ⟨_, rfl, by rw [tx_len, tx_len]; exact size_le (by simp; omega), ?_⟩
        rw [tx_cat]
        exact (hM2 _ _).2 ⟨by simp, S2.trans S3⟩
      · rename_i hz
        have : isNoneD hi = true := i3.mp (by simpa using hz)
        exact (hM2 _ _).2 ⟨by rw [show endL cTo hi = [] by unfold endL; rw [if_pos this], List.append_nil], S2⟩
    · obtain ⟨rfl, S3⟩ := (hM2 _ _).1 hm
      walk_at "sx"
      exact kp _ _ S3 (.str _)
end
end My
namespace My
open PySem PySem.Spec PyProof.Rows L2
local macro_rules | `(tactic| walk_at "sx") => `(tactic| first | (simp only [cx_K, tB, iRng1, iRng2, iRng3, iList, iTup, wAs, tXf, tDictZip, tDGet1, rInD, rInT, tChain, tUn, rU, tCallS, WE, wOnly, tSl, tPart, tNoPart, tRevL, tStepL, tM0, tM1, wipe, tYes, Bool.not_eq_true', gCons, gNil, decide_eq_false_iff_not, tCall, tPar, tAndV, tOrV, tNotV, tIf, List.append_nil, rEq, rNe, scal_ii, scal_ss, scal_bb, scal_nn, scal_in, scal_ni, scal_sn, scal_ns, scal_is, scal_si, Bool.and_true, Bool.true_and, Bool.and_false, Bool.false_and, reduceCtorEq, tLst, tTup, Int.reduceToNat, decide_true, decide_false, Bool.not_true, Bool.not_false, Bool.false_eq_true, if_true, if_false, reduceIte, gSub, tAnd, tOr, tNot, tBM, tBM0, tNext, tSeq, tAsg, tOp, rI, rI0, tVar, tC, gName, tRet, tCB, tCons, tNil, tTest, tIfS, tDrop, L2.start, List.map_cons, List.map_nil, List.length_cons, List.length_nil, List.cons_append, List.nil_append, List.replicate, List.getElem?_cons_zero, List.getElem?_cons_succ, List.set_cons_zero, List.set_cons_succ, Option.some.injEq, V.int.injEq, V.str.injEq, V.bl.injEq, V.ref.injEq, exists_eq_left', exists_eq_left, exists_and_left, exists_eq', and_assoc, List.cons.injEq, and_true, true_and, decide_eq_true_eq, Nat.reduceAdd, Nat.reduceSub]) | skip)
local macro_rules | `(tactic| walk_at "isi") => `(tactic| first | (simp only [isi_none_int, isi_none_bool, isi_none_str, isi_none_list, isi_none_tuple, isi_bool_int, isi_bool_bool, isi_bool_str, isi_bool_list, isi_bool_tuple, isi_int_int, isi_int_bool, isi_int_str, isi_int_list, isi_int_tuple, isi_str_int, isi_str_bool, isi_str_str, isi_str_list, isi_str_tuple, isi_list_int, isi_list_bool, isi_list_str, isi_list_list, isi_list_tuple, isi_tuple_int, isi_tuple_bool, isi_tuple_str, isi_tuple_list, isi_tuple_tuple, isInt_none, isInt_bool, isInt_int, isInt_str, isInt_list, isInt_tuple]) | skip)
def cd (s : String) : List Nat := s.toList.map Char.toNat
theorem tx_cd (s : String) : Str.ofString s = tx (cd s) := TL.ext_tl (TL.tl_ofString s)
def rdOf (way : List Nat) : List Nat → PyData := if way = cd "table" then readPair else readLimit
def readRes (ds : List PyData) : PyData := match noneAt ds with | none => .tuple [tD (cd "read"), .tuple ds] | some i => .tuple [tD (cd "bad"), .int i]
def isWay (way : List Nat) : Prop := way = cd "table" ∨ way = cd "limits"
def R_reading (ds : List PyData) (r : PyData) : Prop := ∃ way l : List Nat, ds = [tD way, tD l] ∧ isWay way ∧ l.length ≤ 100000 ∧ okT l ∧ (∀ p ∈ partsL [44, 32] l, p.length ≤ 1000) ∧ r = readRes ((partsL [44, 32] l).map (rdOf way))
def badsT : List String := ["a=3", "a =3", "a = ", "a = x", " a = 3", "A = 3", "a = 3 ", "a = 1/0", "a  = 3", "", "sum = 3"] ++ ["a = -", "a = 1.", "a = +1", "a", "abcdefghi = 1", "a = 3 4", "a = 1/-2", "a: 3"]
def badsL : List String := ["a from", "a from x", "a to 3 from 1", "a from 1 from 2", "from 1", "A", "a  from 1", "a from 1 to"] ++ ["", "sum to 1", "a from 1 to 2 3", "a To 1", "a = 1", "a from 1/0", "a from - to 1", " a"]
def badsOf (way : List Nat) : List (List Nat) := (if way = cd "limits" then badsL else badsT).map cd
def preBad (ds : List PyData) : Prop := ∃ way, ds = [tD way] ∧ isWay way
def R_bad (ds : List PyData) (r : PyData) : Prop := ∃ way l, ds = [tD way] ∧ r = tD l ∧ l ∈ badsOf way
section
variable {P : Program} {w : World} {K : PySem.W.Frag} {mg : Str → Option Value} {base : Heap} {aW aB C : Addr} {ps : List Str}
theorem sc_reading : FnScope ["_law_way", "_law_text", "_law_found", "e"] ["_law_way", "_law_text"] (defScope s_reading) := ⟨rfl, rfl, rfl, by decide +kernel, rfl, by decide +kernel, by decide +kernel⟩
theorem ok_reading (T : Txt K mg aW aB) (X2 : ExcT P w K mg base "BadText" "at" s_iBadText ps C) (XF : XfC K C) (F : Dfn K mg "_law_reading" s_reading) (R_read_table : Rdy P w K mg base (L2.CX P w) 8 "read_table" ["text"] (sp_read K C readPair))
    (R_read_limits : Rdy P w K mg base (L2.CX P w) 8 "read_limits" ["text"] (sp_read K C readLimit)) :
    Rdy P w K mg base CX0 9 "_law_reading" ["_law_way", "_law_text"] (spD K R_reading) := by
  refine F.rdy sc_reading (fun _ _ _ _ _ _ us hl => match us, hl with | [_, _], _ => rfl) (spD_len (by rintro _ _ ⟨_, _, rfl, _⟩; rfl)) (fun f cdv A outer s H vs Q E hr h => ?_)
  obtain ⟨S, ds, r, hF, hd, ⟨way, l, rfl, hway, hl, hok, hp, rfl⟩, kp⟩ := h
  obtain ⟨x, y, rfl, hx, hy⟩ := dps_2 hd
  cases dp_str hx; cases dp_str hy
  refine ⟨_, (pss_cons (ps_set (i := 2) sc_reading.nd rfl (Or.inl rfl) pe_non)
      (pss_cons (ps_try_as (i := 3) rfl rfl sc_reading.nd rfl rfl ⟨rfl, by decide, .inl X2.D.gC⟩ takes0 (fun W pn xe tk po => (pss_one (ps_set (i := 2) sc_reading.nd rfl (Or.inl rfl) (pe_tup (pa_cons pe_str (pa_cons (pe_ifExp (pt_cmpR op_eq (pv 0) pe_str (nomark _)) (pe_clS R_read_table (hr.mono (by decide)) tk (pa_cons (pv 1) pa_nil)) (pe_clS R_read_limits (hr.mono (by decide)) tk (pa_cons (pv 1) pa_nil))) pa_nil)))))) (fun a oe cls d pn hz hf => (pss_one (ps_set (i := 2) sc_reading.nd rfl (Or.inl rfl) (pe_tup (pa_cons pe_str (pa_cons (pe_xf XF X2.D.nf hz hf (pv 3)) pa_nil)))))))
      (pss_one (ps_ret (pv 2))))), ?_⟩
  walk_at "sx"
  have main : ∀ rd, rdOf way = rd → sp_read K C rd [V.str (tx l)] H
      (fun x H1 => 2 ≤ sizeLine ∧ ∀ (p : Addr), H1 p = none → Q (V.ref p) (upd H1 p (HO.tup [V.str (Str.ofString "read"), x])))
      (WE (wAs K (Value.ref C) 3 (fun a cls d => tAsg (tTup (tCons (tC (V.str (Str.ofString "bad"))) (tCons (tXf a cls d C (Str.ofString "at") (tVar 3)) tNil))) (gName 2))
          (fun x x_1 x_2 x_3 => False) { nx := tRet (tVar 2) { nx := fun x H' => Q V.non H', rt := Q }, rt := Q }) [some (V.str (tx way)), some (V.str (tx l)), some V.non, none]) := by
    rintro rd rfl
    refine ⟨S, l, hF, rfl, hl, hok, hp, fun hn v H' S' hv => ?_, fun i hi d H' S' hx => ?_⟩
    · refine ⟨size_le (by decide), ?_⟩
      intro p hp; generalize e3 : upd _ p _ = H3
      rw [tx_cd] at e3
      obtain ⟨S3, F3, d3⟩ := new_tup (K := K) (hF.same S') hp e3 (.cons (.str _) (.cons hv .nil))
      unfold readRes at kp
      rw [hn] at kp
      exact kp _ _ (S'.trans S3) d3
    · refine ⟨true, X2.me, fun _ e he => ?_, fun z => by cases z⟩
      walk_at "sx"
      refine ⟨_, hx, _, rfl, size_le (by decide), ?_⟩
      intro p hp; generalize e3 : upd _ p _ = H3
      rw [tx_cd] at e3
      obtain ⟨S3, F3, d3⟩ := new_tup (K := K) (hF.same S') hp e3 (.cons (.str _) (.cons (.int (i : Nat)) .nil))
      unfold readRes at kp
      rw [hi] at kp
      exact kp _ _ (S'.trans S3) d3
  split
  · rename_i hw
    rw [tx_cd] at hw
    exact main readPair (by unfold rdOf; rw [if_pos (SX.S_inj hw)])
  · rename_i hw
    rw [tx_cd] at hw
    exact main readLimit (by unfold rdOf; rw [if_neg (fun z => hw (by rw [z]))])
theorem sc_bad_part : FnScope ["_law_box_here", "_law_way", "_law_some"] ["_law_box_here", "_law_way"] (defScope s_bad_part) := ⟨rfl, rfl, rfl, by decide +kernel, rfl, by decide +kernel, by decide +kernel⟩
theorem ok_bad_part (T : Txt K mg aW aB) (F : Dfn K mg "_law_bad_part" s_bad_part) (R_take : Rdy P w K mg base CX0 2 "_law_take" ["_law_box_here", "_law_size"] spTake) :
    Rdy P w K mg base CX0 3 "_law_bad_part" ["_law_box_here", "_law_way"] (spB K 1 preBad R_bad) := by
  refine F.rdy sc_bad_part (fun _ _ _ _ _ _ us hl => match us, hl with | [_, _], _ => rfl) (spB_len (by rintro _ ⟨_, rfl, _⟩; rfl)) (fun f cdv A outer s H vs Q E hr h => ?_)
  obtain ⟨a, g, s', n, ws, ds, rfl, hB, hn, hd, ⟨way, rfl, hway⟩, kp⟩ := h
  obtain ⟨x, rfl, hx⟩ := dps_1 hd
  cases dp_str hx
  refine ⟨_, (pss_cons (ps_set (i := 2) sc_bad_part.nd rfl (Or.inl rfl) (pe_lst (pa_cons pe_str (pa_cons pe_str (pa_cons pe_str (pa_cons pe_str (pa_cons pe_str (pa_cons pe_str (pa_cons pe_str (pa_cons pe_str (pa_cons pe_str (pa_cons pe_str (pa_cons pe_str pa_nil)))))))))))))
      (pss_cons (ps_set (i := 2) sc_bad_part.nd rfl (Or.inl rfl) (pe_op op_cat (pv 2) (pe_lst (pa_cons pe_str (pa_cons pe_str (pa_cons pe_str (pa_cons pe_str (pa_cons pe_str (pa_cons pe_str (pa_cons pe_str (pa_cons pe_str pa_nil)))))))))))
      (C8.pss_cut (ps_if (pt_cmpR op_eq (pv 1) pe_str (nomark _)) (pss_cons (ps_set (i := 2) sc_bad_part.nd rfl (Or.inl rfl) (pe_lst (pa_cons pe_str (pa_cons pe_str (pa_cons pe_str (pa_cons pe_str (pa_cons pe_str (pa_cons pe_str (pa_cons pe_str (pa_cons pe_str pa_nil))))))))))
      (pss_one (ps_set (i := 2) sc_bad_part.nd rfl (Or.inl rfl) (pe_op op_cat (pv 2) (pe_lst (pa_cons pe_str (pa_cons pe_str (pa_cons pe_str (pa_cons pe_str (pa_cons pe_str (pa_cons pe_str (pa_cons pe_str (pa_cons pe_str pa_nil))))))))))))) pss_nil)
      (pss_one (ps_ret (pe_ix ix_list (pv 2) (pe_cl R_take (hr.mono (by decide)) pass0 (pa_cons (pv 0) (pa_cons (pe_callB call_len (by rfl) T.b_len PySem.boot_len (pa_cons (pv 2) pa_nil)) pa_nil))) (fun _ _ => rfl))))))), ?_⟩
  walk_at "sx"
  refine ⟨size_le (by decide), ?_⟩
  intro p hp; generalize e1 : upd _ p _ = H1
  obtain ⟨S1, hp1⟩ := new_of hp e1
  refine ⟨size_le (by decide), ?_⟩
  intro p2 hp2; generalize e2 : upd _ p2 _ = H2
  obtain ⟨S2, hq2⟩ := new_of hp2 e2
  refine rd_cat (S2 _ _ hp1) hq2 (by decide) fun p3 H3 hp3 S3 hq3 => ?_
  have S13 := (S1.trans S2).trans S3
  obtain ⟨M1, hM1⟩ : ∃ M : L2.St → Hp → Prop, ∀ σ H2, M σ H2 ↔ ∃ p, σ = [some (.ref a), some (.str (tx way)), some (.ref p)] ∧ p ∉ [a, g] ∧ Same H H2 ∧ H2 p = some (.lst (((badsOf way).map tx).map V.str)) := ⟨_, fun _ _ => Iff.rfl⟩
  refine ⟨M1, ?_, fun σ H4 hm => ?_⟩
  · walk_at "sx"
    rw [tx_cd "limits"]
    split
    · rename_i hw
      refine ⟨size_le (by decide), ?_⟩
      intro p4 hp4; generalize e4 : upd _ p4 _ = H4
      obtain ⟨S4, hq4⟩ := new_of hp4 e4
      refine ⟨size_le (by decide), ?_⟩
      intro p5 hp5; generalize e5 : upd _ p5 _ = H5
      obtain ⟨S5, hq5⟩ := new_of hp5 e5
      refine rd_cat (S5 _ _ hq4) hq5 (by decide) fun p6 H6 hp6 S6 hq6 => ?_
      refine (hM1 _ _).2 ⟨p6, rfl, (hB.same ((S13.trans S4).trans S5)).np hp6, S13.trans ((S4.trans S5).trans S6), ?_⟩
      rw [hq6, show badsOf way = badsL.map cd by unfold badsOf; rw [if_pos (SX.S_inj hw)]]
      simp only [tx_cd, badsL, List.map_cons, List.map_nil, List.cons_append, List.nil_append]
    · rename_i hw
      refine (hM1 _ _).2 ⟨p3, rfl, (hB.same (S1.trans S2)).np hp3, S13, ?_⟩
      rw [hq3, show badsOf way = badsT.map cd by unfold badsOf; rw [if_neg (fun z => hw (by rw [z]))]]
      simp only [tx_cd, badsT, List.map_cons, List.map_nil, List.cons_append, List.nil_append]
  · obtain ⟨p4, rfl, np, S4, hq4⟩ := (hM1 _ _).1 hm
    walk_at "sx"
    have hbl : 1 ≤ (badsOf way).length ∧ (badsOf way).length ≤ 30 := by unfold badsOf; split <;> decide
    refine rd_lenL (SqL.of hq4) ?_
    rw [List.length_map, List.length_map]
    refine rd_take (hB.same S4) (by omega) (by omega) (by omega) fun i H5 i0 i1 B5 S5 => ?_
    have hq5 := S5.at hq4 np
    obtain ⟨x, hx1, hx2⟩ := atI_map (xs := (badsOf way).map tx) (g := V.str) i0 (by simpa using i1)
    rw [List.getElem?_map] at hx1
    obtain ⟨y, hy, rfl⟩ := Option.map_eq_some_iff.mp hx1
    exact rd_ixL hq5 hx2 (kp _ _ _ ⟨way, y, rfl, rfl, List.mem_of_getElem? hy⟩ ((SameB.of S4).trans S5) B5 (.str _))
end
end My
namespace My
open PySem PySem.Spec PyProof.Rows L2
local macro_rules | `(tactic| walk_at "sx") => `(tactic| first | (simp only [cx_K, tB, iRng1, iRng2, iRng3, iList, iTup, wAs, tXf, tDictZip, tDGet1, rInD, rInT, tChain, tUn, rU, tCallS, WE, wOnly, tSl, tPart, tNoPart, tRevL, tStepL, tM0, tM1, wipe, tYes, Bool.not_eq_true', gCons, gNil, decide_eq_false_iff_not, tCall, tPar, tAndV, tOrV, tNotV, tIf, List.append_nil, rEq, rNe, scal_ii, scal_ss, scal_bb, scal_nn, scal_in, scal_ni, scal_sn, scal_ns, scal_is, scal_si, Bool.and_true, Bool.true_and, Bool.and_false, Bool.false_and, reduceCtorEq, tLst, tTup, Int.reduceToNat, decide_true, decide_false, Bool.not_true, Bool.not_false, Bool.false_eq_true, if_true, if_false, reduceIte, gSub, tAnd, tOr, tNot, tBM, tBM0, tNext, tSeq, tAsg, tOp, rI, rI0, tVar, tC, gName, tRet, tCB, tCons, tNil, tTest, tIfS, tDrop, L2.start, List.map_cons, List.map_nil, List.length_cons, List.length_nil, List.cons_append, List.nil_append, List.replicate, List.getElem?_cons_zero, List.getElem?_cons_succ, List.set_cons_zero, List.set_cons_succ, Option.some.injEq, V.int.injEq, V.str.injEq, V.bl.injEq, V.ref.injEq, exists_eq_left', exists_eq_left, exists_and_left, exists_eq', and_assoc, List.cons.injEq, and_true, true_and, decide_eq_true_eq, Nat.reduceAdd, Nat.reduceSub]) | skip)
local macro_rules | `(tactic| walk_at "isi") => `(tactic| first | (simp only [isi_none_int, isi_none_bool, isi_none_str, isi_none_list, isi_none_tuple, isi_bool_int, isi_bool_bool, isi_bool_str, isi_bool_list, isi_bool_tuple, isi_int_int, isi_int_bool, isi_int_str, isi_int_list, isi_int_tuple, isi_str_int, isi_str_bool, isi_str_str, isi_str_list, isi_str_tuple, isi_list_int, isi_list_bool, isi_list_str, isi_list_list, isi_list_tuple, isi_tuple_int, isi_tuple_bool, isi_tuple_str, isi_tuple_list, isi_tuple_tuple, isInt_none, isInt_bool, isInt_int, isInt_str, isInt_list, isInt_tuple]) | skip)
abbrev itD (p : List Nat × Bool) : PyData := .tuple [tD p.1, .bool p.2]
def itOk (way : List Nat) (parts : List (List Nat)) (p : List Nat × Bool) : Prop := (p.2 = true → p.1 ∈ parts) ∧ (p.2 = false → p.1 ∈ badsOf way)
def preSp (ds : List PyData) : Prop := ∃ (way : List Nat) (parts : List (List Nat)), ds = [tD way, .list (parts.map tD)] ∧ isWay way ∧ parts.length ≤ 1000
def R_spoilt (ds : List PyData) (r : PyData) : Prop := ∃ (way : List Nat) (parts : List (List Nat)), ds = [tD way, .list (parts.map tD)] ∧ ∃ (its : List (List Nat × Bool)) (k : Nat), r = .tuple [.list (its.map fun p => tD p.1), .int k] ∧ its.length ≤ parts.length + 2 ∧ (∀ p ∈ its, itOk way parts p) ∧
  (∃ l, its[k]? = some (l, false)) ∧ ∀ (j : Nat) (p : List Nat × Bool), j < k → its[j]? = some p → p.2 = true
def preLim (ds : List PyData) : Prop := ∃ l, ds = [tD l]
def lawLim (d : PyData) : Prop := ∃ (l : List Nat) (lo hi : PyData), d = .tuple [tD l, lo, hi] ∧ lawEnd lo ∧ lawEnd hi
def R_limit_of (ds : List PyData) (r : PyData) : Prop := ∃ (l : List Nat) (lo hi : PyData), ds = [tD l] ∧ r = .tuple [tD l, lo, hi] ∧ lawEnd lo ∧ lawEnd hi
theorem first_false : ∀ (its : List (List Nat × Bool)) (pf : List Nat × Bool), pf ∈ its → pf.2 = false → ∃ k, (∃ l, its[k]? = some (l, false)) ∧ ∀ (j : Nat) (p : List Nat × Bool), j < k → its[j]? = some p → p.2 = true
  | [], _, h, _ => by cases h
  | (l, false) :: r, _, _, _ => ⟨0, ⟨l, rfl⟩, fun j p hj _ => absurd hj (Nat.not_lt_zero _)⟩
  | (l, true) :: r, pf, h, hf => by
    rcases List.mem_cons.mp h with e | h
    · subst e; cases hf
    · obtain ⟨k, hk, hj⟩ := first_false r pf h hf
      refine ⟨k + 1, by simpa using hk, fun j p hjk hp => ?_⟩
      cases j with
      | zero => simp at hp; subst hp; rfl
      | succ j => exact hj j p (by omega) (by simpa using hp)
section
variable {P : Program} {w : World} {K : PySem.W.Frag} {mg : Str → Option Value} {base : Heap} {aW aB C : Addr} {ps : List Str}
theorem sc_spoilt : FnScope ["_law_box_here", "_law_way", "_law_parts", "_law_found", "_law_k", "_law_part", "_law_good"] ["_law_box_here", "_law_way", "_law_parts"] (defScope s_spoilt) := ⟨rfl, rfl, rfl, by decide +kernel, rfl, by decide +kernel, by decide +kernel⟩
theorem ok_spoilt (T : Txt K mg aW aB) (F : Dfn K mg "_law_spoilt" s_spoilt) (R_take : Rdy P w K mg base CX0 2 "_law_take" ["_law_box_here", "_law_size"] spTake) (R_bad_part : Rdy P w K mg base CX0 3 "_law_bad_part" ["_law_box_here", "_law_way"] (spB K 1 preBad R_bad)) :
    Rdy P w K mg base CX0 4 "_law_spoilt" ["_law_box_here", "_law_way", "_law_parts"] (spB K 5 preSp R_spoilt) := by
  refine F.rdy sc_spoilt (fun _ _ _ _ _ _ us hl => match us, hl with | [_, _, _], _ => rfl) (spB_len (by rintro _ ⟨_, _, rfl, _⟩; rfl)) (fun f cdv A outer s H vs Q E hr h => ?_)
  obtain ⟨a, g, s', n, ws, ds, rfl, hB, hn, hd, ⟨way, parts, rfl, hway, hpl⟩, kp⟩ := h
  obtain ⟨x, y, rfl, hx, hy⟩ := dps_2 hd
  cases dp_str hx
  obtain ⟨b, xs, rfl, hb, hxs⟩ := dp_lst hy
  refine ⟨_, (pss_cons (ps_setLc (i := 3) (own := [("_law_part", 5)]) (g := (gName 5)) (tt := tYes) rfl sc_spoilt.nd rfl rfl (sw_true rfl rfl rfl (by decide +kernel)) (pi_list (pv 2)) (blkOk_by (N := ["_law_box_here", "_law_way", "_law_parts", "_law_found", "_law_k", "_law_part", "_law_good"]) (sc := defScope s_spoilt) (by decide +kernel)) (fun _ _ _ _ _ => (pg_name (i := 5) sc_spoilt.nd rfl (Or.inl rfl))) (fun _ _ _ _ _ => pts_nil) (fun _ _ _ _ _ => (pe_tup (pa_cons (pv 5) (pa_cons pe_bl pa_nil)))))
      (pss_cons (ps_for PassesOwn.never rfl (pi_range1 (by rfl) T.b_range (pa_cons (pe_op op_add pe_int (pe_cl R_take (hr.mono (by decide)) pass0 (pa_cons (pv 0) (pa_cons pe_int pa_nil)))) pa_nil)) (pg_name (i := 4) sc_spoilt.nd rfl (Or.inl rfl))
      (pss_one (ps_expr (pe_bm PySem.F.plainAttrs_list PySem.F.slot_list_insert PySem.F.type_list_insert mt_insert (pv 3) (pa_cons (pe_cl R_take (hr.mono (by decide)) pass0 (pa_cons (pv 0) (pa_cons (pe_op op_add (pe_callB call_len (by rfl) T.b_len PySem.boot_len (pa_cons (pv 3) pa_nil)) pe_int) pa_nil))) (pa_cons (pe_tup (pa_cons (pe_cl R_bad_part (hr.mono (by decide)) pass0 (pa_cons (pv 0) (pa_cons (pv 1) pa_nil))) (pa_cons pe_bl pa_nil))) pa_nil))))))
      (pss_one (ps_ret (pe_tup (pa_cons (pe_lc (own := [("_law_part", 5), ("_law_good", 6)]) (g := (gTup _ 2 (gCons (gName 5) (gCons (gName 6) gNil)))) (tt := tYes) rfl sc_spoilt.nd (pi_list (pv 3)) (blkOk_by (N := ["_law_box_here", "_law_way", "_law_parts", "_law_found", "_law_k", "_law_part", "_law_good"]) (sc := defScope s_spoilt) (by decide +kernel)) (fun _ _ _ _ _ => (pg_tup (n := 2) rfl (pgs_cons (pg_name (i := 5) sc_spoilt.nd rfl (Or.inl rfl)) (pgs_cons (pg_name (i := 6) sc_spoilt.nd rfl (Or.inl rfl)) pgs_nil)))) (fun _ _ _ _ _ => pts_nil) (fun _ _ _ _ _ => (pv 5))) (pa_cons (pe_bm PySem.F.plainAttrs_list PySem.F.slot_list_index PySem.F.type_list_index mt_index (pe_lc (own := [("_law_part", 5), ("_law_good", 6)]) (g := (gTup _ 2 (gCons (gName 5) (gCons (gName 6) gNil)))) (tt := tYes) rfl sc_spoilt.nd (pi_list (pv 3)) (blkOk_by (N := ["_law_box_here", "_law_way", "_law_parts", "_law_found", "_law_k", "_law_part", "_law_good"]) (sc := defScope s_spoilt) (by decide +kernel)) (fun _ _ _ _ _ => (pg_tup (n := 2) rfl (pgs_cons (pg_name (i := 5) sc_spoilt.nd rfl (Or.inl rfl)) (pgs_cons (pg_name (i := 6) sc_spoilt.nd rfl (Or.inl rfl)) pgs_nil)))) (fun _ _ _ _ _ => pts_nil) (fun _ _ _ _ _ => (pv 6))) (pa_cons pe_bl pa_nil)) pa_nil))))))), ?_⟩
  walk_at "sx"
  have hlx := dps_len hxs
  rw [List.length_map] at hlx
  refine ⟨_, rfl, b, rfl, ⟨_, seqL_up hb⟩, ?_⟩
  intro D hD
  have hDn : D ∉ [a, g, s'] := hB.fr.new hD
  refine lc_raw K [] no_mem (walk_list (xs := xs)) hB.fr hD (fun i ds H => ds = ((parts.take i).map fun p => (p, true)).map itD) (fun _ _ => by simp) (fun H2 sb => sb.nil.seq (seqL_up hb)) (fun i x vals acc H1 H' hi hn hv hd hle sb fr hR hY => ?_) fun vals ds H1 _ hv hvs sb fr hle hR => ?_
  · obtain ⟨rfl, hx1⟩ := hY
    obtain ⟨d, hd1, hd2⟩ := dps_get hxs hx1
    rw [List.getElem?_map] at hd1
    obtain ⟨p, hp1, rfl⟩ := Option.map_eq_some_iff.mp hd1
    cases dp_str hd2
    walk_at "sx"
    refine ⟨size_le (by decide), ?_⟩
    intro p3 hp3; generalize e3 : upd _ p3 _ = H3
    obtain ⟨S3, F3, d3⟩ := new_tup (K := K) (fr.cons hv) hp3 e3 (.cons (.str (tx p)) (.cons (.bl true) .nil))
    refine lc_put no_mem hD hn hv hd hle (by omega) sb (.of S3) (fr.same S3) d3 fun H6 s6 f6 => ?_
    rw [hR, List.take_add_one, hp1]
    simp
  · rw [hlx, List.take_length] at hR
    subst hR
    have S1 := sb.nil
    have B1 := hB.same S1
    refine rd_for fun R hR => ?_
    walk_at "sx"
    refine rd_take B1 (by omega) (by decide) (by decide) fun r H2 r0 r1 B2 S2 => ?_
    have hv2 := S2.at hv (fun z => hDn (two_in _ z))
    have hvs2 : DpAll K (dl (D :: [a, g, s']) H2) vals ((parts.map fun p => (p, true)).map itD) := dps_same (S2.mono fun x hx => List.mem_cons_of_mem _ (two_in x hx)) hvs
    have SD : SameB (D :: [a, g]) H H2 := ((SameB.of S1).trans S2).mono fun x hx => List.mem_cons_of_mem _ hx
    clear hv hvs S1 B1 S2 sb fr
    obtain ⟨Pv, hPv⟩ : ∃ Pv : Nat → L2.St → Hp → Prop, ∀ i σ H3, Pv i σ H3 ↔ ∃ (its : List (List Nat × Bool)) (vals : List V) (t : Option V), σ = [some (.ref a), some (.str (tx way)), some (.ref b), some (.ref D), t, none, none] ∧ H3 D = some (.lst vals) ∧ DpAll K (dl (D :: [a, g, s']) H3) vals (its.map itD) ∧
      SameB (D :: [a, g]) H H3 ∧ Bx H3 a g s' (n + 1 + 2 * i) ∧ its.length = parts.length + i ∧ (∀ p ∈ its, itOk way parts p) ∧ (0 < i → ∃ p ∈ its, p.2 = false) := ⟨_, fun _ _ _ => Iff.rfl⟩
    refine ⟨_, rfl, by omega, by omega, hR _ _ (for_it walk_range Pv ?_ (fun _ _ _ _ _ => trivial) (fun i x σ H3 H' hi hp hy => ?_) fun σ H3 hp => ?_)⟩
    · refine (hPv _ _ _).2 ⟨_, vals, none, rfl, hv2, hvs2, SD, B2, by simp, fun p hp => ?_, fun z => absurd z (Nat.lt_irrefl _)⟩
      obtain ⟨q, hq, rfl⟩ := List.mem_map.mp hp
      exact ⟨fun _ => hq, fun z => by cases z⟩
    · obtain ⟨its, vals, t, rfl, hv, hvs, sd, B3, hil, hok, hex⟩ := (hPv _ _ _).1 hp
      obtain ⟨rfl, rfl⟩ := hy
      have hvl := dps_len hvs
      rw [List.length_map] at hvl
      walk_at "sx"
      refine ⟨.inl ⟨rfl, _, SqL.of hv⟩, ?_⟩
      refine rd_lenL (SqL.of hv) ?_
      refine rd_take B3 (by omega) (by omega) (by omega) fun k H4 k0 k1 B4 S4 => ?_
      refine rd_B B4 (by omega) (.cons (.str _) .nil) ⟨way, rfl, hway⟩ fun rr v H5 hr5 S5 B5 d5 => ?_
      obtain ⟨way', bad, e, rfl, hbad⟩ := hr5
      have ew : way = way' := by injection e with e1 _; injection e1 with e2; exact SX.S_inj e2
      subst ew
      cases dp_str d5
      have S35 := S4.trans S5
      have hv5 := S35.at hv (fun z => hDn (two_in _ z))
      have hvs5 : DpAll K (dl (D :: [a, g, s']) H5) vals (its.map itD) := dps_same (S35.mono fun x hx => List.mem_cons_of_mem _ (two_in x hx)) hvs
      refine ⟨size_le (by decide), ?_⟩
      intro p6 hp6; generalize e6 : upd _ p6 _ = H6
      obtain ⟨S6, F6, d6⟩ := new_tup (K := K) (B5.fr.cons hv5) hp6 e6 (.cons (.str (tx bad)) (.cons (.bl false) .nil))
      have hv6 := S6 _ _ hv5
      refine ⟨_, _, rfl, hv6, by rw [sizeLine_eq]; omega, k0, by omega, ?_⟩
      generalize e7 : upd _ D _ = H7
      have hv7 : H7 D = some (.lst (vals.take k.toNat ++ [.ref p6] ++ vals.drop k.toNat)) := by subst e7; exact upd_same
      have s7 : SameB [D] H6 H7 := by subst e7; exact .upd_in (by simp)
      have e8 : dl (D :: [a, g, s']) H7 = dl (D :: [a, g, s']) H6 := by subst e7; exact dl_upd_in (by simp)
      have hvs6 : DpAll K (dl (D :: [a, g, s']) H6) vals (its.map itD) := dps_same (dl_same S6) hvs5
      refine (hPv _ _ _).2 ⟨its.take k.toNat ++ [(bad, false)] ++ its.drop k.toNat, _, _, rfl, hv7, ?_, ?_, ?_, ?_, ?_, ?_⟩
      · rw [e8]
        rw [List.map_append, List.map_append, List.map_take, List.map_drop]
        exact dps_app (dps_app (dps_take _ hvs6) (dps_one d6)) (dps_drop _ hvs6)
      · exact (sd.trans ((S35.trans (.of S6)).mono fun x hx => List.mem_cons_of_mem _ hx)).trans (s7.mono (by simp))
      · have nD := hDn
        simp only [List.mem_cons, List.not_mem_nil, or_false, not_or] at nD
        exact ((B5.same S6).sameB s7 (by simpa using Ne.symm nD.1) (by simpa using Ne.symm nD.2.1) (by simpa using Ne.symm nD.2.2)).mono (by omega)
      · simp only [List.length_append, List.length_take, List.length_cons, List.length_nil, List.length_drop]; omega
      · intro p hp
        rcases List.mem_append.mp hp with hp | hp
        · rcases List.mem_append.mp hp with hp | hp
          · exact hok p (List.mem_of_mem_take hp)
          · rw [List.mem_singleton] at hp
            subst hp
            exact ⟨fun z => (by cases z), fun _ => hbad⟩
        · exact hok p (List.mem_of_mem_drop hp)
      · exact fun _ => ⟨(bad, false), by simp, rfl⟩
    · obtain ⟨its, vals, t, rfl, hv, hvs, sd, B3, hil, hok, hex⟩ := (hPv _ _ _).1 hp
      obtain ⟨pf, hpf, hff⟩ := hex (by omega)
      have sb3 : SameB [a, g] H H3 := SameB.of_new hD sd
      have hvl := dps_len hvs
      rw [List.length_map] at hvl
      walk_at "sx"
      have hits : ∀ (i : Nat) (x : V), vals[i]? = some x → ∃ p t, its[i]? = some p ∧ x = .ref t ∧ SqT K (dl (D :: [a, g, s']) H3) t [.str (tx p.1), .bl p.2] := by
        intro i x hx
        obtain ⟨d, hd1, hd2⟩ := dps_get hvs hx
        rw [List.getElem?_map] at hd1
        obtain ⟨p, hp, rfl⟩ := Option.map_eq_some_iff.mp hd1
        obtain ⟨t, ys, rfl, ht, hys⟩ := dp_tup hd2
        obtain ⟨y1, y2, rfl, k1, k2⟩ := dps_2 hys
        cases dp_str k1; cases dp_bl k2
        exact ⟨p, t, hp, rfl, ht⟩
      have FD := B3.fr
      refine ⟨_, rfl, D, rfl, ⟨_, SqL.of hv⟩, ?_⟩
      intro D2 hD2
      refine lc_gen K [] no_mem (walk_list (xs := vals)) FD hD2 (fun i ds H => ds = (its.take i).map fun p => tD p.1) (fun _ _ => by simp) (fun H4 sb => SqL.of (sb.nil _ _ hv)) (fun i x vals2 acc H4 H' hi hn hv2 hd hle sb fr hR hY => ?_) fun ds H4 sb fr hd4 hle hR => ?_
      · obtain ⟨rfl, hx1⟩ := hY
        obtain ⟨p, t2, hp1, rfl, ht⟩ := hits i x hx1
        refine ⟨_, _, rfl, sameT sb.nil (seqT_up ht), rfl, ?_⟩
        walk_at "sx"
        refine lc_put no_mem hD2 hn hv2 hd hle (by omega) sb .refl fr (.str _) fun H6 s6 f6 => ?_
        rw [hR, List.take_add_one, hp1]
        simp
      · have S34 := sb.nil
        rw [show vals.length = its.length from hvl, List.take_length] at hR
        refine ⟨_, rfl, D, rfl, ⟨_, SqL.of (S34 _ _ hv)⟩, ?_⟩
        intro D3 hD3
        refine lc_gen K [] no_mem (walk_list (xs := vals)) fr hD3 (fun i ds H => ds = ((its.take i).map fun p => p.2).map PyData.bool) (fun _ _ => by simp) (fun H5 sb => SqL.of (sb.nil _ _ (S34 _ _ hv))) (fun i x vals2 acc H5 H' hi hn hv2 hd hle sb fr hR hY => ?_) fun ds5 H5 sb5 fr5 hd5 hle5 hR5 => ?_
        · obtain ⟨rfl, hx1⟩ := hY
          obtain ⟨p, t2, hp1, rfl, ht⟩ := hits i x hx1
          refine ⟨_, _, rfl, sameT (S34.trans sb.nil) (seqT_up ht), rfl, ?_⟩
          walk_at "sx"
          refine lc_put no_mem hD3 hn hv2 hd hle (by omega) sb .refl fr (.bl _) fun H6 s6 f6 => ?_
          rw [hR, List.take_add_one, hp1]
          simp
        · have S45 := sb5.nil
          rw [show vals.length = its.length from hvl, List.take_length] at hR5
          subst hR5
          obtain ⟨_, bs, e, hbs, hbx⟩ := dp_lst hd5
          cases e
          obtain rfl := dps_bls hbx
          -- the first False
          obtain ⟨k, hk1, hk2⟩ : ∃ k, (∃ l, its[k]? = some (l, false)) ∧ ∀ (j : Nat) (p : List Nat × Bool), j < k → its[j]? = some p → p.2 = true := first_false its pf hpf hff
          obtain ⟨lk, hk1⟩ := hk1
          refine ⟨.inl ⟨rfl, _, seqL_up hbs⟩, D3, _, _, k, .bl false, rfl, rfl, seqL_up hbs, rfl, by simp [flatV], ?_, rfl, ?_, ?_⟩
          · rw [List.getElem?_map, List.getElem?_map, hk1]; rfl
          · intro m z' hm hz
            rw [List.getElem?_map, List.getElem?_map] at hz
            obtain ⟨bb, hbb, rfl⟩ := Option.map_eq_some_iff.mp hz
            obtain ⟨p, hp, rfl⟩ := Option.map_eq_some_iff.mp hbb
            rw [hk2 m p hm hp]
            rfl
          · refine ⟨size_le (by decide), ?_⟩
            intro p8 hp8; generalize e8 : upd _ p8 _ = H8
            obtain ⟨S8, F8, d8⟩ := new_tup (K := K) fr5 hp8 e8 (.cons (dp_same (dl_same S45) hd4) (.cons (.int (k : Nat)) .nil))
            refine kp _ _ _ ⟨way, parts, rfl, its, k, by rw [hR], by omega, hok, ⟨lk, hk1⟩, hk2⟩ (sb3.trans (.of ((S34.trans S45).trans S8))) ((B3.same ((S34.trans S45).trans S8)).mono (by omega)) d8
theorem sc_limit_of : FnScope ["_law_box_here", "_law_name", "_law_one", "_law_other", "_law_ends"] ["_law_box_here", "_law_name"] (defScope s_limit_of) := ⟨rfl, rfl, rfl, by decide +kernel, rfl, by decide +kernel, by decide +kernel⟩
theorem ok_limit_of (T : Txt K mg aW aB) (F : Dfn K mg "_law_limit_of" s_limit_of) (R_take : Rdy P w K mg base CX0 2 "_law_take" ["_law_box_here", "_law_size"] spTake) (R_number : Rdy P w K mg base CX0 3 "_law_number" ["_law_box_here"] (spB K 5 (· = []) R_number))
    (R_before : Rdy P w K mg base CX0 1 "_law_before" ["_law_one", "_law_other"] (spD K R_before)) :
    Rdy P w K mg base CX0 4 "_law_limit_of" ["_law_box_here", "_law_name"] (spB K 11 preLim R_limit_of) := by
  refine F.rdy sc_limit_of (fun _ _ _ _ _ _ us hl => match us, hl with | [_, _], _ => rfl) (spB_len (by rintro _ ⟨_, rfl⟩; rfl)) (fun f cdv A outer s H vs Q E hr h => ?_)
  obtain ⟨a, g, s', n, ws, ds, rfl, hB, hn, hd, ⟨l, rfl⟩, kp⟩ := h
  obtain ⟨x, rfl, hx⟩ := dps_1 hd
  cases dp_str hx
  refine ⟨_, (pss_cons (ps_par (i := 2) (j := 3) (by rfl) sc_limit_of.nd rfl rfl (by decide) rfl rfl (pa_cons (pe_cl R_number (hr.mono (by decide)) pass0 (pa_cons (pv 0) pa_nil)) (pa_cons (pe_cl R_number (hr.mono (by decide)) pass0 (pa_cons (pv 0) pa_nil)) pa_nil)) (by rfl))
      (C8.pss_cut (ps_if (pt_val (pe_cl R_before (hr.mono (by decide)) pass0 (pa_cons (pv 3) (pa_cons (pv 2) pa_nil)))) (pss_one (ps_par (i := 2) (j := 3) (by rfl) sc_limit_of.nd rfl rfl (by decide) rfl rfl (pa_cons (pv 3) (pa_cons (pv 2) pa_nil)) (by rfl))) pss_nil)
      (pss_cons (ps_set (i := 4) sc_limit_of.nd rfl (Or.inl rfl) (pe_ix ix_list (pe_lst (pa_cons (pe_tup (pa_cons pe_non (pa_cons pe_non pa_nil))) (pa_cons (pe_tup (pa_cons (pv 2) (pa_cons pe_non pa_nil))) (pa_cons (pe_tup (pa_cons pe_non (pa_cons (pv 3) pa_nil))) (pa_cons (pe_tup (pa_cons (pv 2) (pa_cons (pv 3) pa_nil))) (pa_cons (pe_tup (pa_cons (pv 2) (pa_cons (pv 2) pa_nil))) pa_nil)))))) (pe_cl R_take (hr.mono (by decide)) pass0 (pa_cons (pv 0) (pa_cons pe_int pa_nil))) (fun _ _ => rfl)))
      (pss_one (ps_ret (pe_tup (pa_cons (pv 1) (pa_cons (pe_ix ix_tup (pv 4) pe_int (fun _ _ => rfl)) (pa_cons (pe_ix ix_tup (pv 4) pe_int (fun _ _ => rfl)) pa_nil))))))))), ?_⟩
  walk_at "sx"
  refine rd_B hB (by omega) .nil rfl fun r1 v1 H1 h1 S1 B1 d1 => ?_
  refine rd_B B1 (by omega) .nil rfl fun r2 v2 H2 h2 S2 B2 d2 => ?_
  obtain ⟨q1, rfl, hq1⟩ := h1
  obtain ⟨q2, rfl, hq2⟩ := h2
  replace d1 := dp_same S2.d3 d1
  have S02 := S1.trans S2
  clear hB S1 S2 B1
  have lb : ∀ q : Int × Int, lawNum q → big q.1 ∧ big q.2 := fun q hq => ⟨Nat.lt_of_le_of_lt hq.2.1 (by decide +kernel), Nat.lt_of_le_of_lt hq.2.2 (by decide +kernel)⟩
  obtain ⟨M1, hM1⟩ : ∃ M : L2.St → Hp → Prop, ∀ σ H3, M σ H3 ↔ ∃ v1 v2 q1 q2, σ = [some (.ref a), some (.str (tx l)), some v1, some v2, none] ∧ SameB [a, g] H H3 ∧ Bx H3 a g s' (n + 5 + 5) ∧ Dp K (dl [a, g, s'] H3) v1 (ratD q1) ∧ Dp K (dl [a, g, s'] H3) v2 (ratD q2) ∧ lawNum q1 ∧ lawNum q2 := ⟨_, fun _ _ => Iff.rfl⟩
  refine ⟨M1, ?_, fun σ H3 hm => ?_⟩
  · walk_at "sx"
    refine rd_D B2.fr (.cons d2 (.cons d1 .nil)) ⟨q2, q1, rfl, (lb _ hq2).1, (lb _ hq2).2, (lb _ hq1).1, (lb _ hq1).2, rfl⟩ fun v3 H3 S3 hv3 => ?_
    cases dp_bl hv3
    refine ⟨_, rfl, ?_⟩
    split
    · exact (hM1 _ _).2 ⟨v2, v1, q2, q1, rfl, S02.trans (.of S3), B2.same S3, dp_same (dl_same S3) d2, dp_same (dl_same S3) d1, hq2, hq1⟩
    · exact (hM1 _ _).2 ⟨v1, v2, q1, q2, rfl, S02.trans (.of S3), B2.same S3, dp_same (dl_same S3) d1, dp_same (dl_same S3) d2, hq1, hq2⟩
  · clear d1 d2 hq1 hq2 S02 B2
    obtain ⟨v1, v2, q1, q2, rfl, S3, B3, d1, d2, hq1, hq2⟩ := (hM1 _ _).1 hm
    walk_at "sx"
    have F3 := B3.fr
    refine ⟨size_le (by decide), ?_⟩
    intro p1 hp1; generalize e1 : upd _ p1 _ = H4
    obtain ⟨S4, F4, t1⟩ := new_tup (K := K) F3 hp1 e1 (.cons .non (.cons .non .nil))
    refine ⟨size_le (by decide), ?_⟩
    intro p2 hp2; generalize e2 : upd _ p2 _ = H5
    obtain ⟨S5, F5, t2⟩ := new_tup (K := K) F4 hp2 e2 (.cons (dp_same (dl_same S4) d1) (.cons .non .nil))
    refine ⟨size_le (by decide), ?_⟩
    intro p3 hp3; generalize e3 : upd _ p3 _ = H6
    obtain ⟨S6, F6, t3⟩ := new_tup (K := K) F5 hp3 e3 (.cons .non (.cons (dp_same (dl_same (S4.trans S5)) d2) .nil))
    refine ⟨size_le (by decide), ?_⟩
    intro p4 hp4; generalize e4 : upd _ p4 _ = H7
    obtain ⟨S7, F7, t4⟩ := new_tup (K := K) F6 hp4 e4 (.cons (dp_same (dl_same ((S4.trans S5).trans S6)) d1) (.cons (dp_same (dl_same ((S4.trans S5).trans S6)) d2) .nil))
    refine ⟨size_le (by decide), ?_⟩
    intro p5 hp5; generalize e5 : upd _ p5 _ = H8
    have S37 := ((S4.trans S5).trans S6).trans S7
    obtain ⟨S8, F8, t5⟩ := new_tup (K := K) F7 hp5 e5 (.cons (dp_same (dl_same S37) d1) (.cons (dp_same (dl_same S37) d1) .nil))
    refine ⟨size_le (by decide), ?_⟩
    intro p6 hp6; generalize e6 : upd _ p6 _ = H9
    have S38 := S37.trans S8
    obtain ⟨S9, F9, t6⟩ := new_lst (K := K) F8 hp6 e6 (.cons (dp_same (dl_same (((S5.trans S6).trans S7).trans S8)) t1) (.cons (dp_same (dl_same ((S6.trans S7).trans S8)) t2) (.cons (dp_same (dl_same (S7.trans S8)) t3) (.cons (dp_same (dl_same S8) t4) (.cons t5 .nil)))))
    refine rd_take (B3.same (S38.trans S9)) (by omega) (by decide) (by decide) fun i H10 i0 i1 B10 S10 => ?_
    obtain ⟨p, xs, e, hl, hxs⟩ := dp_lst (dp_same S10.d3 t6)
    cases e
    have hlx := dps_len hxs
    obtain ⟨x, hx1, hx2⟩ := atI_lt (xs := xs) i0 (by rw [hlx]; simpa using i1)
    obtain ⟨d, hd1, hd2⟩ := dps_get hxs hx2
    have he : ∃ lo hi, d = .tuple [lo, hi] ∧ lawEnd lo ∧ lawEnd hi := by
      have := List.mem_of_getElem? hd1
      have l1 : lawEnd (ratD q1) := .inr ⟨q1, rfl, hq1⟩
      have l2 : lawEnd (ratD q2) := .inr ⟨q2, rfl, hq2⟩
      have l0 : lawEnd .none := .inl rfl
      simp only [List.mem_cons, List.not_mem_nil, or_false] at this
      rcases this with rfl | rfl | rfl | rfl | rfl
      · exact ⟨_, _, rfl, l0, l0⟩
      · exact ⟨_, _, rfl, l1, l0⟩
      · exact ⟨_, _, rfl, l0, l2⟩
      · exact ⟨_, _, rfl, l1, l2⟩
      · exact ⟨_, _, rfl, l1, l1⟩
    obtain ⟨lo, hi, rfl, hlo, hhi⟩ := he
    obtain ⟨b, ys, rfl, hb, hys⟩ := dp_tup hd2
    obtain ⟨y1, y2, rfl, k1, k2⟩ := dps_2 hys
    refine rd_ixL' (seqL_up hl) hx1 ?_
    walk_at "sx"
    refine rd_ixT (seqT_up hb) rfl (rd_ixT (seqT_up hb) rfl ⟨size_le (by decide), ?_⟩)
    intro p7 hp7; generalize e7 : upd _ p7 _ = H11
    obtain ⟨S11, F11, t7⟩ := new_tup (K := K) (ds := [tD l, lo, hi]) B10.fr hp7 e7 (.cons (.str _) (.cons k1 (.cons k2 .nil)))
    exact kp _ _ _ ⟨l, lo, hi, rfl, rfl, hlo, hhi⟩ (((S3.trans (.of (S38.trans S9))).trans S10).trans (.of S11)) ((B10.same S11).mono (by omega)) t7
end
end My
namespace My
open PySem PySem.Spec PyProof.Rows L2
local macro_rules | `(tactic| walk_at "sx") => `(tactic| first | (simp only [cx_K, tB, iRng1, iRng2, iRng3, iList, iTup, wAs, tXf, tDictZip, tDGet1, rInD, rInT, tChain, tUn, rU, tCallS, WE, wOnly, tSl, tPart, tNoPart, tRevL, tStepL, tM0, tM1, wipe, tYes, Bool.not_eq_true', gCons, gNil, decide_eq_false_iff_not, tCall, tPar, tAndV, tOrV, tNotV, tIf, List.append_nil, rEq, rNe, scal_ii, scal_ss, scal_bb, scal_nn, scal_in, scal_ni, scal_sn, scal_ns, scal_is, scal_si, Bool.and_true, Bool.true_and, Bool.and_false, Bool.false_and, reduceCtorEq, tLst, tTup, Int.reduceToNat, decide_true, decide_false, Bool.not_true, Bool.not_false, Bool.false_eq_true, if_true, if_false, reduceIte, gSub, tAnd, tOr, tNot, tBM, tBM0, tNext, tSeq, tAsg, tOp, rI, rI0, tVar, tC, gName, tRet, tCB, tCons, tNil, tTest, tIfS, tDrop, L2.start, List.map_cons, List.map_nil, List.length_cons, List.length_nil, List.cons_append, List.nil_append, List.replicate, List.getElem?_cons_zero, List.getElem?_cons_succ, List.set_cons_zero, List.set_cons_succ, Option.some.injEq, V.int.injEq, V.str.injEq, V.bl.injEq, V.ref.injEq, exists_eq_left', exists_eq_left, exists_and_left, exists_eq', and_assoc, List.cons.injEq, and_true, true_and, decide_eq_true_eq, Nat.reduceAdd, Nat.reduceSub]) | skip)
local macro_rules | `(tactic| walk_at "isi") => `(tactic| first | (simp only [isi_none_int, isi_none_bool, isi_none_str, isi_none_list, isi_none_tuple, isi_bool_int, isi_bool_bool, isi_bool_str, isi_bool_list, isi_bool_tuple, isi_int_int, isi_int_bool, isi_int_str, isi_int_list, isi_int_tuple, isi_str_int, isi_str_bool, isi_str_str, isi_str_list, isi_str_tuple, isi_list_int, isi_list_bool, isi_list_str, isi_list_list, isi_list_tuple, isi_tuple_int, isi_tuple_bool, isi_tuple_str, isi_tuple_list, isi_tuple_tuple, isInt_none, isInt_bool, isInt_int, isInt_str, isInt_list, isInt_tuple]) | skip)
def preSh (ds : List PyData) : Prop := ∃ xs : List (List Nat), ds = [.list (xs.map tD)] ∧ xs.length ≤ 100
def R_shuffled (ds : List PyData) (r : PyData) : Prop := ∃ xs ys : List (List Nat), ds = [.list (xs.map tD)] ∧ r = .list (ys.map tD) ∧ ys.length = xs.length ∧ ∀ y ∈ ys, y ∈ xs
def spNames : Sp := fun vs H Q _ => ∃ (a g s : Addr) (n m : Nat), vs = [.ref a, .int m] ∧ Bx H a g s n ∧ n + 200 ≤ 100000000 ∧ m ≤ 20 ∧
  ∀ (ns : List (List Nat)) (l : Addr) (H' : Hp), ns.length = m → (∀ y ∈ ns, isNameL y = true) → SameB [a, g] H H' → Bx H' a g s (n + 200) → l ∉ [a, g, s] → H' l = some (.lst ((ns.map tx).map V.str)) → Q (.ref l) H'
theorem any_strs (ns : List (List Nat)) (cs : List Nat) : (ns.any ((fun y => eqV y (V.str (tx cs))) ∘ (V.str ∘ tx))) = decide (cs ∈ ns) := by
  induction ns with
  | nil => rfl
  | cons x ns ih =>
    rw [List.any_cons, ih]
    show ((tx x == tx cs) || decide (cs ∈ ns)) = _
    rw [SX.S_beq_eq, ← Bool.decide_or]
    refine decide_eq_decide.mpr ?_
    rw [List.mem_cons, eq_comm (a := x)]
theorem flat_one : ∀ cs : List Nat, (cs.map fun c => [c]).flatten = cs
  | [] => rfl
  | c :: cs => by rw [List.map_cons, List.flatten_cons, flat_one cs]; rfl
def lowL : List Nat := [97, 98, 99, 100, 101, 102, 103, 104, 105, 106, 107, 108, 109, 110, 111, 112, 113, 114, 115, 116, 117, 118, 119, 120, 121, 122]
theorem free_low (ns : List (List Nat)) (h : ns.length ≤ 20) : ∃ c ∈ lowL, [c] ∉ ns := by
  refine Classical.byContradiction fun hno => ?_
  have hall : (lowL.map fun c => [c]) ⊆ ns := fun x hx => by
    obtain ⟨c, hc, rfl⟩ := List.mem_map.mp hx
    exact Classical.byContradiction fun hn => hno ⟨c, hc, hn⟩
  have hl := List.Nodup.length_le_of_subset (show (lowL.map fun c => [c]).Nodup by decide) hall
  rw [List.length_map] at hl
  have : lowL.length = 26 := rfl
  omega
theorem er_map {α β : Type} (f : α → β) : ∀ (l : List α) (k : Nat), (l.map f).eraseIdx k = (l.eraseIdx k).map f
  | [], _ => rfl
  | _ :: _, 0 => rfl
  | x :: l, k + 1 => by simp [List.eraseIdx, er_map f l k]
section
variable {P : Program} {w : World} {K : PySem.W.Frag} {mg : Str → Option Value} {base : Heap} {aW aB C : Addr} {ps : List Str}
theorem sc_shuffled : FnScope ["_law_box_here", "_law_things", "_law_pile", "_law_k"] ["_law_box_here", "_law_things"] (defScope s_shuffled) := ⟨rfl, rfl, rfl, by decide +kernel, rfl, by decide +kernel, by decide +kernel⟩
theorem ok_shuffled (T : Txt K mg aW aB) (F : Dfn K mg "_law_shuffled" s_shuffled) (R_take : Rdy P w K mg base CX0 2 "_law_take" ["_law_box_here", "_law_size"] spTake) :
    Rdy P w K mg base CX0 3 "_law_shuffled" ["_law_box_here", "_law_things"] (spB K 100 preSh R_shuffled) := by
  refine F.rdy sc_shuffled (fun _ _ _ _ _ _ us hl => match us, hl with | [_, _], _ => rfl) (spB_len (by rintro _ ⟨_, rfl, _⟩; rfl)) (fun f cdv A outer s H vs Q E hr h => ?_)
  obtain ⟨a, g, s', n, ws, ds, rfl, hB, hn, hd, ⟨xs, rfl, hxl⟩, kp⟩ := h
  obtain ⟨x, rfl, hx⟩ := dps_1 hd
  obtain ⟨b, ys, rfl, hb, hys⟩ := dp_lst hx
  refine ⟨_, (pss_cons (ps_set (i := 2) sc_shuffled.nd rfl (Or.inr rfl) (pe_callTy call_list_of (by rfl) T.b_list (by decide +kernel) (pa_cons (pv 1) pa_nil)))
      (pss_one (ps_ret (pe_lc (own := [("_law_k", 3)]) (g := (gName 3)) (tt := tYes) rfl sc_shuffled.nd (pi_range1 (by rfl) T.b_range (pa_cons (pe_callB call_len (by rfl) T.b_len PySem.boot_len (pa_cons (pv 2) pa_nil)) pa_nil)) (blkOk_by (N := ["_law_box_here", "_law_things", "_law_pile", "_law_k"]) (sc := defScope s_shuffled) (by decide +kernel)) (fun _ _ _ _ _ => (pg_name (i := 3) sc_shuffled.nd rfl (Or.inl rfl))) (fun _ _ _ _ _ => pts_nil) (fun _ _ _ _ _ => (pe_bmK PySem.F.plainAttrs_list PySem.F.slot_list_pop PySem.F.type_list_pop mt_popAt (pv 2) (pa_cons (pe_cl R_take (hr.mono (by decide)) pass0 (pa_cons (pv 0) (pa_cons (pe_callB (callK (K := K) (fun K xs H Q => ∃ x n, xs = [x] ∧ LenV K x H n ∧ Q (.int n) H) call_len) (by rfl) T.b_len PySem.boot_len (pa_cons (pv 2) pa_nil)) pa_nil))) pa_nil))))))), ?_⟩
  walk_at "sx"
  rw [show xs.map tD = (xs.map tx).map PyData.str by simp] at hys
  obtain rfl := dps_strs hys
  refine ⟨_, .inl (seqL_up hb), ?_⟩
  intro D0 hD0; generalize e0 : upd _ D0 _ = H1
  obtain ⟨S1, hp0⟩ := new_of hD0 e0
  have B1 := hB.same S1
  have hD0n : D0 ∉ [a, g, s'] := hB.fr.new hD0
  have nD := hD0n
  simp only [List.mem_cons, List.not_mem_nil, or_false, not_or] at nD
  refine rd_lc fun R hR => ?_
  walk_at "sx"
  refine rd_lenL (SqL.of hp0) ?_
  rw [List.length_map, List.length_map]
  have hsub : ∀ x ∈ [D0, a, g], x ∈ [D0, a, g, s'] := fun x hx => by simp at hx ⊢; rcases hx with h | h | h <;> simp [h]
  obtain ⟨Rr, hRr⟩ : ∃ Rr : Nat → List PyData → Hp → Prop, ∀ i ds H2, Rr i ds H2 ↔ ∃ rest out : List (List Nat), H2 D0 = some (.lst ((rest.map tx).map V.str)) ∧ rest.length + i = xs.length ∧ (∀ p ∈ rest, p ∈ xs) ∧ ds = out.map tD ∧ out.length = i ∧ (∀ p ∈ out, p ∈ xs) ∧ Bx H2 a g s' (n + i) := ⟨_, fun _ _ _ => Iff.rfl⟩
  refine ⟨by omega, by omega, hR _ _ fun D hD => lc_gen K [D0, a, g] hsub walk_range (B1.fr.cons hp0) hD Rr
    (fun H2 S2 => (hRr _ _ _).2 ⟨xs, [], S2 _ _ hp0, rfl, fun _ h => h, rfl, rfl, fun _ h => (by cases h), (B1.same S2)⟩) (fun _ _ => trivial) (fun i x vals acc H2 H' hi hn2 hv hd2 hle sb fr hR2 hY => ?_) fun ds H2 sb fr hd2 hle hR2 => ?_⟩
  · obtain ⟨rest, out, hr1, hr2, hr3, rfl, hr5, hr6, B2⟩ := (hRr _ _ _).1 hR2
    obtain ⟨rfl, rfl⟩ := hY
    walk_at "sx"
    refine ⟨.inl ⟨rfl, _, SqL.of hr1⟩, ?_⟩
    refine rd_lenL (SqL.of hr1) ?_
    rw [List.length_map, List.length_map]
    refine rd_take B2 (by omega) (by omega) (by omega) fun k H3 k0 k1 B3 S3 => ?_
    have hr1' := S3.at hr1 (fun z => hD0n (two_in _ z))
    have hkl : k.toNat < rest.length := by omega
    refine rd_popAt (k := k.toNat) (y := .str (tx rest[k.toNat])) hr1' (by omega) (by omega) (seqIndex_of k0 (by simp; omega)) (by simp [hkl]) fun H4 S4 hq4 => ?_
    have hmem := hr3 _ (List.getElem_mem hkl)
    refine lc_put hsub hD hn2 hv hd2 hle (by simp at hi; omega) sb ((S3.mono (by simp)).trans (S4.mono (by simp))) (fun b hb => ?_) (.str (tx rest[k.toNat])) fun H5 s5 f5 => ?_
    · rcases List.mem_cons.mp hb with h | h
      · subst h; exact ⟨_, hq4⟩
      · obtain ⟨o, ho⟩ := B3.fr b h
        exact ⟨o, S4.at ho (by simp; rintro rfl; exact hD0n h)⟩
    · simp only [List.mem_cons, List.not_mem_nil, or_false, not_or] at hn2
      refine (hRr _ _ _).2 ⟨rest.eraseIdx k.toNat, out ++ [rest[k.toNat]], ?_, ?_, fun p hp => hr3 p (List.mem_of_mem_eraseIdx hp), by simp, by simp [hr5], ?_, ?_⟩
      · rw [s5.at hq4 (by simpa using Ne.symm hn2.1)]
        rw [er_map, er_map]
      · rw [List.length_eraseIdx_of_lt hkl]; omega
      · intro p hp
        rcases List.mem_append.mp hp with hp | hp
        · exact hr6 p hp
        · rw [List.mem_singleton] at hp; subst hp; exact hmem
      · have B4 := B3.sameB S4 (by simpa using Ne.symm nD.1) (by simpa using Ne.symm nD.2.1) (by simpa using Ne.symm nD.2.2)
        exact (B4.sameB s5 (by simpa using Ne.symm hn2.2.1) (by simpa using Ne.symm hn2.2.2.1) (by simpa using Ne.symm hn2.2.2.2)).mono (by omega)
  · obtain ⟨rest, out, hr1, hr2, hr3, rfl, hr5, hr6, B2⟩ := (hRr _ _ _).1 hR2
    have S02 : SameB [a, g] H H2 := SameB.of_new hD0 ((SameB.of (S := [D0, a, g]) S1).trans sb)
    refine kp _ _ _ ⟨xs, out, rfl, rfl, by simp at hr5; omega, hr6⟩ S02 (B2.mono (by simp; omega)) ?_
    exact dp_same (dl_mono fun x hx => List.mem_cons_of_mem _ hx) hd2
theorem sc_names : FnScope ["_law_box_here", "_law_many", "_law_letters", "_law_found", "_law_k", "_law_size", "_law_name", "_law_j", "_law_one"] ["_law_box_here", "_law_many"] (defScope s_names) := ⟨rfl, rfl, rfl, by decide +kernel, rfl, by decide +kernel, by decide +kernel⟩
theorem ok_names (T : Txt K mg aW aB) (F : Dfn K mg "_law_names" s_names) (R_take : Rdy P w K mg base CX0 2 "_law_take" ["_law_box_here", "_law_size"] spTake) :
    Rdy P w K mg base CX0 3 "_law_names" ["_law_box_here", "_law_many"] spNames := by
  refine F.rdy sc_names (fun _ _ _ _ _ _ us hl => match us, hl with | [_, _], _ => rfl) (by rintro _ _ _ _ ⟨_, _, _, _, _, rfl, _⟩; rfl) (fun f cdv A outer s H vs Q E hr h => ?_)
  obtain ⟨a, g, s', n, m, rfl, hB, hn, hm, kp⟩ := h
  refine ⟨_, (pss_cons (ps_set (i := 2) sc_names.nd rfl (Or.inr rfl) pe_str)
      (pss_cons (ps_set (i := 3) sc_names.nd rfl (Or.inr rfl) (pe_lst pa_nil))
      (pss_cons (ps_for PassesOwn.never rfl (pi_range1 (by rfl) T.b_range (pa_cons (pv 1) pa_nil)) (pg_name (i := 4) sc_names.nd rfl (Or.inl rfl))
      (pss_cons (ps_set (i := 5) sc_names.nd rfl (Or.inl rfl) (pe_op op_add pe_int (pe_cl R_take (hr.mono (by decide)) pass0 (pa_cons (pv 0) (pa_cons (pe_ix ix_list (pe_lst (pa_cons pe_int (pa_cons pe_int (pa_cons pe_int pa_nil)))) (pe_cl R_take (hr.mono (by decide)) pass0 (pa_cons (pv 0) (pa_cons pe_int pa_nil))) (fun _ _ => rfl)) pa_nil)))))
      (pss_cons (ps_set (i := 6) sc_names.nd rfl (Or.inl rfl) (pe_join pe_str (pe_lc (own := [("_law_j", 7)]) (g := (gName 7)) (tt := tYes) rfl sc_names.nd (pi_range1 (by rfl) T.b_range (pa_cons (pv 5) pa_nil)) (blkOk_by (N := ["_law_box_here", "_law_many", "_law_letters", "_law_found", "_law_k", "_law_size", "_law_name", "_law_j", "_law_one"]) (sc := defScope s_names) (by decide +kernel)) (fun _ _ _ _ _ => (pg_name (i := 7) sc_names.nd rfl (Or.inl rfl))) (fun _ _ _ _ _ => pts_nil) (fun _ _ _ _ _ => (pe_ix ix_str (pv 2) (pe_cl R_take (hr.mono (by decide)) pass0 (pa_cons (pv 0) (pa_cons pe_int pa_nil))) (fun _ _ => rfl))))))
      (C8.pss_cut (ps_if (pt_cmpR op_in_seq (pv 6) (pe_op op_cat (pv 3) (pe_lst (pa_cons pe_str (pa_cons pe_str pa_nil)))) (by rfl)) (pss_one (ps_set (i := 6) sc_names.nd rfl (Or.inl rfl) (pe_ix ix_list (pe_lc (own := [("_law_one", 8)]) (g := (gName 8)) rfl sc_names.nd (pi_str (pv 2)) (blkOk_by (N := ["_law_box_here", "_law_many", "_law_letters", "_law_found", "_law_k", "_law_size", "_law_name", "_law_j", "_law_one"]) (sc := defScope s_names) (by decide +kernel)) (fun _ _ _ _ _ => (pg_name (i := 8) sc_names.nd rfl (Or.inl rfl))) (fun _ _ _ _ _ => (pts_one (pt_cmpR (opK (K := K) (fun K => rIn K true) op_notIn_seq) (pv 8) (pv 3) (by rfl)))) (fun _ _ _ _ _ => (pv 8))) pe_int (fun _ _ => rfl)))) pss_nil)
      (pss_one (ps_expr (pe_bm PySem.F.plainAttrs_list PySem.F.slot_list_append PySem.F.type_list_append mt_append (pv 3) (pa_cons (pv 6) pa_nil))))))))
      (pss_one (ps_ret (pv 3)))))), ?_⟩
  walk_at "sx"
  refine ⟨size_le (by decide), ?_⟩
  intro D0 hD0; generalize e0 : upd _ D0 _ = H1
  obtain ⟨S1, hp0⟩ := new_of hD0 e0
  have B1 := hB.same S1
  have hD0n : D0 ∉ [a, g, s'] := hB.fr.new hD0
  have nD := hD0n
  simp only [List.mem_cons, List.not_mem_nil, or_false, not_or] at nD
  obtain ⟨Pv, hPv⟩ : ∃ Pv : Nat → L2.St → Hp → Prop, ∀ i σ H2, Pv i σ H2 ↔ ∃ (ns : List (List Nat)) (t1 t2 t3 : Option V), σ = [some (.ref a), some (.int m), some (.str (Str.ofString "abcdefghijklmnopqrstuvwxyz")), some (.ref D0), t1, t2, t3, none, none] ∧ H2 D0 = some (.lst ((ns.map tx).map V.str)) ∧
    ns.length = i ∧ (∀ y ∈ ns, isNameL y = true) ∧ SameB [D0, a, g] H H2 ∧ Bx H2 a g s' (n + 10 * i) := ⟨_, fun _ _ _ => Iff.rfl⟩
  refine rd_for fun R hR => ?_
  walk_at "sx"
  refine ⟨by omega, by omega, hR _ _ (for_it walk_range Pv ?_ (fun _ _ _ _ _ => trivial) (fun i x σ H2 H' hi hp hy => ?_) fun σ H2 hp => ?_)⟩
  · exact (hPv _ _ _).2 ⟨[], none, none, none, rfl, hp0, rfl, fun _ h => (by cases h), .of S1, B1⟩
  · obtain ⟨ns, t1, t2, t3, rfl, hv, hnl, hns, sd, B2⟩ := (hPv _ _ _).1 hp
    obtain ⟨rfl, rfl⟩ := hy
    have him : i < m := by omega
    walk_at "sx"
    refine ⟨size_le (by decide), ?_⟩
    intro p1 hp1; generalize e1 : upd _ p1 _ = H3
    obtain ⟨S3, hp1'⟩ := new_of hp1 e1
    have B3 := B2.same S3
    refine rd_take B3 (by omega) (by decide) (by decide) fun k H4 k0 k1 B4 S4 => ?_
    have hp4 := S4.at hp1' (B2.np hp1)
    obtain ⟨x, hx1, hx2⟩ := atI_map (xs := [(1 : Int), 2, 8]) (g := V.int) k0 (by simpa using k1)
    have hxr : 1 ≤ x ∧ x ≤ 8 := by
      have := List.mem_of_getElem? hx1
      simp at this
      omega
    refine rd_ixL hp4 hx2 ?_
    refine rd_take B4 (by omega) hxr.1 (by omega) fun r H5 r0 r1 B5 S5 => ⟨_, rfl, ?_⟩
    have hv5 := S5.at (S4.at (S3 _ _ hv) (fun z => hD0n (two_in _ z))) (fun z => hD0n (two_in _ z))
    have S25 : SameB [a, g] H' H5 := ((SameB.of S3).trans S4).trans S5
    refine rd_lc fun R2 hR2 => ?_
    walk_at "sx"
    obtain ⟨Rr, hRr⟩ : ∃ Rr : Nat → List PyData → Hp → Prop, ∀ j ds H2, Rr j ds H2 ↔ ∃ cs : List Nat, ds = cs.map (fun c => tD [c]) ∧ cs.length = j ∧ cs.all isLow = true ∧ Bx H2 a g s' (n + 10 * i + 2 + j) := ⟨_, fun _ _ _ => Iff.rfl⟩
    refine ⟨by omega, by omega, hR2 _ _ fun D hD => lc_gen K [a, g] two_in walk_range B5.fr hD Rr (fun H2 S2 => (hRr _ _ _).2 ⟨[], rfl, rfl, rfl, B5.same S2⟩) (fun _ _ => trivial) (fun j x vals acc H6 H7 hj hn2 hv2 hd2 hle sb fr hR3 hY => ?_) fun ds H6 sb fr hd2 hle hR3 => ?_⟩
    · obtain ⟨cs, rfl, hcl, hlow, B6⟩ := (hRr _ _ _).1 hR3
      obtain ⟨rfl, rfl⟩ := hY
      walk_at "sx"
      refine rd_take B6 (by omega) (by decide) (by decide) fun k2 H8 k20 k21 B8 S8 => ?_
      obtain ⟨c, hc1, hc2⟩ := atI_lt (xs := (Str.ofString "abcdefghijklmnopqrstuvwxyz").cps.toList) k20 (by rw [show (Str.ofString "abcdefghijklmnopqrstuvwxyz").cps.toList.length = 26 by decide +kernel]; exact k21)
      have hcl2 : isLow c = true := by rw [← in_low]; exact decide_eq_true (List.mem_of_getElem? hc2)
      refine ⟨_, _, c, rfl, rfl, size_le (by decide +kernel), hc1, ?_⟩
      refine lc_put two_in hD hn2 hv2 hd2 hle (by omega) sb S8 B8.fr (.str _) fun H9 s9 f9 => ?_
      simp only [List.mem_cons, List.not_mem_nil, or_false, not_or] at hn2
      exact (hRr _ _ _).2 ⟨cs ++ [c], by simp, by simp [hcl], by simp [hlow, hcl2], (B8.sameB s9 (by simpa using Ne.symm hn2.1) (by simpa using Ne.symm hn2.2.1) (by simpa using Ne.symm hn2.2.2)).mono (by omega)⟩
    · obtain ⟨cs, rfl, hcl, hlow, B6⟩ := (hRr _ _ _).1 hR3
      obtain ⟨p, ys, e, hs, hys⟩ := dp_lst hd2
      cases e
      rw [show (cs.map fun c => tD [c]) = ((cs.map fun c => [c]).map tx).map PyData.str by simp] at hys
      obtain rfl := dps_strs hys
      have hjoin : Txt.join (Str.ofString "") ((cs.map fun c => [c]).map tx) = tx cs := by
        rw [lit_, join_flat, flat_one]
      have hcs : cs.length ≤ 8 ∧ 1 ≤ cs.length := by omega
      refine ⟨_, rfl, _, .inl (seqL_up hs), ?_, ?_⟩
      · rw [lens_tx, lit_, tx_len]
        have := sum_le 1 (cs.map fun c => [c]) (by intro x hx; obtain ⟨c, _, rfl⟩ := List.mem_map.mp hx; simp)
        rw [List.length_map] at this
        rw [List.length_map, List.length_map]
        have h2 : ((cs.map fun c => [c]).map fun x => x.length).sum = ((cs.map fun c => [c]).map List.length).sum := rfl
        rw [h2]
        simp only [List.length_nil]
        omega
      rw [hjoin]
      have hv6 := sb.at hv5 (fun z => hD0n (two_in _ z))
      have sd6 : SameB [D0, a, g] H H6 := sd.trans ((S25.trans sb).mono fun x hx => List.mem_cons_of_mem _ hx)
      obtain ⟨Mid, hM⟩ : ∃ M : L2.St → Hp → Prop, ∀ σ H7, M σ H7 ↔ ∃ (nm : List Nat) (t1 t2 : Option V), σ = [some (.ref a), some (.int m), some (.str (Str.ofString "abcdefghijklmnopqrstuvwxyz")), some (.ref D0), t1, t2, some (.str (tx nm)), none, none] ∧ isNameL nm = true ∧ Same H6 H7 := ⟨_, fun _ _ => Iff.rfl⟩
      refine ⟨Mid, ?_, fun σ H7 hm7 => ?_⟩
      · clear hPv kp hRr
        walk_at "sx"
        refine ⟨size_le (by decide), ?_⟩
        intro p7 hp7; generalize e7 : upd _ p7 _ = H7
        obtain ⟨S7, hq7⟩ := new_of hp7 e7
        refine rd_cat (S7 _ _ hv6) hq7 (by simp; omega) fun p8 H8 hp8 S8 hq8 => ?_
        refine ⟨p8, _, rfl, .inl (SqL.of hq8), rfl, by simp [flatV], ?_⟩
        have hin : inV (V.str (tx cs)) ((ns.map tx).map V.str ++ [V.str (Str.ofString "sum"), V.str (Str.ofString "average")]) = (decide (cs ∈ ns) || (decide (cs = cSum) || decide (cs = cAvg))) := by
          unfold inV
          rw [List.any_append, List.map_map, List.any_map, any_strs]
          congr 1
          show ((Str.ofString "sum" == tx cs) || ((Str.ofString "average" == tx cs) || false)) = _
          rw [Bool.or_false, show Str.ofString "sum" = tx cSum by decide +kernel, show Str.ofString "average" = tx cAvg by decide +kernel, SX.S_beq_eq, SX.S_beq_eq, decide_eq_decide.mpr (eq_comm (a := cSum)), decide_eq_decide.mpr (eq_comm (a := cAvg))]
        refine ⟨_, rfl, ?_⟩
        rw [if_neg Bool.false_ne_true, hin]
        split
        · -- a letter that is free
          have S68 := S7.trans S8
          refine rd_lc fun R3 hR3 => ?_
          have hv8 := S68 _ _ hv6
          have B8 := B6.same S68
          have eL : (Str.ofString "abcdefghijklmnopqrstuvwxyz").cps.toList = lowL := by decide +kernel
          refine ⟨_, rfl, _, rfl, hR3 _ _ fun D2 hD2 => lc_gen K [] no_mem (walk_str (z := Str.ofString "abcdefghijklmnopqrstuvwxyz")) B8.fr hD2 (fun j ds H => ds = ((lowL.take j).filter fun c => !decide ([c] ∈ ns)).map fun c => tD [c]) (fun _ _ => by simp) (fun _ _ => trivial) (fun j x vals acc H9 H10 hj hn2 hv2 hd2 hle sb2 fr2 hR4 hY => ?_) fun ds H9 sb2 fr2 hd2 hle hR4 => ?_⟩
          · obtain ⟨rfl, c, hc, rfl⟩ := hY
            have hc' : lowL[j]? = some c := by rw [← eL]; simpa using hc
            have hjl : j < 26 := (List.getElem?_eq_some_iff.mp hc').1
            walk_at "sx"
            have hv9 := sb2.nil _ _ hv8
            refine ⟨D0, _, rfl, .inl (SqL.of hv9), rfl, by simp [flatV], ?_⟩
            refine ⟨_, rfl, ?_⟩
            rw [if_pos rfl, show inV (V.str { cps := #[c] }) ((ns.map tx).map V.str) = decide ([c] ∈ ns) by unfold inV; rw [List.map_map, List.any_map]; exact any_strs ns [c]]
            split
            · rename_i hfree
              refine lc_put no_mem hD2 hn2 hv2 hd2 hle (by omega) sb2 .refl fr2 (.str (tx [c])) fun H11 s11 f11 => ?_
              rw [hR4, List.take_add_one, hc', List.filter_append]
              simp only [Option.toList_some, List.filter_cons, hfree, if_true, List.filter_nil, List.map_append, List.map_cons, List.map_nil]
            · rename_i hfree
              refine lc_skip no_mem hn2 hv2 hd2 hle sb2 .refl fr2 ?_
              rw [hR4, List.take_add_one, hc', List.filter_append]
              simp only [Option.toList_some, List.filter_cons, hfree, List.filter_nil, List.append_nil]
              simp
          · rw [show (Str.ofString "abcdefghijklmnopqrstuvwxyz").cps.size = 26 by decide +kernel, show lowL.take 26 = lowL from rfl] at hR4
            obtain ⟨c, hc1, hc2⟩ := free_low ns (by omega)
            obtain ⟨p9, zs, e, hzs, hzd⟩ := dp_lst hd2
            cases e
            have hfl : (lowL.filter fun c => !decide ([c] ∈ ns)) ≠ [] := by
              intro z
              have : c ∈ lowL.filter fun c => !decide ([c] ∈ ns) := List.mem_filter.mpr ⟨hc1, by simp [hc2]⟩
              rw [z] at this
              cases this
            cases hff : lowL.filter fun c => !decide ([c] ∈ ns) with
            | nil => exact absurd hff hfl
            | cons c0 cr =>
              rw [hff, List.map_cons] at hR4
              subst hR4
              obtain ⟨z0, zr, rfl, hz0, _⟩ := dps_cons hzd
              cases dp_str hz0
              refine rd_ixL' (seqL_up hzs) (show atI (V.str (tx [c0]) :: zr) ((0 : Nat) : Int) = some (V.str (tx [c0])) from atI_nat rfl) ?_
              refine (hM _ _).2 ⟨[c0], _, _, rfl, ?_, S68.trans sb2.nil⟩
              have hm0 : c0 ∈ lowL := by
                have : c0 ∈ lowL.filter fun c => !decide ([c] ∈ ns) := by rw [hff]; simp
                exact (List.mem_filter.mp this).1
              exact (show ∀ c ∈ lowL, isNameL [c] = true by decide) c0 hm0
        · rename_i hni
          refine (hM _ _).2 ⟨cs, _, _, rfl, ?_, S7.trans S8⟩
          simp only [Bool.or_eq_true, decide_eq_true_eq, not_or] at hni
          unfold isNameL
          rw [decide_eq_true hcs.2, decide_eq_true hcs.1, decide_eq_false hni.2.1, decide_eq_false hni.2.2, hlow]
          rfl
      · obtain ⟨nm, t1, t2, rfl, hnm, S7⟩ := (hM _ _).1 hm7
        walk_at "sx"
        have hv7 := S7 _ _ hv6
        refine ⟨.inl ⟨rfl, _, SqL.of hv7⟩, ?_⟩
        refine rd_append hv7 (by simp; omega) fun H8 s8 hv8 => ?_
        refine (hPv _ _ _).2 ⟨ns ++ [nm], _, _, _, rfl, by rw [hv8]; simp, by simp [hnl], ?_, (sd6.trans (.of S7)).trans (s8.mono (by simp)), ?_⟩
        · intro y hy
          rcases List.mem_append.mp hy with h | h
          · exact hns y h
          · rw [List.mem_singleton] at h; subst h; exact hnm
        · exact ((B6.same S7).sameB s8 (by simpa using Ne.symm nD.1) (by simpa using Ne.symm nD.2.1) (by simpa using Ne.symm nD.2.2)).mono (by omega)
  · obtain ⟨ns, t1, t2, t3, rfl, hv, hnl, hns, sd, B2⟩ := (hPv _ _ _).1 hp
    walk_at "sx"
    exact kp ns D0 H2 (by omega) hns (SameB.of_new hD0 sd) (B2.mono (by omega)) hD0n hv
end
end My
/-! Law1: the plain law of k91: what is written reads back; bad parts read as None. -/
namespace My
open PySem PySem.Spec PyProof.Rows L2
theorem numL_isDig (n : Nat) : isDigL (numL n) = true := isDigL_iff.mpr ⟨TL.numL_ne n, TL.numL_digits n⟩
theorem numL_no (n : Nat) (c : Nat) (h : c < 48 ∨ 57 < c) : c ∉ numL n := TL.numL_free h
/-- the text of a ratio not below 0 -/
theorem readU_num {n b : Nat} (hb : 1 ≤ b) (hg : Int.gcd (n : Int) (b : Int) = 1) : readU (numL n ++ (if b = 1 then [] else 47 :: numL b)) = some ((n : Int), (b : Int)) := by
  unfold readU
  by_cases h1 : b = 1
  · subst h1
    rw [if_pos rfl, List.append_nil, par_mem.mpr (numL_no n 47 (by decide)), par_mem.mpr (numL_no n 46 (by decide))]
    dsimp only
    rw [if_pos (numL_isDig n), show dVal (numL n) = n from TL.numL_val n, qOf_id (by omega) (by simp)]
    rfl
  · rw [if_neg h1]
    have hp : TL.par [47] [] (numL n ++ 47 :: numL b) = some (numL n, numL b) := SX.par_head (numL b) (numL_no n 47 (by decide))
    rw [hp]
    dsimp only
    rw [if_pos ⟨numL_isDig n, numL_isDig b, by rw [show dVal (numL b) = b from TL.numL_val b]; omega⟩, show dVal (numL n) = n from TL.numL_val n, show dVal (numL b) = b from TL.numL_val b, qOf_id (by omega) hg]
theorem readR_ratL {q : Int × Int} (h : isRatD (ratD q) = true) : readR (ratL q) = some q := by
  obtain ⟨t, b⟩ := q
  simp only [isRatD, Bool.and_eq_true, decide_eq_true_eq] at h
  obtain ⟨hb, hg⟩ := h
  obtain ⟨m, rfl⟩ := Int.eq_ofNat_of_zero_le (show 0 ≤ b by omega)
  have em : ∀ n : Nat, (if ((m : Int)) = 1 then ([] : List Nat) else 47 :: numL ((m : Int)).toNat) = (if m = 1 then [] else 47 :: numL m) := fun _ => by
    by_cases h : m = 1
    · rw [if_pos h, if_pos (by omega)]
    · rw [if_neg h, if_neg (by omega), Int.toNat_natCast]
  unfold ratL
  dsimp only
  rw [em 0]
  by_cases ht : t < 0
  · rw [if_pos ht]
    have e : readR ([45] ++ numL t.natAbs ++ (if m = 1 then [] else 47 :: numL m)) = (readU (numL t.natAbs ++ (if m = 1 then [] else 47 :: numL m))).map fun q => qOf (-1 * q.1) (1 * q.2) := by
      unfold readR
      rw [if_pos (by simp)]
      simp
    have hg2 : Int.gcd ((t.natAbs : Nat) : Int) (m : Int) = 1 := by
      show Nat.gcd ((t.natAbs : Nat) : Int).natAbs ((m : Nat) : Int).natAbs = 1
      rw [Int.natAbs_natCast]
      exact hg
    rw [e, readU_num (by omega) hg2]
    simp only [Option.map_some]
    rw [show (-1 : Int) * ((t.natAbs : Nat) : Int) = t by omega, Int.one_mul, qOf_id hb hg]
  · rw [if_neg ht, List.nil_append]
    obtain ⟨n, rfl⟩ := Int.eq_ofNat_of_zero_le (show 0 ≤ t by omega)
    have e : readR (numL ((n : Int)).natAbs ++ (if m = 1 then [] else 47 :: numL m)) = readU (numL n ++ (if m = 1 then [] else 47 :: numL m)) := by
      rw [Int.natAbs_natCast]
      unfold readR
      rw [if_neg ?_]
      cases hn : numL n with
      | nil => exact absurd hn (TL.numL_ne n)
      | cons c r =>
        simp only [List.cons_append, List.head?_cons, Option.some.injEq]
        rintro rfl
        exact numL_no n 45 (by decide) (by rw [hn]; simp)
    rw [e, readU_num (by omega) hg]
/-- the signs of a number's text -/
theorem ratL_sign {q : Int × Int} {c : Nat} (h : c ∈ ratL q) : c = 45 ∨ c = 47 ∨ (48 ≤ c ∧ c ≤ 57) := by
  unfold ratL at h
  rcases List.mem_append.mp h with h | h
  · rcases List.mem_append.mp h with h | h
    · split at h
      · rw [List.mem_singleton] at h; exact .inl h
      · cases h
    · exact .inr (.inr (TL.numL_digits _ c h))
  · split at h
    · cases h
    · rcases List.mem_cons.mp h with h | h
      · exact .inr (.inl h)
      · exact .inr (.inr (TL.numL_digits _ c h))
theorem ratL_no {q : Int × Int} : 32 ∉ ratL q ∧ 44 ∉ ratL q := ⟨fun h => by have := ratL_sign h; omega, fun h => by have := ratL_sign h; omega⟩
theorem ratL_short {q : Int × Int} (h : lawNum q) : (ratL q).length ≤ 28 := by
  have l1 : (numL q.1.natAbs).length ≤ 13 := TL.numL_len (by decide) (Nat.lt_of_le_of_lt h.2.1 (by decide))
  have l2 : (numL q.2.toNat).length ≤ 13 := TL.numL_len (by decide) (Nat.lt_of_le_of_lt (by have := h.2.2; omega : q.2.toNat ≤ 10 ^ 12) (by decide))
  unfold ratL
  split <;> split <;> simp <;> omega
theorem name_low {l : List Nat} (h : isNameL l = true) : (∀ c ∈ l, 97 ≤ c ∧ c ≤ 122) ∧ 1 ≤ l.length ∧ l.length ≤ 8 := by
  unfold isNameL at h
  simp only [Bool.and_eq_true, decide_eq_true_eq, Bool.not_eq_true', decide_eq_false_iff_not, List.all_eq_true] at h
  refine ⟨fun c hc => ?_, h.1.1.1.1, h.1.1.1.2⟩
  have := h.2 c hc
  unfold isLow at this
  simpa using this
/-- a part that is written: it reads back as d -/
structure Good (way p : List Nat) : Prop where
  no : 44 ∉ p
  ne : p ≠ []
  ok : okT p
  len : p.length ≤ 100
  rd : isNoneD (rdOf way p) = false
theorem spl_words {ws : List (List Nat)} (hne : ws ≠ []) (h : ∀ p ∈ ws, 32 ∉ p) : TL.spl [32] 0 [] (TL.joinL [32] ws) = ws := SX.spl_join hne h
theorem readPair_row {l : List Nat} {q : Int × Int} (hl : isNameL l = true) (hq : isRatD (ratD q) = true) : readPair (l ++ ([32, 61, 32] ++ ratL q)) = .tuple [tD l, ratD q] := by
  have hn := name_low hl
  have e : l ++ ([32, 61, 32] ++ ratL q) = TL.joinL [32] [l, [61], ratL q] := by simp [TL.joinL]
  have es := spl_words (ws := [l, [61], ratL q]) (by simp) (fun p hp => by
    simp only [List.mem_cons, List.not_mem_nil, or_false] at hp
    rcases hp with rfl | rfl | rfl
    · intro z; have := hn.1 32 z; omega
    · decide
    · exact ratL_no.1)
  unfold readPair
  rw [e, es]
  dsimp only
  rw [if_pos ⟨hl, rfl⟩, readR_ratL hq]
theorem step0 : stepL ([] : List (List Nat)) none none (some 2) = [] ∧ stepL ([] : List (List Nat)) (some 1) none (some 2) = [] := ⟨rfl, rfl⟩
theorem step2 (a b : List Nat) : stepL [a, b] none none (some 2) = [a] ∧ stepL [a, b] (some 1) none (some 2) = [b] := by
  unfold stepL
  rw [show [a, b].length = 2 from rfl, show stepIx 2 none none (some 2) = [0] by decide, show stepIx 2 (some 1) none (some 2) = [1] by decide]
  exact ⟨rfl, rfl⟩
theorem step4 (a b c d : List Nat) : stepL [a, b, c, d] none none (some 2) = [a, c] ∧ stepL [a, b, c, d] (some 1) none (some 2) = [b, d] := by
  unfold stepL
  rw [show [a, b, c, d].length = 4 from rfl, show stepIx 4 none none (some 2) = [0, 2] by decide, show stepIx 4 (some 1) none (some 2) = [1, 3] by decide]
  exact ⟨rfl, rfl⟩
theorem readLimit_lim {l : List Nat} {lo hi : PyData} (hl : isNameL l = true) (hlo : lawEnd lo) (hhi : lawEnd hi) : readLimit (limL (.tuple [tD l, lo, hi])) = .tuple [tD l, lo, hi] := by
  have hn := name_low hl
  have nl : 32 ∉ l := fun z => by have := hn.1 32 z; omega
  have erl : limL (.tuple [tD l, lo, hi]) = l ++ (endL cFrom lo ++ endL cTo hi) := rfl
  have eF : ∀ q : Int × Int, endL cFrom (ratD q) = 32 :: (cFrom ++ 32 :: ratL q) := fun q => rfl
  have eT : ∀ q : Int × Int, endL cTo (ratD q) = 32 :: (cTo ++ 32 :: ratL q) := fun q => rfl
  have e0 : ∀ k, endL k .none = [] := fun k => rfl
  have nf : 32 ∉ cFrom := by decide
  have nt : 32 ∉ cTo := by decide
  have nr : ∀ q : Int × Int, 32 ∉ ratL q := fun q => ratL_no.1
  rw [erl]
  rcases hlo with rfl | ⟨p, rfl, hp⟩ <;> rcases hhi with rfl | ⟨q, rfl, hq⟩
  · rw [e0, e0]
    have e : l ++ ([] ++ []) = TL.joinL [32] [l] := by simp [TL.joinL]
    have es := spl_words (ws := [l]) (by simp) (fun p hp => by simp only [List.mem_cons, List.not_mem_nil, or_false] at hp; subst hp; exact nl)
    unfold readLimit
    rw [e, es]
    dsimp only
    rw [step0.1, step0.2, if_pos ⟨hl, by simp [bounds], rfl, rfl⟩]
    rfl
  · rw [e0, eT]
    have e : l ++ ([] ++ (32 :: (cTo ++ 32 :: ratL q))) = TL.joinL [32] [l, cTo, ratL q] := by simp [TL.joinL]
    have es := spl_words (ws := [l, cTo, ratL q]) (by simp) (fun p hp => by simp only [List.mem_cons, List.not_mem_nil, or_false] at hp; rcases hp with rfl | rfl | rfl; exact nl; exact nt; exact nr q)
    unfold readLimit
    rw [e, es]
    dsimp only
    rw [(step2 _ _).1, (step2 _ _).2, if_pos ⟨hl, by simp [bounds], by simp, by simp [readR_ratL hq.1]⟩]
    simp [limOf, readR_ratL hq.1, optD, show ¬ cTo = cFrom by decide]
  · rw [e0, eF]
    have e : l ++ ((32 :: (cFrom ++ 32 :: ratL p)) ++ []) = TL.joinL [32] [l, cFrom, ratL p] := by simp [TL.joinL]
    have es := spl_words (ws := [l, cFrom, ratL p]) (by simp) (fun x hx => by simp only [List.mem_cons, List.not_mem_nil, or_false] at hx; rcases hx with rfl | rfl | rfl; exact nl; exact nf; exact nr p)
    unfold readLimit
    rw [e, es]
    dsimp only
    rw [(step2 _ _).1, (step2 _ _).2, if_pos ⟨hl, by simp [bounds], by simp, by simp [readR_ratL hp.1]⟩]
    simp [limOf, readR_ratL hp.1, optD]
  · rw [eF, eT]
    have e : l ++ ((32 :: (cFrom ++ 32 :: ratL p)) ++ (32 :: (cTo ++ 32 :: ratL q))) = TL.joinL [32] [l, cFrom, ratL p, cTo, ratL q] := by simp [TL.joinL]
    have es := spl_words (ws := [l, cFrom, ratL p, cTo, ratL q]) (by simp) (fun x hx => by simp only [List.mem_cons, List.not_mem_nil, or_false] at hx; rcases hx with rfl | rfl | rfl | rfl | rfl; exact nl; exact nf; exact nr p; exact nt; exact nr q)
    unfold readLimit
    rw [e, es]
    dsimp only
    rw [(step4 _ _ _ _).1, (step4 _ _ _ _).2, if_pos ⟨hl, by simp [bounds], by simp, by simp [readR_ratL hp.1, readR_ratL hq.1]⟩]
    simp [limOf, readR_ratL hp.1, readR_ratL hq.1, optD]
/-- bad parts -/
theorem bads_none {way p : List Nat} (hw : isWay way) (h : p ∈ badsOf way) : isNoneD (rdOf way p) = true ∧ 44 ∉ p ∧ okT p ∧ p.length ≤ 100 := by
  have h1 : ∀ p ∈ badsT.map cd, isNoneD (readPair p) = true ∧ 44 ∉ p ∧ p.all (fun c => decide (c < 1114112)) = true ∧ p.length ≤ 100 := by decide +kernel
  have h2 : ∀ p ∈ badsL.map cd, isNoneD (readLimit p) = true ∧ 44 ∉ p ∧ p.all (fun c => decide (c < 1114112)) = true ∧ p.length ≤ 100 := by decide +kernel
  have nw : ¬ cd "table" = cd "limits" := by decide
  have nw' : ¬ cd "limits" = cd "table" := by decide
  have ok : ∀ {p : List Nat}, p.all (fun c => decide (c < 1114112)) = true → okT p := fun h c hc => by simpa using List.all_eq_true.mp h c hc
  rcases hw with rfl | rfl
  · unfold badsOf at h
    rw [if_neg nw] at h
    obtain ⟨a, b, c, d⟩ := h1 p h
    unfold rdOf
    rw [if_pos rfl]
    exact ⟨a, b, ok c, d⟩
  · unfold badsOf at h
    rw [if_pos rfl] at h
    obtain ⟨a, b, c, d⟩ := h2 p h
    unfold rdOf
    rw [if_neg nw']
    exact ⟨a, b, ok c, d⟩
/-- joined parts come apart again -/
theorem parts_join {ps : List (List Nat)} (h : ∀ p ∈ ps, 44 ∉ p) (hne : ps ≠ [[]]) : partsL [44, 32] (TL.joinL [44, 32] ps) = ps := by
  unfold partsL
  match ps, h, hne with
  | [], _, _ => rfl
  | [p], h, hne =>
    have hp : p ≠ [] := fun z => hne (by rw [z])
    rw [show TL.joinL [44, 32] [p] = p from rfl, if_neg hp]
    exact SX.spl_join (parts := [p]) (by simp) h
  | p :: q :: r, h, _ =>
    rw [if_neg (by simp [TL.joinL])]
    exact SX.spl_join (by simp) h
theorem joinL_len (c : Nat) : ∀ ps : List (List Nat), (∀ p ∈ ps, p.length ≤ c) → (TL.joinL [44, 32] ps).length ≤ ps.length * (c + 2)
  | [], _ => by simp [TL.joinL]
  | [p], h => by have := h p (by simp); simp [TL.joinL]; omega
  | p :: q :: r, h => by
    have h1 := h p (by simp)
    have h2 := joinL_len c (q :: r) fun x hx => h x (List.mem_cons_of_mem _ hx)
    simp only [TL.joinL, List.length_append, List.length_cons, List.length_nil] at h2 ⊢
    rw [Nat.add_mul]
    omega
theorem joinL_ok : ∀ ps : List (List Nat), (∀ p ∈ ps, okT p) → okT (TL.joinL [44, 32] ps)
  | [], _ => fun c hc => by simp [TL.joinL] at hc
  | [p], h => h p (by simp)
  | p :: q :: r, h => fun c hc => by
    have h2 := joinL_ok (q :: r) fun x hx => h x (List.mem_cons_of_mem _ hx)
    simp only [TL.joinL, List.mem_append, List.mem_cons, List.not_mem_nil, or_false] at hc
    rcases hc with hc | (rfl | rfl) | hc
    · exact h p (by simp) c hc
    · omega
    · omega
    · exact h2 c hc
end My
namespace My
open PySem PySem.Spec PyProof.Rows L2
local macro_rules | `(tactic| walk_at "sx") => `(tactic| first | (simp only [cx_K, tB, iRng1, iRng2, iRng3, iList, iTup, wAs, tXf, tDictZip, tDGet1, rInD, rInT, tChain, tUn, rU, tCallS, WE, wOnly, tSl, tPart, tNoPart, tRevL, tStepL, tM0, tM1, wipe, tYes, Bool.not_eq_true', gCons, gNil, decide_eq_false_iff_not, tCall, tPar, tAndV, tOrV, tNotV, tIf, List.append_nil, rEq, rNe, scal_ii, scal_ss, scal_bb, scal_nn, scal_in, scal_ni, scal_sn, scal_ns, scal_is, scal_si, Bool.and_true, Bool.true_and, Bool.and_false, Bool.false_and, reduceCtorEq, tLst, tTup, Int.reduceToNat, decide_true, decide_false, Bool.not_true, Bool.not_false, Bool.false_eq_true, if_true, if_false, reduceIte, gSub, tAnd, tOr, tNot, tBM, tBM0, tNext, tSeq, tAsg, tOp, rI, rI0, tVar, tC, gName, tRet, tCB, tCons, tNil, tTest, tIfS, tDrop, L2.start, List.map_cons, List.map_nil, List.length_cons, List.length_nil, List.cons_append, List.nil_append, List.replicate, List.getElem?_cons_zero, List.getElem?_cons_succ, List.set_cons_zero, List.set_cons_succ, Option.some.injEq, V.int.injEq, V.str.injEq, V.bl.injEq, V.ref.injEq, exists_eq_left', exists_eq_left, exists_and_left, exists_eq', and_assoc, List.cons.injEq, and_true, true_and, decide_eq_true_eq, Nat.reduceAdd, Nat.reduceSub]) | skip)
local macro_rules | `(tactic| walk_at "isi") => `(tactic| first | (simp only [isi_none_int, isi_none_bool, isi_none_str, isi_none_list, isi_none_tuple, isi_bool_int, isi_bool_bool, isi_bool_str, isi_bool_list, isi_bool_tuple, isi_int_int, isi_int_bool, isi_int_str, isi_int_list, isi_int_tuple, isi_str_int, isi_str_bool, isi_str_str, isi_str_list, isi_str_tuple, isi_list_int, isi_list_bool, isi_list_str, isi_list_list, isi_list_tuple, isi_tuple_int, isi_tuple_bool, isi_tuple_str, isi_tuple_list, isi_tuple_tuple, isInt_none, isInt_bool, isInt_int, isInt_str, isInt_list, isInt_tuple]) | skip)
def preBent (ds : List PyData) : Prop := ∃ (way : List Nat) (parts : List (List Nat)), ds = [tD way, .list (parts.map tD)] ∧ isWay way ∧ parts.length ≤ 20 ∧ ∀ p ∈ parts, Good way p
def R_true (_ : List PyData) (r : PyData) : Prop := r = .bool true
def preTold (ds : List PyData) : Prop := ∃ (way : List Nat) (parts : List (List Nat)), ds = [tD way, .list (parts.map (rdOf way)), .list (parts.map tD)] ∧ isWay way ∧ parts.length ≤ 20 ∧ (∀ p ∈ parts, Good way p) ∧ ∀ p ∈ parts, sh 3 (rdOf way p)
theorem map_tD_inj : ∀ {a b : List (List Nat)}, a.map tD = b.map tD → a = b
  | [], [], _ => rfl
  | [], _ :: _, h => by simp at h
  | _ :: _, [], h => by simp at h
  | x :: a, y :: b, h => by
    rw [List.map_cons, List.map_cons] at h
    injection h with h1 h2
    injection h1 with h1
    rw [SX.S_inj h1, map_tD_inj h2]
section
variable {P : Program} {w : World} {K : PySem.W.Frag} {mg : Str → Option Value} {base : Heap} {aW aB C : Addr} {ps : List Str}
theorem sc_bent_right : FnScope ["_law_box_here", "_law_way", "_law_parts", "_law_spoilt_here", "_law_at"] ["_law_box_here", "_law_way", "_law_parts"] (defScope s_bent_right) := ⟨rfl, rfl, rfl, by decide +kernel, rfl, by decide +kernel, by decide +kernel⟩
theorem ok_bent_right (T : Txt K mg aW aB) (F : Dfn K mg "_law_bent_right" s_bent_right) (R_spoilt : Rdy P w K mg base CX0 4 "_law_spoilt" ["_law_box_here", "_law_way", "_law_parts"] (spB K 5 preSp R_spoilt))
    (R_reading : Rdy P w K mg base CX0 9 "_law_reading" ["_law_way", "_law_text"] (spD K R_reading)) :
    Rdy P w K mg base CX0 10 "_law_bent_right" ["_law_box_here", "_law_way", "_law_parts"] (spB K 5 preBent R_true) := by
  refine F.rdy sc_bent_right (fun _ _ _ _ _ _ us hl => match us, hl with | [_, _, _], _ => rfl) (spB_len (by rintro _ ⟨_, _, rfl, _⟩; rfl)) (fun f cdv A outer s H vs Q E hr h => ?_)
  obtain ⟨a, g, s', n, ws, ds, rfl, hB, hn, hd, ⟨way, parts, rfl, hway, hpl, hgood⟩, kp⟩ := h
  obtain ⟨x, y, rfl, hx, hy⟩ := dps_2 hd
  cases dp_str hx
  refine ⟨_, (pss_cons (ps_asg (pe_cl R_spoilt (hr.mono (by decide)) pass0 (pa_cons (pv 0) (pa_cons (pv 1) (pa_cons (pv 2) pa_nil)))) (pg_tup (n := 2) rfl (pgs_cons (pg_name (i := 3) sc_bent_right.nd rfl (Or.inl rfl)) (pgs_cons (pg_name (i := 4) sc_bent_right.nd rfl (Or.inl rfl)) pgs_nil))))
      (pss_cons (ps_if (pt_cmpR (op_eqD hr.units) (pv 3) (pe_lst (pa_cons pe_str pa_nil)) (nomark _)) (pss_one (ps_ret (pe_cmpR (op_eqD hr.units) (pe_cl R_reading (hr.mono (by decide)) pass0 (pa_cons (pv 1) (pa_cons pe_str pa_nil))) (pe_tup (pa_cons pe_str (pa_cons (pe_tup pa_nil) pa_nil))) (nomark _)))) pss_nil)
      (pss_one (ps_ret (pe_cmpR (op_eqD hr.units) (pe_cl R_reading (hr.mono (by decide)) pass0 (pa_cons (pv 1) (pa_cons (pe_join pe_str (pv 3)) pa_nil))) (pe_tup (pa_cons pe_str (pa_cons (pv 4) pa_nil))) (nomark _)))))), ?_⟩
  walk_at "sx"
  refine rd_B hB (by omega) (.cons (.str _) (dps_one hy)) ⟨way, parts, rfl, hway, by omega⟩ fun r v H1 h1 S1 B1 d1 => ?_
  obtain ⟨way', parts', ee, its, k, rfl, hil, hok, ⟨lk, hk1⟩, hk2⟩ := h1
  have ew : way = way' ∧ parts = parts' := by
    injection ee with e1 e2
    injection e1 with e1
    injection e2 with e2 _
    injection e2 with e2
    exact ⟨SX.S_inj e1, map_tD_inj e2⟩
  obtain ⟨rfl, rfl⟩ := ew
  clear ee
  obtain ⟨p1, xs, rfl, ht, hxs⟩ := dp_tup d1
  obtain ⟨x1, x2, rfl, k1, k2⟩ := dps_2 hxs
  cases dp_int k2
  refine ⟨_, _, rfl, seqT_up ht, rfl, ?_⟩
  walk_at "sx"
  have hfst : (its.map fun p => tD p.1) = (its.map fun p => p.1).map tD := by simp
  rw [hfst] at k1
  have hgd : ∀ p ∈ its.map (fun p => p.1), 44 ∉ p ∧ okT p ∧ p.length ≤ 100 := by
    intro p hp
    obtain ⟨q, hq, rfl⟩ := List.mem_map.mp hp
    have h := hok q hq
    cases hb : q.2
    · have hb' := bads_none hway (h.2 hb)
      exact ⟨hb'.2.1, hb'.2.2.1, hb'.2.2.2⟩
    · have hg := hgood q.1 (h.1 hb)
      exact ⟨hg.no, hg.ok, hg.len⟩
  refine ⟨size_le (by decide), ?_⟩
  intro p2 hp2; generalize e2 : upd _ p2 _ = H2
  rw [lit_] at e2
  obtain ⟨S2, F2, d2⟩ := new_lst (K := K) B1.fr hp2 e2 (.cons (.str (tx [])) .nil)
  have hps : ∀ ps : List (List Nat), (∀ p ∈ ps, okT p) → sh 1 (.list (ps.map tD)) := fun ps h => sh_list fun d hd => by
    obtain ⟨y, hy, rfl⟩ := List.mem_map.mp hd
    exact sh_str (h y hy)
  have hsd := hps _ fun p hp => (hgd p hp).2.1
  refine ⟨_, _, dp_up (dp_same (dl_same S2) k1), dp_up d2, hsd.ok (by decide), by decide +kernel, ?_⟩
  refine ⟨_, rfl, ?_⟩
  generalize hpe : its.map (fun p => p.1) = ps at *
  rw [show PyData.eqv (.list (ps.map tD)) (.list [PyData.str (tx [])]) = decide (ps = [[]]) from eqvAll_strs ps [[]]]
  have S02 : SameB [a, g] H H2 := S1.trans (.of S2)
  have B2 := B1.same S2
  split
  · have e0 : partsL [44, 32] [] = [] := rfl
    rw [lit_]
    refine rd_D B2.fr (.cons (.str _) (.cons (.str _) .nil)) ⟨way, [], rfl, hway, by simp, fun c hc => (by cases hc), fun p hp => (by rw [e0] at hp; cases hp), rfl⟩ fun v3 H3 S3 d3 => ?_
    rw [e0] at d3
    have er : readRes ([].map (rdOf way)) = .tuple [tD (cd "read"), .tuple []] := rfl
    rw [er] at d3
    refine ⟨size_le (by decide), ?_⟩
    intro p4 hp4; generalize e4 : upd _ p4 _ = H4
    obtain ⟨S4, F4, d4⟩ := new_tup (K := K) (ds := []) (B2.same S3).fr hp4 e4 .nil
    refine ⟨size_le (by decide), ?_⟩
    intro p5 hp5; generalize e5 : upd _ p5 _ = H5
    rw [tx_cd] at e5
    obtain ⟨S5, F5, d5⟩ := new_tup (K := K) F4 hp5 e5 (.cons (.str (tx (cd "read"))) (.cons d4 .nil))
    have hsh : sh 2 (.tuple [tD (cd "read"), .tuple []]) := ⟨by decide +kernel, by decide⟩
    refine ⟨_, _, dp_up (dp_same (dl_same (S4.trans S5)) d3), dp_up d5, hsh.ok (by decide), hsh.ok (by decide), ?_⟩
    rw [hsh.refl]
    exact kp _ _ _ rfl (S02.trans (.of (S3.trans (S4.trans S5)))) ((B2.same (S3.trans (S4.trans S5)))) (.bl true)
  · rename_i hne
    have hne' : ps ≠ [[]] := by simpa using hne
    obtain ⟨pl, zs, rfl, hzl, hzs⟩ := dp_lst k1
    rw [show ps.map tD = (ps.map tx).map PyData.str by simp] at hzs
    obtain rfl := dps_strs hzs
    have hpsl : ps.length ≤ 22 := by rw [← hpe, List.length_map]; omega
    have hj1 := joinL_len 100 ps fun p hp => (hgd p hp).2.2
    have hj2 := joinL_ok ps fun p hp => (hgd p hp).2.1
    have hj3 := parts_join (fun p hp => (hgd p hp).1) hne'
    refine ⟨pl, rfl, _, .inl (seqL_up ((dl_same S2).seq hzl)), ?_, ?_⟩
    · rw [lens_tx, lit_cs, tx_len]
      have := sum_le 100 ps fun p hp => (hgd p hp).2.2
      rw [List.length_map]
      have h2 : (ps.map fun x => x.length).sum = (ps.map List.length).sum := rfl
      rw [h2]
      simp only [List.length_cons, List.length_nil]
      omega
    · rw [lit_cs, join_tx]
      refine rd_D B2.fr (.cons (.str _) (.cons (.str _) .nil)) ⟨way, _, rfl, hway, by omega, hj2, fun p hp => (by rw [hj3] at hp; have := (hgd p hp).2.2; omega), rfl⟩ fun v3 H3 S3 d3 => ?_
      rw [hj3] at d3
      have hna : noneAt (ps.map (rdOf way)) = some k := by
        unfold noneAt
        rw [List.findIdx?_eq_some_iff_getElem]
        have hk3 : ps[k]? = some lk := by rw [← hpe, List.getElem?_map, hk1]; rfl
        obtain ⟨hkl, hkg⟩ := List.getElem?_eq_some_iff.mp hk3
        refine ⟨by simpa using hkl, ?_, fun j hj => ?_⟩
        · rw [List.getElem_map, hkg]
          exact (bads_none hway ((hok _ (List.mem_of_getElem? hk1)).2 rfl)).1
        · have hjl : j < its.length := by
            have := (List.getElem?_eq_some_iff.mp hk1).1
            omega
          have hit := hk2 j its[j] hj (List.getElem?_eq_getElem hjl)
          have hpj : ps[j]? = some its[j].1 := by rw [← hpe, List.getElem?_map, List.getElem?_eq_getElem hjl]; rfl
          obtain ⟨_, hpg⟩ := List.getElem?_eq_some_iff.mp hpj
          rw [List.getElem_map, hpg]
          rw [(hgood _ ((hok _ (List.getElem_mem hjl)).1 hit)).rd]
          exact Bool.false_ne_true
      have er : readRes (ps.map (rdOf way)) = .tuple [tD (cd "bad"), .int k] := by unfold readRes; rw [hna]
      rw [er] at d3
      refine ⟨size_le (by decide), ?_⟩
      intro p5 hp5; generalize e5 : upd _ p5 _ = H5
      rw [tx_cd] at e5
      obtain ⟨S5, F5, d5⟩ := new_tup (K := K) (B2.same S3).fr hp5 e5 (.cons (.str (tx (cd "bad"))) (.cons (.int (k : Nat)) .nil))
      have hsh : sh 2 (.tuple [tD (cd "bad"), .int (k : Nat)]) := sh_tup fun d hd => by
        rcases List.mem_cons.mp hd with rfl | hd
        · exact sh_str fun c hc => by
            have := (show ∀ c ∈ cd "bad", c < 1114112 by decide) c hc
            exact this
        · rw [List.mem_singleton] at hd; subst hd; exact sh_int
      refine ⟨_, _, dp_up (dp_same (dl_same S5) d3), dp_up d5, hsh.ok (by decide), hsh.ok (by decide), ?_⟩
      rw [hsh.refl]
      exact kp _ _ _ rfl (S02.trans (.of (S3.trans S5))) (B2.same (S3.trans S5)) (.bl true)
theorem sc_told_again : FnScope ["_law_box_here", "_law_way", "_law_some", "_law_parts", "_law_places", "_law_text", "_law_k", "_law_at"] ["_law_box_here", "_law_way", "_law_some", "_law_parts"] (defScope s_told_again) := ⟨rfl, rfl, rfl, by decide +kernel, rfl, by decide +kernel, by decide +kernel⟩
theorem ok_told_again (T : Txt K mg aW aB) (F : Dfn K mg "_law_told_again" s_told_again) (R_take : Rdy P w K mg base CX0 2 "_law_take" ["_law_box_here", "_law_size"] spTake)
    (R_reading : Rdy P w K mg base CX0 9 "_law_reading" ["_law_way", "_law_text"] (spD K R_reading)) :
    Rdy P w K mg base CX0 10 "_law_told_again" ["_law_box_here", "_law_way", "_law_some", "_law_parts"] (spB K 10 preTold R_true) := by
  refine F.rdy sc_told_again (fun _ _ _ _ _ _ us hl => match us, hl with | [_, _, _, _], _ => rfl) (spB_len (by rintro _ ⟨_, _, rfl, _⟩; rfl)) (fun f cdv A outer s H vs Q E hr h => ?_)
  obtain ⟨a, g, s', n, ws, ds, rfl, hB, hn, hd, ⟨way, parts, rfl, hway, hpl, hgood, hsh⟩, kp⟩ := h
  obtain ⟨x, y, z, rfl, hx, hy, hz⟩ := dps_3 hd
  cases dp_str hx
  obtain ⟨b, xs, rfl, hb, hxs⟩ := dp_lst hy
  obtain ⟨c, ys, rfl, hc, hys⟩ := dp_lst hz
  refine ⟨_, (pss_cons (ps_setLc (i := 4) (own := [("_law_k", 6)]) (g := (gName 6)) (tt := tYes) rfl sc_told_again.nd rfl rfl (sw_true rfl rfl rfl (by decide +kernel)) (pi_range1 (by rfl) T.b_range (pa_cons (pe_op op_mul (pe_cl R_take (hr.mono (by decide)) pass0 (pa_cons (pv 0) (pa_cons pe_int pa_nil))) (pe_callTy call_int1 (by rfl) T.b_int (by decide +kernel) (pa_cons (pe_cmpR op_gt (pe_callB call_len (by rfl) T.b_len PySem.boot_len (pa_cons (pv 3) pa_nil)) pe_int (nomark _)) pa_nil))) pa_nil)) (blkOk_by (N := ["_law_box_here", "_law_way", "_law_some", "_law_parts", "_law_places", "_law_text", "_law_k", "_law_at"]) (sc := defScope s_told_again) (by decide +kernel)) (fun _ _ _ _ _ => (pg_name (i := 6) sc_told_again.nd rfl (Or.inl rfl))) (fun _ _ _ _ _ => pts_nil) (fun _ _ _ _ _ => (pe_cl R_take (hr.mono (by decide)) pass0 (pa_cons (pv 0) (pa_cons (pe_callB (callK (K := K) (fun K xs H Q => ∃ x n, xs = [x] ∧ LenV K x H n ∧ Q (.int n) H) call_len) (by rfl) T.b_len PySem.boot_len (pa_cons (pv 3) pa_nil)) pa_nil)))))
      (pss_cons (ps_set (i := 5) sc_told_again.nd rfl (Or.inl rfl) (pe_join pe_str (pe_lc (own := [("_law_at", 7)]) (g := (gName 7)) (tt := tYes) rfl sc_told_again.nd (pi_list (pv 4)) (blkOk_by (N := ["_law_box_here", "_law_way", "_law_some", "_law_parts", "_law_places", "_law_text", "_law_k", "_law_at"]) (sc := defScope s_told_again) (by decide +kernel)) (fun _ _ _ _ _ => (pg_name (i := 7) sc_told_again.nd rfl (Or.inl rfl))) (fun _ _ _ _ _ => pts_nil) (fun _ _ _ _ _ => (pe_ix (ixK (K := K) (fun K => rIxL K) ix_list) (pv 3) (pv 7) (fun _ _ => rfl))))))
      (pss_one (ps_ret (pe_cmpR (op_eqD hr.units) (pe_cl R_reading (hr.mono (by decide)) pass0 (pa_cons (pv 1) (pa_cons (pv 5) pa_nil))) (pe_tup (pa_cons pe_str (pa_cons (pe_callTy call_tuple_of (by rfl) T.b_tuple (by decide +kernel) (pa_cons (pe_lc (own := [("_law_at", 7)]) (g := (gName 7)) (tt := tYes) rfl sc_told_again.nd (pi_list (pv 4)) (blkOk_by (N := ["_law_box_here", "_law_way", "_law_some", "_law_parts", "_law_places", "_law_text", "_law_k", "_law_at"]) (sc := defScope s_told_again) (by decide +kernel)) (fun _ _ _ _ _ => (pg_name (i := 7) sc_told_again.nd rfl (Or.inl rfl))) (fun _ _ _ _ _ => pts_nil) (fun _ _ _ _ _ => (pe_ix (ixK (K := K) (fun K => rIxL K) ix_list) (pv 2) (pv 7) (fun _ _ => rfl)))) pa_nil)) pa_nil))) (nomark _)))))), ?_⟩
  walk_at "sx"
  rw [show parts.map tD = (parts.map tx).map PyData.str by simp] at hys
  obtain rfl := dps_strs hys
  have hxl := dps_len hxs
  rw [List.length_map] at hxl
  refine rd_lc fun R1 hR1 => ?_
  walk_at "sx"
  refine rd_take hB (by omega) (by decide) (by decide) fun r H1 r0 r1 B1 S1 => ?_
  have hc1 := (S1.d3).seq hc
  refine rd_lenL (seqL_up hc1) ?_
  rw [List.length_map, List.length_map]
  refine .inr ⟨_, rfl, .inl (by omega), ?_⟩
  obtain ⟨Rr, hRr⟩ : ∃ Rr : Nat → List PyData → Hp → Prop, ∀ i ds H2, Rr i ds H2 ↔ ∃ ats : List Nat, ds = ats.map (fun k => PyData.int (k : Nat)) ∧ ats.length = i ∧ (∀ k ∈ ats, k < parts.length) ∧ Bx H2 a g s' (n + 1 + i) := ⟨_, fun _ _ _ => Iff.rfl⟩
  obtain ⟨m, hm, hm5, hmp⟩ : ∃ m : Nat, (r * if (0 : Int) < ((parts.length : Nat) : Int) then 1 else 0) = (m : Nat) ∧ m ≤ 5 ∧ (0 < m → 0 < parts.length) := by
    by_cases hp : 0 < parts.length
    · rw [if_pos (by omega)]
      exact ⟨r.toNat, by omega, by omega, fun _ => hp⟩
    · rw [if_neg (by omega)]
      exact ⟨0, by omega, by omega, fun z => absurd z (Nat.lt_irrefl _)⟩
  rw [hm]
  refine ⟨by omega, by omega, hR1 _ _ fun D hD => lc_gen K [a, g] two_in walk_range B1.fr hD Rr (fun H2 S2 => (hRr _ _ _).2 ⟨[], rfl, rfl, fun _ h => (by cases h), (B1.same S2)⟩) (fun _ _ => trivial) (fun i x vals acc H2 H' hi hn2 hv hd2 hle sb fr hR2 hY => ?_) fun ds H2 sb fr hd2 hle hR2 => ?_⟩
  · obtain ⟨ats, rfl, hal, hak, B2⟩ := (hRr _ _ _).1 hR2
    obtain ⟨rfl, rfl⟩ := hY
    have hi' : i < m := by simpa using hi
    have hpp := hmp (by omega)
    walk_at "sx"
    refine rd_lenL (seqL_up ((S1.trans sb).d3.seq hc)) ?_
    rw [List.length_map, List.length_map]
    refine rd_take B2 (by omega) (by omega) (by omega) fun k H3 k0 k1 B3 S3 => ?_
    obtain ⟨k', rfl⟩ := Int.eq_ofNat_of_zero_le k0
    refine lc_put two_in hD hn2 hv hd2 hle (by omega) sb S3 B3.fr (.int _) fun H5 s5 f5 => ?_
    simp only [List.mem_cons, List.not_mem_nil, or_false, not_or] at hn2
    refine (hRr _ _ _).2 ⟨ats ++ [k'], by simp, by simp [hal], ?_, (B3.sameB s5 (by simpa using Ne.symm hn2.1) (by simpa using Ne.symm hn2.2.1) (by simpa using Ne.symm hn2.2.2)).mono (by omega)⟩
    intro j hj
    rcases List.mem_append.mp hj with h | h
    · exact hak j h
    · rw [List.mem_singleton] at h; subst h; omega
  · obtain ⟨ats, rfl, hal, hak, B2⟩ := (hRr _ _ _).1 hR2
    have S02 := S1.trans sb
    have hc2 := S02.d3.seq hc
    have hb2 := S02.d3.seq hb
    have hxs2 := dps_same S02.d3 hxs
    have hal5 : ats.length ≤ 5 := by simp at hal; omega
    have hget : ∀ k ∈ ats, ∃ p, parts[k]? = some p := fun k hk => ⟨parts[k]'(hak k hk), List.getElem?_eq_getElem (hak k hk)⟩
    obtain ⟨D1, zs, e, hz1, hz2⟩ := dp_lst hd2
    cases e
    rw [show (ats.map fun k => PyData.int (k : Nat)) = (ats.map fun k => ((k : Nat) : Int)).map PyData.int by simp] at hz2
    obtain rfl := dps_ints hz2
    -- the parts told again
    have fr2 := B2.fr
    refine ⟨_, rfl, D, rfl, ⟨_, seqL_up hz1⟩, ?_⟩
    intro D2 hD2
    refine lc_gen K [] no_mem (walk_list (xs := (ats.map fun k => ((k : Nat) : Int)).map V.int)) fr2 hD2 (fun i ds H => ds = (ats.take i).map fun k => tD (parts.getD k [])) (fun _ _ => by simp) (fun H3 sb => sb.nil.seq (seqL_up hz1)) (fun i x vals2 acc H3 H' hi hn3 hv3 hd3 hle3 sb3 fr3 hR3 hY => ?_) fun ds3 H3 sb3 fr3 hd3 hle3 hR3 => ?_
    · obtain ⟨rfl, hx1⟩ := hY
      simp only [List.getElem?_map, Option.map_map] at hx1
      obtain ⟨k, hk, rfl⟩ := Option.map_eq_some_iff.mp hx1
      obtain ⟨p, hp⟩ := hget k (List.mem_of_getElem? hk)
      walk_at "sx"
      refine rd_ixL' (seqL_up ((dl_same sb3.nil).seq hc2)) (v := .str (tx p)) (atI_nat (by simp [hp])) ?_
      refine lc_put no_mem hD2 hn3 hv3 hd3 hle3 (by simp at hi; omega) sb3 .refl fr3 (.str _) fun H6 s6 f6 => ?_
      rw [hR3, List.take_add_one, hk]
      simp [hp]
    · rw [show ((ats.map fun k => ((k : Nat) : Int)).map V.int).length = ats.length by simp, List.take_length] at hR3
      have S23 := sb3.nil
      have S03 := S02.trans (.of S23)
      have B3 := B2.same S23
      obtain ⟨ps, hps⟩ : ∃ ps, ps = ats.map fun k => parts.getD k [] := ⟨_, rfl⟩
      have hpsl : ps.length = ats.length := by rw [hps, List.length_map]
      have hpg : ∀ p ∈ ps, p ∈ parts := fun p hp => by
        rw [hps] at hp
        obtain ⟨k, hk, rfl⟩ := List.mem_map.mp hp
        obtain ⟨q, hq⟩ := hget k hk
        rw [List.getD_eq_getElem?_getD, hq]
        exact List.mem_of_getElem? hq
      rw [show (ats.map fun k => tD (parts.getD k [])) = (ps.map tx).map PyData.str by rw [hps]; simp] at hR3
      subst hR3
      obtain ⟨_, ws, e, hw1, hw2⟩ := dp_lst hd3
      cases e
      obtain rfl := dps_strs hw2
      have hj1 := joinL_len 100 ps fun p hp => (hgood p (hpg p hp)).len
      have hj2 := joinL_ok ps fun p hp => (hgood p (hpg p hp)).ok
      have hj3 := parts_join (fun p hp => (hgood p (hpg p hp)).no) (ps := ps) (fun z => by
        have : ([] : List Nat) ∈ ps := by rw [z]; simp
        exact (hgood _ (hpg _ this)).ne rfl)
      refine ⟨D2, rfl, _, .inl (seqL_up hw1), ?_, ?_⟩
      · rw [lens_tx, lit_cs, tx_len]
        have := sum_le 100 ps fun p hp => (hgood p (hpg p hp)).len
        rw [List.length_map]
        have h2 : (ps.map fun x => x.length).sum = (ps.map List.length).sum := rfl
        rw [h2]
        simp only [List.length_cons, List.length_nil]
        omega
      · rw [lit_cs, join_tx]
        refine rd_D B3.fr (.cons (.str _) (.cons (.str _) .nil)) ⟨way, _, rfl, hway, by omega, hj2, fun p hp => (by rw [hj3] at hp; have := (hgood p (hpg p hp)).len; omega), rfl⟩ fun v4 H4 S4 d4 => ?_
        rw [hj3] at d4
        have hna : noneAt (ps.map (rdOf way)) = none := by
          unfold noneAt
          rw [List.findIdx?_eq_none_iff]
          intro d hd
          obtain ⟨p, hp, rfl⟩ := List.mem_map.mp hd
          exact (hgood p (hpg p hp)).rd
        have er : readRes (ps.map (rdOf way)) = .tuple [tD (cd "read"), .tuple (ps.map (rdOf way))] := by unfold readRes; rw [hna]
        rw [er] at d4
        have B4 := B3.same S4
        have S24 := S23.trans S4
        refine ⟨_, rfl, D, rfl, ⟨_, seqL_up ((dl_same S24).seq hz1)⟩, ?_⟩
        intro D3 hD3
        refine lc_gen K [] no_mem (walk_list (xs := (ats.map fun k => ((k : Nat) : Int)).map V.int)) B4.fr hD3 (fun i ds H => ds = (ats.take i).map fun k => rdOf way (parts.getD k [])) (fun _ _ => by simp) (fun H5 sb => sb.nil.seq (seqL_up ((dl_same S24).seq hz1))) (fun i x vals2 acc H5 H' hi hn5 hv5 hd5 hle5 sb5 fr5 hR5 hY => ?_) fun ds5 H5 sb5 fr5 hd5 hle5 hR5 => ?_
        · obtain ⟨rfl, hx1⟩ := hY
          simp only [List.getElem?_map, Option.map_map] at hx1
          obtain ⟨k, hk, rfl⟩ := Option.map_eq_some_iff.mp hx1
          obtain ⟨p, hp⟩ := hget k (List.mem_of_getElem? hk)
          have hkx : k < xs.length := by rw [hxl]; exact (List.getElem?_eq_some_iff.mp hp).1
          obtain ⟨d, hd1, hd2⟩ := dps_get hxs2 (List.getElem?_eq_getElem hkx)
          rw [List.getElem?_map, hp] at hd1
          cases hd1
          walk_at "sx"
          refine rd_ixL' (seqL_up ((dl_same (S24.trans sb5.nil)).seq hb2)) (atI_nat (List.getElem?_eq_getElem hkx)) ?_
          refine lc_put no_mem hD3 hn5 hv5 hd5 hle5 (by simp at hi; omega) sb5 .refl fr5 (dp_in hD3 no_mem sb5 (dp_same (dl_same S24) hd2)) fun H6 s6 f6 => ?_
          rw [hR5, List.take_add_one, hk]
          simp [hp]
        · rw [show ((ats.map fun k => ((k : Nat) : Int)).map V.int).length = ats.length by simp, List.take_length] at hR5
          have S45 := sb5.nil
          have e5 : ds5 = ps.map (rdOf way) := by rw [hR5, hps]; simp
          subst e5
          obtain ⟨_, us, e, hu1, hu2⟩ := dp_lst hd5
          cases e
          refine ⟨D3, rfl, _, .inl ⟨seqL_up hu1, ?_⟩⟩
          intro p6 hp6; generalize e6 : upd _ p6 _ = H6
          obtain ⟨S6, F6, d6⟩ := new_tup (K := K) fr5 hp6 e6 hu2
          refine ⟨size_le (by decide), ?_⟩
          intro p7 hp7; generalize e7 : upd _ p7 _ = H7
          rw [tx_cd] at e7
          obtain ⟨S7, F7, d7⟩ := new_tup (K := K) F6 hp7 e7 (.cons (.str (tx (cd "read"))) (.cons d6 .nil))
          have S47 := S45.trans (S6.trans S7)
          have hshr : sh 5 (.tuple [tD (cd "read"), .tuple (ps.map (rdOf way))]) := sh_tup fun d hd => by
            rcases List.mem_cons.mp hd with rfl | hd
            · exact sh_str fun c hc => (show ∀ c ∈ cd "read", c < 1114112 by decide) c hc
            · rw [List.mem_singleton] at hd; subst hd
              exact sh_tup fun d hd => by
                obtain ⟨p, hp, rfl⟩ := List.mem_map.mp hd
                exact hsh p (hpg p hp)
          refine ⟨_, _, dp_up (dp_same (dl_same S47) d4), dp_up d7, hshr.ok (by decide), hshr.ok (by decide), ?_⟩
          rw [hshr.refl]
          exact kp _ _ _ rfl (S03.trans (.of (S4.trans S47))) ((B3.same (S4.trans S47)).mono (by simp; omega)) (.bl true)
end
end My
/-! Law2: what the law builds, and that it reads back. -/
namespace My
open PySem PySem.Spec PyProof.Rows L2
abbrev rowD (r : List Nat × (Int × Int)) : PyData := .tuple [tD r.1, ratD r.2]
def partL (r : List Nat × (Int × Int)) : List Nat := r.1 ++ ([32, 61, 32] ++ ratL r.2)
theorem low_ok {l : List Nat} (h : isNameL l = true) : okT l ∧ 44 ∉ l ∧ l ≠ [] := by
  have hn := name_low h
  refine ⟨fun c hc => by have := hn.1 c hc; omega, fun z => by have := hn.1 44 z; omega, fun z => ?_⟩
  subst z
  exact absurd hn.2.1 (by decide)
theorem ratL_ok (q : Int × Int) : okT (ratL q) := fun c hc => by have := ratL_sign hc; omega
theorem good_part {r : List Nat × (Int × Int)} (hl : isNameL r.1 = true) (hq : lawNum r.2) : Good (cd "table") (partL r) ∧ rdOf (cd "table") (partL r) = rowD r := by
  obtain ⟨l, q⟩ := r
  have hr : rdOf (cd "table") (partL (l, q)) = rowD (l, q) := by
    unfold rdOf
    rw [if_pos rfl]
    exact readPair_row hl hq.1
  have h1 := low_ok hl
  have hn := name_low hl
  refine ⟨⟨?_, ?_, ?_, ?_, by rw [hr]; rfl⟩, hr⟩
  · intro h
    simp only [partL, List.mem_append, List.mem_cons, List.not_mem_nil, or_false] at h
    rcases h with h | (h | h | h) | h
    · exact h1.2.1 h
    · omega
    · omega
    · omega
    · exact ratL_no.2 h
  · simp [partL]
  · intro c h
    simp only [partL, List.mem_append, List.mem_cons, List.not_mem_nil, or_false] at h
    rcases h with h | (h | h | h) | h
    · exact h1.1 c h
    · omega
    · omega
    · omega
    · exact ratL_ok q c h
  · have := ratL_short hq
    have h2 : l.length ≤ 8 := hn.2.2
    show (l ++ ([32, 61, 32] ++ ratL q)).length ≤ 100
    simp only [List.length_append, List.length_cons, List.length_nil]
    have h3 : (ratL q).length ≤ 28 := this
    omega
theorem end_ok {k : List Nat} {d : PyData} (hk : okT k) (hk4 : 44 ∉ k) (hl : k.length ≤ 4) (h : lawEnd d) : okT (endL k d) ∧ 44 ∉ endL k d ∧ (endL k d).length ≤ 34 := by
  rcases h with rfl | ⟨q, rfl, hq⟩
  · exact ⟨fun c hc => (by cases hc), fun z => (by cases z), by show 0 ≤ 34; decide⟩
  · have e : endL k (ratD q) = 32 :: (k ++ 32 :: ratL q) := rfl
    rw [e]
    have := ratL_short hq
    refine ⟨fun c hc => ?_, fun hc => ?_, by simp; omega⟩
    · simp only [List.mem_cons, List.mem_append] at hc
      rcases hc with rfl | hc | rfl | hc
      · omega
      · exact hk c hc
      · omega
      · exact ratL_ok q c hc
    · simp only [List.mem_cons, List.mem_append] at hc
      rcases hc with hc | hc | hc | hc
      · omega
      · exact hk4 hc
      · omega
      · exact ratL_no.2 hc
/-- a limit of a valid name -/
def limG (d : PyData) : Prop := ∃ (l : List Nat) (lo hi : PyData), d = .tuple [tD l, lo, hi] ∧ isNameL l = true ∧ lawEnd lo ∧ lawEnd hi
theorem good_lim {d : PyData} (h : limG d) : Good (cd "limits") (limL d) ∧ rdOf (cd "limits") (limL d) = d ∧ limOk d ∧ sh 3 d := by
  obtain ⟨l, lo, hi, rfl, hl, h1, h2⟩ := h
  have hr : rdOf (cd "limits") (limL (.tuple [tD l, lo, hi])) = .tuple [tD l, lo, hi] := by
    unfold rdOf
    rw [if_neg (by decide)]
    exact readLimit_lim hl h1 h2
  have a := low_ok hl
  have hn := name_low hl
  have b := end_ok (k := cFrom) (by unfold cFrom okT; decide) (by decide) (by decide) h1
  have c := end_ok (k := cTo) (by unfold cTo okT; decide) (by decide) (by decide) h2
  have erl : limL (.tuple [tD l, lo, hi]) = l ++ (endL cFrom lo ++ endL cTo hi) := rfl
  have eo : ∀ d, lawEnd d → endOk d := fun d h => by
    rcases h with rfl | ⟨q, rfl, h1, h2, h3⟩
    · exact .inl rfl
    · exact .inr ⟨by unfold isNumD; rw [h1, Bool.or_true], Nat.lt_of_le_of_lt h2 (by decide +kernel), Nat.lt_of_le_of_lt h3 (by decide +kernel)⟩
  have es : ∀ d, lawEnd d → sh 2 d := fun d h => by
    rcases h with rfl | ⟨q, rfl, _⟩
    · exact sh_none
    · exact sh_rat q
  refine ⟨⟨?_, ?_, ?_, ?_, by rw [hr]; rfl⟩, hr, ⟨l, lo, hi, rfl, by omega, eo _ h1, eo _ h2⟩, sh_tup fun d hd => ?_⟩
  · rw [erl]
    intro h
    rcases List.mem_append.mp h with h | h
    · exact a.2.1 h
    · rcases List.mem_append.mp h with h | h
      · exact b.2.1 h
      · exact c.2.1 h
  · rw [erl]
    intro z
    exact a.2.2 (List.append_eq_nil_iff.mp z).1
  · rw [erl]
    intro x h
    rcases List.mem_append.mp h with h | h
    · exact a.1 x h
    · rcases List.mem_append.mp h with h | h
      · exact b.1 x h
      · exact c.1 x h
  · rw [erl]
    simp only [List.length_append]
    omega
  · simp only [List.mem_cons, List.not_mem_nil, or_false] at hd
    rcases hd with rfl | rfl | rfl
    · exact sh_str a.1
    · exact es _ h1
    · exact es _ h2
theorem cutV_to (xs : List V) (k : Nat) : cutV xs none (some (k : Int)) = xs.take k := by
  unfold cutV
  have e1 : ∀ (n d v : Nat), HT.sIx n d (some (v : Int)) = min v n := fun n d v => by
    show (if ((v : Int)) < 0 then ((v : Int) + (n : Int)).toNat else min ((v : Int)).toNat n) = _
    rw [if_neg (by omega), Int.toNat_natCast]
  rw [e1, show HT.sIx xs.length 0 none = 0 from rfl, List.drop_zero, Nat.sub_zero]
  by_cases h : k ≤ xs.length
  · rw [Nat.min_eq_left h]
  · rw [Nat.min_eq_right (by omega), List.take_length, List.take_of_length_le (by omega)]
theorem strs_dp {K : PySem.W.Frag} {H : Hp} (ns : List (List Nat)) : DpAll K H ((ns.map tx).map V.str) (ns.map tD) := by
  have := dps_of_strs (K := K) (H := H) (ns.map tx)
  rw [show (ns.map tx).map PyData.str = ns.map tD by simp] at this
  exact this
/-- a text given by its number -/
theorem given_row {r : List Nat × (Int × Int)} {gv : PyData} (hl : isNameL r.1 = true) (hq : lawNum r.2) (h : gv = ratD r.2 ∨ (r.2.2 = 1 ∧ gv = .int r.2.1)) : rowOk (.tuple [tD r.1, gv]) ∧ rowL (.tuple [tD r.1, gv]) = partL r := by
  obtain ⟨l, t, b⟩ := r
  have hn := name_low hl
  have hl8 : l.length ≤ 1000 := by have : l.length ≤ 8 := hn.2.2; omega
  have b1 : t.natAbs < 10 ^ 1200 := Nat.lt_of_le_of_lt hq.2.1 (by decide +kernel)
  have b2 : b.natAbs < 10 ^ 1200 := Nat.lt_of_le_of_lt hq.2.2 (by decide +kernel)
  rcases h with rfl | ⟨h1, rfl⟩
  · exact ⟨⟨l, _, rfl, hl8, by unfold isNumD; rw [show isRatD (ratD (t, b)) = true from hq.1, Bool.or_true], b1, b2⟩, rfl⟩
  · have hb : b = 1 := h1
    subst hb
    exact ⟨⟨l, _, rfl, hl8, rfl, b1, b2⟩, rfl⟩
/-! ### data without lists does not lean on a list -/
mutual
def lf : PyData → Bool
  | .list _ => false
  | .dict _ => false
  | .tuple ds => lfAll ds
  | _ => true
def lfAll : List PyData → Bool
  | [] => true
  | d :: ds => lf d && lfAll ds
end
section
variable {K : PySem.W.Frag} {S : List Addr} {H : Hp} {D : Addr} {vals : List V}
theorem at_free {b : Addr} {o : HO} (hD : H D = some (.lst vals)) (no : o ≠ .lst vals) (h : dl S H b = some o) : dl (D :: S) H b = some o := by
  obtain ⟨e1, e2⟩ := dl_some h
  have nb : b ≠ D := by
    rintro rfl
    rw [hD] at e1
    exact no (Option.some.inj e1).symm
  rw [dl_out (by simp [nb, e2])]
  exact e1
theorem seqT_free {b : Addr} {xs : List V} (hD : H D = some (.lst vals)) (h : SqT K (dl S H) b xs) : SqT K (dl (D :: S) H) b xs := by
  rcases h with (h | ⟨o, h⟩) | h
  · exact .inl (.inl (at_free hD (fun z => by cases z) h))
  · exact .inl (.inr ⟨o, at_free hD (fun z => by cases z) h⟩)
  · exact .inr h
theorem dp_free (hD : H D = some (.lst vals)) {v : V} {d : PyData} (h : Dp K (dl S H) v d) : lf d = true → Dp K (dl (D :: S) H) v d :=
  Dp.rec (motive_1 := fun v d _ => lf d = true → Dp K (dl (D :: S) H) v d) (motive_2 := fun vs ds _ => lfAll ds = true → DpAll K (dl (D :: S) H) vs ds)
    (fun _ => .non) (fun _ _ => .bl _) (fun _ _ => .int _) (fun _ _ => .str _) (fun _ _ _ z => by cases z) (fun s _ ih z => .tup (seqT_free hD s) (ih z)) (fun _ => .nil)
    (fun _ _ i1 i2 z => by
      have z' : (lf _ && lfAll _) = true := z
      rw [Bool.and_eq_true] at z'
      exact .cons (i1 z'.1) (i2 z'.2)) h
end
section
variable {K : PySem.W.Frag} {S : List Addr} {H : Hp} {Q : VK} {E : XK}
/-- joined parts, read -/
theorem rd_told {way : List Nat} {ps : List (List Nat)} (hF : Fr S H) (hw : isWay way) (hl : ps.length ≤ 20) (hg : ∀ p ∈ ps, Good way p) (q : ∀ v H', Same H H' → Dp K (dl S H') v (.tuple [tD (cd "read"), .tuple (ps.map (rdOf way))]) → Q v H') :
    spD K R_reading [.str (tx way), .str (tx (TL.joinL [44, 32] ps))] H Q E := by
  have hj1 := joinL_len 100 ps fun p hp => (hg p hp).len
  have hj2 := joinL_ok ps fun p hp => (hg p hp).ok
  have hj3 := parts_join (fun p hp => (hg p hp).no) (ps := ps) (fun z => by
    have : ([] : List Nat) ∈ ps := by rw [z]; simp
    exact (hg _ this).ne rfl)
  refine rd_D hF (.cons (.str _) (.cons (.str _) .nil)) ⟨way, _, rfl, hw, by omega, hj2, fun p hp => (by rw [hj3] at hp; have := (hg p hp).len; omega), rfl⟩ fun v4 H4 S4 d4 => ?_
  rw [hj3] at d4
  have hna : noneAt (ps.map (rdOf way)) = none := by
    unfold noneAt
    rw [List.findIdx?_eq_none_iff]
    intro d hd
    obtain ⟨p, hp, rfl⟩ := List.mem_map.mp hd
    exact (hg p hp).rd
  have er : readRes (ps.map (rdOf way)) = .tuple [tD (cd "read"), .tuple (ps.map (rdOf way))] := by unfold readRes; rw [hna]
  rw [er] at d4
  exact q v4 H4 S4 d4
/-- what is read, as it is compared -/
theorem read_sh {ds : List PyData} (h : ∀ d ∈ ds, sh 3 d) : sh 5 (.tuple [tD (cd "read"), .tuple ds]) := sh_tup fun d hd => by
  rcases List.mem_cons.mp hd with rfl | hd
  · exact sh_str fun c hc => (show ∀ c ∈ cd "read", c < 1114112 by decide) c hc
  · rw [List.mem_singleton] at hd; subst hd
    exact sh_tup h
theorem row_sh {r : List Nat × (Int × Int)} (h : isNameL r.1 = true) : sh 3 (rowD r) := sh_tup fun d hd => by
  rcases List.mem_cons.mp hd with rfl | hd
  · exact sh_str (low_ok h).1
  · rw [List.mem_singleton] at hd; subst hd
    exact sh_rat r.2
theorem join_le {ps : List (List Nat)} (hl : ps.length ≤ 20) (h : ∀ p ∈ ps, p.length ≤ 100) : ((ps.map tx).map fun x => x.length).sum + (ps.map tx).length * (tx [44, 32]).length ≤ 16777216 := by
  rw [lens_tx, tx_len]
  have := sum_le 100 ps h
  rw [List.length_map]
  have h2 : (ps.map fun x => x.length).sum = (ps.map List.length).sum := rfl
  rw [h2]
  simp only [List.length_cons, List.length_nil]
  omega
end
def swapD : PyData → PyData
  | .tuple [a, b, c] => .tuple [a, c, b]
  | d => d
theorem swap_lim {d : PyData} (h : limG d) : limG (swapD d) := by
  obtain ⟨l, lo, hi, rfl, hl, h1, h2⟩ := h
  exact ⟨l, hi, lo, rfl, hl, h2, h1⟩
theorem limG_lf {d : PyData} (h : limG d) : lf d = true := by
  obtain ⟨l, lo, hi, rfl, hl, h1, h2⟩ := h
  rcases h1 with rfl | ⟨q, rfl, _⟩ <;> rcases h2 with rfl | ⟨q', rfl, _⟩ <;> rfl
theorem limG_end {d : PyData} (h : limG d) : R_end_text [d] (tD (limL d)) := by
  obtain ⟨l, lo, hi, rfl, hl, h1, h2⟩ := h
  have := (name_low hl).2.2
  exact ⟨l, lo, hi, rfl, by omega, h1, h2, rfl⟩
end My
namespace My
open PySem PySem.Spec PyProof.Rows L2
local macro_rules | `(tactic| walk_at "sx") => `(tactic| first | (simp only [cx_K, tB, iRng1, iRng2, iRng3, iList, iTup, wAs, tXf, tDictZip, tDGet1, rInD, rInT, tChain, tUn, rU, tCallS, WE, wOnly, tSl, tPart, tNoPart, tRevL, tStepL, tM0, tM1, wipe, tYes, Bool.not_eq_true', gCons, gNil, decide_eq_false_iff_not, tCall, tPar, tAndV, tOrV, tNotV, tIf, List.append_nil, rEq, rNe, scal_ii, scal_ss, scal_bb, scal_nn, scal_in, scal_ni, scal_sn, scal_ns, scal_is, scal_si, Bool.and_true, Bool.true_and, Bool.and_false, Bool.false_and, reduceCtorEq, tLst, tTup, Int.reduceToNat, decide_true, decide_false, Bool.not_true, Bool.not_false, Bool.false_eq_true, if_true, if_false, reduceIte, gSub, tAnd, tOr, tNot, tBM, tBM0, tNext, tSeq, tAsg, tOp, rI, rI0, tVar, tC, gName, tRet, tCB, tCons, tNil, tTest, tIfS, tDrop, L2.start, List.map_cons, List.map_nil, List.length_cons, List.length_nil, List.cons_append, List.nil_append, List.replicate, List.getElem?_cons_zero, List.getElem?_cons_succ, List.set_cons_zero, List.set_cons_succ, Option.some.injEq, V.int.injEq, V.str.injEq, V.bl.injEq, V.ref.injEq, exists_eq_left', exists_eq_left, exists_and_left, exists_eq', and_assoc, List.cons.injEq, and_true, true_and, decide_eq_true_eq, Nat.reduceAdd, Nat.reduceSub]) | skip)
local macro_rules | `(tactic| walk_at "isi") => `(tactic| first | (simp only [isi_none_int, isi_none_bool, isi_none_str, isi_none_list, isi_none_tuple, isi_bool_int, isi_bool_bool, isi_bool_str, isi_bool_list, isi_bool_tuple, isi_int_int, isi_int_bool, isi_int_str, isi_int_list, isi_int_tuple, isi_str_int, isi_str_bool, isi_str_str, isi_str_list, isi_str_tuple, isi_list_int, isi_list_bool, isi_list_str, isi_list_list, isi_list_tuple, isi_tuple_int, isi_tuple_bool, isi_tuple_str, isi_tuple_list, isi_tuple_tuple, isInt_none, isInt_bool, isInt_int, isInt_str, isInt_list, isInt_tuple]) | skip)
def spBox (K : PySem.W.Frag) : Sp := fun vs H Q _ => ∃ (p : Addr) (ns : List Int), vs = [.ref p] ∧ SqL K H p (ns.map V.int) ∧ ns.length ≤ 63 ∧ ∀ (a g s : Addr) (H' : Hp), Bx H' a g s 0 → Q (.ref a) H'
def spLaw (K : PySem.W.Frag) : Sp := fun vs H Q _ => ∃ (p : Addr) (ns : List Int), vs = [.ref p] ∧ SqL K H p (ns.map V.int) ∧ ns.length ≤ 63 ∧ ∀ H', Q (.bl true) H'
section
variable {P : Program} {w : World} {K : PySem.W.Frag} {mg : Str → Option Value} {base : Heap} {aW aB C : Addr} {ps : List Str}
theorem sc_box : FnScope ["_law_script", "_law_great", "_law_cell"] ["_law_script"] (defScope s_box) := ⟨rfl, rfl, rfl, by decide +kernel, rfl, by decide +kernel, by decide +kernel⟩
theorem ok_box (T : Txt K mg aW aB) (F : Dfn K mg "_law_box" s_box) : Rdy P w K mg base CX0 1 "_law_box" ["_law_script"] (spBox K) := by
  refine F.rdy sc_box (fun _ _ _ _ _ _ us hl => match us, hl with | [_], _ => rfl) (by rintro _ _ _ _ ⟨_, _, rfl, _⟩; rfl) (fun f cdv A outer s H vs Q E hr h => ?_)
  obtain ⟨p, ns, rfl, hp, hl, kp⟩ := h
  refine ⟨_, (pss_cons (ps_setLc (i := 1) (own := [("_law_cell", 2)]) (g := (gName 2)) rfl sc_box.nd rfl rfl (sw_true rfl rfl rfl (by decide +kernel)) (pi_list (pv 0)) (blkOk_by (N := ["_law_script", "_law_great", "_law_cell"]) (sc := defScope s_box) (by decide +kernel)) (fun _ _ _ _ _ => (pg_name (i := 2) sc_box.nd rfl (Or.inl rfl))) (fun _ _ _ _ _ => (pts_one (pt_cmpR op_ge (pv 2) (pe_op op_pow pe_int pe_int) (nomark _)))) (fun _ _ _ _ _ => (pv 2)))
      (pss_one (ps_ret (pe_lst (pa_cons (pv 1) (pa_cons pe_int (pa_cons (pe_lc (own := [("_law_cell", 2)]) (g := (gName 2)) rfl sc_box.nd (pi_list (pv 0)) (blkOk_by (N := ["_law_script", "_law_great", "_law_cell"]) (sc := defScope s_box) (by decide +kernel)) (fun _ _ _ _ _ => (pg_name (i := 2) sc_box.nd rfl (Or.inl rfl))) (fun _ _ _ _ _ => (pts_one (pt_cmpR op_lt (pv 2) (pe_op op_pow pe_int pe_int) (nomark _)))) (fun _ _ _ _ _ => (pv 2))) (pa_cons pe_int pa_nil)))))))), ?_⟩
  walk_at "sx"
  have hcp : CPow 10 18 := ⟨by decide, by decide, by decide⟩
  refine rd_lc fun R1 hR1 => ?_
  walk_at "sx"
  refine ⟨⟨_, hp⟩, hR1 _ _ fun D hD => lc_raw K [] no_mem walk_list Fr.nil hD (fun i ds H => ds = ((ns.take i).filter fun x => decide (10 ^ 18 ≤ x)).map PyData.int) (fun _ _ => by simp) (fun H2 sb => sb.nil.seq hp) (fun i x vals acc H1 H' hi hn hv hd hle sb fr hR hY => ?_) fun vals ds H1 hn hv hvs sb fr hle hR => ?_⟩
  · obtain ⟨rfl, hx1⟩ := hY
    rw [List.getElem?_map] at hx1
    obtain ⟨z, hz, rfl⟩ := Option.map_eq_some_iff.mp hx1
    have hzl := (List.getElem?_eq_some_iff.mp hz).1
    walk_at "sx"
    refine ⟨hcp, ?_⟩
    split
    · rename_i hc
      refine lc_put no_mem hD hn hv hd hle (by omega) sb .refl fr (.int z) fun H11 s11 f11 => ?_
      rw [hR, List.take_add_one, hz, List.filter_append]
      simp only [Option.toList_some, List.filter_cons, decide_eq_true hc, if_true, List.filter_nil, List.map_append, List.map_cons, List.map_nil]
    · rename_i hc
      refine lc_skip no_mem hn hv hd hle sb .refl fr ?_
      rw [hR, List.take_add_one, hz, List.filter_append]
      simp only [Option.toList_some, List.filter_cons, decide_eq_false hc, List.filter_nil, List.append_nil]
      simp
  · rw [List.length_map, List.take_length] at hR
    rw [hR] at hvs
    obtain rfl := dps_ints hvs
    have S1 := sb.nil
    refine rd_lc fun R2 hR2 => ?_
    walk_at "sx"
    refine ⟨⟨_, S1.seq hp⟩, hR2 _ _ fun D2 hD2 => lc_raw K [] no_mem walk_list Fr.nil hD2 (fun i ds H => ds = ((ns.take i).filter fun x => decide (x < 10 ^ 18)).map PyData.int) (fun _ _ => by simp) (fun H2 sb => sb.nil.seq (S1.seq hp)) (fun i x vals acc H3 H' hi hn hv hd hle sb fr hR hY => ?_) fun vals2 ds2 H2 hn2 hv2 hvs2 sb2 fr2 hle2 hR2 => ?_⟩
    · obtain ⟨rfl, hx1⟩ := hY
      rw [List.getElem?_map] at hx1
      obtain ⟨z, hz, rfl⟩ := Option.map_eq_some_iff.mp hx1
      have hzl := (List.getElem?_eq_some_iff.mp hz).1
      walk_at "sx"
      refine ⟨hcp, ?_⟩
      split
      · rename_i hc
        refine lc_put no_mem hD2 hn hv hd hle (by omega) sb .refl fr (.int z) fun H11 s11 f11 => ?_
        rw [hR, List.take_add_one, hz, List.filter_append]
        simp only [Option.toList_some, List.filter_cons, decide_eq_true hc, if_true, List.filter_nil, List.map_append, List.map_cons, List.map_nil]
      · rename_i hc
        refine lc_skip no_mem hn hv hd hle sb .refl fr ?_
        rw [hR, List.take_add_one, hz, List.filter_append]
        simp only [Option.toList_some, List.filter_cons, decide_eq_false hc, List.filter_nil, List.append_nil]
        simp
    · rw [List.length_map, List.take_length] at hR2
      rw [hR2] at hvs2
      obtain rfl := dps_ints hvs2
      have S2 := sb2.nil
      refine ⟨size_le (by decide), ?_⟩
      intro a ha; generalize e3 : upd _ a _ = H3
      obtain ⟨S3, ha3⟩ := new_of ha e3
      have hg2 := S2 _ _ hv
      refine kp a D D2 H3 ⟨⟨_, _, 0, 0, ha3, S3 _ _ hg2, S3 _ _ hv2, Int.le_refl _, fun x hx => ?_, Int.le_refl _, Int.le_refl _, ?_, ?_⟩, (ne_of_none hg2 ha).symm, (ne_of_none hv2 ha).symm, ?_⟩
      · have := (List.mem_filter.mp hx).2
        have := of_decide_eq_true this
        omega
      · exact Nat.le_trans (List.length_filter_le ..) hl
      · exact Nat.le_trans (List.length_filter_le ..) hl
      · rintro rfl
        rw [hv] at hD2
        cases hD2
theorem sc_law : FnScope ["_law_script", "_law_box_here", "_law_turn", "_law_names_here", "_law_pairs", "_law_given_here", "_law_parts", "_law_some", "_law_turned", "_law_one", "_law_name", "_law_number_here", "_law_low", "_law_high"] ["_law_script"] (defScope s_law) := ⟨rfl, rfl, rfl, by decide +kernel, rfl, by decide +kernel, by decide +kernel⟩
theorem ok_law {f : Addr} {fd : FuncData} (T : Txt K mg aW aB) (F : Fun K "law" "law" s_law f fd) (R_box : Rdy P w K mg base CX0 1 "_law_box" ["_law_script"] (spBox K)) (R_take : Rdy P w K mg base CX0 2 "_law_take" ["_law_box_here", "_law_size"] spTake)
    (R_shuffled : Rdy P w K mg base CX0 3 "_law_shuffled" ["_law_box_here", "_law_things"] (spB K 100 preSh R_shuffled)) (R_names : Rdy P w K mg base CX0 3 "_law_names" ["_law_box_here", "_law_many"] spNames)
    (R_number : Rdy P w K mg base CX0 3 "_law_number" ["_law_box_here"] (spB K 5 (· = []) R_number)) (R_given : Rdy P w K mg base CX0 3 "_law_given" ["_law_box_here", "_law_number_here"] (spB K 1 preGiven R_given))
    (R_written : Rdy P w K mg base CX0 1 "_law_written" ["_law_number_here"] (spD K R_written)) (R_end_text : Rdy P w K mg base CX0 2 "_law_end_text" ["_law_limit"] (spD K R_end_text))
    (R_reading : Rdy P w K mg base CX0 9 "_law_reading" ["_law_way", "_law_text"] (spD K R_reading)) (R_bent_right : Rdy P w K mg base CX0 10 "_law_bent_right" ["_law_box_here", "_law_way", "_law_parts"] (spB K 5 preBent R_true))
    (R_limit_of : Rdy P w K mg base CX0 4 "_law_limit_of" ["_law_box_here", "_law_name"] (spB K 11 preLim R_limit_of)) (R_told_again : Rdy P w K mg base CX0 10 "_law_told_again" ["_law_box_here", "_law_way", "_law_some", "_law_parts"] (spB K 10 preTold R_true))
    (R_table_text : Rdy P w K mg base CX0 5 "table_text" ["table"] (spD K R_table_text)) (R_limits_text : Rdy P w K mg base CX0 6 "limits_text" ["limits"] (spD K R_limits_text)) :
    FnOk P w K mg base CX0 11 f fd ["_law_script"] (spLaw K) := by
  refine F.ok sc_law (by rintro _ _ _ _ ⟨_, _, rfl, _⟩; rfl) (fun cdv A outer s H vs Q E hr h => ?_)
  obtain ⟨p, ns, rfl, hp, hl, kp⟩ := h
  refine ⟨_, (pss_cons (ps_set (i := 1) sc_law.nd rfl (Or.inr rfl) (pe_cl R_box (hr.mono (by decide)) pass0 (pa_cons (pv 0) pa_nil)))
      (pss_cons (ps_for PassesOwn.never rfl (pi_range1 (by rfl) T.b_range (pa_cons pe_int pa_nil)) (pg_name (i := 2) sc_law.nd rfl (Or.inl rfl))
      (pss_cons (ps_set (i := 3) sc_law.nd rfl (Or.inr rfl) (pe_cl R_names (hr.mono (by decide)) pass0 (pa_cons (pv 1) (pa_cons (pe_ix ix_list (pe_lst (pa_cons pe_int (pa_cons pe_int pa_nil))) (pe_callTy call_int1 (by rfl) T.b_int (by decide +kernel) (pa_cons (pe_cmpR op_eq (pe_cl R_take (hr.mono (by decide)) pass0 (pa_cons (pv 1) (pa_cons pe_int pa_nil))) pe_int (nomark _)) pa_nil)) (fun _ _ => rfl)) pa_nil))))
      (pss_cons (ps_set (i := 3) sc_law.nd rfl (Or.inr rfl) (pe_op op_cat (pv 3) (pe_lc (own := [("_law_one", 9)]) (g := (gName 9)) rfl sc_law.nd (pi_list (pe_lst (pa_cons pe_str (pa_cons pe_str pa_nil)))) (blkOk_by (N := ["_law_script", "_law_box_here", "_law_turn", "_law_names_here", "_law_pairs", "_law_given_here", "_law_parts", "_law_some", "_law_turned", "_law_one", "_law_name", "_law_number_here", "_law_low", "_law_high"]) (sc := defScope s_law) (by decide +kernel)) (fun _ _ _ _ _ => (pg_name (i := 9) sc_law.nd rfl (Or.inl rfl))) (fun _ _ _ _ _ => (pts_one (pt_cmpR (opK (K := K) (fun K => rIn K true) op_notIn_seq) (pv 9) (pv 3) (by rfl)))) (fun _ _ _ _ _ => (pv 9)))))
      (C8.pss_cut (ps_set (i := 3) sc_law.nd rfl (Or.inr rfl) (pe_slice sl_list (pe_cl R_shuffled (hr.mono (by decide)) pass0 (pa_cons (pv 1) (pa_cons (pv 3) pa_nil))) po_none (po_some (pe_cl R_take (hr.mono (by decide)) pass0 (pa_cons (pv 1) (pa_cons (pe_op op_add (pe_callB call_len (by rfl) T.b_len PySem.boot_len (pa_cons (pv 3) pa_nil)) pe_int) pa_nil))))))
      (pss_cons (ps_setLc (i := 4) (own := [("_law_name", 10)]) (g := (gName 10)) (tt := tYes) rfl sc_law.nd rfl rfl (sw_true rfl rfl rfl (by decide +kernel)) (pi_list (pv 3)) (blkOk_by (N := ["_law_script", "_law_box_here", "_law_turn", "_law_names_here", "_law_pairs", "_law_given_here", "_law_parts", "_law_some", "_law_turned", "_law_one", "_law_name", "_law_number_here", "_law_low", "_law_high"]) (sc := defScope s_law) (by decide +kernel)) (fun _ _ _ _ _ => (pg_name (i := 10) sc_law.nd rfl (Or.inl rfl))) (fun _ _ _ _ _ => pts_nil) (fun _ _ _ _ _ => (pe_tup (pa_cons (pv 10) (pa_cons (pe_cl R_number (hr.mono (by decide)) pass0 (pa_cons (pv 1) pa_nil)) pa_nil)))))
      (pss_cons (ps_setLc (i := 5) (own := [("_law_name", 10), ("_law_number_here", 11)]) (g := (gTup _ 2 (gCons (gName 10) (gCons (gName 11) gNil)))) (tt := tYes) rfl sc_law.nd rfl rfl (sw_true rfl rfl rfl (by decide +kernel)) (pi_list (pv 4)) (blkOk_by (N := ["_law_script", "_law_box_here", "_law_turn", "_law_names_here", "_law_pairs", "_law_given_here", "_law_parts", "_law_some", "_law_turned", "_law_one", "_law_name", "_law_number_here", "_law_low", "_law_high"]) (sc := defScope s_law) (by decide +kernel)) (fun _ _ _ _ _ => (pg_tup (n := 2) rfl (pgs_cons (pg_name (i := 10) sc_law.nd rfl (Or.inl rfl)) (pgs_cons (pg_name (i := 11) sc_law.nd rfl (Or.inl rfl)) pgs_nil)))) (fun _ _ _ _ _ => pts_nil) (fun _ _ _ _ _ => (pe_tup (pa_cons (pv 10) (pa_cons (pe_cl R_given (hr.mono (by decide)) pass0 (pa_cons (pv 1) (pa_cons (pv 11) pa_nil))) pa_nil)))))
      (C8.pss_cut (ps_setLc (i := 6) (own := [("_law_name", 10), ("_law_number_here", 11)]) (g := (gTup _ 2 (gCons (gName 10) (gCons (gName 11) gNil)))) (tt := tYes) rfl sc_law.nd rfl rfl (sw_true rfl rfl rfl (by decide +kernel)) (pi_list (pv 4)) (blkOk_by (N := ["_law_script", "_law_box_here", "_law_turn", "_law_names_here", "_law_pairs", "_law_given_here", "_law_parts", "_law_some", "_law_turned", "_law_one", "_law_name", "_law_number_here", "_law_low", "_law_high"]) (sc := defScope s_law) (by decide +kernel)) (fun _ _ _ _ _ => (pg_tup (n := 2) rfl (pgs_cons (pg_name (i := 10) sc_law.nd rfl (Or.inl rfl)) (pgs_cons (pg_name (i := 11) sc_law.nd rfl (Or.inl rfl)) pgs_nil)))) (fun _ _ _ _ _ => pts_nil) (fun _ _ _ _ _ => (pe_op op_add_str (pe_op op_add_str (pv 10) pe_str) (pe_cl R_written (hr.mono (by decide)) pass0 (pa_cons (pv 11) pa_nil)))))
      (pss_cons (ps_if (pt_cmpR op_ne (pe_cl R_table_text (hr.mono (by decide)) pass0 (pa_cons (pe_ix ix_list (pe_lst (pa_cons (pv 5) (pa_cons (pe_callTy call_tuple_of (by rfl) T.b_tuple (by decide +kernel) (pa_cons (pv 5) pa_nil)) pa_nil))) (pe_cl R_take (hr.mono (by decide)) pass0 (pa_cons (pv 1) (pa_cons pe_int pa_nil))) (fun _ _ => rfl)) pa_nil)) (pe_join pe_str (pv 6)) (nomark _)) (pss_one (ps_ret pe_bl)) pss_nil)
      (pss_cons (ps_if (pt_cmpR (op_neD hr.units) (pe_cl R_reading (hr.mono (by decide)) pass0 (pa_cons pe_str (pa_cons (pe_join pe_str (pv 6)) pa_nil))) (pe_tup (pa_cons pe_str (pa_cons (pe_callTy call_tuple_of (by rfl) T.b_tuple (by decide +kernel) (pa_cons (pv 4) pa_nil)) pa_nil))) (nomark _)) (pss_one (ps_ret pe_bl)) pss_nil)
      (C8.pss_cut (ps_if (PW.pt (pw_or (pt_not (pt_val (pe_cl R_bent_right (hr.mono (by decide)) pass0 (pa_cons (pv 1) (pa_cons pe_str (pa_cons (pv 6) pa_nil)))))) (pw_or1 (pt_not (pt_val (pe_cl R_told_again (hr.mono (by decide)) pass0 (pa_cons (pv 1) (pa_cons pe_str (pa_cons (pv 4) (pa_cons (pv 6) pa_nil)))))))))) (pss_one (ps_ret pe_bl)) pss_nil)
      (pss_cons (ps_setLc (i := 7) (own := [("_law_name", 10)]) (g := (gName 10)) (tt := tYes) rfl sc_law.nd rfl rfl (sw_true rfl rfl rfl (by decide +kernel)) (pi_list (pe_callB cr_sortedS (by rfl) T.b_sorted (by decide +kernel) (pa_cons (pv 3) pa_nil))) (blkOk_by (N := ["_law_script", "_law_box_here", "_law_turn", "_law_names_here", "_law_pairs", "_law_given_here", "_law_parts", "_law_some", "_law_turned", "_law_one", "_law_name", "_law_number_here", "_law_low", "_law_high"]) (sc := defScope s_law) (by decide +kernel)) (fun _ _ _ _ _ => (pg_name (i := 10) sc_law.nd rfl (Or.inl rfl))) (fun _ _ _ _ _ => pts_nil) (fun _ _ _ _ _ => (pe_cl R_limit_of (hr.mono (by decide)) pass0 (pa_cons (pv 1) (pa_cons (pv 10) pa_nil)))))
      (C8.pss_cut (ps_setLc (i := 6) (own := [("_law_one", 9)]) (g := (gName 9)) (tt := tYes) rfl sc_law.nd rfl rfl (sw_true rfl rfl rfl (by decide +kernel)) (pi_list (pv 7)) (blkOk_by (N := ["_law_script", "_law_box_here", "_law_turn", "_law_names_here", "_law_pairs", "_law_given_here", "_law_parts", "_law_some", "_law_turned", "_law_one", "_law_name", "_law_number_here", "_law_low", "_law_high"]) (sc := defScope s_law) (by decide +kernel)) (fun _ _ _ _ _ => (pg_name (i := 9) sc_law.nd rfl (Or.inl rfl))) (fun _ _ _ _ _ => pts_nil) (fun _ _ _ _ _ => (pe_cl R_end_text (hr.mono (by decide)) pass0 (pa_cons (pv 9) pa_nil))))
      (pss_cons (ps_if (pt_cmpR op_ne (pe_cl R_limits_text (hr.mono (by decide)) pass0 (pa_cons (pe_callTy call_tuple_of (by rfl) T.b_tuple (by decide +kernel) (pa_cons (pv 7) pa_nil)) pa_nil)) (pe_join pe_str (pv 6)) (nomark _)) (pss_one (ps_ret pe_bl)) pss_nil)
      (pss_cons (ps_if (pt_cmpR (op_neD hr.units) (pe_cl R_reading (hr.mono (by decide)) pass0 (pa_cons pe_str (pa_cons (pe_join pe_str (pv 6)) pa_nil))) (pe_tup (pa_cons pe_str (pa_cons (pe_callTy call_tuple_of (by rfl) T.b_tuple (by decide +kernel) (pa_cons (pv 7) pa_nil)) pa_nil))) (nomark _)) (pss_one (ps_ret pe_bl)) pss_nil)
      (C8.pss_cut (ps_if (PW.pt (pw_or (pt_not (pt_val (pe_cl R_bent_right (hr.mono (by decide)) pass0 (pa_cons (pv 1) (pa_cons pe_str (pa_cons (pv 6) pa_nil)))))) (pw_or1 (pt_not (pt_val (pe_cl R_told_again (hr.mono (by decide)) pass0 (pa_cons (pv 1) (pa_cons pe_str (pa_cons (pv 7) (pa_cons (pv 6) pa_nil)))))))))) (pss_one (ps_ret pe_bl)) pss_nil)
      (pss_cons (ps_setLc (i := 8) (own := [("_law_name", 10), ("_law_low", 12), ("_law_high", 13)]) (g := (gTup _ 3 (gCons (gName 10) (gCons (gName 12) (gCons (gName 13) gNil))))) (tt := tYes) rfl sc_law.nd rfl rfl (sw_true rfl rfl rfl (by decide +kernel)) (pi_list (pv 7)) (blkOk_by (N := ["_law_script", "_law_box_here", "_law_turn", "_law_names_here", "_law_pairs", "_law_given_here", "_law_parts", "_law_some", "_law_turned", "_law_one", "_law_name", "_law_number_here", "_law_low", "_law_high"]) (sc := defScope s_law) (by decide +kernel)) (fun _ _ _ _ _ => (pg_tup (n := 3) rfl (pgs_cons (pg_name (i := 10) sc_law.nd rfl (Or.inl rfl)) (pgs_cons (pg_name (i := 12) sc_law.nd rfl (Or.inl rfl)) (pgs_cons (pg_name (i := 13) sc_law.nd rfl (Or.inl rfl)) pgs_nil))))) (fun _ _ _ _ _ => pts_nil) (fun _ _ _ _ _ => (pe_tup (pa_cons (pv 10) (pa_cons (pv 13) (pa_cons (pv 12) pa_nil))))))
      (pss_one (ps_if (pt_cmpR (op_neD hr.units) (pe_cl R_reading (hr.mono (by decide)) pass0 (pa_cons pe_str (pa_cons (pe_join pe_str (pe_lc (own := [("_law_one", 9)]) (g := (gName 9)) (tt := tYes) rfl sc_law.nd (pi_list (pv 8)) (blkOk_by (N := ["_law_script", "_law_box_here", "_law_turn", "_law_names_here", "_law_pairs", "_law_given_here", "_law_parts", "_law_some", "_law_turned", "_law_one", "_law_name", "_law_number_here", "_law_low", "_law_high"]) (sc := defScope s_law) (by decide +kernel)) (fun _ _ _ _ _ => (pg_name (i := 9) sc_law.nd rfl (Or.inl rfl))) (fun _ _ _ _ _ => pts_nil) (fun _ _ _ _ _ => (pe_cl R_end_text (hr.mono (by decide)) pass0 (pa_cons (pv 9) pa_nil))))) pa_nil))) (pe_tup (pa_cons pe_str (pa_cons (pe_callTy call_tuple_of (by rfl) T.b_tuple (by decide +kernel) (pa_cons (pv 8) pa_nil)) pa_nil))) (nomark _)) (pss_one (ps_ret pe_bl)) pss_nil))))))))))))))))))
      (pss_one (ps_ret pe_bl)))), ?_⟩
  walk_at "sx"
  refine ⟨p, ns, rfl, hp, hl, fun a g s' H1 B1 => ?_⟩
  refine rd_for fun R hR => ?_
  walk_at "sx"
  obtain ⟨Pv, hPv⟩ : ∃ Pv : Nat → L2.St → Hp → Prop, ∀ i σ H2, Pv i σ H2 ↔ ∃ t2 t3 t4 t5 t6 t7 t8 : Option V, σ = [some (.ref p), some (.ref a), t2, t3, t4, t5, t6, t7, t8, none, none, none, none, none] ∧ Bx H2 a g s' (2000 * i) := ⟨_, fun _ _ _ => Iff.rfl⟩
  refine ⟨by decide, by decide, hR _ _ (for_it walk_range Pv ((hPv _ _ _).2 ⟨_, _, _, _, _, _, _, rfl, B1⟩) (fun _ _ _ _ _ => trivial) (fun i x σ H2 H' hi hp hy => ?_) fun σ H2 hp => ?_)⟩
  · obtain ⟨t2, t3, t4, t5, t6, t7, t8, rfl, B2⟩ := (hPv _ _ _).1 hp
    obtain ⟨rfl, rfl⟩ := hy
    have hi6 : i < 6 := by simpa using hi
    clear hR hp B1 kp
    walk_at "sx"
    refine ⟨size_le (by decide), ?_⟩
    intro p1 hp1; generalize e1 : upd _ p1 _ = H3
    obtain ⟨S3, hp1'⟩ := new_of hp1 e1
    have B3 := B2.same S3
    refine rd_take B3 (by omega) (by decide) (by decide) fun k H4 k0 k1 B4 S4 => ?_
    have hp4 := S4.at hp1' (B2.np hp1)
    refine ⟨rfl, .inr ?_⟩
    generalize hj : (if V.int k = V.int 0 then (1 : Int) else 0) = j
    have hj01 : j = 0 ∨ j = 1 := by rw [← hj]; split <;> simp
    obtain ⟨m, hm, hat⟩ : ∃ m : Nat, (m = 4 ∨ m = 10) ∧ atI [V.int 4, V.int 10] j = some (V.int (m : Nat)) := by
      rcases hj01 with rfl | rfl
      · exact ⟨4, .inl rfl, atI_nat (j := 0) rfl⟩
      · exact ⟨10, .inr rfl, atI_nat (j := 1) rfl⟩
    clear hj hj01
    refine rd_ixL hp4 hat ?_
    refine ⟨a, g, s', _, m, rfl, B4, by omega, by omega, fun nms l H5 hnl hnv S5 B5 hln hv5 => ?_⟩
    clear hat hp4 S4 S5 S3 hp1' e1 hp1 B3 B4
    refine rd_lc fun R2 hR2 => ?_
    walk_at "sx"
    refine ⟨size_le (by decide), ?_⟩
    intro p2 hp2; generalize e2 : upd _ p2 _ = H6
    rw [lit_kf, lit_kt] at e2
    obtain ⟨S6, hq2⟩ := new_of hp2 e2
    have B6 := B5.same S6
    have hv6 := S6 _ _ hv5
    refine ⟨⟨_, SqL.of hq2⟩, hR2 _ _ fun D hD => lc_raw K [] no_mem (walk_list (xs := ([cFrom, cTo].map tx).map V.str)) B6.fr hD (fun i ds H => ds = (([cFrom, cTo].take i).filter fun c => !decide (c ∈ nms)).map tD) (fun _ _ => by simp) (fun H3 sb => SqL.of (sb.nil _ _ hq2)) (fun i x vals acc H7 H8 hi hn hv hd hle sb fr hR3 hY => ?_) fun vals ds H7 hn hv hvs sb fr hle hR3 => ?_⟩
    · obtain ⟨rfl, hx1⟩ := hY
      simp only [List.getElem?_map, Option.map_map] at hx1
      obtain ⟨c, hc, hcx⟩ := Option.map_eq_some_iff.mp hx1
      obtain rfl : x = V.str (tx c) := hcx.symm
      walk_at "sx"
      refine ⟨l, _, rfl, .inl (SqL.of (sb.nil _ _ hv6)), rfl, by simp [flatV], ?_⟩
      refine ⟨_, rfl, ?_⟩
      rw [if_pos rfl, show inV (V.str (tx c)) ((nms.map tx).map V.str) = decide (c ∈ nms) by unfold inV; rw [List.map_map, List.any_map]; exact any_strs nms c]
      split
      · rename_i hfree
        refine lc_put no_mem hD hn hv hd hle (by simp at hi; omega) sb .refl fr (.str (tx c)) fun H11 s11 f11 => ?_
        rw [hR3, List.take_add_one, hc, List.filter_append]
        simp only [Option.toList_some, List.filter_cons, hfree, if_true, List.filter_nil, List.map_append, List.map_cons, List.map_nil]
      · rename_i hfree
        refine lc_skip no_mem hn hv hd hle sb .refl fr ?_
        rw [hR3, List.take_add_one, hc, List.filter_append]
        simp only [Option.toList_some, List.filter_cons, hfree, List.filter_nil, List.append_nil]
        simp
    · rw [show (([cFrom, cTo].map tx).map V.str).length = 2 from rfl, show [cFrom, cTo].take 2 = [cFrom, cTo] from rfl] at hR3
      generalize hex : [cFrom, cTo].filter (fun c => !decide (c ∈ nms)) = ex at *
      have hexl : ex.length ≤ 2 := by rw [← hex]; exact List.length_filter_le _ _
      have hexv : ∀ y ∈ ex, isNameL y = true := fun y hy => by
        rw [← hex] at hy
        exact (show ∀ y ∈ [cFrom, cTo], isNameL y = true by decide) y (List.mem_filter.mp hy).1
      rw [hR3, show ex.map tD = (ex.map tx).map PyData.str by simp] at hvs
      obtain rfl := dps_strs hvs
      have B7 := B6.same sb.nil
      have hv7 := sb.nil _ _ hv6
      refine rd_cat hv7 hv (by simp; omega) fun p3 H8 hp3 S8 hq3 => ?_
      have B8 := B7.same S8
      have np3 : p3 ∉ [a, g, s'] := B7.fr.new hp3
      rw [← List.map_append, ← List.map_append] at hq3
      generalize hnm : nms ++ ex = nm at *
      have hnml : nm.length ≤ 12 := by rw [← hnm, List.length_append]; omega
      have hnmv : ∀ y ∈ nm, isNameL y = true := fun y hy => by
        rw [← hnm] at hy
        rcases List.mem_append.mp hy with h | h
        · exact hnv y h
        · exact hexv y h
      have d8 : Dp K (dl [a, g, s'] H8) (.ref p3) (.list (nm.map tD)) := .lst (SqL.of (by rw [dl_out np3]; exact hq3)) (strs_dp nm)
      clear hR2 hq2 hv5 hv6 hv7 hv hp2 e2 hnv hexv hex hnm S6 B5 B6 sb fr hR3 hvs hexl hnl hle
      obtain ⟨MA, hMA⟩ : ∃ M : L2.St → Hp → Prop, ∀ σ H, M σ H ↔ ∃ (v : V) (nm : List (List Nat)) (t2 t4 t5 t6 t7 t8 : Option V), σ = [some (.ref p), some (.ref a), t2, some v, t4, t5, t6, t7, t8, none, none, none, none, none] ∧ Dp K (dl [a, g, s'] H) v (.list (nm.map tD)) ∧ nm.length ≤ 12 ∧ (∀ y ∈ nm, isNameL y = true) ∧ Bx H a g s' (2000 * i + 400) := ⟨_, fun _ _ => Iff.rfl⟩
      refine ⟨MA, ?_, fun σ H9 hm9 => ?_⟩
      · walk_at "sx"
        refine rd_B B8 (by omega) (dps_one d8) ⟨nm, rfl, by omega⟩ fun r v H9 h9 S9 B9 d9 => ?_
        obtain ⟨xs, ys, ee, rfl, hyl, hym⟩ := h9
        have ex : nm = xs := by injection ee with e1 _; injection e1 with e1; exact map_tD_inj e1
        subst ex
        have hq9 := S9.at hq3 (fun z => np3 (two_in _ z))
        refine rd_lenL (SqL.of hq9) ?_
        rw [List.length_map, List.length_map]
        refine rd_take B9 (by omega) (by omega) (by omega) fun k H10 k0 k1 B10 S10 => ?_
        obtain ⟨k', rfl⟩ := Int.eq_ofNat_of_zero_le k0
        obtain ⟨b9, zs, rfl, hb9, hzs⟩ := dp_lst (dp_same S10.d3 d9)
        refine ⟨_, rfl, b9, _, rfl, seqL_up hb9, ?_⟩
        intro p4 hp4; generalize e4 : upd _ p4 _ = H11
        rw [cutV_to] at e4
        obtain ⟨S11, F11, d11⟩ := new_lst (K := K) B10.fr hp4 e4 (dps_take k' hzs)
        rw [← List.map_take] at d11
        exact (hMA _ _).2 ⟨_, ys.take k', _, _, _, _, _, _, rfl, d11, by rw [List.length_take]; omega, fun y hy => hnmv y (hym y (List.mem_of_mem_take hy)), (B10.same S11).mono (by omega)⟩
      · clear hq3 d8 np3 hp3 S8 B7 B8 hnml hnmv
        obtain ⟨v3, nm, t2, t4, t5, t6, t7, t8, rfl, d3, hnml, hnmv, B9⟩ := (hMA _ _).1 hm9
        clear hMA hm9
        obtain ⟨b3, x3, rfl, hb3, hx3⟩ := dp_lst d3
        have hx3l := dps_len hx3
        rw [List.length_map] at hx3l
        walk_at "sx"
        -- the pairs
        refine rd_lc fun R3 hR3 => ?_
        walk_at "sx"
        obtain ⟨Rr, hRr⟩ : ∃ Rr : Nat → List PyData → Hp → Prop, ∀ j ds H2, Rr j ds H2 ↔ ∃ rows : List (List Nat × (Int × Int)), ds = rows.map rowD ∧ rows.length = j ∧ (∀ r ∈ rows, isNameL r.1 = true ∧ lawNum r.2) ∧ Bx H2 a g s' (2000 * i + 400 + 5 * j) := ⟨_, fun _ _ _ => Iff.rfl⟩
        refine ⟨⟨_, seqL_up hb3⟩, hR3 _ _ fun D hD => lc_gen K [a, g] two_in (walk_list (xs := x3)) B9.fr hD Rr (fun H2 S2 => (hRr _ _ _).2 ⟨[], rfl, rfl, fun _ h => (by cases h), B9.same S2⟩) (fun H2 sb => seqL_up (sb.d3.seq hb3)) (fun j x vals acc H10 H' hj hn hv hd hle sb fr hR4 hY => ?_) fun ds H10 sb fr hd10 hle hR4 => ?_⟩
        · obtain ⟨rows, rfl, hrl, hrv, B10⟩ := (hRr _ _ _).1 hR4
          obtain ⟨rfl, hx1⟩ := hY
          obtain ⟨d, hd1, hd2⟩ := dps_get hx3 hx1
          rw [List.getElem?_map] at hd1
          obtain ⟨c, hc, rfl⟩ := Option.map_eq_some_iff.mp hd1
          cases dp_str hd2
          walk_at "sx"
          refine rd_B B10 (by omega) .nil rfl fun r v H11 h11 S11 B11 d11 => ?_
          obtain ⟨q, rfl, hq⟩ := h11
          refine ⟨size_le (by decide), ?_⟩
          intro p4 hp4; generalize e4 : upd _ p4 _ = H12
          have hv11 := S11.at hv (fun z => hn (two_in _ z))
          obtain ⟨S12, F12, d12⟩ := new_tup (K := K) (B11.fr.cons hv11) hp4 e4 (.cons (.str (tx c)) (.cons (dp_free hv11 d11 rfl) .nil))
          refine lc_put two_in hD hn hv hd hle (by omega) sb (S11.trans (.of S12)) (B11.same S12).fr d12 fun H13 s13 f13 => ?_
          simp only [List.mem_cons, List.not_mem_nil, or_false, not_or] at hn
          refine (hRr _ _ _).2 ⟨rows ++ [(c, q)], by simp, by simp [hrl], fun r hr => ?_, ((B11.same S12).sameB s13 (by simpa using Ne.symm hn.1) (by simpa using Ne.symm hn.2.1) (by simpa using Ne.symm hn.2.2)).mono (by omega)⟩
          rcases List.mem_append.mp hr with h | h
          · exact hrv r h
          · rw [List.mem_singleton] at h; subst h; exact ⟨hnmv c (List.mem_of_getElem? hc), hq⟩
        · obtain ⟨rows, rfl, hrl, hrv, B10⟩ := (hRr _ _ _).1 hR4
          have d3' := dp_same sb.d3 d3
          have hr12 : rows.length ≤ 12 := by omega
          clear hR3 hRr hR4 B9 hb3 hx3 hx3l sb fr d3
          obtain ⟨b4, x4, e, hb4, hx4⟩ := dp_lst hd10
          cases e
          have hx4l := dps_len hx4
          rw [List.length_map] at hx4l
          have hrow : ∀ (j : Nat) (x : V), x4[j]? = some x → ∃ row t qv, rows[j]? = some row ∧ x = .ref t ∧ SqT K (dl [a, g, s'] H10) t [.str (tx row.1), qv] ∧ Dp K (dl [a, g, s'] H10) qv (ratD row.2) := by
            intro j x hx
            obtain ⟨d, hd1, hd2⟩ := dps_get hx4 hx
            rw [List.getElem?_map] at hd1
            obtain ⟨row, hr, rfl⟩ := Option.map_eq_some_iff.mp hd1
            obtain ⟨t, ys, rfl, ht, hys⟩ := dp_tup hd2
            obtain ⟨y1, y2, rfl, k1, k2⟩ := dps_2 hys
            cases dp_str k1
            exact ⟨row, t, y2, hr, rfl, ht, k2⟩
          -- the numbers given
          refine rd_lc fun R3 hR3 => ?_
          walk_at "sx"
          obtain ⟨Rr, hRr⟩ : ∃ Rr : Nat → List PyData → Hp → Prop, ∀ j ds H2, Rr j ds H2 ↔ ds.length = j ∧ (∀ d ∈ ds, rowOk d) ∧ ds.map rowL = (rows.take j).map partL ∧ Bx H2 a g s' (2000 * i + 500 + j) := ⟨_, fun _ _ _ => Iff.rfl⟩
          refine ⟨⟨_, seqL_up hb4⟩, hR3 _ _ fun D2 hD2 => lc_gen K [a, g] two_in (walk_list (xs := x4)) B10.fr hD2 Rr (fun H2 S2 => (hRr _ _ _).2 ⟨rfl, fun _ h => (by cases h), rfl, (B10.same S2).mono (by omega)⟩) (fun H2 sb => seqL_up (sb.d3.seq hb4)) (fun j x vals acc H11 H' hj hn hv hd hle sb fr hR4 hY => ?_) fun gs H11 sb fr hd11 hle hR4 => ?_⟩
          · obtain ⟨hal, hao, har, B11⟩ := (hRr _ _ _).1 hR4
            obtain ⟨rfl, hx1⟩ := hY
            obtain ⟨row, t, qv, hr1, rfl, ht, hqv⟩ := hrow j x hx1
            refine ⟨_, _, rfl, seqT_up (sameT sb.d3 ht), rfl, ?_⟩
            walk_at "sx"
            refine rd_B B11 (by omega) (dps_one (dp_same sb.d3 hqv)) ⟨row.2, rfl⟩ fun r v H12 h12 S12 B12 d12 => ?_
            obtain ⟨q', ee, hor⟩ := h12
            have eq' : row.2 = q' := by
              injection ee with e1 _
              injection e1 with e1
              injection e1 with e1 e2
              injection e2 with e2 _
              injection e1 with e1
              injection e2 with e2
              exact Prod.ext e1 e2
            subst eq'
            refine ⟨size_le (by decide), ?_⟩
            intro p4 hp4; generalize e4 : upd _ p4 _ = H13
            have hv12 := S12.at hv (fun z => hn (two_in _ z))
            have hlf : lf r = true := by rcases hor with rfl | ⟨_, rfl⟩ <;> rfl
            obtain ⟨S13, F13, d13⟩ := new_tup (K := K) (B12.fr.cons hv12) hp4 e4 (.cons (.str (tx row.1)) (.cons (dp_free hv12 d12 hlf) .nil))
            refine lc_put two_in hD2 hn hv hd hle (by omega) sb (S12.trans (.of S13)) (B12.same S13).fr d13 fun H14 s14 f14 => ?_
            simp only [List.mem_cons, List.not_mem_nil, or_false, not_or] at hn
            have hrv1 := hrv row (List.mem_of_getElem? hr1)
            have hg := given_row hrv1.1 hrv1.2 hor
            refine (hRr _ _ _).2 ⟨by simp [hal], fun d hd => ?_, ?_, ((B12.same S13).sameB s14 (by simpa using Ne.symm hn.1) (by simpa using Ne.symm hn.2.1) (by simpa using Ne.symm hn.2.2)).mono (by omega)⟩
            · rcases List.mem_append.mp hd with h | h
              · exact hao d h
              · rw [List.mem_singleton] at h; subst h; exact hg.1
            · rw [List.map_append, har, List.take_add_one, hr1, List.map_append]
              simp only [List.map_cons, List.map_nil, Option.toList_some]
              rw [show rowL (.tuple [PyData.str (tx row.1), r]) = partL row from hg.2]
          · obtain ⟨hal, hao, har, B11⟩ := (hRr _ _ _).1 hR4
            rw [show x4.length = rows.length from hx4l, List.take_length] at har
            have hb4' := sb.d3.seq hb4
            have hd10' := dp_same sb.d3 hd10
            have d3'' := dp_same sb.d3 d3'
            have hrow' : ∀ (j : Nat) (x : V), x4[j]? = some x → ∃ row t qv, rows[j]? = some row ∧ x = .ref t ∧ SqT K (dl [a, g, s'] H11) t [.str (tx row.1), qv] ∧ Dp K (dl [a, g, s'] H11) qv (ratD row.2) := fun j x hx => by
              obtain ⟨row, t, qv, h1, h2, h3, h4⟩ := hrow j x hx
              exact ⟨row, t, qv, h1, h2, sameT sb.d3 h3, dp_same sb.d3 h4⟩
            clear hrow hb4 hd10 d3' hR3 hRr hR4 B10 sb fr hx4
            obtain ⟨MB, hMB⟩ : ∃ M : L2.St → Hp → Prop, ∀ σ H, M σ H ↔ ∃ (v3 v4 v5 v6 : V) (rows : List (List Nat × (Int × Int))) (gs : List PyData) (t2 t7 t8 : Option V), σ = [some (.ref p), some (.ref a), t2, some v3, some v4, some v5, some v6, t7, t8, none, none, none, none, none] ∧ Dp K (dl [a, g, s'] H) v3 (.list (nm.map tD)) ∧ Dp K (dl [a, g, s'] H) v4 (.list (rows.map rowD)) ∧ Dp K (dl [a, g, s'] H) v5 (.list gs) ∧ Dp K (dl [a, g, s'] H) v6 (.list ((rows.map partL).map tD)) ∧
              rows.length ≤ 12 ∧ (∀ r ∈ rows, isNameL r.1 = true ∧ lawNum r.2) ∧ gs.length ≤ 12 ∧ (∀ d ∈ gs, rowOk d) ∧ gs.map rowL = rows.map partL ∧ Bx H a g s' (2000 * i + 600) := ⟨_, fun _ _ => Iff.rfl⟩
            have hrows12 : rows.length ≤ 12 := by omega
            refine ⟨MB, ?_, fun σ H12 hm12 => ?_⟩
            · walk_at "sx"
              refine rd_lc fun R3 hR3 => ?_
              walk_at "sx"
              refine ⟨⟨_, seqL_up hb4'⟩, hR3 _ _ fun D3 hD3 => lc_gen K [] no_mem (walk_list (xs := x4)) B11.fr hD3 (fun j ds H => ds = ((rows.take j).map partL).map tD) (fun _ _ => by simp) (fun H2 sb => sb.nil.seq (seqL_up hb4')) (fun j x vals acc H12 H' hj hn hv hd hle sb fr hR4 hY => ?_) fun ds H12 sb fr hd12 hle hR4 => ?_⟩
              · obtain ⟨rfl, hx1⟩ := hY
                obtain ⟨row, t, qv, hr1, rfl, ht, hqv⟩ := hrow' j x hx1
                have hrv1 := hrv row (List.mem_of_getElem? hr1)
                have hn8 := (name_low hrv1.1).2.2
                have hrs := ratL_short hrv1.2
                refine ⟨_, _, rfl, sameT sb.nil (seqT_up ht), rfl, ?_⟩
                walk_at "sx"
                rw [lit_eq, tx_cat, tx_len, tx_len]
                refine ⟨size_le (by simp; omega), ?_⟩
                refine rd_D fr (dps_one (dp_same (dl_same sb.nil) hqv)) ⟨row.2, rfl, hrv1.2, rfl⟩ fun v5 H5 S5 hv5 => ?_
                cases dp_str hv5
                refine ⟨_, rfl, by rw [tx_len, tx_len]; exact size_le (by simp; omega), ?_⟩
                rw [tx_cat]
                refine lc_put no_mem hD3 hn hv hd hle (by omega) sb (.of S5) (fr.same S5) (.str _) fun H6 s6 f6 => ?_
                rw [hR4, List.take_add_one, hr1]
                simp [partL]
              · rw [show x4.length = rows.length from hx4l, List.take_length] at hR4
                subst hR4
                exact (hMB _ _).2 ⟨_, _, _, _, rows, gs, _, _, _, rfl, dp_same (dl_same sb.nil) d3'', dp_same (dl_same sb.nil) hd10', dp_same (dl_same sb.nil) hd11, hd12, hrows12, hrv, by omega, hao, har, (B11.same sb.nil).mono (by omega)⟩
            · clear hb4' hrow' hd11 d3'' hao har hrv B11 hrows12 hal hle hr12 hx4l hrl
              obtain ⟨v3, v4, v5, v6, rows, gs, t2, t7, t8, rfl, d3, d4, d5, d6, hr12, hrv, hg12, hgo, hgr, B12⟩ := (hMB _ _).1 hm12
              clear hMB hm12
              obtain ⟨b5, x5, rfl, hb5, hx5⟩ := dp_lst d5
              obtain ⟨b4, x4, rfl, hb4, hx4⟩ := dp_lst d4
              obtain ⟨b6, x6, rfl, hb6, hx6⟩ := dp_lst d6
              rw [show (rows.map partL).map tD = ((rows.map partL).map tx).map PyData.str by simp] at hx6
              obtain rfl := dps_strs hx6
              have hgp : ∀ pp ∈ rows.map partL, Good (cd "table") pp := fun pp hpp => by
                obtain ⟨r, hr, rfl⟩ := List.mem_map.mp hpp
                exact (good_part (hrv r hr).1 (hrv r hr).2).1
              have hrd : (rows.map partL).map (rdOf (cd "table")) = rows.map rowD := by
                rw [List.map_map]
                exact List.map_congr_left fun r hr => (good_part (hrv r hr).1 (hrv r hr).2).2
              have hpl12 : (rows.map partL).length ≤ 20 := by rw [List.length_map]; omega
              have hj := join_le hpl12 fun pp hpp => (hgp pp hpp).len
              have hshr : sh 5 (.tuple [tD (cd "read"), .tuple (rows.map rowD)]) := read_sh fun d hd => by
                obtain ⟨r, hr, rfl⟩ := List.mem_map.mp hd
                exact row_sh (hrv r hr).1
              walk_at "sx"
              refine ⟨_, .inl ⟨seqL_up hb5, ?_⟩⟩
              intro p7 hp7; generalize e7 : upd _ p7 _ = H13
              obtain ⟨S13, F13, d13⟩ := new_tup (K := K) B12.fr hp7 e7 hx5
              refine ⟨size_le (by decide), ?_⟩
              intro p8 hp8; generalize e8 : upd _ p8 _ = H14
              obtain ⟨S14, hq14⟩ := new_of hp8 e8
              have B14 := B12.same (S13.trans S14)
              have np8 := (B12.same S13).np hp8
              refine rd_take B14 (by omega) (by decide) (by decide) fun k H15 k0 k1 B15 S15 => ?_
              have hq15 := S15.at hq14 np8
              have S1215 : SameB [a, g] H12 H15 := (SameB.of (S13.trans S14)).trans S15
              obtain ⟨ev, hev, hed⟩ : ∃ ev, atI [V.ref b5, V.ref p7] k = some ev ∧ ∃ t, (t = .list gs ∨ t = .tuple gs) ∧ Dp K (dl [a, g, s'] H15) ev t := by
                have : k = 0 ∨ k = 1 := by omega
                rcases this with rfl | rfl
                · exact ⟨_, atI_nat (j := 0) rfl, _, .inl rfl, dp_same S1215.d3 d5⟩
                · exact ⟨_, atI_nat (j := 1) rfl, _, .inr rfl, dp_same ((SameB.of S14).trans S15).d3 d13⟩
              obtain ⟨t, ht, hed⟩ := hed
              refine rd_ixL hq15 hev ?_
              refine rd_D B15.fr (dps_one hed) ⟨t, gs, rfl, ht, by omega, hgo, rfl⟩ fun v16 H16 S16 d16 => ?_
              cases dp_str d16
              have B16 := B15.same S16
              have S1216 := S1215.trans (.of S16)
              have hb6' := S1216.d3.seq hb6
              rw [lit_cs]
              refine ⟨_, .inl (seqL_up hb6'), hj, ?_⟩
              rw [join_tx, hgr]
              refine ⟨rfl, ?_⟩
              rw [if_neg (fun z => z rfl)]
              -- the table read
              refine ⟨_, .inl (seqL_up hb6'), hj, ?_⟩
              rw [join_tx, tx_cd "table"]
              refine rd_told B16.fr (.inl rfl) hpl12 hgp fun v17 H17 S17 d17 => ?_
              rw [hrd] at d17
              have B17 := B16.same S17
              have S1217 := S1216.trans (.of S17)
              refine ⟨_, .inl ⟨seqL_up (S1217.d3.seq hb4), ?_⟩⟩
              intro p9 hp9; generalize e9 : upd _ p9 _ = H18
              obtain ⟨S18, F18, d18⟩ := new_tup (K := K) B17.fr hp9 e9 (dps_same S1217.d3 hx4)
              refine ⟨size_le (by decide), ?_⟩
              intro p10 hp10; generalize e10 : upd _ p10 _ = H19
              rw [tx_cd] at e10
              obtain ⟨S19, F19, d19⟩ := new_tup (K := K) F18 hp10 e10 (.cons (.str (tx (cd "read"))) (.cons d18 .nil))
              have S1719 := S18.trans S19
              refine ⟨_, _, dp_up (dp_same (dl_same S1719) d17), dp_up d19, hshr.ok (by decide), hshr.ok (by decide), _, rfl, ?_⟩
              rw [hshr.refl, if_neg (by decide)]
              have B19 := B17.same S1719
              have S1219 := S1217.trans (.of S1719)
              have d3' := dp_same S1219.d3 d3
              have d4' := dp_same S1219.d3 d4
              have d6' := dp_same S1219.d3 d6
              rw [← hrd] at d4'
              clear d17 d18 d19 hb6' hb6 hb5 hb4 hx5 hx4 hx6 e7 e8 e9 e10 F18 F19 F13 d13 hed ht hev hq15 hq14
              obtain ⟨MC, hMC⟩ : ∃ M : L2.St → Hp → Prop, ∀ σ H, M σ H ↔ ∃ (v3 : V) (t2 t4 t5 t6 t7 t8 : Option V), σ = [some (.ref p), some (.ref a), t2, some v3, t4, t5, t6, t7, t8, none, none, none, none, none] ∧ Dp K (dl [a, g, s'] H) v3 (.list (nm.map tD)) ∧ Bx H a g s' (2000 * i + 700) := ⟨_, fun _ _ => Iff.rfl⟩
              refine ⟨MC, ?_, fun σ H20 hm20 => ?_⟩
              · walk_at "sx"
                refine rd_B B19 (by omega) (.cons (.str _) (dps_one d6')) ⟨_, _, rfl, .inl rfl, hpl12, hgp⟩ fun r v H20 h20 S20 B20 d20 => ?_
                obtain rfl : r = .bool true := h20
                cases dp_bl d20
                refine ⟨_, rfl, ?_⟩
                rw [if_neg (by decide)]
                refine rd_B B20 (by omega) (.cons (.str _) (.cons (dp_same S20.d3 d4') (dps_one (dp_same S20.d3 d6')))) ⟨_, _, rfl, .inl rfl, hpl12, hgp, fun pp hpp => ?_⟩ fun r v H21 h21 S21 B21 d21 => ?_
                · obtain ⟨r, hr, rfl⟩ := List.mem_map.mp hpp
                  rw [(good_part (hrv r hr).1 (hrv r hr).2).2]
                  exact row_sh (hrv r hr).1
                obtain rfl : r = .bool true := h21
                cases dp_bl d21
                refine ⟨_, rfl, ?_⟩
                rw [if_neg (by decide)]
                exact (hMC _ _).2 ⟨_, _, _, _, _, _, _, rfl, dp_same (S20.trans S21).d3 d3', B21.mono (by omega)⟩
              · clear hrd hgp hj hshr hgr hgo hrv d3' d4' d6' B19 S1219 d3 d4 d5 d6 B12 B14 B15 B16 B17 hpl12
                obtain ⟨v3, t2, t4, t5, t6, t7, t8, rfl, d3, B20⟩ := (hMC _ _).1 hm20
                clear hMC hm20
                obtain ⟨b3, x3, rfl, hb3, hx3⟩ := dp_lst d3
                rw [show nm.map tD = (nm.map tx).map PyData.str by simp] at hx3
                obtain rfl := dps_strs hx3
                walk_at "sx"
                refine rd_lc fun R3 hR3 => ?_
                walk_at "sx"
                refine ⟨b3, nm.map tx, rfl, seqL_up hb3, by rw [List.length_map]; omega, fun ys p21 hperm hsort hp21 => ?_⟩
                obtain ⟨cs, hcs, hcm⟩ : ∃ cs : List (List Nat), ys = cs.map tx ∧ ∀ c ∈ cs, c ∈ nm := by
                  refine ⟨ys.map TL.tl, ?_, fun c hc => ?_⟩
                  · rw [List.map_map, show (tx ∘ TL.tl) = id from funext fun y => (tx_tl y).symm, List.map_id]
                  · obtain ⟨y, hy, rfl⟩ := List.mem_map.mp hc
                    obtain ⟨c, hc', rfl⟩ := List.mem_map.mp (hperm.mem_iff.mp hy)
                    exact hc'
                have hcl : cs.length ≤ 12 := by
                  have := hperm.length_eq
                  rw [hcs, List.length_map, List.length_map] at this
                  omega
                subst hcs
                clear hperm hsort
                generalize e21 : upd _ p21 _ = H21
                obtain ⟨S21, hq21⟩ := new_of hp21 e21
                have B21 := B20.same S21
                obtain ⟨Rr, hRr⟩ : ∃ Rr : Nat → List PyData → Hp → Prop, ∀ j ds H2, Rr j ds H2 ↔ ds.length = j ∧ (∀ d ∈ ds, limG d) ∧ Bx H2 a g s' (2000 * i + 700 + 11 * j) := ⟨_, fun _ _ _ => Iff.rfl⟩
                refine ⟨p21, rfl, ⟨_, SqL.of hq21⟩, hR3 _ _ fun D hD => lc_gen K [a, g] two_in (walk_list (xs := (cs.map tx).map V.str)) B21.fr hD Rr (fun H2 S2 => (hRr _ _ _).2 ⟨rfl, fun _ h => (by cases h), (B21.same S2).mono (by omega)⟩) (fun H2 sb => SqL.of (sb.at hq21 (B20.np hp21))) (fun j x vals acc H22 H' hj hn hv hd hle sb fr hR4 hY => ?_) fun ls H22 sb fr hd22 hle hR4 => ?_⟩
                · obtain ⟨hal, hav, B22⟩ := (hRr _ _ _).1 hR4
                  obtain ⟨rfl, hx1⟩ := hY
                  simp only [List.getElem?_map, Option.map_map] at hx1
                  obtain ⟨c, hc, hcx⟩ := Option.map_eq_some_iff.mp hx1
                  obtain rfl : x = V.str (tx c) := hcx.symm
                  have hjl := (List.getElem?_eq_some_iff.mp hc).1
                  walk_at "sx"
                  refine rd_B B22 (by omega) (.cons (.str _) .nil) ⟨c, rfl⟩ fun r v H23 h23 S23 B23 d23 => ?_
                  obtain ⟨l, lo, hi, ee, rfl, h1, h2⟩ := h23
                  have el : c = l := by injection ee with e1 _; injection e1 with e1; exact SX.S_inj e1
                  subst el
                  have hlim : limG (.tuple [tD c, lo, hi]) := ⟨c, lo, hi, rfl, hnmv c (hcm c (List.mem_of_getElem? hc)), h1, h2⟩
                  have hv23 := S23.at hv (fun z => hn (two_in _ z))
                  refine lc_put two_in hD hn hv hd hle (by omega) sb S23 B23.fr (dp_free hv23 d23 (limG_lf hlim)) fun H24 s24 f24 => ?_
                  simp only [List.mem_cons, List.not_mem_nil, or_false, not_or] at hn
                  refine (hRr _ _ _).2 ⟨by simp [hal], fun d hd => ?_, (B23.sameB s24 (by simpa using Ne.symm hn.1) (by simpa using Ne.symm hn.2.1) (by simpa using Ne.symm hn.2.2)).mono (by omega)⟩
                  rcases List.mem_append.mp hd with h | h
                  · exact hav d h
                  · rw [List.mem_singleton] at h; subst h; exact hlim
                · obtain ⟨hal, hav, B22⟩ := (hRr _ _ _).1 hR4
                  have hl12 : ls.length ≤ 12 := by simp at hal; omega
                  have B22' := B22.mono (n := 2000 * i + 900) (by simp; omega)
                  clear hRr hR4 hR3 B22 hle hal sb fr B20 B21 d3 hb3 hnml hnmv
                  obtain ⟨b7, x7, e, hb7, hx7⟩ := dp_lst hd22
                  cases e
                  have hx7l := dps_len hx7
                  obtain ⟨MD, hMD⟩ : ∃ M : L2.St → Hp → Prop, ∀ σ H, M σ H ↔ ∃ (v6 v7 : V) (ls : List PyData) (t2 t3 t4 t5 t8 : Option V), σ = [some (.ref p), some (.ref a), t2, t3, t4, t5, some v6, some v7, t8, none, none, none, none, none] ∧ Dp K (dl [a, g, s'] H) v7 (.list ls) ∧ Dp K (dl [a, g, s'] H) v6 (.list ((ls.map limL).map tD)) ∧ ls.length ≤ 12 ∧ (∀ d ∈ ls, limG d) ∧ Bx H a g s' (2000 * i + 900) := ⟨_, fun _ _ => Iff.rfl⟩
                  refine ⟨MD, ?_, fun σ H23 hm23 => ?_⟩
                  · walk_at "sx"
                    refine rd_lc fun R3 hR3 => ?_
                    walk_at "sx"
                    refine ⟨⟨_, seqL_up hb7⟩, hR3 _ _ fun D3 hD3 => lc_gen K [] no_mem (walk_list (xs := x7)) B22'.fr hD3 (fun j ds H => ds = ((ls.take j).map limL).map tD) (fun _ _ => by simp) (fun H2 sb => sb.nil.seq (seqL_up hb7)) (fun j x vals acc H23 H' hj hn hv hd hle sb fr hR4 hY => ?_) fun ds H23 sb fr hd23 hle hR4 => ?_⟩
                    · obtain ⟨rfl, hx1⟩ := hY
                      obtain ⟨d, hd1, hd2⟩ := dps_get hx7 hx1
                      walk_at "sx"
                      refine rd_D fr (dps_one (dp_same (dl_same sb.nil) hd2)) (limG_end (hav d (List.mem_of_getElem? hd1))) fun v5 H5 S5 hv5 => ?_
                      cases dp_str hv5
                      refine lc_put no_mem hD3 hn hv hd hle (by omega) sb (.of S5) (fr.same S5) (.str _) fun H6 s6 f6 => ?_
                      rw [hR4, List.take_add_one, hd1]
                      simp
                    · rw [hx7l, List.take_length] at hR4
                      subst hR4
                      exact (hMD _ _).2 ⟨_, _, ls, _, _, _, _, _, rfl, dp_same (dl_same sb.nil) hd22, hd23, hl12, hav, B22'.same sb.nil⟩
                  · clear hd22 hb7 hx7 hx7l hl12 hav B22'
                    obtain ⟨v6, v7, ls, t2, t3, t4, t5, t8, rfl, d7, d6, hl12, hav, B23⟩ := (hMD _ _).1 hm23
                    clear hMD hm23
                    obtain ⟨b7, x7, rfl, hb7, hx7⟩ := dp_lst d7
                    obtain ⟨b6, x6, rfl, hb6, hx6⟩ := dp_lst d6
                    rw [show (ls.map limL).map tD = ((ls.map limL).map tx).map PyData.str by simp] at hx6
                    obtain rfl := dps_strs hx6
                    have hgp : ∀ pp ∈ ls.map limL, Good (cd "limits") pp := fun pp hpp => by
                      obtain ⟨r, hr, rfl⟩ := List.mem_map.mp hpp
                      exact (good_lim (hav r hr)).1
                    have hrd : (ls.map limL).map (rdOf (cd "limits")) = ls := by
                      rw [List.map_map]
                      exact (List.map_congr_left fun r hr => (good_lim (hav r hr)).2.1).trans (List.map_id _)
                    have hpl12 : (ls.map limL).length ≤ 20 := by rw [List.length_map]; omega
                    have hj := join_le hpl12 fun pp hpp => (hgp pp hpp).len
                    have hshr : sh 5 (.tuple [tD (cd "read"), .tuple ls]) := read_sh fun d hd => (good_lim (hav d hd)).2.2.2
                    walk_at "sx"
                    refine ⟨_, .inl ⟨seqL_up hb7, ?_⟩⟩
                    intro p7 hp7; generalize e7 : upd _ p7 _ = H24
                    obtain ⟨S24, F24, d24⟩ := new_tup (K := K) B23.fr hp7 e7 hx7
                    refine rd_D F24 (dps_one d24) ⟨_, ls, rfl, .inr rfl, by omega, fun d hd => (good_lim (hav d hd)).2.2.1, rfl⟩ fun v25 H25 S25 d25 => ?_
                    cases dp_str d25
                    have S2325 := S24.trans S25
                    have B25 := B23.same S2325
                    have hb6' := (dl_same S2325).seq hb6
                    refine ⟨_, .inl (seqL_up hb6'), hj, ?_⟩
                    rw [join_tx]
                    refine ⟨rfl, ?_⟩
                    rw [if_neg (fun z => z rfl)]
                    refine ⟨_, .inl (seqL_up hb6'), hj, ?_⟩
                    rw [join_tx, tx_cd "limits"]
                    refine rd_told B25.fr (.inr rfl) hpl12 hgp fun v26 H26 S26 d26 => ?_
                    rw [hrd] at d26
                    have B26 := B25.same S26
                    have S2326 := S2325.trans S26
                    refine ⟨_, .inl ⟨seqL_up ((dl_same S2326).seq hb7), ?_⟩⟩
                    intro p9 hp9; generalize e9 : upd _ p9 _ = H27
                    obtain ⟨S27, F27, d27⟩ := new_tup (K := K) B26.fr hp9 e9 (dps_same (dl_same S2326) hx7)
                    refine ⟨size_le (by decide), ?_⟩
                    intro p10 hp10; generalize e10 : upd _ p10 _ = H28
                    rw [tx_cd] at e10
                    obtain ⟨S28, F28, d28⟩ := new_tup (K := K) F27 hp10 e10 (.cons (.str (tx (cd "read"))) (.cons d27 .nil))
                    have S2628 := S27.trans S28
                    refine ⟨_, _, dp_up (dp_same (dl_same S2628) d26), dp_up d28, hshr.ok (by decide), hshr.ok (by decide), _, rfl, ?_⟩
                    rw [hshr.refl, if_neg (by decide)]
                    have B28 := B26.same S2628
                    have S2328 := S2326.trans S2628
                    have d7' := dp_same (dl_same S2328) d7
                    have d6' := dp_same (dl_same S2328) d6
                    clear d26 d27 d28 hb6' hb6 hb7 hx7 hx6 e7 e9 e10 F24 F27 F28 d24
                    obtain ⟨ME, hME⟩ : ∃ M : L2.St → Hp → Prop, ∀ σ H, M σ H ↔ ∃ (v7 : V) (t2 t3 t4 t5 t6 t8 : Option V), σ = [some (.ref p), some (.ref a), t2, t3, t4, t5, t6, some v7, t8, none, none, none, none, none] ∧ Dp K (dl [a, g, s'] H) v7 (.list ls) ∧ Bx H a g s' (2000 * i + 1000) := ⟨_, fun _ _ => Iff.rfl⟩
                    refine ⟨ME, ?_, fun σ H29 hm29 => ?_⟩
                    · walk_at "sx"
                      refine rd_B B28 (by omega) (.cons (.str _) (dps_one d6')) ⟨_, _, rfl, .inr rfl, hpl12, hgp⟩ fun r v H29 h29 S29 B29 d29 => ?_
                      obtain rfl : r = .bool true := h29
                      cases dp_bl d29
                      refine ⟨_, rfl, ?_⟩
                      rw [if_neg (by decide)]
                      have d7r := dp_same S29.d3 d7'
                      rw [← hrd] at d7r
                      refine rd_B B29 (by omega) (.cons (.str _) (.cons d7r (dps_one (dp_same S29.d3 d6')))) ⟨_, _, rfl, .inr rfl, hpl12, hgp, fun pp hpp => ?_⟩ fun r v H30 h30 S30 B30 d30 => ?_
                      · obtain ⟨r, hr, rfl⟩ := List.mem_map.mp hpp
                        rw [(good_lim (hav r hr)).2.1]
                        exact (good_lim (hav r hr)).2.2.2
                      obtain rfl : r = .bool true := h30
                      cases dp_bl d30
                      refine ⟨_, rfl, ?_⟩
                      rw [if_neg (by decide)]
                      exact (hME _ _).2 ⟨_, _, _, _, _, _, _, rfl, dp_same (S29.trans S30).d3 d7', B30.mono (by omega)⟩
                    · clear hrd hgp hj hshr d7' d6' B28 S2328 d6 d7 B23 B25 B26 hpl12
                      obtain ⟨v7, t2, t3, t4, t5, t6, t8, rfl, d7, B29⟩ := (hME _ _).1 hm29
                      clear hME hm29
                      obtain ⟨b7, x7, rfl, hb7, hx7⟩ := dp_lst d7
                      have hx7l := dps_len hx7
                      walk_at "sx"
                      refine rd_lc fun R3 hR3 => ?_
                      walk_at "sx"
                      refine ⟨⟨_, seqL_up hb7⟩, hR3 _ _ fun D3 hD3 => lc_gen K [] no_mem (walk_list (xs := x7)) B29.fr hD3 (fun j ds H => ds = (ls.take j).map swapD) (fun _ _ => by simp) (fun H2 sb => sb.nil.seq (seqL_up hb7)) (fun j x vals acc H30 H' hj hn hv hd hle sb fr hR4 hY => ?_) fun ds H30 sb fr hd30 hle hR4 => ?_⟩
                      · obtain ⟨rfl, hx1⟩ := hY
                        obtain ⟨d, hd1, hd2⟩ := dps_get hx7 hx1
                        obtain ⟨l, lo, hi, rfl, hl1, hl2, hl3⟩ := hav d (List.mem_of_getElem? hd1)
                        have hlim := swap_lim (d := .tuple [tD l, lo, hi]) ⟨l, lo, hi, rfl, hl1, hl2, hl3⟩
                        have hd2' := dp_in hD3 no_mem sb hd2
                        obtain ⟨t, ys, rfl, ht, hys⟩ := dp_tup hd2'
                        obtain ⟨y1, y2, y3, rfl, k1, k2, k3⟩ := dps_3 hys
                        cases dp_str k1
                        refine ⟨_, _, rfl, seqT_up ht, rfl, ?_⟩
                        walk_at "sx"
                        refine ⟨size_le (by decide), ?_⟩
                        intro p4 hp4; generalize e4 : upd _ p4 _ = H31
                        obtain ⟨S31, F31, d31⟩ := new_tup (K := K) (ds := [tD l, hi, lo]) (fr.cons hv) hp4 e4 (.cons (.str (tx l)) (.cons k3 (.cons k2 .nil)))
                        refine lc_put no_mem hD3 hn hv hd hle (by omega) sb (.of S31) (fr.same S31) d31 fun H6 s6 f6 => ?_
                        rw [hR4, List.take_add_one, hd1]
                        simp [swapD]
                      · rw [hx7l, List.take_length] at hR4
                        generalize hls : ls.map swapD = ls2 at *
                        subst hR4
                        have hav2 : ∀ d ∈ ds, limG d := fun d hd => by
                          rw [← hls] at hd
                          obtain ⟨d0, hd0, rfl⟩ := List.mem_map.mp hd
                          exact swap_lim (hav d0 hd0)
                        have hl2 : ds.length ≤ 12 := by rw [← hls, List.length_map]; omega
                        have B30 := B29.same sb.nil
                        clear hls hav hl12 hx7l hb7 hx7 d7 hle hR3
                        obtain ⟨b8, x8, e, hb8, hx8⟩ := dp_lst hd30
                        cases e
                        have hx8l := dps_len hx8
                        have hgp : ∀ pp ∈ ds.map limL, Good (cd "limits") pp := fun pp hpp => by
                          obtain ⟨r, hr, rfl⟩ := List.mem_map.mp hpp
                          exact (good_lim (hav2 r hr)).1
                        have hrd : (ds.map limL).map (rdOf (cd "limits")) = ds := by
                          rw [List.map_map]
                          exact (List.map_congr_left fun r hr => (good_lim (hav2 r hr)).2.1).trans (List.map_id _)
                        have hpl12 : (ds.map limL).length ≤ 20 := by rw [List.length_map]; omega
                        have hj := join_le hpl12 fun pp hpp => (hgp pp hpp).len
                        have hshr : sh 5 (.tuple [tD (cd "read"), .tuple ds]) := read_sh fun d hd => (good_lim (hav2 d hd)).2.2.2
                        refine rd_lc fun R4 hR4 => ?_
                        walk_at "sx"
                        refine ⟨⟨_, seqL_up hb8⟩, hR4 _ _ fun D4 hD4 => lc_gen K [] no_mem (walk_list (xs := x8)) B30.fr hD4 (fun j es H => es = ((ds.take j).map limL).map tD) (fun _ _ => by simp) (fun H2 sb => sb.nil.seq (seqL_up hb8)) (fun j x vals acc H31 H' hj hn hv hd hle sb fr hR5 hY => ?_) fun es H31 sb fr hd31 hle hR5 => ?_⟩
                        · obtain ⟨rfl, hx1⟩ := hY
                          obtain ⟨d, hd1, hd2⟩ := dps_get hx8 hx1
                          walk_at "sx"
                          refine rd_D fr (dps_one (dp_same (dl_same sb.nil) hd2)) (limG_end (hav2 d (List.mem_of_getElem? hd1))) fun v5 H5 S5 hv5 => ?_
                          cases dp_str hv5
                          refine lc_put no_mem hD4 hn hv hd hle (by omega) sb (.of S5) (fr.same S5) (.str _) fun H6 s6 f6 => ?_
                          rw [hR5, List.take_add_one, hd1]
                          simp
                        · rw [hx8l, List.take_length] at hR5
                          have S31 := sb.nil
                          rw [hR5, show (ds.map limL).map tD = ((ds.map limL).map tx).map PyData.str by simp] at hd31
                          obtain ⟨_, x9, e, hb9, hx9⟩ := dp_lst hd31
                          cases e
                          obtain rfl := dps_strs hx9
                          have B31 := B30.same S31
                          refine ⟨_, rfl, _, .inl (seqL_up hb9), hj, ?_⟩
                          rw [join_tx]
                          refine rd_told B31.fr (.inr rfl) hpl12 hgp fun v26 H26 S26 d26 => ?_
                          rw [hrd] at d26
                          have B26 := B31.same S26
                          refine ⟨_, rfl, _, .inl ⟨seqL_up ((dl_same (S31.trans S26)).seq hb8), ?_⟩⟩
                          intro p9 hp9; generalize e9 : upd _ p9 _ = H27
                          obtain ⟨S27, F27, d27⟩ := new_tup (K := K) B26.fr hp9 e9 (dps_same (dl_same (S31.trans S26)) hx8)
                          refine ⟨size_le (by decide), ?_⟩
                          intro p10 hp10; generalize e10 : upd _ p10 _ = H28
                          rw [tx_cd] at e10
                          obtain ⟨S28, F28, d28⟩ := new_tup (K := K) F27 hp10 e10 (.cons (.str (tx (cd "read"))) (.cons d27 .nil))
                          have S2628 := S27.trans S28
                          refine ⟨_, _, dp_up (dp_same (dl_same S2628) d26), dp_up d28, hshr.ok (by decide), hshr.ok (by decide), _, rfl, ?_⟩
                          rw [hshr.refl, if_neg (by decide)]
                          exact (hPv _ _ _).2 ⟨_, _, _, _, _, _, _, rfl, (B26.same S2628).mono (by omega)⟩
  · obtain ⟨t2, t3, t4, t5, t6, t7, t8, rfl, B2⟩ := (hPv _ _ _).1 hp
    walk_at "sx"
    exact kp _
end
end My
/-! End: what the top has written; the law. -/
namespace My
open PySem PySem.Spec PyProof.Rows L2
theorem exm_own {K : PySem.W.Frag} {S : Addr} (b : PySem.W.subIn K (.ref S) (.type "BaseException") = some true) (c : PySem.W.isClsIn K S = true) (t : PySem.W.typeIn K (.ref S) = some (.type "type")) (u : PySem.W.subIn K (.ref S) (.ref S) = some true) : PySem.W.exmOne K (.ref S) (.ref S) = some true := by
  unfold PySem.W.exmOne PySem.W.kitCls
  have c2 : (PySem.W.clsIn K S).isSome = true := c
  simp [b, c2, t, u]
section
variable {P : Program} {w : World} {K : PySem.W.Frag} {mg : Str → Option Value} {base : Heap}
theorem ini_scT : FnScope ["self", "text"] ["self", "text"] (defScope s_iInvalidText) := ⟨rfl, rfl, rfl, by decide +kernel, rfl, by decide +kernel, by decide +kernel⟩
theorem ini_scB : FnScope ["self", "at"] ["self", "at"] (defScope s_iBadText) := ⟨rfl, rfl, rfl, by decide +kernel, rfl, by decide +kernel, by decide +kernel⟩
theorem ini_T {C : Addr} (B : BaseC K mg "SheetError") (D : Exc1 K mg "InvalidText" "text" s_iInvalidText C) (m : PySem.W.exmOne K (.ref C) (.ref C) = some true) : ExcT P w K mg base "InvalidText" "text" s_iInvalidText ["self", "text"] C :=
  ⟨D, fun fI fd F => ⟨ok_ini B D F ini_scT rfl fun cdv A outer s H E => ⟨_, pss_cons (ps_expr (pe_clsinit B (pa_cons (pv 0) (pa_cons pe_str pa_nil)))) (pss_one (ps_ost (pv 0) (pv 1)))⟩, F.binds fun _ _ _ _ _ _ us hl => match us, hl with | [_, _], _ => rfl⟩, m⟩
theorem ini_B {C : Addr} (B : BaseC K mg "SheetError") (D : Exc1 K mg "BadText" "at" s_iBadText C) (m : PySem.W.exmOne K (.ref C) (.ref C) = some true) : ExcT P w K mg base "BadText" "at" s_iBadText ["self", "at"] C :=
  ⟨D, fun fI fd F => ⟨ok_ini B D F ini_scB rfl fun cdv A outer s H E => ⟨_, pss_cons (ps_expr (pe_clsinit B (pa_cons (pv 0) (pa_cons pe_str pa_nil)))) (pss_one (ps_ost (pv 0) (pv 1)))⟩, F.binds fun _ _ _ _ _ _ us hl => match us, hl with | [_, _], _ => rfl⟩, m⟩
end

theorem all_mk {l : PySem.W.OpenLaw} {w : World} {K : PySem.W.Frag} {h : Heap} {mg : Str → Option Value} {fa : Addr} (X : K.In h) (G : h.Ns mainGlobals mg) (hfa : mg "law" = some (.ref fa))
    {f0 : Addr} {od0 an0 : Option Addr} {sl0 : Array (Option Value)} {oc0 kV0 dc0 pm0 cd0 ct0 : Value}
    {f1 : Addr} {od1 an1 : Option Addr} {sl1 : Array (Option Value)} {oc1 kV1 dc1 pm1 cd1 ct1 : Value}
    {f2 : Addr} {od2 an2 : Option Addr} {sl2 : Array (Option Value)} {oc2 kV2 dc2 pm2 cd2 ct2 : Value}
    {f3 : Addr} {od3 an3 : Option Addr} {sl3 : Array (Option Value)} {oc3 kV3 dc3 pm3 cd3 ct3 : Value}
    {f4 : Addr} {od4 an4 : Option Addr} {sl4 : Array (Option Value)} {oc4 kV4 dc4 pm4 cd4 ct4 : Value}
    {TT : Addr} {TO : Option Addr} {TS : Array (Option Value)} {Tn Tk : Nat}
    {f5 : Addr} {od5 an5 : Option Addr} {sl5 : Array (Option Value)} {oc5 kV5 dc5 pm5 cd5 ct5 : Value}
    {f6 : Addr} {od6 an6 : Option Addr} {sl6 : Array (Option Value)} {oc6 kV6 dc6 pm6 cd6 ct6 : Value}
    {f7 : Addr} {od7 an7 : Option Addr} {sl7 : Array (Option Value)} {oc7 kV7 dc7 pm7 cd7 ct7 : Value}
    {f8 : Addr} {od8 an8 : Option Addr} {sl8 : Array (Option Value)} {oc8 kV8 dc8 pm8 cd8 ct8 : Value}
    {f9 : Addr} {od9 an9 : Option Addr} {sl9 : Array (Option Value)} {oc9 kV9 dc9 pm9 cd9 ct9 : Value}
    {f10 : Addr} {od10 an10 : Option Addr} {sl10 : Array (Option Value)} {oc10 kV10 dc10 pm10 cd10 ct10 : Value}
    {f11 : Addr} {od11 an11 : Option Addr} {sl11 : Array (Option Value)} {oc11 kV11 dc11 pm11 cd11 ct11 : Value}
    {f12 : Addr} {od12 an12 : Option Addr} {sl12 : Array (Option Value)} {oc12 kV12 dc12 pm12 cd12 ct12 : Value}
    {f13 : Addr} {od13 an13 : Option Addr} {sl13 : Array (Option Value)} {oc13 kV13 dc13 pm13 cd13 ct13 : Value}
    {f14 : Addr} {od14 an14 : Option Addr} {sl14 : Array (Option Value)} {oc14 kV14 dc14 pm14 cd14 ct14 : Value}
    {f15 : Addr} {od15 an15 : Option Addr} {sl15 : Array (Option Value)} {oc15 kV15 dc15 pm15 cd15 ct15 : Value}
    {f16 : Addr} {od16 an16 : Option Addr} {sl16 : Array (Option Value)} {oc16 kV16 dc16 pm16 cd16 ct16 : Value}
    {f17 : Addr} {od17 an17 : Option Addr} {sl17 : Array (Option Value)} {oc17 kV17 dc17 pm17 cd17 ct17 : Value}
    {f18 : Addr} {od18 an18 : Option Addr} {sl18 : Array (Option Value)} {oc18 kV18 dc18 pm18 cd18 ct18 : Value}
    {f19 : Addr} {od19 an19 : Option Addr} {sl19 : Array (Option Value)} {oc19 kV19 dc19 pm19 cd19 ct19 : Value}
    {f20 : Addr} {od20 an20 : Option Addr} {sl20 : Array (Option Value)} {oc20 kV20 dc20 pm20 cd20 ct20 : Value}
    {f21 : Addr} {od21 an21 : Option Addr} {sl21 : Array (Option Value)} {oc21 kV21 dc21 pm21 cd21 ct21 : Value}
    {f22 : Addr} {od22 an22 : Option Addr} {sl22 : Array (Option Value)} {oc22 kV22 dc22 pm22 cd22 ct22 : Value}
    {f23 : Addr} {od23 an23 : Option Addr} {sl23 : Array (Option Value)} {oc23 kV23 dc23 pm23 cd23 ct23 : Value}
    {f24 : Addr} {od24 an24 : Option Addr} {sl24 : Array (Option Value)} {oc24 kV24 dc24 pm24 cd24 ct24 : Value}
    {f25 : Addr} {od25 an25 : Option Addr} {sl25 : Array (Option Value)} {oc25 kV25 dc25 pm25 cd25 ct25 : Value}
    {f26 : Addr} {od26 an26 : Option Addr} {sl26 : Array (Option Value)} {oc26 kV26 dc26 pm26 cd26 ct26 : Value}
    {f27 : Addr} {od27 an27 : Option Addr} {sl27 : Array (Option Value)} {oc27 kV27 dc27 pm27 cd27 ct27 : Value}
    {f28 : Addr} {od28 an28 : Option Addr} {sl28 : Array (Option Value)} {oc28 kV28 dc28 pm28 cd28 ct28 : Value}
    {f29 : Addr} {od29 an29 : Option Addr} {sl29 : Array (Option Value)} {oc29 kV29 dc29 pm29 cd29 ct29 : Value}
    {f30 : Addr} {od30 an30 : Option Addr} {sl30 : Array (Option Value)} {oc30 kV30 dc30 pm30 cd30 ct30 : Value}
    {f31 : Addr} {od31 an31 : Option Addr} {sl31 : Array (Option Value)} {oc31 kV31 dc31 pm31 cd31 ct31 : Value}
    {f32 : Addr} {od32 an32 : Option Addr} {sl32 : Array (Option Value)} {oc32 kV32 dc32 pm32 cd32 ct32 : Value}
    {f33 : Addr} {od33 an33 : Option Addr} {sl33 : Array (Option Value)} {oc33 kV33 dc33 pm33 cd33 ct33 : Value}
    {f34 : Addr} {od34 an34 : Option Addr} {sl34 : Array (Option Value)} {oc34 kV34 dc34 pm34 cd34 ct34 : Value}
    {f35 : Addr} {od35 an35 : Option Addr} {sl35 : Array (Option Value)} {oc35 kV35 dc35 pm35 cd35 ct35 : Value}
    {f36 : Addr} {od36 an36 : Option Addr} {sl36 : Array (Option Value)} {oc36 kV36 dc36 pm36 cd36 ct36 : Value}
    {f37 : Addr} {od37 an37 : Option Addr} {sl37 : Array (Option Value)} {oc37 kV37 dc37 pm37 cd37 ct37 : Value}
    {f38 : Addr} {od38 an38 : Option Addr} {sl38 : Array (Option Value)} {oc38 kV38 dc38 pm38 cd38 ct38 : Value}
    {f39 : Addr} {od39 an39 : Option Addr} {sl39 : Array (Option Value)} {oc39 kV39 dc39 pm39 cd39 ct39 : Value}
    {f40 : Addr} {od40 an40 : Option Addr} {sl40 : Array (Option Value)} {oc40 kV40 dc40 pm40 cd40 ct40 : Value}
    {f41 : Addr} {od41 an41 : Option Addr} {sl41 : Array (Option Value)} {oc41 kV41 dc41 pm41 cd41 ct41 : Value}
    {f42 : Addr} {od42 an42 : Option Addr} {sl42 : Array (Option Value)} {oc42 kV42 dc42 pm42 cd42 ct42 : Value}
    {g1 g2 g3 g4 g5 : Nat}
    {aW aB b0 b1 b2 b3 : Addr} {wo wo0 wo1 wo2 wo3 wo4 : Option Addr} {ws ws0 ws1 ws2 ws3 ws4 : Array (Option Value)} {wn wn0 wn1 wn2 wn3 wn4 h1 h2 h3 h4 h5 h6 : Nat}
    {CS : Addr}
    {CT fT NT : Addr} {nmT qqT : Str} {bsT bmT suT : List Value} {snT : List Str} {abT : Bool} {coT : Option Bool} {ddT : Option Addr} {m0T m1T m2T m3T m5T : Option Value} {odT anT : Option Addr} {slT : Array (Option Value)} {ocT dcT pmT cdT ctT kVT : Value}
    {CB fB NB : Addr} {nmB qqB : Str} {bsB bmB suB : List Value} {snB : List Str} {abB : Bool} {coB : Option Bool} {ddB : Option Addr} {m0B m1B m2B m3B m5B : Option Value} {odB anB : Option Addr} {slB : Array (Option Value)} {ocB dcB pmB cdB ctB kVB : Value}
    (a0 : PySem.W.nsIn K mainGlobals "is_integer" = some (some (.ref f0)))
    (l0 : K.lookup f0 = some ⟨oc0, od0, .func (PySem.W.fnOf "is_integer" "is_integer" (defArgs s_is_integer) (defBody s_is_integer) (defScope s_is_integer) .none kV0 dc0 pm0 an0 cd0 ct0), sl0⟩)
    (c0 : PySem.W.codeIn K cd0 "is_integer" = true)
    (k0 : PySem.W.keepIn K (.ref f0) = true)
    (a1 : PySem.W.nsIn K mainGlobals "common_divisor" = some (some (.ref f1)))
    (l1 : K.lookup f1 = some ⟨oc1, od1, .func (PySem.W.fnOf "common_divisor" "common_divisor" (defArgs s_common_divisor) (defBody s_common_divisor) (defScope s_common_divisor) .none kV1 dc1 pm1 an1 cd1 ct1), sl1⟩)
    (c1 : PySem.W.codeIn K cd1 "common_divisor" = true)
    (k1 : PySem.W.keepIn K (.ref f1) = true)
    (a2 : PySem.W.nsIn K mainGlobals "is_ratio" = some (some (.ref f2)))
    (l2 : K.lookup f2 = some ⟨oc2, od2, .func (PySem.W.fnOf "is_ratio" "is_ratio" (defArgs s_is_ratio) (defBody s_is_ratio) (defScope s_is_ratio) .none kV2 dc2 pm2 an2 cd2 ct2), sl2⟩)
    (c2 : PySem.W.codeIn K cd2 "is_ratio" = true)
    (k2 : PySem.W.keepIn K (.ref f2) = true)
    (a3 : PySem.W.nsIn K mainGlobals "as_ratio" = some (some (.ref f3)))
    (l3 : K.lookup f3 = some ⟨oc3, od3, .func (PySem.W.fnOf "as_ratio" "as_ratio" (defArgs s_as_ratio) (defBody s_as_ratio) (defScope s_as_ratio) .none kV3 dc3 pm3 an3 cd3 ct3), sl3⟩)
    (c3 : PySem.W.codeIn K cd3 "as_ratio" = true)
    (k3 : PySem.W.keepIn K (.ref f3) = true)
    (a4 : PySem.W.nsIn K mainGlobals "ratio" = some (some (.ref f4)))
    (l4 : K.lookup f4 = some ⟨oc4, od4, .func (PySem.W.fnOf "ratio" "ratio" (defArgs s_ratio) (defBody s_ratio) (defScope s_ratio) (.ref TT) kV4 dc4 pm4 an4 cd4 ct4), sl4⟩)
    (c4 : PySem.W.codeIn K cd4 "ratio" = true)
    (k4 : PySem.W.keepIn K (.ref f4) = true)
    (lT : K.lookup TT = some ⟨.type "tuple", TO, .seq #[.int 1 Tk] Tn, TS⟩)
    (a5 : PySem.W.nsIn K mainGlobals "times" = some (some (.ref f5)))
    (l5 : K.lookup f5 = some ⟨oc5, od5, .func (PySem.W.fnOf "times" "times" (defArgs s_times) (defBody s_times) (defScope s_times) .none kV5 dc5 pm5 an5 cd5 ct5), sl5⟩)
    (c5 : PySem.W.codeIn K cd5 "times" = true)
    (k5 : PySem.W.keepIn K (.ref f5) = true)
    (a6 : PySem.W.nsIn K mainGlobals "multiply" = some (some (.ref f6)))
    (l6 : K.lookup f6 = some ⟨oc6, od6, .func (PySem.W.fnOf "multiply" "multiply" (defArgs s_multiply) (defBody s_multiply) (defScope s_multiply) .none kV6 dc6 pm6 an6 cd6 ct6), sl6⟩)
    (c6 : PySem.W.codeIn K cd6 "multiply" = true)
    (k6 : PySem.W.keepIn K (.ref f6) = true)
    (a7 : PySem.W.nsIn K mainGlobals "digits_of" = some (some (.ref f7)))
    (l7 : K.lookup f7 = some ⟨oc7, od7, .func (PySem.W.fnOf "digits_of" "digits_of" (defArgs s_digits_of) (defBody s_digits_of) (defScope s_digits_of) .none kV7 dc7 pm7 an7 cd7 ct7), sl7⟩)
    (c7 : PySem.W.codeIn K cd7 "digits_of" = true)
    (k7 : PySem.W.keepIn K (.ref f7) = true)
    (a8 : PySem.W.nsIn K mainGlobals "number_of" = some (some (.ref f8)))
    (l8 : K.lookup f8 = some ⟨oc8, od8, .func (PySem.W.fnOf "number_of" "number_of" (defArgs s_number_of) (defBody s_number_of) (defScope s_number_of) .none kV8 dc8 pm8 an8 cd8 ct8), sl8⟩)
    (c8 : PySem.W.codeIn K cd8 "number_of" = true)
    (k8 : PySem.W.keepIn K (.ref f8) = true)
    (a9 : PySem.W.nsIn K mainGlobals "ratio_text" = some (some (.ref f9)))
    (l9 : K.lookup f9 = some ⟨oc9, od9, .func (PySem.W.fnOf "ratio_text" "ratio_text" (defArgs s_ratio_text) (defBody s_ratio_text) (defScope s_ratio_text) .none kV9 dc9 pm9 an9 cd9 ct9), sl9⟩)
    (c9 : PySem.W.codeIn K cd9 "ratio_text" = true)
    (k9 : PySem.W.keepIn K (.ref f9) = true)
    (a10 : PySem.W.nsIn K mainGlobals "is_digits" = some (some (.ref f10)))
    (l10 : K.lookup f10 = some ⟨oc10, od10, .func (PySem.W.fnOf "is_digits" "is_digits" (defArgs s_is_digits) (defBody s_is_digits) (defScope s_is_digits) .none kV10 dc10 pm10 an10 cd10 ct10), sl10⟩)
    (c10 : PySem.W.codeIn K cd10 "is_digits" = true)
    (k10 : PySem.W.keepIn K (.ref f10) = true)
    (a11 : PySem.W.nsIn K mainGlobals "read_unsigned" = some (some (.ref f11)))
    (l11 : K.lookup f11 = some ⟨oc11, od11, .func (PySem.W.fnOf "read_unsigned" "read_unsigned" (defArgs s_read_unsigned) (defBody s_read_unsigned) (defScope s_read_unsigned) .none kV11 dc11 pm11 an11 cd11 ct11), sl11⟩)
    (c11 : PySem.W.codeIn K cd11 "read_unsigned" = true)
    (k11 : PySem.W.keepIn K (.ref f11) = true)
    (a12 : PySem.W.nsIn K mainGlobals "read_ratio" = some (some (.ref f12)))
    (l12 : K.lookup f12 = some ⟨oc12, od12, .func (PySem.W.fnOf "read_ratio" "read_ratio" (defArgs s_read_ratio) (defBody s_read_ratio) (defScope s_read_ratio) .none kV12 dc12 pm12 an12 cd12 ct12), sl12⟩)
    (c12 : PySem.W.codeIn K cd12 "read_ratio" = true)
    (k12 : PySem.W.keepIn K (.ref f12) = true)
    (a13 : PySem.W.nsIn K mainGlobals "is_name" = some (some (.ref f13)))
    (l13 : K.lookup f13 = some ⟨oc13, od13, .func (PySem.W.fnOf "is_name" "is_name" (defArgs s_is_name) (defBody s_is_name) (defScope s_is_name) .none kV13 dc13 pm13 an13 cd13 ct13), sl13⟩)
    (c13 : PySem.W.codeIn K cd13 "is_name" = true)
    (k13 : PySem.W.keepIn K (.ref f13) = true)
    (a14 : PySem.W.nsIn K mainGlobals "number_or_none" = some (some (.ref f14)))
    (l14 : K.lookup f14 = some ⟨oc14, od14, .func (PySem.W.fnOf "number_or_none" "number_or_none" (defArgs s_number_or_none) (defBody s_number_or_none) (defScope s_number_or_none) .none kV14 dc14 pm14 an14 cd14 ct14), sl14⟩)
    (c14 : PySem.W.codeIn K cd14 "number_or_none" = true)
    (k14 : PySem.W.keepIn K (.ref f14) = true)
    (a15 : PySem.W.nsIn K mainGlobals "parts_of" = some (some (.ref f15)))
    (l15 : K.lookup f15 = some ⟨oc15, od15, .func (PySem.W.fnOf "parts_of" "parts_of" (defArgs s_parts_of) (defBody s_parts_of) (defScope s_parts_of) .none kV15 dc15 pm15 an15 cd15 ct15), sl15⟩)
    (c15 : PySem.W.codeIn K cd15 "parts_of" = true)
    (k15 : PySem.W.keepIn K (.ref f15) = true)
    (a16 : PySem.W.nsIn K mainGlobals "without_bad" = some (some (.ref f16)))
    (l16 : K.lookup f16 = some ⟨oc16, od16, .func (PySem.W.fnOf "without_bad" "without_bad" (defArgs s_without_bad) (defBody s_without_bad) (defScope s_without_bad) .none kV16 dc16 pm16 an16 cd16 ct16), sl16⟩)
    (c16 : PySem.W.codeIn K cd16 "without_bad" = true)
    (k16 : PySem.W.keepIn K (.ref f16) = true)
    (a17 : PySem.W.nsIn K mainGlobals "table_text" = some (some (.ref f17)))
    (l17 : K.lookup f17 = some ⟨oc17, od17, .func (PySem.W.fnOf "table_text" "table_text" (defArgs s_table_text) (defBody s_table_text) (defScope s_table_text) .none kV17 dc17 pm17 an17 cd17 ct17), sl17⟩)
    (c17 : PySem.W.codeIn K cd17 "table_text" = true)
    (k17 : PySem.W.keepIn K (.ref f17) = true)
    (a18 : PySem.W.nsIn K mainGlobals "read_pair" = some (some (.ref f18)))
    (l18 : K.lookup f18 = some ⟨oc18, od18, .func (PySem.W.fnOf "read_pair" "read_pair" (defArgs s_read_pair) (defBody s_read_pair) (defScope s_read_pair) .none kV18 dc18 pm18 an18 cd18 ct18), sl18⟩)
    (c18 : PySem.W.codeIn K cd18 "read_pair" = true)
    (k18 : PySem.W.keepIn K (.ref f18) = true)
    (a19 : PySem.W.nsIn K mainGlobals "read_table" = some (some (.ref f19)))
    (l19 : K.lookup f19 = some ⟨oc19, od19, .func (PySem.W.fnOf "read_table" "read_table" (defArgs s_read_table) (defBody s_read_table) (defScope s_read_table) .none kV19 dc19 pm19 an19 cd19 ct19), sl19⟩)
    (c19 : PySem.W.codeIn K cd19 "read_table" = true)
    (k19 : PySem.W.keepIn K (.ref f19) = true)
    (a20 : PySem.W.nsIn K mainGlobals "limit_text" = some (some (.ref f20)))
    (l20 : K.lookup f20 = some ⟨oc20, od20, .func (PySem.W.fnOf "limit_text" "limit_text" (defArgs s_limit_text) (defBody s_limit_text) (defScope s_limit_text) .none kV20 dc20 pm20 an20 cd20 ct20), sl20⟩)
    (c20 : PySem.W.codeIn K cd20 "limit_text" = true)
    (k20 : PySem.W.keepIn K (.ref f20) = true)
    (a21 : PySem.W.nsIn K mainGlobals "limits_text" = some (some (.ref f21)))
    (l21 : K.lookup f21 = some ⟨oc21, od21, .func (PySem.W.fnOf "limits_text" "limits_text" (defArgs s_limits_text) (defBody s_limits_text) (defScope s_limits_text) .none kV21 dc21 pm21 an21 cd21 ct21), sl21⟩)
    (c21 : PySem.W.codeIn K cd21 "limits_text" = true)
    (k21 : PySem.W.keepIn K (.ref f21) = true)
    (a22 : PySem.W.nsIn K mainGlobals "read_limit" = some (some (.ref f22)))
    (l22 : K.lookup f22 = some ⟨oc22, od22, .func (PySem.W.fnOf "read_limit" "read_limit" (defArgs s_read_limit) (defBody s_read_limit) (defScope s_read_limit) .none kV22 dc22 pm22 an22 cd22 ct22), sl22⟩)
    (c22 : PySem.W.codeIn K cd22 "read_limit" = true)
    (k22 : PySem.W.keepIn K (.ref f22) = true)
    (a23 : PySem.W.nsIn K mainGlobals "read_limits" = some (some (.ref f23)))
    (l23 : K.lookup f23 = some ⟨oc23, od23, .func (PySem.W.fnOf "read_limits" "read_limits" (defArgs s_read_limits) (defBody s_read_limits) (defScope s_read_limits) .none kV23 dc23 pm23 an23 cd23 ct23), sl23⟩)
    (c23 : PySem.W.codeIn K cd23 "read_limits" = true)
    (k23 : PySem.W.keepIn K (.ref f23) = true)
    (a24 : PySem.W.nsIn K mainGlobals "_law_box" = some (some (.ref f24)))
    (l24 : K.lookup f24 = some ⟨oc24, od24, .func (PySem.W.fnOf "_law_box" "_law_box" (defArgs s_box) (defBody s_box) (defScope s_box) .none kV24 dc24 pm24 an24 cd24 ct24), sl24⟩)
    (c24 : PySem.W.codeIn K cd24 "_law_box" = true)
    (k24 : PySem.W.keepIn K (.ref f24) = true)
    (a25 : PySem.W.nsIn K mainGlobals "_law_mixed" = some (some (.ref f25)))
    (l25 : K.lookup f25 = some ⟨oc25, od25, .func (PySem.W.fnOf "_law_mixed" "_law_mixed" (defArgs s_mixed) (defBody s_mixed) (defScope s_mixed) .none kV25 dc25 pm25 an25 cd25 ct25), sl25⟩)
    (c25 : PySem.W.codeIn K cd25 "_law_mixed" = true)
    (k25 : PySem.W.keepIn K (.ref f25) = true)
    (a26 : PySem.W.nsIn K mainGlobals "_law_take" = some (some (.ref f26)))
    (l26 : K.lookup f26 = some ⟨oc26, od26, .func (PySem.W.fnOf "_law_take" "_law_take" (defArgs s_take) (defBody s_take) (defScope s_take) .none kV26 dc26 pm26 an26 cd26 ct26), sl26⟩)
    (c26 : PySem.W.codeIn K cd26 "_law_take" = true)
    (k26 : PySem.W.keepIn K (.ref f26) = true)
    (a27 : PySem.W.nsIn K mainGlobals "_law_shuffled" = some (some (.ref f27)))
    (l27 : K.lookup f27 = some ⟨oc27, od27, .func (PySem.W.fnOf "_law_shuffled" "_law_shuffled" (defArgs s_shuffled) (defBody s_shuffled) (defScope s_shuffled) .none kV27 dc27 pm27 an27 cd27 ct27), sl27⟩)
    (c27 : PySem.W.codeIn K cd27 "_law_shuffled" = true)
    (k27 : PySem.W.keepIn K (.ref f27) = true)
    (a28 : PySem.W.nsIn K mainGlobals "_law_names" = some (some (.ref f28)))
    (l28 : K.lookup f28 = some ⟨oc28, od28, .func (PySem.W.fnOf "_law_names" "_law_names" (defArgs s_names) (defBody s_names) (defScope s_names) .none kV28 dc28 pm28 an28 cd28 ct28), sl28⟩)
    (c28 : PySem.W.codeIn K cd28 "_law_names" = true)
    (k28 : PySem.W.keepIn K (.ref f28) = true)
    (a29 : PySem.W.nsIn K mainGlobals "_law_shared" = some (some (.ref f29)))
    (l29 : K.lookup f29 = some ⟨oc29, od29, .func (PySem.W.fnOf "_law_shared" "_law_shared" (defArgs s_shared) (defBody s_shared) (defScope s_shared) .none kV29 dc29 pm29 an29 cd29 ct29), sl29⟩)
    (c29 : PySem.W.codeIn K cd29 "_law_shared" = true)
    (k29 : PySem.W.keepIn K (.ref f29) = true)
    (a30 : PySem.W.nsIn K mainGlobals "_law_ratio" = some (some (.ref f30)))
    (l30 : K.lookup f30 = some ⟨oc30, od30, .func (PySem.W.fnOf "_law_ratio" "_law_ratio" (defArgs s_lratio) (defBody s_lratio) (defScope s_lratio) .none kV30 dc30 pm30 an30 cd30 ct30), sl30⟩)
    (c30 : PySem.W.codeIn K cd30 "_law_ratio" = true)
    (k30 : PySem.W.keepIn K (.ref f30) = true)
    (a31 : PySem.W.nsIn K mainGlobals "_law_before" = some (some (.ref f31)))
    (l31 : K.lookup f31 = some ⟨oc31, od31, .func (PySem.W.fnOf "_law_before" "_law_before" (defArgs s_before) (defBody s_before) (defScope s_before) .none kV31 dc31 pm31 an31 cd31 ct31), sl31⟩)
    (c31 : PySem.W.codeIn K cd31 "_law_before" = true)
    (k31 : PySem.W.keepIn K (.ref f31) = true)
    (a32 : PySem.W.nsIn K mainGlobals "_law_number" = some (some (.ref f32)))
    (l32 : K.lookup f32 = some ⟨oc32, od32, .func (PySem.W.fnOf "_law_number" "_law_number" (defArgs s_number) (defBody s_number) (defScope s_number) .none kV32 dc32 pm32 an32 cd32 ct32), sl32⟩)
    (c32 : PySem.W.codeIn K cd32 "_law_number" = true)
    (k32 : PySem.W.keepIn K (.ref f32) = true)
    (a33 : PySem.W.nsIn K mainGlobals "_law_given" = some (some (.ref f33)))
    (l33 : K.lookup f33 = some ⟨oc33, od33, .func (PySem.W.fnOf "_law_given" "_law_given" (defArgs s_given) (defBody s_given) (defScope s_given) .none kV33 dc33 pm33 an33 cd33 ct33), sl33⟩)
    (c33 : PySem.W.codeIn K cd33 "_law_given" = true)
    (k33 : PySem.W.keepIn K (.ref f33) = true)
    (a34 : PySem.W.nsIn K mainGlobals "_law_written" = some (some (.ref f34)))
    (l34 : K.lookup f34 = some ⟨oc34, od34, .func (PySem.W.fnOf "_law_written" "_law_written" (defArgs s_written) (defBody s_written) (defScope s_written) .none kV34 dc34 pm34 an34 cd34 ct34), sl34⟩)
    (c34 : PySem.W.codeIn K cd34 "_law_written" = true)
    (k34 : PySem.W.keepIn K (.ref f34) = true)
    (a35 : PySem.W.nsIn K mainGlobals "_law_end_text" = some (some (.ref f35)))
    (l35 : K.lookup f35 = some ⟨oc35, od35, .func (PySem.W.fnOf "_law_end_text" "_law_end_text" (defArgs s_end_text) (defBody s_end_text) (defScope s_end_text) .none kV35 dc35 pm35 an35 cd35 ct35), sl35⟩)
    (c35 : PySem.W.codeIn K cd35 "_law_end_text" = true)
    (k35 : PySem.W.keepIn K (.ref f35) = true)
    (a36 : PySem.W.nsIn K mainGlobals "_law_reading" = some (some (.ref f36)))
    (l36 : K.lookup f36 = some ⟨oc36, od36, .func (PySem.W.fnOf "_law_reading" "_law_reading" (defArgs s_reading) (defBody s_reading) (defScope s_reading) .none kV36 dc36 pm36 an36 cd36 ct36), sl36⟩)
    (c36 : PySem.W.codeIn K cd36 "_law_reading" = true)
    (k36 : PySem.W.keepIn K (.ref f36) = true)
    (a37 : PySem.W.nsIn K mainGlobals "_law_bad_part" = some (some (.ref f37)))
    (l37 : K.lookup f37 = some ⟨oc37, od37, .func (PySem.W.fnOf "_law_bad_part" "_law_bad_part" (defArgs s_bad_part) (defBody s_bad_part) (defScope s_bad_part) .none kV37 dc37 pm37 an37 cd37 ct37), sl37⟩)
    (c37 : PySem.W.codeIn K cd37 "_law_bad_part" = true)
    (k37 : PySem.W.keepIn K (.ref f37) = true)
    (a38 : PySem.W.nsIn K mainGlobals "_law_spoilt" = some (some (.ref f38)))
    (l38 : K.lookup f38 = some ⟨oc38, od38, .func (PySem.W.fnOf "_law_spoilt" "_law_spoilt" (defArgs s_spoilt) (defBody s_spoilt) (defScope s_spoilt) .none kV38 dc38 pm38 an38 cd38 ct38), sl38⟩)
    (c38 : PySem.W.codeIn K cd38 "_law_spoilt" = true)
    (k38 : PySem.W.keepIn K (.ref f38) = true)
    (a39 : PySem.W.nsIn K mainGlobals "_law_bent_right" = some (some (.ref f39)))
    (l39 : K.lookup f39 = some ⟨oc39, od39, .func (PySem.W.fnOf "_law_bent_right" "_law_bent_right" (defArgs s_bent_right) (defBody s_bent_right) (defScope s_bent_right) .none kV39 dc39 pm39 an39 cd39 ct39), sl39⟩)
    (c39 : PySem.W.codeIn K cd39 "_law_bent_right" = true)
    (k39 : PySem.W.keepIn K (.ref f39) = true)
    (a40 : PySem.W.nsIn K mainGlobals "_law_limit_of" = some (some (.ref f40)))
    (l40 : K.lookup f40 = some ⟨oc40, od40, .func (PySem.W.fnOf "_law_limit_of" "_law_limit_of" (defArgs s_limit_of) (defBody s_limit_of) (defScope s_limit_of) .none kV40 dc40 pm40 an40 cd40 ct40), sl40⟩)
    (c40 : PySem.W.codeIn K cd40 "_law_limit_of" = true)
    (k40 : PySem.W.keepIn K (.ref f40) = true)
    (a41 : PySem.W.nsIn K mainGlobals "_law_told_again" = some (some (.ref f41)))
    (l41 : K.lookup f41 = some ⟨oc41, od41, .func (PySem.W.fnOf "_law_told_again" "_law_told_again" (defArgs s_told_again) (defBody s_told_again) (defScope s_told_again) .none kV41 dc41 pm41 an41 cd41 ct41), sl41⟩)
    (c41 : PySem.W.codeIn K cd41 "_law_told_again" = true)
    (k41 : PySem.W.keepIn K (.ref f41) = true)
    (a42 : PySem.W.nsIn K mainGlobals "law" = some (some (.ref f42)))
    (l42 : K.lookup f42 = some ⟨oc42, od42, .func (PySem.W.fnOf "law" "law" (defArgs s_law) (defBody s_law) (defScope s_law) .none kV42 dc42 pm42 an42 cd42 ct42), sl42⟩)
    (c42 : PySem.W.codeIn K cd42 "law" = true)
    (k42 : PySem.W.keepIn K (.ref f42) = true)
    (z_len : PySem.W.nsIn K mainGlobals "len" = some none)
    (z_max : PySem.W.nsIn K mainGlobals "max" = some none)
    (z_abs : PySem.W.nsIn K mainGlobals "abs" = some none)
    (z_int : PySem.W.nsIn K mainGlobals "int" = some none)
    (z_str : PySem.W.nsIn K mainGlobals "str" = some none)
    (z_bool : PySem.W.nsIn K mainGlobals "bool" = some none)
    (z_tuple : PySem.W.nsIn K mainGlobals "tuple" = some none)
    (z_list : PySem.W.nsIn K mainGlobals "list" = some none)
    (z_dict : PySem.W.nsIn K mainGlobals "dict" = some none)
    (z_all : PySem.W.nsIn K mainGlobals "all" = some none)
    (z_isinstance : PySem.W.nsIn K mainGlobals "isinstance" = some none)
    (z_range : PySem.W.nsIn K mainGlobals "range" = some none)
    (z_zip : PySem.W.nsIn K mainGlobals "zip" = some none)
    (z_enumerate : PySem.W.nsIn K mainGlobals "enumerate" = some none)
    (z_sorted : PySem.W.nsIn K mainGlobals "sorted" = some none)
    (v_DIGITS : PySem.W.nsIn K mainGlobals "DIGITS" = some (some (.str "0123456789" g1)))
    (v_GROUP : PySem.W.nsIn K mainGlobals "GROUP" = some (some (.int 60 g2)))
    (v_WHOLE : PySem.W.nsIn K mainGlobals "WHOLE" = some (some (.int 1000000000000000000000000000000000000000000000000000000000000 g3)))
    (v_LETTERS : PySem.W.nsIn K mainGlobals "LETTERS" = some (some (.str "abcdefghijklmnopqrstuvwxyz" g4)))
    (v_LONGEST : PySem.W.nsIn K mainGlobals "LONGEST_NAME" = some (some (.int 8 g5)))
    (v_WORDS : PySem.W.nsIn K mainGlobals "WORDS" = some (some (.ref aW)))
    (lW : K.lookup aW = some ⟨.type "tuple", wo, .seq #[.str "sum" h1, .str "average" h2] wn, ws⟩)
    (v_BOUNDS : PySem.W.nsIn K mainGlobals "BOUNDS" = some (some (.ref aB)))
    (lB : K.lookup aB = some ⟨.type "tuple", wo4, .seq #[.ref b0, .ref b1, .ref b2, .ref b3] wn4, ws4⟩)
    (lB0 : K.lookup b0 = some ⟨.type "tuple", wo0, .seq #[] wn0, ws0⟩)
    (lB1 : K.lookup b1 = some ⟨.type "tuple", wo1, .seq #[.str "from" h3] wn1, ws1⟩)
    (lB2 : K.lookup b2 = some ⟨.type "tuple", wo2, .seq #[.str "to" h4] wn2, ws2⟩)
    (lB3 : K.lookup b3 = some ⟨.type "tuple", wo3, .seq #[.str "from" h5, .str "to" h6] wn3, ws3⟩)
    (aS : PySem.W.nsIn K mainGlobals "SheetError" = some (some (.ref CS)))
    (rS : PySem.W.readsIn K CS (.type "type") = true)
    (gS : PySem.W.specialIn K (.ref CS) "__getattribute__" = some (some (.builtin "type.__getattribute__")))
    (fS : PySem.W.findCls K (.ref CS) (.type "type") "__init__" = some (.val (.builtin "ValueError.__init__")))
    (xaT : PySem.W.nsIn K mainGlobals "InvalidText" = some (some (.ref CT)))
    (xlT : K.lookup CT = some (excClassObj nmT qqT CT NT bsT bmT true snT suT abT coT ddT m0T m1T m2T m3T m5T "ValueError.__new__"))
    (xrT : PySem.HandSPX.refsVE bmT = true)
    (xsT : PySem.W.findIn K (.ref CT) "__setattr__" = some (some (.builtin "object.__setattr__")))
    (xbT : PySem.W.subIn K (.ref CT) (.type "BaseException") = some true)
    (xtT : PySem.W.typeIn K (.ref CT) = some (.type "type"))
    (xkT : PySem.W.keepIn K (.ref CT) = true)
    (xnT : PySem.W.findIn K (.ref CT) "text" = some none)
    (xiT : PySem.W.findIn K (.ref CT) "__init__" = some (some (.ref fT)))
    (xfT : PySem.W.typeIn K (.ref fT) = some (.type "function"))
    (xdT : K.lookup fT = some ⟨ocT, odT, .func (PySem.W.fnOf "__init__" "InvalidText.__init__" (defArgs s_iInvalidText) (defBody s_iInvalidText) (defScope s_iInvalidText) .none kVT dcT pmT anT cdT ctT), slT⟩)
    (xcT : PySem.W.codeIn K cdT "InvalidText.__init__" = true)
    (xjT : PySem.W.keepIn K (.ref fT) = true)
    (xxT : PySem.W.isClsIn K CT = true)
    (xuT : PySem.W.subIn K (.ref CT) (.ref CT) = some true)
    (xaB : PySem.W.nsIn K mainGlobals "BadText" = some (some (.ref CB)))
    (xlB : K.lookup CB = some (excClassObj nmB qqB CB NB bsB bmB true snB suB abB coB ddB m0B m1B m2B m3B m5B "ValueError.__new__"))
    (xrB : PySem.HandSPX.refsVE bmB = true)
    (xsB : PySem.W.findIn K (.ref CB) "__setattr__" = some (some (.builtin "object.__setattr__")))
    (xbB : PySem.W.subIn K (.ref CB) (.type "BaseException") = some true)
    (xtB : PySem.W.typeIn K (.ref CB) = some (.type "type"))
    (xkB : PySem.W.keepIn K (.ref CB) = true)
    (xnB : PySem.W.findIn K (.ref CB) "at" = some none)
    (xiB : PySem.W.findIn K (.ref CB) "__init__" = some (some (.ref fB)))
    (xfB : PySem.W.typeIn K (.ref fB) = some (.type "function"))
    (xdB : K.lookup fB = some ⟨ocB, odB, .func (PySem.W.fnOf "__init__" "BadText.__init__" (defArgs s_iBadText) (defBody s_iBadText) (defScope s_iBadText) .none kVB dcB pmB anB cdB ctB), slB⟩)
    (xcB : PySem.W.codeIn K cdB "BadText.__init__" = true)
    (xjB : PySem.W.keepIn K (.ref fB) = true)
    (xxB : PySem.W.isClsIn K CB = true)
    (xuB : PySem.W.subIn K (.ref CB) (.ref CB) = some true)
    (ga : PySem.W.findIn K (.ref CB) "__getattribute__" = some (some (.builtin "BaseException.__getattribute__")))
    (gg : PySem.W.findIn K (.ref CB) "__getattr__" = some none)
    (hd : PySem.W.hasDictIn K CB = true) :
    ∃ fd : FuncData, (∀ (s : Shared) (v : Value), BindsTo s fd ⟨[v], []⟩ [("_law_script", v)]) ∧ ∀ base : Heap, K.In base → base.Ns mainGlobals mg → FnOk l.prog w K mg base CX0 11 fa fd ["_law_script"] (spLaw K) := by
  have e := hfa.symm.trans (PySem.W.mg_of X G a42)
  cases e
  have tW : ∀ H, SqT K H aW [.str "sum", .str "average"] := fun H => .inr ⟨_, _, _, lW, rfl, rfl, by show 2 ≤ sizeLine; decide, .cons ⟨_, rfl⟩ (.cons ⟨_, rfl⟩ .nil)⟩
  have tB : ∀ H, Dp K H (.ref aB) (.tuple [.tuple [], .tuple [.str "from"], .tuple [.str "to"], .tuple [.str "from", .str "to"]]) := fun H => by
    refine .tup (xs := [.ref b0, .ref b1, .ref b2, .ref b3]) (.inr ⟨_, _, _, lB, rfl, rfl, by show 4 ≤ sizeLine; decide, .cons rfl (.cons rfl (.cons rfl (.cons rfl .nil)))⟩) (.cons ?_ (.cons ?_ (.cons ?_ (.cons ?_ .nil))))
    · exact .tup (xs := []) (.inr ⟨_, _, _, lB0, rfl, rfl, by show 0 ≤ sizeLine; decide, .nil⟩) .nil
    · exact .tup (xs := [.str "from"]) (.inr ⟨_, _, _, lB1, rfl, rfl, by show 1 ≤ sizeLine; decide, .cons ⟨_, rfl⟩ .nil⟩) (.cons (.str _) .nil)
    · exact .tup (xs := [.str "to"]) (.inr ⟨_, _, _, lB2, rfl, rfl, by show 1 ≤ sizeLine; decide, .cons ⟨_, rfl⟩ .nil⟩) (.cons (.str _) .nil)
    · exact .tup (xs := [.str "from", .str "to"]) (.inr ⟨_, _, _, lB3, rfl, rfl, by show 2 ≤ sizeLine; decide, .cons ⟨_, rfl⟩ (.cons ⟨_, rfl⟩ .nil)⟩) (.cons (.str _) (.cons (.str _) .nil))
  have T : Txt K mg aW aB := { b_len := PySem.W.mg_none_of X G z_len, b_max := PySem.W.mg_none_of X G z_max, b_abs := PySem.W.mg_none_of X G z_abs, b_int := PySem.W.mg_none_of X G z_int, b_str := PySem.W.mg_none_of X G z_str, b_bool := PySem.W.mg_none_of X G z_bool, b_tuple := PySem.W.mg_none_of X G z_tuple, b_list := PySem.W.mg_none_of X G z_list, b_dict := PySem.W.mg_none_of X G z_dict, b_all := PySem.W.mg_none_of X G z_all, b_isinstance := PySem.W.mg_none_of X G z_isinstance, b_range := PySem.W.mg_none_of X G z_range, b_zip := PySem.W.mg_none_of X G z_zip, b_enumerate := PySem.W.mg_none_of X G z_enumerate, b_sorted := PySem.W.mg_none_of X G z_sorted, c_DIGITS := ⟨_, PySem.W.mg_of X G v_DIGITS, ⟨_, rfl⟩⟩, c_GROUP := ⟨_, PySem.W.mg_of X G v_GROUP, ⟨_, rfl⟩⟩, c_WHOLE := ⟨_, PySem.W.mg_of X G v_WHOLE, ⟨_, by rw [show (10 : Int) ^ 60 = 1000000000000000000000000000000000000000000000000000000000000 by decide +kernel]⟩⟩, c_LETTERS := ⟨_, PySem.W.mg_of X G v_LETTERS, ⟨_, rfl⟩⟩, c_LONGEST_NAME := ⟨_, PySem.W.mg_of X G v_LONGEST, ⟨_, rfl⟩⟩, c_WORDS := ⟨_, PySem.W.mg_of X G v_WORDS, rfl⟩, c_BOUNDS := ⟨_, PySem.W.mg_of X G v_BOUNDS, rfl⟩, d_WORDS := tW, d_BOUNDS := tB }
  have B : BaseC K mg "SheetError" := ⟨_, PySem.W.mg_of X G aS, rS, gS, fS⟩
  have DT : Exc1 K mg "InvalidText" "text" s_iInvalidText CT := ⟨PySem.W.mg_of X G xaT, ⟨⟨_, _, _, _, _, _, _, _, _, _, _, _, _, _, _, xlT, xrT⟩, xsT, xbT, xtT, xkT⟩, xnT, ⟨_, _, xiT, xfT, fun_mk (st := s_iInvalidText) xdT xcT xjT⟩⟩
  have mT := exm_own xbT xxT xtT xuT
  have DB : Exc1 K mg "BadText" "at" s_iBadText CB := ⟨PySem.W.mg_of X G xaB, ⟨⟨_, _, _, _, _, _, _, _, _, _, _, _, _, _, _, xlB, xrB⟩, xsB, xbB, xtB, xkB⟩, xnB, ⟨_, _, xiB, xfB, fun_mk (st := s_iBadText) xdB xcB xjB⟩⟩
  have mB := exm_own xbB xxB xtB xuB
  have XF : XfC K CB := ⟨ga, gg, xbB, hd⟩
  have D_is_integer : Dfn K mg "is_integer" s_is_integer := ⟨_, _, fun_mk (st := s_is_integer) l0 c0 k0, PySem.W.mg_of X G a0⟩
  have D_common_divisor : Dfn K mg "common_divisor" s_common_divisor := ⟨_, _, fun_mk (st := s_common_divisor) l1 c1 k1, PySem.W.mg_of X G a1⟩
  have D_is_ratio : Dfn K mg "is_ratio" s_is_ratio := ⟨_, _, fun_mk (st := s_is_ratio) l2 c2 k2, PySem.W.mg_of X G a2⟩
  have D_as_ratio : Dfn K mg "as_ratio" s_as_ratio := ⟨_, _, fun_mk (st := s_as_ratio) l3 c3 k3, PySem.W.mg_of X G a3⟩
  have D_ratio : DfnD K mg "ratio" s_ratio 1 := ⟨_, _, ⟨⟨_, _, _, _, _, _, _, _, _, _, rfl, l4, c4, .inr ⟨by simp, TT, _, [.int 1 Tk], _, rfl, lT, rfl, .cons ⟨_, rfl⟩ .nil⟩, .inl rfl⟩, k4⟩, PySem.W.mg_of X G a4⟩
  have D_times : Dfn K mg "times" s_times := ⟨_, _, fun_mk (st := s_times) l5 c5 k5, PySem.W.mg_of X G a5⟩
  have D_multiply : Dfn K mg "multiply" s_multiply := ⟨_, _, fun_mk (st := s_multiply) l6 c6 k6, PySem.W.mg_of X G a6⟩
  have D_digits_of : Dfn K mg "digits_of" s_digits_of := ⟨_, _, fun_mk (st := s_digits_of) l7 c7 k7, PySem.W.mg_of X G a7⟩
  have D_number_of : Dfn K mg "number_of" s_number_of := ⟨_, _, fun_mk (st := s_number_of) l8 c8 k8, PySem.W.mg_of X G a8⟩
  have D_ratio_text : Dfn K mg "ratio_text" s_ratio_text := ⟨_, _, fun_mk (st := s_ratio_text) l9 c9 k9, PySem.W.mg_of X G a9⟩
  have D_is_digits : Dfn K mg "is_digits" s_is_digits := ⟨_, _, fun_mk (st := s_is_digits) l10 c10 k10, PySem.W.mg_of X G a10⟩
  have D_read_unsigned : Dfn K mg "read_unsigned" s_read_unsigned := ⟨_, _, fun_mk (st := s_read_unsigned) l11 c11 k11, PySem.W.mg_of X G a11⟩
  have D_read_ratio : Dfn K mg "read_ratio" s_read_ratio := ⟨_, _, fun_mk (st := s_read_ratio) l12 c12 k12, PySem.W.mg_of X G a12⟩
  have D_is_name : Dfn K mg "is_name" s_is_name := ⟨_, _, fun_mk (st := s_is_name) l13 c13 k13, PySem.W.mg_of X G a13⟩
  have D_number_or_none : Dfn K mg "number_or_none" s_number_or_none := ⟨_, _, fun_mk (st := s_number_or_none) l14 c14 k14, PySem.W.mg_of X G a14⟩
  have D_parts_of : Dfn K mg "parts_of" s_parts_of := ⟨_, _, fun_mk (st := s_parts_of) l15 c15 k15, PySem.W.mg_of X G a15⟩
  have D_without_bad : Dfn K mg "without_bad" s_without_bad := ⟨_, _, fun_mk (st := s_without_bad) l16 c16 k16, PySem.W.mg_of X G a16⟩
  have D_table_text : Dfn K mg "table_text" s_table_text := ⟨_, _, fun_mk (st := s_table_text) l17 c17 k17, PySem.W.mg_of X G a17⟩
  have D_read_pair : Dfn K mg "read_pair" s_read_pair := ⟨_, _, fun_mk (st := s_read_pair) l18 c18 k18, PySem.W.mg_of X G a18⟩
  have D_read_table : Dfn K mg "read_table" s_read_table := ⟨_, _, fun_mk (st := s_read_table) l19 c19 k19, PySem.W.mg_of X G a19⟩
  have D_limit_text : Dfn K mg "limit_text" s_limit_text := ⟨_, _, fun_mk (st := s_limit_text) l20 c20 k20, PySem.W.mg_of X G a20⟩
  have D_limits_text : Dfn K mg "limits_text" s_limits_text := ⟨_, _, fun_mk (st := s_limits_text) l21 c21 k21, PySem.W.mg_of X G a21⟩
  have D_read_limit : Dfn K mg "read_limit" s_read_limit := ⟨_, _, fun_mk (st := s_read_limit) l22 c22 k22, PySem.W.mg_of X G a22⟩
  have D_read_limits : Dfn K mg "read_limits" s_read_limits := ⟨_, _, fun_mk (st := s_read_limits) l23 c23 k23, PySem.W.mg_of X G a23⟩
  have D_box : Dfn K mg "_law_box" s_box := ⟨_, _, fun_mk (st := s_box) l24 c24 k24, PySem.W.mg_of X G a24⟩
  have D_mixed : Dfn K mg "_law_mixed" s_mixed := ⟨_, _, fun_mk (st := s_mixed) l25 c25 k25, PySem.W.mg_of X G a25⟩
  have D_take : Dfn K mg "_law_take" s_take := ⟨_, _, fun_mk (st := s_take) l26 c26 k26, PySem.W.mg_of X G a26⟩
  have D_shuffled : Dfn K mg "_law_shuffled" s_shuffled := ⟨_, _, fun_mk (st := s_shuffled) l27 c27 k27, PySem.W.mg_of X G a27⟩
  have D_names : Dfn K mg "_law_names" s_names := ⟨_, _, fun_mk (st := s_names) l28 c28 k28, PySem.W.mg_of X G a28⟩
  have D_shared : Dfn K mg "_law_shared" s_shared := ⟨_, _, fun_mk (st := s_shared) l29 c29 k29, PySem.W.mg_of X G a29⟩
  have D_lratio : Dfn K mg "_law_ratio" s_lratio := ⟨_, _, fun_mk (st := s_lratio) l30 c30 k30, PySem.W.mg_of X G a30⟩
  have D_before : Dfn K mg "_law_before" s_before := ⟨_, _, fun_mk (st := s_before) l31 c31 k31, PySem.W.mg_of X G a31⟩
  have D_number : Dfn K mg "_law_number" s_number := ⟨_, _, fun_mk (st := s_number) l32 c32 k32, PySem.W.mg_of X G a32⟩
  have D_given : Dfn K mg "_law_given" s_given := ⟨_, _, fun_mk (st := s_given) l33 c33 k33, PySem.W.mg_of X G a33⟩
  have D_written : Dfn K mg "_law_written" s_written := ⟨_, _, fun_mk (st := s_written) l34 c34 k34, PySem.W.mg_of X G a34⟩
  have D_end_text : Dfn K mg "_law_end_text" s_end_text := ⟨_, _, fun_mk (st := s_end_text) l35 c35 k35, PySem.W.mg_of X G a35⟩
  have D_reading : Dfn K mg "_law_reading" s_reading := ⟨_, _, fun_mk (st := s_reading) l36 c36 k36, PySem.W.mg_of X G a36⟩
  have D_bad_part : Dfn K mg "_law_bad_part" s_bad_part := ⟨_, _, fun_mk (st := s_bad_part) l37 c37 k37, PySem.W.mg_of X G a37⟩
  have D_spoilt : Dfn K mg "_law_spoilt" s_spoilt := ⟨_, _, fun_mk (st := s_spoilt) l38 c38 k38, PySem.W.mg_of X G a38⟩
  have D_bent_right : Dfn K mg "_law_bent_right" s_bent_right := ⟨_, _, fun_mk (st := s_bent_right) l39 c39 k39, PySem.W.mg_of X G a39⟩
  have D_limit_of : Dfn K mg "_law_limit_of" s_limit_of := ⟨_, _, fun_mk (st := s_limit_of) l40 c40 k40, PySem.W.mg_of X G a40⟩
  have D_told_again : Dfn K mg "_law_told_again" s_told_again := ⟨_, _, fun_mk (st := s_told_again) l41 c41 k41, PySem.W.mg_of X G a41⟩
  refine ⟨PySem.W.fnOf "law" "law" (defArgs s_law) (defBody s_law) (defScope s_law) .none kV42 dc42 pm42 an42 cd42 ct42, fun s v => .of_eq rfl, fun base _ _ => ?_⟩
  have R_mixed := ok_mixed (P := l.prog) (w := w) (base := base)  D_mixed 
  have R_take := ok_take (P := l.prog) (w := w) (base := base) T D_take R_mixed
  have R_is_integer := ok_is_integer (P := l.prog) (w := w) (base := base) T D_is_integer 
  have R_common_divisor := ok_common_divisor (P := l.prog) (w := w) (base := base) T D_common_divisor 
  have R_is_ratio := ok_is_ratio (P := l.prog) (w := w) (base := base) T D_is_ratio R_is_integer R_common_divisor
  have R_as_ratio := ok_as_ratio (P := l.prog) (w := w) (base := base) T D_as_ratio R_is_integer R_is_ratio
  have R_ratio := ok_ratio (P := l.prog) (w := w) (base := base) T D_ratio R_common_divisor
  have R_times := ok_times (P := l.prog) (w := w) (base := base) T D_times R_ratio
  have R_multiply := ok_multiply (P := l.prog) (w := w) (base := base) T D_multiply R_as_ratio R_times
  have R_digits_of := ok_digits_of (P := l.prog) (w := w) (base := base) T D_digits_of 
  have R_number_of := ok_number_of (P := l.prog) (w := w) (base := base) T D_number_of 
  have R_is_digits := ok_is_digits (P := l.prog) (w := w) (base := base) T D_is_digits 
  have R_ratio_text := ok_ratio_text (P := l.prog) (w := w) (base := base) T D_ratio_text R_as_ratio R_digits_of
  have R_read_unsigned := ok_read_unsigned (P := l.prog) (w := w) (base := base) T D_read_unsigned R_is_digits R_number_of R_ratio
  have R_read_ratio := ok_read_ratio (P := l.prog) (w := w) (base := base) T (ini_T B DT mT) D_read_ratio R_read_unsigned R_multiply
  have R_number_or_none := ok_number_or_none (P := l.prog) (w := w) (base := base) T (ini_T B DT mT) D_number_or_none R_read_ratio
  have R_is_name := ok_is_name (P := l.prog) (w := w) (base := base) T D_is_name 
  have R_parts_of := ok_parts_of (P := l.prog) (w := w) (base := base) T D_parts_of 
  have R_without_bad := ok_without_bad (P := l.prog) (w := w) (base := base) T (ini_B B DB mB) D_without_bad 
  have R_table_text := ok_table_text (P := l.prog) (w := w) (base := base) T D_table_text R_ratio_text
  have R_read_pair := ok_read_pair (P := l.prog) (w := w) (base := base) T D_read_pair R_is_name R_number_or_none
  have R_read_table := ok_read_table (P := l.prog) (w := w) (base := base) T D_read_table R_parts_of R_read_pair R_without_bad
  have R_limit_text := ok_limit_text (P := l.prog) (w := w) (base := base) T D_limit_text R_ratio_text
  have R_limits_text := ok_limits_text (P := l.prog) (w := w) (base := base) T D_limits_text R_limit_text
  have R_read_limit := ok_read_limit (P := l.prog) (w := w) (base := base) T D_read_limit R_is_name R_number_or_none
  have R_read_limits := ok_read_limits (P := l.prog) (w := w) (base := base) T D_read_limits R_parts_of R_read_limit R_without_bad
  have R_shared := ok_shared (P := l.prog) (w := w) (base := base) T D_shared 
  have R_lratio := ok_lratio (P := l.prog) (w := w) (base := base) T D_lratio R_shared
  have R_before := ok_before (P := l.prog) (w := w) (base := base) T D_before 
  have R_written := ok_written (P := l.prog) (w := w) (base := base) T D_written 
  have R_number := ok_number (P := l.prog) (w := w) (base := base) T D_number R_take R_lratio
  have R_given := ok_given (P := l.prog) (w := w) (base := base) T D_given R_take
  have R_end_text := ok_end_text (P := l.prog) (w := w) (base := base) T D_end_text R_written
  have R_reading := ok_reading (P := l.prog) (w := w) (base := base) T (ini_B B DB mB) XF D_reading R_read_table R_read_limits
  have R_bad_part := ok_bad_part (P := l.prog) (w := w) (base := base) T D_bad_part R_take
  have R_spoilt := ok_spoilt (P := l.prog) (w := w) (base := base) T D_spoilt R_take R_bad_part
  have R_limit_of := ok_limit_of (P := l.prog) (w := w) (base := base) T D_limit_of R_take R_number R_before
  have R_shuffled := ok_shuffled (P := l.prog) (w := w) (base := base) T D_shuffled R_take
  have R_names := ok_names (P := l.prog) (w := w) (base := base) T D_names R_take
  have R_bent_right := ok_bent_right (P := l.prog) (w := w) (base := base) T D_bent_right R_spoilt R_reading
  have R_told_again := ok_told_again (P := l.prog) (w := w) (base := base) T D_told_again R_take R_reading
  have R_box := ok_box (P := l.prog) (w := w) (base := base) T D_box 
  exact ok_law (P := l.prog) (w := w) (base := base) T (fun_mk (st := s_law) l42 c42 k42) R_box R_take R_shuffled R_names R_number R_given R_written R_end_text R_reading R_bent_right R_limit_of R_told_again R_table_text R_limits_text
end My
open PySem PySem.W PyProof.Rows
namespace My
theorem walk {l : PySem.W.OpenLaw} {q : Program} {loose : List Str} {XP : (Str → Option Value) → Heap → Prop} {YP : World → Heap → Prop} {d : DefRec} {K : Params → PySem.W.Frag} (hn : l.most = some 63) (hdf : d.params.defaults = [])
    (hY : ∀ (w : World) (h : Heap), YP w h → (K w.params).In h)
    (F : ∀ (w : World) (mg : Str → Option Value) (fa : Addr) (h : Heap), (K w.params).In h → h.Ns mainGlobals mg → mg d.name = some (.ref fa) →
      ∃ fd : FuncData, (∀ (s : Shared) (u : Value), BindsTo s fd ⟨[u], []⟩ [("_law_script", u)]) ∧ ∀ base : Heap, (K w.params).In base → base.Ns mainGlobals mg → L2.FnOk l.prog w (K w.params) mg base L2.CX0 11 fa fd ["_law_script"] (spLaw (K w.params))) :
    PySem.W.WalkO q loose XP YP l.row.toRowW d [] (fun f vs => PySem.call f vs) :=
  L2.walk_of (n := 63) (k := 11) (x := "_law_script") (CX := fun _ => L2.CX0) (sp := fun w => spLaw (K w.params)) hn (by decide) hdf ⟨rfl, by decide, by decide⟩ hY F (fun _ _ a ns hl _ hS => ⟨a, ns, rfl, hS, hl, fun _ => rfl⟩) fun _ _ _ _ _ z => z
end My
set_option maxRecDepth 100000 in
set_option maxHeartbeats 0 in
theorem PySem.Challenge.cw_backsheet_k91_tables_and_limits_written_holds : PySem.Challenge.rw_backsheet_k91_tables_and_limits_written.Holds := by
  w_on; o_law; k_head; (case hw => w_witness2)
  k_fill
  refine My.walk (l := PySem.Challenge.rw_backsheet_k91_tables_and_limits_written) rfl rfl (fun w h Y => PySem.W.kIn_of Y) ?F
  case F =>
    intro w mg fa h KX G hmg
    refine' My.all_mk KX G hmg ?a0 ?l0 ?c0 ?k0 ?a1 ?l1 ?c1 ?k1 ?a2 ?l2 ?c2 ?k2 ?a3 ?l3 ?c3 ?k3 ?a4 ?l4 ?c4 ?k4 ?lT ?a5 ?l5 ?c5 ?k5 ?a6 ?l6 ?c6 ?k6 ?a7 ?l7 ?c7 ?k7 ?a8 ?l8 ?c8 ?k8 ?a9 ?l9 ?c9 ?k9 ?a10 ?l10 ?c10 ?k10 ?a11 ?l11 ?c11 ?k11 ?a12 ?l12 ?c12 ?k12 ?a13 ?l13 ?c13 ?k13 ?a14 ?l14 ?c14 ?k14 ?a15 ?l15 ?c15 ?k15 ?a16 ?l16 ?c16 ?k16 ?a17 ?l17 ?c17 ?k17 ?a18 ?l18 ?c18 ?k18 ?a19 ?l19 ?c19 ?k19 ?a20 ?l20 ?c20 ?k20 ?a21 ?l21 ?c21 ?k21 ?a22 ?l22 ?c22 ?k22 ?a23 ?l23 ?c23 ?k23 ?a24 ?l24 ?c24 ?k24 ?a25 ?l25 ?c25 ?k25 ?a26 ?l26 ?c26 ?k26 ?a27 ?l27 ?c27 ?k27 ?a28 ?l28 ?c28 ?k28 ?a29 ?l29 ?c29 ?k29 ?a30 ?l30 ?c30 ?k30 ?a31 ?l31 ?c31 ?k31 ?a32 ?l32 ?c32 ?k32 ?a33 ?l33 ?c33 ?k33 ?a34 ?l34 ?c34 ?k34 ?a35 ?l35 ?c35 ?k35 ?a36 ?l36 ?c36 ?k36 ?a37 ?l37 ?c37 ?k37 ?a38 ?l38 ?c38 ?k38 ?a39 ?l39 ?c39 ?k39 ?a40 ?l40 ?c40 ?k40 ?a41 ?l41 ?c41 ?k41 ?a42 ?l42 ?c42 ?k42 ?z_len ?z_max ?z_abs ?z_int ?z_str ?z_bool ?z_tuple ?z_list ?z_dict ?z_all ?z_isinstance ?z_range ?z_zip ?z_enumerate ?z_sorted ?v_DIGITS ?v_GROUP ?v_WHOLE ?v_LETTERS ?v_LONGEST ?v_WORDS ?lW ?v_BOUNDS ?lB ?lB0 ?lB1 ?lB2 ?lB3 ?aS ?rS ?gS ?fS ?xaT ?xlT ?xrT ?xsT ?xbT ?xtT ?xkT ?xnT ?xiT ?xfT ?xdT ?xcT ?xjT ?xxT ?xuT ?xaB ?xlB ?xrB ?xsB ?xbB ?xtB ?xkB ?xnB ?xiB ?xfB ?xdB ?xcB ?xjB ?xxB ?xuB ?ga ?gg ?hd
    (case a0 => k_is)
    (case l0 => k_is)
    (case c0 => k_is)
    (case k0 => k_is)
    (case a1 => k_is)
    (case l1 => k_is)
    (case c1 => k_is)
    (case k1 => k_is)
    (case a2 => k_is)
    (case l2 => k_is)
    (case c2 => k_is)
    (case k2 => k_is)
    (case a3 => k_is)
    (case l3 => k_is)
    (case c3 => k_is)
    (case k3 => k_is)
    (case a4 => k_is)
    (case l4 => k_is)
    (case c4 => k_is)
    (case k4 => k_is)
    (case lT => k_is)
    (case a5 => k_is)
    (case l5 => k_is)
    (case c5 => k_is)
    (case k5 => k_is)
    (case a6 => k_is)
    (case l6 => k_is)
    (case c6 => k_is)
    (case k6 => k_is)
    (case a7 => k_is)
    (case l7 => k_is)
    (case c7 => k_is)
    (case k7 => k_is)
    (case a8 => k_is)
    (case l8 => k_is)
    (case c8 => k_is)
    (case k8 => k_is)
    (case a9 => k_is)
    (case l9 => k_is)
    (case c9 => k_is)
    (case k9 => k_is)
    (case a10 => k_is)
    (case l10 => k_is)
    (case c10 => k_is)
    (case k10 => k_is)
    (case a11 => k_is)
    (case l11 => k_is)
    (case c11 => k_is)
    (case k11 => k_is)
    (case a12 => k_is)
    (case l12 => k_is)
    (case c12 => k_is)
    (case k12 => k_is)
    (case a13 => k_is)
    (case l13 => k_is)
    (case c13 => k_is)
    (case k13 => k_is)
    (case a14 => k_is)
    (case l14 => k_is)
    (case c14 => k_is)
    (case k14 => k_is)
    (case a15 => k_is)
    (case l15 => k_is)
    (case c15 => k_is)
    (case k15 => k_is)
    (case a16 => k_is)
    (case l16 => k_is)
    (case c16 => k_is)
    (case k16 => k_is)
    (case a17 => k_is)
    (case l17 => k_is)
    (case c17 => k_is)
    (case k17 => k_is)
    (case a18 => k_is)
    (case l18 => k_is)
    (case c18 => k_is)
    (case k18 => k_is)
    (case a19 => k_is)
    (case l19 => k_is)
    (case c19 => k_is)
    (case k19 => k_is)
    (case a20 => k_is)
    (case l20 => k_is)
    (case c20 => k_is)
    (case k20 => k_is)
    (case a21 => k_is)
    (case l21 => k_is)
    (case c21 => k_is)
    (case k21 => k_is)
    (case a22 => k_is)
    (case l22 => k_is)
    (case c22 => k_is)
    (case k22 => k_is)
    (case a23 => k_is)
    (case l23 => k_is)
    (case c23 => k_is)
    (case k23 => k_is)
    (case a24 => k_is)
    (case l24 => k_is)
    (case c24 => k_is)
    (case k24 => k_is)
    (case a25 => k_is)
    (case l25 => k_is)
    (case c25 => k_is)
    (case k25 => k_is)
    (case a26 => k_is)
    (case l26 => k_is)
    (case c26 => k_is)
    (case k26 => k_is)
    (case a27 => k_is)
    (case l27 => k_is)
    (case c27 => k_is)
    (case k27 => k_is)
    (case a28 => k_is)
    (case l28 => k_is)
    (case c28 => k_is)
    (case k28 => k_is)
    (case a29 => k_is)
    (case l29 => k_is)
    (case c29 => k_is)
    (case k29 => k_is)
    (case a30 => k_is)
    (case l30 => k_is)
    (case c30 => k_is)
    (case k30 => k_is)
    (case a31 => k_is)
    (case l31 => k_is)
    (case c31 => k_is)
    (case k31 => k_is)
    (case a32 => k_is)
    (case l32 => k_is)
    (case c32 => k_is)
    (case k32 => k_is)
    (case a33 => k_is)
    (case l33 => k_is)
    (case c33 => k_is)
    (case k33 => k_is)
    (case a34 => k_is)
    (case l34 => k_is)
    (case c34 => k_is)
    (case k34 => k_is)
    (case a35 => k_is)
    (case l35 => k_is)
    (case c35 => k_is)
    (case k35 => k_is)
    (case a36 => k_is)
    (case l36 => k_is)
    (case c36 => k_is)
    (case k36 => k_is)
    (case a37 => k_is)
    (case l37 => k_is)
    (case c37 => k_is)
    (case k37 => k_is)
    (case a38 => k_is)
    (case l38 => k_is)
    (case c38 => k_is)
    (case k38 => k_is)
    (case a39 => k_is)
    (case l39 => k_is)
    (case c39 => k_is)
    (case k39 => k_is)
    (case a40 => k_is)
    (case l40 => k_is)
    (case c40 => k_is)
    (case k40 => k_is)
    (case a41 => k_is)
    (case l41 => k_is)
    (case c41 => k_is)
    (case k41 => k_is)
    (case a42 => k_is)
    (case l42 => k_is)
    (case c42 => k_is)
    (case k42 => k_is)
    (case z_len => k_is)
    (case z_max => k_is)
    (case z_abs => k_is)
    (case z_int => k_is)
    (case z_str => k_is)
    (case z_bool => k_is)
    (case z_tuple => k_is)
    (case z_list => k_is)
    (case z_dict => k_is)
    (case z_all => k_is)
    (case z_isinstance => k_is)
    (case z_range => k_is)
    (case z_zip => k_is)
    (case z_enumerate => k_is)
    (case z_sorted => k_is)
    (case v_DIGITS => k_is)
    (case v_GROUP => k_is)
    (case v_WHOLE => k_is)
    (case v_LETTERS => k_is)
    (case v_LONGEST => k_is)
    (case v_WORDS => k_is)
    (case lW => k_is)
    (case v_BOUNDS => k_is)
    (case lB => k_is)
    (case lB0 => k_is)
    (case lB1 => k_is)
    (case lB2 => k_is)
    (case lB3 => k_is)
    (case aS => k_is)
    (case rS => k_is)
    (case gS => k_is)
    (case fS => k_is)
    (case xaT => k_is)
    (case xlT => k_is)
    (case xrT => first | rfl | decide +kernel | k_is)
    (case xsT => k_is)
    (case xbT => k_is)
    (case xtT => k_is)
    (case xkT => k_is)
    (case xnT => k_is)
    (case xiT => k_is)
    (case xfT => k_is)
    (case xdT => k_is)
    (case xcT => k_is)
    (case xjT => k_is)
    (case xxT => k_is)
    (case xuT => first | rfl | k_is)
    (case xaB => k_is)
    (case xlB => k_is)
    (case xrB => first | rfl | decide +kernel | k_is)
    (case xsB => k_is)
    (case xbB => k_is)
    (case xtB => k_is)
    (case xkB => k_is)
    (case xnB => k_is)
    (case xiB => k_is)
    (case xfB => k_is)
    (case xdB => k_is)
    (case xcB => k_is)
    (case xjB => k_is)
    (case xxB => k_is)
    (case xuB => first | rfl | k_is)
    (case ga => k_is)
    (case gg => k_is)
    (case hd => k_is)
#print axioms PySem.Challenge.cw_backsheet_k91_tables_and_limits_written_holds
