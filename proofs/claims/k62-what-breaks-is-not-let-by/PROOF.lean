import PyProof.Rows.All
import Wide.All
import OpenK.AllK
import Wide.FinOn
import KE.KStateDown
import HandS.ForMost
import HandS.Defaults
import PySem.Challenge.RW_usewarden_k62_whole_what_breaks_is_not_l
import HandS.TupAny
import HandS.Style
import HandS.NoneIn
import HandS.Conv
import HandS.Text
import HandS.TupSets
import HandS.SetFor
import KE.SortData
import PyProof.SetKind
import KE.KDictWalk
import HandS.Small
import HandS.Evl
import HandS.Flt
import HandS.Head0
import HandS.Head1
import HandS.Head2
import HandS.HeadEnd
import HandS.HeadHook1
import HandS.HeadHook2
set_option Elab.async false
set_option linter.all false
set_option maxRecDepth 100000
set_option maxHeartbeats 0
/-! text U0 -/
/-! The ground: the text by places, heaps that grow, values that stand for data, what an expression comes to. -/
namespace Uw
open PySem PySem.Spec PyProof.Rows L2
def top (i : Nat) : Stmt := PySem.Challenge.pw_usewarden_k62_whole_what_breaks_is_not_l.main.body.getD i (.Pass ⟨0, 0, 0, 0⟩)

/-! ### heaps -/
theorem same_new {H : Hp} {p : Addr} {o : HO} (h : H p = none) : Same H (upd H p o) := fun b x e => by
  rw [upd_ne (ne_of_none e h)]
  exact e
theorem same_mut {H H' : Hp} {p : Addr} {o : HO} (s : Same H H') (h : H p = none) : Same H (upd H' p o) := fun b x e => by
  rw [upd_ne (ne_of_none e h)]
  exact s b x e
theorem same_sqT {K : PySem.W.Frag} {H H' : Hp} {a : Addr} {xs : List V} (e : Same H H') (h : SqT K H a xs) : SqT K H' a xs := by
  rcases h with (h | ⟨o, h⟩) | h
  · exact .inl (.inl (e _ _ h))
  · exact .inl (.inr ⟨o, e _ _ h⟩)
  · exact .inr h
theorem small_le {n : Nat} (h : n ≤ 1000000) : n ≤ sizeLine := Nat.le_trans h (by decide)
theorem small_lt {n : Nat} (h : n ≤ 1000000) : n < sizeLine := Nat.lt_of_le_of_lt h (by decide)

mutual
theorem dp_mono {K : PySem.W.Frag} {H H' : Hp} (e : Same H H') : ∀ {v : V} {d : PyData}, Dp K H v d → Dp K H' v d
  | _, _, .non => .non
  | _, _, .bl b => .bl b
  | _, _, .int i => .int i
  | _, _, .str x => .str x
  | _, _, .lst h t => .lst (e.seq h) (dps_mono e t)
  | _, _, .tup h t => .tup (same_sqT e h) (dps_mono e t)
theorem dps_mono {K : PySem.W.Frag} {H H' : Hp} (e : Same H H') : ∀ {vs : List V} {ds : List PyData}, DpAll K H vs ds → DpAll K H' vs ds
  | _, _, .nil => .nil
  | _, _, .cons h t => .cons (dp_mono e h) (dps_mono e t)
end
theorem dps_len {K : PySem.W.Frag} {H : Hp} : ∀ {vs : List V} {ds : List PyData}, DpAll K H vs ds → vs.length = ds.length
  | _, _, .nil => rfl
  | _, _, .cons _ t => congrArg (· + 1) (dps_len t)
theorem dps_get {K : PySem.W.Frag} {H : Hp} : ∀ {vs : List V} {ds : List PyData} {i : Nat} {d : PyData}, DpAll K H vs ds → ds[i]? = some d → ∃ v, vs[i]? = some v ∧ Dp K H v d
  | _, _, _, _, .nil, e => by simp at e
  | _, _, 0, _, .cons h _, e => by
    simp at e
    subst e
    exact ⟨_, rfl, h⟩
  | _, _, i + 1, d, .cons _ t, e => by
    obtain ⟨v, h1, h2⟩ := dps_get (i := i) (d := d) t (by simpa using e)
    exact ⟨v, by simpa using h1, h2⟩
theorem dps_get' {K : PySem.W.Frag} {H : Hp} : ∀ {vs : List V} {ds : List PyData} {i : Nat} {v : V}, DpAll K H vs ds → vs[i]? = some v → ∃ d, ds[i]? = some d ∧ Dp K H v d
  | _, _, _, _, .nil, e => by simp at e
  | _, _, 0, _, .cons h _, e => by
    simp at e
    subst e
    exact ⟨_, rfl, h⟩
  | _, _, i + 1, v, .cons _ t, e => by
    obtain ⟨d, h1, h2⟩ := dps_get' (i := i) (v := v) t (by simpa using e)
    exact ⟨d, by simpa using h1, h2⟩
theorem dps_append {K : PySem.W.Frag} {H : Hp} : ∀ {vs ws : List V} {ds es : List PyData}, DpAll K H vs ds → DpAll K H ws es → DpAll K H (vs ++ ws) (ds ++ es)
  | _, _, _, _, .nil, q => q
  | _, _, _, _, .cons h t, q => .cons h (dps_append t q)
theorem dps_snoc {K : PySem.W.Frag} {H : Hp} {vs : List V} {ds : List PyData} {v : V} {d : PyData} (h : DpAll K H vs ds) (q : Dp K H v d) : DpAll K H (vs ++ [v]) (ds ++ [d]) := dps_append h (.cons q .nil)
theorem dps_take {K : PySem.W.Frag} {H : Hp} : ∀ {vs : List V} {ds : List PyData} (n : Nat), DpAll K H vs ds → DpAll K H (vs.take n) (ds.take n)
  | _, _, 0, _ => .nil
  | _, _, _ + 1, .nil => .nil
  | _, _, n + 1, .cons h t => .cons h (dps_take n t)
theorem dps_drop {K : PySem.W.Frag} {H : Hp} : ∀ {vs : List V} {ds : List PyData} (n : Nat), DpAll K H vs ds → DpAll K H (vs.drop n) (ds.drop n)
  | _, _, 0, h => h
  | _, _, _ + 1, .nil => .nil
  | _, _, n + 1, .cons _ t => dps_drop n t
theorem dps_set {K : PySem.W.Frag} {H : Hp} : ∀ {vs : List V} {ds : List PyData} (n : Nat) {v : V} {d : PyData}, DpAll K H vs ds → Dp K H v d → DpAll K H (vs.set n v) (ds.set n d)
  | _, _, _, _, _, .nil, _ => .nil
  | _, _, 0, _, _, .cons _ t, q => .cons q t
  | _, _, n + 1, _, _, .cons h t, q => .cons h (dps_set n t q)
theorem dps_ints {K : PySem.W.Frag} {H : Hp} : ∀ (ns : List Int), DpAll K H (ns.map V.int) (ns.map PyData.int)
  | [] => .nil
  | n :: r => .cons (.int n) (dps_ints r)
theorem dps_ints_eq {K : PySem.W.Frag} {H : Hp} : ∀ {vs : List V} {ns : List Int}, DpAll K H vs (ns.map PyData.int) → vs = ns.map V.int
  | _, [], .nil => rfl
  | _, n :: r, .cons h t => by
    cases h
    rw [dps_ints_eq t]
    rfl
theorem dps_strs_eq {K : PySem.W.Frag} {H : Hp} : ∀ {vs : List V} {ns : List Str}, DpAll K H vs (ns.map PyData.str) → vs = ns.map V.str
  | _, [], .nil => rfl
  | _, n :: r, .cons h t => by
    cases h
    rw [dps_strs_eq t]
    rfl
theorem dps_strs {K : PySem.W.Frag} {H : Hp} : ∀ (ns : List Str), DpAll K H (ns.map V.str) (ns.map PyData.str)
  | [] => .nil
  | n :: r => .cons (.str n) (dps_strs r)
theorem dp_list {K : PySem.W.Frag} {H : Hp} {v : V} {ds : List PyData} (h : Dp K H v (.list ds)) : ∃ a xs, v = .ref a ∧ SqL K H a xs ∧ DpAll K H xs ds := by
  cases h with
  | lst h1 h2 => exact ⟨_, _, rfl, h1, h2⟩
theorem dp_tup {K : PySem.W.Frag} {H : Hp} {v : V} {ds : List PyData} (h : Dp K H v (.tuple ds)) : ∃ a xs, v = .ref a ∧ SqT K H a xs ∧ DpAll K H xs ds := by
  cases h with
  | tup h1 h2 => exact ⟨_, _, rfl, h1, h2⟩
theorem dp_int {K : PySem.W.Frag} {H : Hp} {v : V} {i : Int} (h : Dp K H v (.int i)) : v = .int i := by
  cases h
  rfl
theorem dp_str {K : PySem.W.Frag} {H : Hp} {v : V} {i : Str} (h : Dp K H v (.str i)) : v = .str i := by
  cases h
  rfl
theorem dp_bl {K : PySem.W.Frag} {H : Hp} {v : V} {i : Bool} (h : Dp K H v (.bool i)) : v = .bl i := by
  cases h
  rfl
theorem dp_non {K : PySem.W.Frag} {H : Hp} {v : V} (h : Dp K H v .none) : v = .non := by
  cases h
  rfl
theorem atI_len {α β : Type} {xs : List α} {ys : List β} {i : Int} {v : α} {w : β} (hl : xs.length = ys.length) (h : ∀ j : Nat, xs[j]? = some v → ys[j]? = some w) (e : atI xs i = some v) : atI ys i = some w := by
  unfold atI at e ⊢
  rw [← hl]
  cases q : ixN xs.length i with
  | none =>
    rw [q] at e
    cases e
  | some j =>
    rw [q] at e
    exact h j e
theorem dps_at {K : PySem.W.Frag} {H : Hp} {vs : List V} {ds : List PyData} {i : Int} {d : PyData} (h : DpAll K H vs ds) (e : atI ds i = some d) : ∃ v, atI vs i = some v ∧ Dp K H v d := by
  unfold atI at e
  cases q : ixN ds.length i with
  | none =>
    rw [q] at e
    cases e
  | some j =>
    rw [q] at e
    obtain ⟨v, h1, h2⟩ := dps_get h e
    refine ⟨v, ?_, h2⟩
    unfold atI
    rw [dps_len h, q]
    exact h1

/-! ### a def of the text: where it stands, and the promise that it keeps -/
/-- the facts of the top -/
structure Dn (K : PySem.W.Frag) (mg : Str → Option Value) (x : Str) (st : Stmt) : Prop where
  ex : ∃ f fd, mg x = some (.ref f) ∧ FunD K x x (defArgs st) (defBody st) (defScope st) [] [] f fd
/-- the promise sp is kept by the def of the name x, k levels deep -/
structure Kn (P : Program) (w : World) (K : PySem.W.Frag) (mg : Str → Option Value) (base : Heap) (k : Nat) (x : Str) (ps : List Str) (sp : Sp) : Prop where
  ex : ∃ f fd, mg x = some (.ref f) ∧ PySem.W.keepIn K (.ref f) = true ∧ Binds K fd ps [] ∧ FnOk P w K mg base CX0 k f fd ps sp
theorem Kn.mono {P : Program} {w : World} {K : PySem.W.Frag} {mg : Str → Option Value} {base : Heap} {j k : Nat} {x : Str} {ps : List Str} {sp : Sp} (h : Kn P w K mg base j x ps sp) (l : j ≤ k) : Kn P w K mg base k x ps sp := by
  obtain ⟨f, fd, a, b, c, d⟩ := h.ex
  exact ⟨f, fd, a, b, c, d.mono l⟩
theorem Kn.imp {P : Program} {w : World} {K : PySem.W.Frag} {mg : Str → Option Value} {base : Heap} {k : Nat} {x : Str} {ps : List Str} {sp sp' : Sp} (h : Kn P w K mg base k x ps sp) (l : ∀ vs H Q E, sp' vs H Q E → sp vs H Q E) : Kn P w K mg base k x ps sp' := by
  obtain ⟨f, fd, a, b, c, d⟩ := h.ex
  exact ⟨f, fd, a, b, c, d.imp l⟩
theorem pe_kn {X : Cx} {k : Nat} {x : Str} {ps : List Str} {sp : Sp} {e : Expr} {es : List Expr} {p pos : Pos} {t : TA} (O : Kn X.prog X.w X.K X.mg X.base k x ps sp) (hr : Room k X.A) (hg : Gl X x) (ha : PA X (e :: es) t)
    (hd : (x == ("__debug__" : Str)) = false := by decide) (he : starEach (e :: es) X.env = (false, eval e X.env) :: starEach es X.env := by rfl)
    (hpl : (backTo pos (starEach es X.env)).any (·.1) = false := by rfl) : PE X (.Call (.Name x p) (e :: es) [] pos) (tCall sp [] E0 t) := by
  obtain ⟨f, fd, hm, hk, hb, F⟩ := O.ex
  exact pe_call F hr hg hm hk hb .nil pass0 ha hd he hpl
/-- THE RULE of a def: its body's derivation, and its reading -/
theorem kn_mk {P : Program} {w : World} {K : PySem.W.Frag} {mg : Str → Option Value} {base : Heap} {x : Str} {st : Stmt} {N ps : List Str} {k : Nat} {sp : Sp} (D : Dn K mg x st) (S : FnScope N ps (defScope st))
    (hb : ∀ (kV doc pm : Value) (an : Option Addr) (cdv ct : Value) (us : List Value), us.length = ps.length → bindArgs (PySem.W.fnOf x x (defArgs st) (defBody st) (defScope st) .none kV doc pm an cdv ct) ⟨us, []⟩ = pure (ps.zip us))
    (len : ∀ vs H Q E, sp vs H Q E → vs.length = ps.length)
    (hbody : ∀ (f : Addr) (cdv : Value) (A : Around) (outer : List Env) (s : Shared) (H : Hp) (vs : List V) (Q : VK) (E : XK), Room k (A.deeper (envOfC x (defScope st) s.heap.objs.size f cdv)) → sp vs H Q E →
      ∃ t, PSs (cxOf CX0 P w K mg base N x (defScope st) f cdv A outer s H E).nox (defBody st) t ∧ t { nx := fun _ H' => Q .non H', rt := Q } (start N vs) H) : Kn P w K mg base (k + 1) x ps sp := by
  obtain ⟨f, fd, hm, F⟩ := D.ex
  refine ⟨f, fd, hm, F.kp, F.bindsN hb, F.ok S len fun cdv A outer s H vs Q E hr h => ?_⟩
  obtain ⟨t, h1, h2⟩ := hbody f cdv A outer s H vs Q E hr h
  exact ⟨t, h1.nox, h2⟩

/-! ### what an expression comes to: data, in a heap that has grown -/
def Gd (K : PySem.W.Frag) (te : TE) (σ : L2.St) (H : Hp) (d : PyData) : Prop := ∀ H1, Same H H1 → ∀ Q : VK, (∀ v H2, Same H1 H2 → Dp K H2 v d → Q v H2) → te σ H1 Q
def Gt (tt : TT) (σ : L2.St) (H : Hp) (b : Bool) : Prop := ∀ H1, Same H H1 → ∀ Q : Bool → Hp → Prop, (∀ H2, Same H1 H2 → Q b H2) → tt σ H1 Q
def Ga (K : PySem.W.Frag) (ta : TA) (σ : L2.St) (H : Hp) (ds : List PyData) : Prop := ∀ H1, Same H H1 → ∀ Q : List V → Hp → Prop, (∀ vs H2, Same H1 H2 → DpAll K H2 vs ds → Q vs H2) → ta σ H1 Q
def Go (to : TO) (σ : L2.St) (H : Hp) (o : Option Int) : Prop := ∀ H1, Same H H1 → ∀ Q : Option Int → Hp → Prop, (∀ H2, Same H1 H2 → Q o H2) → to σ H1 Q
def Rd2 (K : PySem.W.Frag) (r : R2) (d e : PyData) (H : Hp) (z : PyData) : Prop := ∀ H1, Same H H1 → ∀ x y, Dp K H1 x d → Dp K H1 y e → ∀ Q : VK, (∀ v H2, Same H1 H2 → Dp K H2 v z → Q v H2) → r x y H1 Q
def Rd1 (K : PySem.W.Frag) (r : V → Hp → VK → Prop) (d : PyData) (H : Hp) (z : PyData) : Prop := ∀ H1, Same H H1 → ∀ x, Dp K H1 x d → ∀ Q : VK, (∀ v H2, Same H1 H2 → Dp K H2 v z → Q v H2) → r x H1 Q
def RdC (K : PySem.W.Frag) (r : List V → Hp → VK → Prop) (ds : List PyData) (H : Hp) (z : PyData) : Prop := ∀ H1, Same H H1 → ∀ vs, DpAll K H1 vs ds → ∀ Q : VK, (∀ v H2, Same H1 H2 → Dp K H2 v z → Q v H2) → r vs H1 Q
section
variable {K : PySem.W.Frag} {σ : L2.St} {H H' : Hp} {ta tb te : TE} {tt tu : TT} {d e z : PyData} {ds es : List PyData} {v : V} {i : Nat} {a b c : Bool}
theorem gd_var (h : σ[i]? = some (some v)) (hd : Dp K H v d) : Gd K (tVar i) σ H d := fun H1 s Q q => ⟨v, h, q v H1 (Same.refl _) (dp_mono s hd)⟩
theorem gd_int {n : Int} : Gd K (tC (.int n)) σ H (.int n) := fun H1 _ Q q => q _ H1 (Same.refl _) (.int n)
theorem gd_str {n : Str} : Gd K (tC (.str n)) σ H (.str n) := fun H1 _ Q q => q _ H1 (Same.refl _) (.str n)
theorem gd_bl {n : Bool} : Gd K (tC (.bl n)) σ H (.bool n) := fun H1 _ Q q => q _ H1 (Same.refl _) (.bl n)
theorem gd_non : Gd K (tC .non) σ H .none := fun H1 _ Q q => q _ H1 (Same.refl _) .non
theorem gd_is (h : Gd K te σ H d) (e : d = z) : Gd K te σ H z := e ▸ h
theorem gt_is (h : Gt tt σ H a) (e : a = b) : Gt tt σ H b := e ▸ h
theorem gd_mono (s : Same H H') (h : Gd K te σ H d) : Gd K te σ H' d := fun H1 s1 => h H1 (s.trans s1)
theorem gt_mono (s : Same H H') (h : Gt tt σ H a) : Gt tt σ H' a := fun H1 s1 => h H1 (s.trans s1)
theorem gd_op {r : R2} (ha : Gd K ta σ H d) (hb : Gd K tb σ H e) (hr : Rd2 K r d e H z) : Gd K (tOp r ta tb) σ H z := fun H1 s Q q =>
  ha H1 s _ fun x H2 s2 dx => hb H2 (s.trans s2) _ fun y H3 s3 dy => hr H3 ((s.trans s2).trans s3) x y (dp_mono s3 dx) dy Q fun v H4 s4 dv => q v H4 ((s2.trans s3).trans s4) dv
theorem gd_un {r : V → Hp → VK → Prop} (ha : Gd K ta σ H d) (hr : Rd1 K r d H z) : Gd K (tUn r ta) σ H z := fun H1 s Q q =>
  ha H1 s _ fun x H2 s2 dx => hr H2 (s.trans s2) x dx Q fun v H4 s4 dv => q v H4 (s2.trans s4) dv
theorem ga_nil : Ga K tNil σ H [] := fun H1 _ Q q => q [] H1 (Same.refl _) .nil
theorem ga_cons {tr : TA} (h : Gd K te σ H d) (hr : Ga K tr σ H ds) : Ga K (tCons te tr) σ H (d :: ds) := fun H1 s Q q =>
  h H1 s _ fun x H2 s2 dx => hr H2 (s.trans s2) _ fun xs H3 s3 dxs => q _ H3 (s2.trans s3) (.cons (dp_mono s3 dx) dxs)
theorem gd_tup {ta : TA} (h : Ga K ta σ H ds) (hl : ds.length ≤ 1000000) : Gd K (tTup ta) σ H (.tuple ds) := fun H1 s Q q =>
  h H1 s _ fun vs H2 s2 dv => ⟨small_le (by rw [dps_len dv]; exact hl), fun p hp => q _ _ (s2.trans (same_new hp)) (.tup (SqT.of upd_same) (dps_mono (same_new hp) dv))⟩
theorem gd_lst {ta : TA} (h : Ga K ta σ H ds) (hl : ds.length ≤ 1000000) : Gd K (tLst ta) σ H (.list ds) := fun H1 s Q q =>
  h H1 s _ fun vs H2 s2 dv => ⟨small_le (by rw [dps_len dv]; exact hl), fun p hp => q _ _ (s2.trans (same_new hp)) (.lst (SqL.of upd_same) (dps_mono (same_new hp) dv))⟩
theorem gd_cb {r : List V → Hp → VK → Prop} {ta : TA} (h : Ga K ta σ H ds) (hr : RdC K r ds H z) : Gd K (tCB r ta) σ H z := fun H1 s Q q =>
  h H1 s _ fun vs H2 s2 dv => hr H2 (s.trans s2) vs dv Q fun v H3 s3 d3 => q v H3 (s2.trans s3) d3
/-- a def that hands back data, told by its arguments' data -/
def spD (K : PySem.W.Frag) (R : List PyData → PyData → Prop) : Sp := fun vs H Q _ => ∃ ds d, DpAll K H vs ds ∧ R ds d ∧ ∀ v H', Same H H' → Dp K H' v d → Q v H'
theorem gd_call {R : List PyData → PyData → Prop} {E : XK} {ta : TA} (h : Ga K ta σ H ds) (hr : R ds z) : Gd K (tCall (spD K R) [] E ta) σ H z := fun H1 s Q q =>
  h H1 s _ fun vs H2 s2 dv => ⟨ds, z, by rw [List.append_nil]; exact dv, hr, fun v H3 s3 d3 => q v H3 (s2.trans s3) d3⟩
theorem gt_test (h : Gd K te σ H (.bool a)) : Gt (tTest te) σ H a := fun H1 s Q q => h H1 s _ fun v H2 s2 dv => by
  cases dv
  exact ⟨a, rfl, q H2 s2⟩
theorem gt_B (h : Gd K te σ H (.bool a)) : Gt (tB te) σ H a := fun H1 s Q q => h H1 s _ fun v H2 s2 dv => by
  cases dv
  exact ⟨a, rfl, q H2 s2⟩
theorem gt_and (h1 : Gt tt σ H a) (h2 : a = true → Gt tu σ H b) : Gt (tAnd tt tu) σ H (a && b) := fun H1 s Q q => h1 H1 s _ fun H2 s2 => by
  cases a with
  | true =>
    show tu σ H2 Q
    exact h2 rfl H2 (s.trans s2) Q fun H3 s3 => q H3 (s2.trans s3)
  | false =>
    show Q false H2
    exact q H2 s2
theorem gt_or (h1 : Gt tt σ H a) (h2 : a = false → Gt tu σ H b) : Gt (tOr tt tu) σ H (a || b) := fun H1 s Q q => h1 H1 s _ fun H2 s2 => by
  cases a with
  | true =>
    show Q true H2
    exact q H2 s2
  | false =>
    show tu σ H2 Q
    exact h2 rfl H2 (s.trans s2) Q fun H3 s3 => q H3 (s2.trans s3)
theorem gt_andT (h1 : Gt tt σ H true) (h2 : Gt tu σ H b) : Gt (tAnd tt tu) σ H b := gt_is (gt_and h1 fun _ => h2) rfl
theorem gt_andF (h1 : Gt tt σ H false) : Gt (tAnd tt tu) σ H false := gt_is (gt_and (b := false) h1 fun z => by cases z) rfl
theorem gt_orT (h1 : Gt tt σ H true) : Gt (tOr tt tu) σ H true := gt_is (gt_or (b := false) h1 fun z => by cases z) rfl
theorem gt_orF (h1 : Gt tt σ H false) (h2 : Gt tu σ H b) : Gt (tOr tt tu) σ H b := gt_is (gt_or h1 fun _ => h2) rfl
theorem gt_not (h1 : Gt tt σ H a) : Gt (tNot tt) σ H (!a) := fun H1 s Q q => h1 H1 s _ fun H2 s2 => q H2 s2
theorem gd_and (h1 : Gd K ta σ H (.bool a)) (h2 : a = true → Gd K tb σ H (.bool b)) : Gd K (tAndV ta tb) σ H (.bool (a && b)) := fun H1 s Q q => h1 H1 s _ fun v H2 s2 dv => by
  cases dv
  refine ⟨a, rfl, ?_⟩
  cases a with
  | true =>
    show tb σ H2 Q
    exact h2 rfl H2 (s.trans s2) Q fun v H3 s3 d3 => q v H3 (s2.trans s3) d3
  | false =>
    show Q (.bl false) H2
    exact q _ H2 s2 (.bl _)
theorem gd_or (h1 : Gd K ta σ H (.bool a)) (h2 : a = false → Gd K tb σ H (.bool b)) : Gd K (tOrV ta tb) σ H (.bool (a || b)) := fun H1 s Q q => h1 H1 s _ fun v H2 s2 dv => by
  cases dv
  refine ⟨a, rfl, ?_⟩
  cases a with
  | true =>
    show Q (.bl true) H2
    exact q _ H2 s2 (.bl _)
  | false =>
    show tb σ H2 Q
    exact h2 rfl H2 (s.trans s2) Q fun v H3 s3 d3 => q v H3 (s2.trans s3) d3
theorem gd_notV (h1 : Gd K ta σ H (.bool a)) : Gd K (tNotV ta) σ H (.bool (!a)) := fun H1 s Q q => h1 H1 s _ fun v H2 s2 dv => by
  cases dv
  exact ⟨a, rfl, q _ H2 s2 (.bl _)⟩
theorem gd_if (h : Gt tt σ H a) (h1 : a = true → Gd K ta σ H d) (h2 : a = false → Gd K tb σ H d) : Gd K (tIf tt ta tb) σ H d := fun H1 s Q q => h H1 s _ fun H2 s2 => by
  cases a with
  | true =>
    show ta σ H2 Q
    exact h1 rfl H2 (s.trans s2) Q fun v H3 s3 d3 => q v H3 (s2.trans s3) d3
  | false =>
    show tb σ H2 Q
    exact h2 rfl H2 (s.trans s2) Q fun v H3 s3 d3 => q v H3 (s2.trans s3) d3
theorem go_none : Go tNoPart σ H none := fun H1 _ Q q => q H1 (Same.refl _)
theorem go_some {n : Int} (h : Gd K te σ H (.int n)) : Go (tPart te) σ H (some n) := fun H1 s Q q => h H1 s _ fun v H2 s2 dv => by
  cases dv
  exact ⟨n, rfl, q H2 s2⟩

/-! ### two-place operations by data -/
theorem r2_I0 {g : Int → Int → Int} {m n : Int} : Rd2 K (rI0 fun i j => .int (g i j)) (.int m) (.int n) H (.int (g m n)) := fun H1 _ x y hx hy Q q => by
  cases hx
  cases hy
  exact ⟨m, n, rfl, rfl, q _ H1 (Same.refl _) (.int _)⟩
theorem r2_B0 {g : Int → Int → Bool} {m n : Int} : Rd2 K (rI0 fun i j => .bl (g i j)) (.int m) (.int n) H (.bool (g m n)) := fun H1 _ x y hx hy Q q => by
  cases hx
  cases hy
  exact ⟨m, n, rfl, rfl, q _ H1 (Same.refl _) (.bl _)⟩
theorem r2_I {C : Int → Int → Prop} {g : Int → Int → Int} {m n : Int} (hc : C m n) : Rd2 K (rI C fun i j => .int (g i j)) (.int m) (.int n) H (.int (g m n)) := fun H1 _ x y hx hy Q q => by
  cases hx
  cases hy
  exact ⟨m, n, rfl, rfl, hc, q _ H1 (Same.refl _) (.int _)⟩
theorem r1_neg {m : Int} : Rd1 K (rU fun i => .int (-i)) (.int m) H (.int (-m)) := fun H1 _ x hx Q q => by
  cases hx
  exact ⟨m, rfl, q _ H1 (Same.refl _) (.int _)⟩
/-- the scalars among the data -/
def scV : PyData → Option V
  | .none => some .non
  | .bool b => some (.bl b)
  | .int i => some (.int i)
  | .str x => some (.str x)
  | _ => none
theorem scV_dp {x : V} (h : Dp K H v d) (e : scV d = some x) : v = x := by
  cases h <;> first | (cases e; rfl) | cases e
theorem r2_eq {x y : V} (hx : scV d = some x) (hy : scV e = some y) (hs : scal x y = true) (hd : decide (x = y) = a) : Rd2 K rEq d e H (.bool a) := fun H1 _ u w du dw Q q => by
  rw [scV_dp du hx, scV_dp dw hy]
  refine ⟨hs, ?_⟩
  rw [hd]
  exact q _ H1 (Same.refl _) (.bl _)
theorem r2_ne {x y : V} (hx : scV d = some x) (hy : scV e = some y) (hs : scal x y = true) (hd : (!decide (x = y)) = a) : Rd2 K rNe d e H (.bool a) := fun H1 _ u w du dw Q q => by
  rw [scV_dp du hx, scV_dp dw hy]
  refine ⟨hs, ?_⟩
  rw [hd]
  exact q _ H1 (Same.refl _) (.bl _)
theorem r2_ixT {n : Int} (h : atI ds n = some d) : Rd2 K (rIxT K) (.tuple ds) (.int n) H d := fun H1 _ x y hx hy Q q => by
  obtain ⟨p, xs, rfl, h1, h2⟩ := dp_tup hx
  cases hy
  obtain ⟨v, h3, h4⟩ := dps_at h2 h
  exact ⟨p, xs, n, v, rfl, rfl, h1, h3, q _ H1 (Same.refl _) h4⟩
theorem r2_ixL {n : Int} (h : atI ds n = some d) : Rd2 K (rIxL K) (.list ds) (.int n) H d := fun H1 _ x y hx hy Q q => by
  obtain ⟨p, xs, rfl, h1, h2⟩ := dp_list hx
  cases hy
  obtain ⟨v, h3, h4⟩ := dps_at h2 h
  exact ⟨p, xs, n, v, rfl, rfl, h1, h3, q _ H1 (Same.refl _) h4⟩
/-- x[i] of a list or a tuple: the derivation's rule serves both -/
theorem r2_ixl {n : Int} (h : atI ds n = some d) : Rd2 K (rIx K) (.list ds) (.int n) H d := fun H1 s x y hx hy Q q => .inl (r2_ixL (H := H) h H1 s x y hx hy Q q)
theorem r2_ixt {n : Int} (h : atI ds n = some d) : Rd2 K (rIx K) (.tuple ds) (.int n) H d := fun H1 s x y hx hy Q q => .inr (.inl (r2_ixT (H := H) h H1 s x y hx hy Q q))
/-- flat data -/
def flatD : PyData → Bool
  | .none => true
  | .bool _ => true
  | .int _ => true
  | .str _ => true
  | _ => false
def eqF : PyData → PyData → Bool
  | .none, .none => true
  | .bool a, .bool b => a == b
  | .bool a, .int b => (if a then 1 else 0) == b
  | .int a, .bool b => a == (if b then 1 else 0)
  | .int a, .int b => a == b
  | .str a, .str b => a == b
  | _, _ => false
theorem flat_dp (h : Dp K H v d) (f : flatD d = true) : flatV v = true := by
  cases h <;> first | rfl | cases f
theorem flat_dps : ∀ {vs : List V} {ds : List PyData}, DpAll K H vs ds → ds.all flatD = true → vs.all flatV = true
  | _, _, .nil, _ => rfl
  | _, _, .cons h t, f => by
    rw [List.all_cons, Bool.and_eq_true] at f ⊢
    exact ⟨flat_dp h f.1, flat_dps t f.2⟩
theorem eqF_dp {x : V} (h : Dp K H v d) (q : Dp K H x e) : flatD d = true → flatD e = true → eqV v x = eqF d e := by
  intro f1 f2
  cases h <;> cases q <;> first | rfl | cases f1 | cases f2
theorem inV_dps {x : V} (q : Dp K H x e) (fe : flatD e = true) : ∀ {vs : List V} {ds : List PyData}, DpAll K H vs ds → ds.all flatD = true → inV x vs = ds.any fun d => eqF d e
  | _, _, .nil, _ => rfl
  | _, _, .cons h t, f => by
    rw [List.all_cons, Bool.and_eq_true] at f
    unfold inV
    rw [List.any_cons, List.any_cons, eqF_dp h q f.1 fe]
    exact congrArg _ (inV_dps q fe t f.2)
theorem r2_inl (f : flatD d = true) (fs : ds.all flatD = true) (hv : (ds.any fun x => eqF x d) = a) : Rd2 K (rIn K false) d (.list ds) H (.bool a) := fun H1 _ x y hx hy Q q => by
  obtain ⟨p, xs, rfl, h1, h2⟩ := dp_list hy
  refine ⟨p, xs, rfl, .inl h1, flat_dp hx f, flat_dps h2 fs, ?_⟩
  rw [inV_dps hx f h2 fs, hv]
  exact q _ H1 (Same.refl _) (.bl _)
theorem r2_int (f : flatD d = true) (fs : ds.all flatD = true) (hv : (ds.any fun x => eqF x d) = a) : Rd2 K (rIn K false) d (.tuple ds) H (.bool a) := fun H1 _ x y hx hy Q q => by
  obtain ⟨p, xs, rfl, h1, h2⟩ := dp_tup hy
  refine ⟨p, xs, rfl, .inr h1, flat_dp hx f, flat_dps h2 fs, ?_⟩
  rw [inV_dps hx f h2 fs, hv]
  exact q _ H1 (Same.refl _) (.bl _)
theorem r2_nil (f : flatD d = true) (fs : ds.all flatD = true) (hv : (!ds.any fun x => eqF x d) = a) : Rd2 K (rIn K true) d (.list ds) H (.bool a) := fun H1 _ x y hx hy Q q => by
  obtain ⟨p, xs, rfl, h1, h2⟩ := dp_list hy
  refine ⟨p, xs, rfl, .inl h1, flat_dp hx f, flat_dps h2 fs, ?_⟩
  rw [inV_dps hx f h2 fs, hv]
  exact q _ H1 (Same.refl _) (.bl _)
theorem r2_nit (f : flatD d = true) (fs : ds.all flatD = true) (hv : (!ds.any fun x => eqF x d) = a) : Rd2 K (rIn K true) d (.tuple ds) H (.bool a) := fun H1 _ x y hx hy Q q => by
  obtain ⟨p, xs, rfl, h1, h2⟩ := dp_tup hy
  refine ⟨p, xs, rfl, .inr h1, flat_dp hx f, flat_dps h2 fs, ?_⟩
  rw [inV_dps hx f h2 fs, hv]
  exact q _ H1 (Same.refl _) (.bl _)
/-- is None, is not None -/
def rIsNon : R2 := fun x y H Q => y = .non ∧ Q (.bl (decide (x = .non))) H
def rNotNon : R2 := fun x y H Q => y = .non ∧ Q (.bl (!decide (x = .non))) H
theorem op_isNon {X : Cx} : OpR X (compareOp .Is) rIsNon := op_isN
theorem op_notNon {X : Cx} : OpR X (compareOp .IsNot) rNotNon := op_notN
def isNoneD : PyData → Bool
  | .none => true
  | _ => false
theorem dp_isNon (h : Dp K H v d) : decide (v = .non) = isNoneD d := by
  cases h <;> rfl
theorem r2_isN (hv : isNoneD d = a) : Rd2 K rIsNon d .none H (.bool a) := fun H1 _ x y hx hy Q q => by
  cases hy
  refine ⟨rfl, ?_⟩
  rw [dp_isNon hx, hv]
  exact q _ H1 (Same.refl _) (.bl _)
theorem r2_notN (hv : (!isNoneD d) = a) : Rd2 K rNotNon d .none H (.bool a) := fun H1 _ x y hx hy Q q => by
  cases hy
  refine ⟨rfl, ?_⟩
  rw [dp_isNon hx, hv]
  exact q _ H1 (Same.refl _) (.bl _)
/-- s + t of texts; + of lists, of tuples -/
def rAddS : R2 := fun x y H Q => ∃ i j, x = .str i ∧ y = .str j ∧ i.length + j.length ≤ sizeLine ∧ Q (.str (i ++ j)) H
theorem op_addS {X : Cx} : OpR X (binaryOp .Add) rAddS := op_add_str
theorem r2_addS {m n : Str} (hl : m.length + n.length ≤ 1000000) : Rd2 K rAddS (.str m) (.str n) H (.str (m ++ n)) := fun H1 _ x y hx hy Q q => by
  cases hx
  cases hy
  exact ⟨m, n, rfl, rfl, small_le hl, q _ H1 (Same.refl _) (.str _)⟩
theorem r2_catT (hne : ds ≠ []) (hne2 : es ≠ []) (hl : ds.length + es.length ≤ 1000000) : Rd2 K (rCatT K) (.tuple ds) (.tuple es) H (.tuple (ds ++ es)) := fun H1 _ x y hx hy Q q => by
  obtain ⟨p, xs, rfl, h1, h2⟩ := dp_tup hx
  obtain ⟨p', ys, rfl, h3, h4⟩ := dp_tup hy
  have l1 := dps_len h2
  have l2 := dps_len h4
  have n1 : xs ≠ [] := fun z => by
    rw [z] at l1
    exact hne (List.eq_nil_of_length_eq_zero l1.symm)
  have n2 : ys ≠ [] := fun z => by
    rw [z] at l2
    exact hne2 (List.eq_nil_of_length_eq_zero l2.symm)
  refine ⟨p, p', xs, ys, rfl, rfl, h1, h3, n1, small_le (by rw [l1, l2]; exact hl), fun z => absurd z n2, fun _ u hu => ?_⟩
  exact q _ _ (same_new hu) (.tup (SqT.of upd_same) (dps_append (dps_mono (same_new hu) h2) (dps_mono (same_new hu) h4)))
/-- len of a list or a tuple -/
def rLn (K : PySem.W.Frag) : List V → Hp → VK → Prop := fun xs H Q => ∃ p ys, xs = [.ref p] ∧ (SqL K H p ys ∨ SqT K H p ys) ∧ Q (.int ys.length) H
theorem call_ln {X : Cx} : CallR X (.builtin "len") (rLn X.K) := call_len_seq
theorem rc_lnL : RdC K (rLn K) [.list ds] H (.int ds.length) := fun H1 _ vs dv Q q => by
  cases dv with
  | cons h t =>
    cases t
    obtain ⟨p, xs, rfl, h1, h2⟩ := dp_list h
    refine ⟨p, xs, rfl, .inl h1, ?_⟩
    rw [dps_len h2]
    exact q _ H1 (Same.refl _) (.int _)
theorem rc_lnT : RdC K (rLn K) [.tuple ds] H (.int ds.length) := fun H1 _ vs dv Q q => by
  cases dv with
  | cons h t =>
    cases t
    obtain ⟨p, xs, rfl, h1, h2⟩ := dp_tup h
    refine ⟨p, xs, rfl, .inr h1, ?_⟩
    rw [dps_len h2]
    exact q _ H1 (Same.refl _) (.int _)
/-! ### statements: one in a row (q_), the last one (l_) -/
variable {D : Ends} {t u : TS}
theorem l_ret (h : Gd K te σ H d) (k : ∀ v H1, Same H H1 → Dp K H1 v d → D.rt v H1) : tRet te D σ H := h H (Same.refl _) _ k
theorem l_if (h : Gt tt σ H a) (h1 : a = true → ∀ H1, Same H H1 → t D σ H1) (h2 : a = false → ∀ H1, Same H H1 → u D σ H1) : tIfS tt t u D σ H := h H (Same.refl _) _ fun H1 s => by
  cases a with
  | true =>
    show t D σ H1
    exact h1 rfl H1 s
  | false =>
    show u D σ H1
    exact h2 rfl H1 s
theorem l_yes (h : Gt tt σ H true) (h1 : ∀ H1, Same H H1 → t D σ H1) : tIfS tt t u D σ H := l_if h (fun _ => h1) fun z => by cases z
theorem l_no (h : Gt tt σ H false) (h1 : ∀ H1, Same H H1 → u D σ H1) : tIfS tt t u D σ H := l_if h (fun z => by cases z) fun _ => h1
theorem l_next (h : D.nx σ H) : tNext D σ H := h
theorem q_seq (h : t { D with nx := u D } σ H) : tSeq t u D σ H := h
theorem q_ret (h : Gd K te σ H d) (k : ∀ v H1, Same H H1 → Dp K H1 v d → D.rt v H1) : tSeq (tRet te) u D σ H := h H (Same.refl _) _ k
theorem q_asg {j : Nat} (h : Gd K te σ H d) (k : ∀ v H1, Same H H1 → Dp K H1 v d → u D (σ.set j (some v)) H1) : tSeq (tAsg te (gName j)) u D σ H := h H (Same.refl _) _ fun v H1 s dv => k v H1 s dv
theorem l_asg {j : Nat} (h : Gd K te σ H d) (k : ∀ v H1, Same H H1 → Dp K H1 v d → D.nx (σ.set j (some v)) H1) : tAsg te (gName j) D σ H := h H (Same.refl _) _ fun v H1 s dv => k v H1 s dv
/-- if .. without an else, something behind it -/
theorem q_if0 {t' : TS} (h : Gt tt σ H a) (h1 : a = true → ∀ H1, Same H H1 → t { D with nx := t' D } σ H1) (h2 : a = false → ∀ H1, Same H H1 → t' D σ H1) : tSeq (tIfS tt t tNext) t' D σ H :=
  l_if (D := { D with nx := t' D }) h h1 h2
theorem q_yes {t' : TS} (h : Gt tt σ H true) (h1 : ∀ H1, Same H H1 → t { D with nx := t' D } σ H1) : tSeq (tIfS tt t u) t' D σ H := l_yes (D := { D with nx := t' D }) h h1
theorem q_no {t' : TS} (h : Gt tt σ H false) (h1 : ∀ H1, Same H H1 → t' D σ H1) : tSeq (tIfS tt t tNext) t' D σ H := l_no (D := { D with nx := t' D }) h h1
theorem q_if {t' : TS} (h : Gt tt σ H a) (h1 : a = true → ∀ H1, Same H H1 → t { D with nx := t' D } σ H1) (h2 : a = false → ∀ H1, Same H H1 → u { D with nx := t' D } σ H1) : tSeq (tIfS tt t u) t' D σ H :=
  l_if (D := { D with nx := t' D }) h h1 h2
end
end Uw
/-! text U1 -/
/-! More rules by data: + of any two, slices of lists and tuples, the top's facts. -/
namespace Uw
open PySem PySem.Spec PyProof.Rows L2
/-! ### list + list, both only read -/
def rCatS (K : PySem.W.Frag) : R2 := fun x y H Q => ∃ l b xs zs, x = .ref l ∧ y = .ref b ∧ SqL K H l xs ∧ SqL K H b zs ∧ xs.length + zs.length ≤ sizeLine ∧ ∀ p, H p = none → Q (.ref p) (upd H p (.lst (xs ++ zs)))
theorem op_catS {X : Cx} : OpR X (binaryOp .Add) (rCatS X.K) := by
  intro pins s σ H x y v u Q I rx ry h
  obtain ⟨l, b, xs, zs, rfl, rfl, hL, hB, hz, q⟩ := h
  cases rx
  cases ry
  obtain ⟨its, r, ⟨⟨cls, dd, data, sl⟩, n, ho, hc, hd, hdat⟩, _⟩ := I.list hL
  obtain ⟨its2, r2, ⟨⟨cls2, dd2, data2, sl2⟩, n2, ho2, hc2, hd2, hdat2⟩, _⟩ := I.list hB
  simp only at hc hd hdat hc2 hd2 hdat2
  subst hc hd hdat hc2 hd2 hdat2
  have l1 := r.length
  have l2 := r2.length
  refine PySem.concat_meets ⟨_, ho, rfl⟩ ⟨_, ho2, rfl⟩ PySem.noFill_list_add PySem.seq_list_add PySem.F.slot_list_add PySem.F.entry_list_add (PySem.F.args_list_add_2 _ _)
    (PyProof.Rows.list_addW l b its.toArray its2.toArray n n2 none none sl sl2 (by rw [List.size_toArray, List.size_toArray]; omega)) ⟨ho, ho2, ?_⟩
  have ea : its.toArray ++ its2.toArray = (its ++ its2).toArray := by simp
  rw [ea]
  exact ⟨.ref _, _, I.lnew (t' := s.toks) (r.append r2) (by rw [List.length_append]; omega), rfl, q _ I.fresh⟩
def rAddU (K : PySem.W.Frag) : R2 := fun x y H Q => rI0 (fun i j => .int (i + j)) x y H Q ∨ (rAddS x y H Q ∨ (rCatS K x y H Q ∨ rCatA K x y H Q))
theorem op_addU {X : Cx} : OpR X (binaryOp .Add) (rAddU X.K) := op_add.or (op_addS.or (op_catS.or op_catA))
def rSlU (K : PySem.W.Frag) : V → Option Int → Option Int → Hp → VK → Prop := fun x lo hi H Q => rSlL K x lo hi H Q ∨ rSlA K x lo hi H Q
theorem sl_U {X : Cx} : SlR X (rSlU X.K) := sl_list.or sl_tupA
/-- xs[lo:hi] -/
def cutL {α : Type} (xs : List α) (lo hi : Option Int) : List α := (xs.drop (HT.sIx xs.length 0 lo)).take (HT.sIx xs.length xs.length hi - HT.sIx xs.length 0 lo)
section
variable {K : PySem.W.Frag} {σ : L2.St} {H H' : Hp} {ta tb te : TE} {d e z : PyData} {ds es : List PyData} {lo hi : Option Int} {tl th : TO}
theorem r2_addI {m n : Int} : Rd2 K (rAddU K) (.int m) (.int n) H (.int (m + n)) := fun H1 s x y hx hy Q q => .inl (r2_I0 (K := K) (H := H) H1 s x y hx hy Q q)
theorem r2_addT {m n : Str} (hl : m.length + n.length ≤ 1000000) : Rd2 K (rAddU K) (.str m) (.str n) H (.str (m ++ n)) := fun H1 s x y hx hy Q q => .inr (.inl (r2_addS (K := K) (H := H) hl H1 s x y hx hy Q q))
theorem r2_addL (hl : ds.length + es.length ≤ 1000000) : Rd2 K (rAddU K) (.list ds) (.list es) H (.list (ds ++ es)) := fun H1 _ x y hx hy Q q => by
  obtain ⟨p, xs, rfl, h1, h2⟩ := dp_list hx
  obtain ⟨p', ys, rfl, h3, h4⟩ := dp_list hy
  refine .inr (.inr (.inl ⟨p, p', xs, ys, rfl, rfl, h1, h3, small_le (by rw [dps_len h2, dps_len h4]; exact hl), fun u hu => ?_⟩))
  exact q _ _ (same_new hu) (.lst (SqL.of upd_same) (dps_append (dps_mono (same_new hu) h2) (dps_mono (same_new hu) h4)))
theorem r2_addU (hl : ds.length + es.length ≤ 1000000) : Rd2 K (rAddU K) (.tuple ds) (.tuple es) H (.tuple (ds ++ es)) := fun H1 _ x y hx hy Q q => by
  obtain ⟨p, xs, rfl, h1, h2⟩ := dp_tup hx
  obtain ⟨p', ys, rfl, h3, h4⟩ := dp_tup hy
  refine .inr (.inr (.inr ⟨p, p', xs, ys, rfl, rfl, h1, h3, small_le (by rw [dps_len h2, dps_len h4]; exact hl), fun e => ?_, fun _ e => ?_, fun _ _ u hu => ?_⟩))
  · subst e
    cases h2
    exact q _ _ (Same.refl _) hy
  · subst e
    cases h4
    rw [List.append_nil] at q
    exact q _ _ (Same.refl _) hx
  · exact q _ _ (same_new hu) (.tup (SqT.of upd_same) (dps_append (dps_mono (same_new hu) h2) (dps_mono (same_new hu) h4)))
theorem cut_dps {vs : List V} (h : DpAll K H vs ds) (lo hi : Option Int) : DpAll K H (cutV vs lo hi) (cutL ds lo hi) := by
  unfold cutV cutL
  rw [dps_len h]
  exact dps_take _ (dps_drop _ h)
theorem gd_slL (h : Gd K te σ H (.list ds)) (h1 : Go tl σ H lo) (h2 : Go th σ H hi) : Gd K (tSl (rSlU K) te tl th) σ H (.list (cutL ds lo hi)) := fun H1 s Q q =>
  h H1 s _ fun v H2 s2 dv => h1 H2 (s.trans s2) _ fun H3 s3 => h2 H3 ((s.trans s2).trans s3) _ fun H4 s4 => by
    obtain ⟨p, xs, rfl, h5, h6⟩ := dp_list (dp_mono (s3.trans s4) dv)
    exact .inl ⟨p, xs, rfl, h5, fun u hu => q _ _ (((s2.trans s3).trans s4).trans (same_new hu)) (.lst (SqL.of upd_same) (dps_mono (same_new hu) (cut_dps h6 lo hi)))⟩
theorem gd_slT (h : Gd K te σ H (.tuple ds)) (h1 : Go tl σ H lo) (h2 : Go th σ H hi) : Gd K (tSl (rSlU K) te tl th) σ H (.tuple (cutL ds lo hi)) := fun H1 s Q q =>
  h H1 s _ fun v H2 s2 dv => h1 H2 (s.trans s2) _ fun H3 s3 => h2 H3 ((s.trans s2).trans s3) _ fun H4 s4 => by
    obtain ⟨p, xs, rfl, h5, h6⟩ := dp_tup (dp_mono (s3.trans s4) dv)
    refine .inr ⟨p, xs, rfl, h5, fun e => ?_, fun _ u hu => q _ _ (((s2.trans s3).trans s4).trans (same_new hu)) (.tup (SqT.of upd_same) (dps_mono (same_new hu) (cut_dps h6 lo hi)))⟩
    refine q _ _ ((s2.trans s3).trans s4) (.tup h5 ?_)
    have z := cut_dps h6 lo hi
    unfold cutV at z
    rw [e.1, e.2, List.drop_zero, Nat.sub_zero, List.take_length] at z
    exact z
end
/-! ### the top's facts -/
def frees : List Str := ["any", "int", "len", "list", "max", "min", "range", "set", "sorted", "str", "tuple"]
def fnames1 : List (Str × Nat) := [(("next_room" : Str), 1), (("has_slot" : Str), 3), (("with_slot" : Str), 4), (("without_slot" : Str), 5), (("sums_in" : Str), 6), (("has_room" : Str), 7), (("copied_slot" : Str), 8), (("slots_behind" : Str), 9), (("texts_at" : Str), 10), (("room_behind" : Str), 11), (("behind_at" : Str), 12), (("begun_by_open" : Str), 13), (("begun_by_tie" : Str), 14), (("begins_at" : Str), 15), (("breaks_at" : Str), 16), (("rows_behind" : Str), 17), (("breaks_some" : Str), 18), (("moves_some" : Str), 19), (("known_in" : Str), 21), (("is_closed" : Str), 22), (("lets_by" : Str), 23), (("lines_of_step" : Str), 25), (("lines_of" : Str), 26), (("names_in" : Str), 27), (("names_of" : Str), 28)]
def fnames2 : List (Str × Nat) := [(("put_lend" : Str), 31), (("put_if" : Str), 32), (("put_while" : Str), 33), (("put_steps" : Str), 34), (("coded" : Str), 35), (("code_of" : Str), 36), (("turned_code" : Str), 37), (("all_behind" : Str), 39), (("paper_of" : Str), 40), (("_law_cell_at" : Str), 42), (("_law_words" : Str), 43), (("_law_step" : Str), 44), (("_law_put" : Str), 45), (("_law_close" : Str), 46), (("_law_program" : Str), 47), (("_law_rule" : Str), 48), (("_law_slots" : Str), 49), (("_law_next" : Str), 50), (("_law_code" : Str), 51), (("_law_inputs" : Str), 52), (("_law_deed" : Str), 53), (("_law_done" : Str), 54), (("_law_broken" : Str), 55), (("_law_told" : Str), 56), (("_law_right" : Str), 57), (("law" : Str), 58)]
structure Tx (K : PySem.W.Frag) (mg : Str → Option Value) : Prop where
  free : ∀ x, x ∈ frees → mg x = none
  fn : ∀ p, p ∈ fnames1 → Dn K mg p.1 (top p.2)
  fn2 : ∀ p, p ∈ fnames2 → Dn K mg p.1 (top p.2)
/-- THE RULE of a def told by data -/
theorem kn_D {P : Program} {w : World} {K : PySem.W.Frag} {mg : Str → Option Value} {base : Heap} {x : Str} {st : Stmt} {N ps : List Str} {k : Nat} {R : List PyData → PyData → Prop} (D : Dn K mg x st) (S : FnScope N ps (defScope st))
    (hb : ∀ (kV doc pm : Value) (an : Option Addr) (cdv ct : Value) (us : List Value), us.length = ps.length → bindArgs (PySem.W.fnOf x x (defArgs st) (defBody st) (defScope st) .none kV doc pm an cdv ct) ⟨us, []⟩ = pure (ps.zip us))
    (len : ∀ ds d, R ds d → ds.length = ps.length)
    (hbody : ∀ (f : Addr) (cdv : Value) (A : Around) (outer : List Env) (s : Shared) (H : Hp) (vs : List V) (E : XK) (ds : List PyData) (d : PyData), Room k (A.deeper (envOfC x (defScope st) s.heap.objs.size f cdv)) → DpAll K H vs ds → R ds d →
      ∃ t, PSs (cxOf CX0 P w K mg base N x (defScope st) f cdv A outer s H E).nox (defBody st) t ∧ ∀ Q : VK, (∀ v H', Same H H' → Dp K H' v d → Q v H') → t { nx := fun _ H' => Q .non H', rt := Q } (start N vs) H) : Kn P w K mg base (k + 1) x ps (spD K R) :=
  kn_mk D S hb (fun vs H Q E h => by
    obtain ⟨ds, d, h1, h2, _⟩ := h
    rw [dps_len h1]
    exact len ds d h2) fun f cdv A outer s H vs Q E hr h => by
    obtain ⟨ds, d, h1, h2, h3⟩ := h
    obtain ⟨t, a, b⟩ := hbody f cdv A outer s H vs E ds d hr h1 h2
    exact ⟨t, a, b Q h3⟩
end Uw
/-! text M0 -/
/-! Rules, rows of code, tokens: as data and as plain Lean; what a row makes of a token. -/
namespace Uw
open PySem
/-! ### rules -/
structure Rule where
  sides : Nat
  texts : List Str
  rooms : List (List (Option Nat))
def encO : Option Nat → PyData
  | none => .none
  | some n => .int n
def Rule.enc (r : Rule) : PyData := .tuple [.int r.sides, .list (r.texts.map PyData.str), .list (r.rooms.map fun m => .list (m.map encO))]
structure Rule.Ok (r : Rule) (R : Nat) : Prop where
  sides : r.sides = 1 ∨ r.sides = 2
  len : r.rooms.length = R
  pos : 0 < R
  row : ∀ m ∈ r.rooms, m.length = r.texts.length ∧ ∀ k, some k ∈ m → k < R
  few : r.texts.length ≤ 100
def Rule.next (r : Rule) (room : Nat) (w : Str) : Option Nat := if w ∈ r.texts then (r.rooms.getD room []).getD (r.texts.idxOf w) none else some room
/-! ### rows of code -/
inductive Row where
  | opn (l : Int) (s : Nat)
  | act (l : Int) (s : Nat) (w : Str)
  | cpy (l : Int) (s t : Nat)
  | drp (l : Int) (s : Nat)
  | tie (l : Int) (s t : Nat)
  | tst (l n : Int) (to : Nat)
  | jmp (l : Int) (to : Nat)
  | fin (l : Int)
def Row.enc : Row → PyData
  | .opn l s => .tuple [.str "open", .int l, .int s]
  | .act l s w => .tuple [.str "do", .int l, .int s, .str w]
  | .cpy l s t => .tuple [.str "copy", .int l, .int s, .int t]
  | .drp l s => .tuple [.str "drop", .int l, .int s]
  | .tie l s t => .tuple [.str "tie", .int l, .int s, .int t]
  | .tst l n to => .tuple [.str "test", .int l, .int n, .int to]
  | .jmp l to => .tuple [.str "jump", .int l, .int to]
  | .fin l => .tuple [.str "end", .int l]
/-- slots below S, short words -/
def Row.Ok (S : Nat) : Row → Prop
  | .opn _ s => s < S
  | .act _ s w => s < S ∧ w.length ≤ 100
  | .cpy _ s t => s < S ∧ t < S
  | .drp _ s => s < S
  | .tie _ s t => s < S ∧ t < S
  | _ => True
def encCode (code : List Row) : PyData := .list (code.map Row.enc)
/-! ### tokens -/
inductive Tok where
  | one (m room : Nat)
  | sgl (m : Nat)
  | par (a b o : Nat)
  | tyd (a b o room : Nat)
  deriving DecidableEq
def Tok.ns : Tok → List Nat
  | .one m r => [m, r]
  | .sgl m => [m]
  | .par a b o => [a, b, o]
  | .tyd a b o r => [a, b, o, r]
def Tok.enc (t : Tok) : PyData := .tuple (t.ns.map fun (n : Nat) => .int n)
structure Lim where
  sides : Nat
  S : Nat
  R : Nat
def Tok.Ok (L : Lim) : Tok → Prop
  | .one m r => L.sides = 1 ∧ m < 2 ^ L.S ∧ r < L.R
  | .sgl m => L.sides = 2 ∧ m < 2 ^ L.S
  | .par a b o => L.sides = 2 ∧ a < 2 ^ L.S ∧ b < 2 ^ L.S ∧ (o = 1 ∨ o = 2)
  | .tyd a b o r => L.sides = 2 ∧ a < 2 ^ L.S ∧ b < 2 ^ L.S ∧ (o = 1 ∨ o = 2) ∧ r < L.R
def Tok.hasRoom : Tok → Bool
  | .one _ _ => true
  | .tyd _ _ _ _ => true
  | _ => false
def Tok.room : Tok → Nat
  | .one _ r => r
  | .tyd _ _ _ r => r
  | _ => 0
/-! ### sums of slots -/
def wit (m s : Nat) : Nat := m ||| 2 ^ s
def wout (m s : Nat) : Nat := wit m s ^^^ 2 ^ s
def cpd (m s t : Nat) : Nat := if m.testBit t then wit m s else wout m s
def sbh : Row → Nat → Nat
  | .cpy _ s t, m => cpd m s t
  | .opn _ s, m => wout m s
  | .drp _ s, m => wout m s
  | _, m => m
def textsAt (sides : Nat) : Row → Tok → List Str
  | .fin _, .one _ _ => ["end"]
  | .fin _, .tyd _ _ o _ => if o = 1 then ["1.end", "2.end"] else ["2.end", "1.end"]
  | .act _ s w, .one m _ => if m.testBit s then [("" : Str) ++ w] else []
  | .act _ s w, .tyd a b _ _ => if a.testBit s then [("1." : Str) ++ w] else if b.testBit s then [("2." : Str) ++ w] else []
  | _, _ => []
def rooms (r : Rule) : List Str → Nat → Option Nat
  | [], n => some n
  | w :: ws, n => match r.next n w with
    | none => none
    | some k => rooms r ws k
def roomB (r : Rule) (row : Row) (t : Tok) : Option Nat := rooms r (textsAt r.sides row t) t.room
def isFin : Row → Bool
  | .fin _ => true
  | _ => false
def Tok.back (f : Nat → Nat) : Tok → Nat → Tok
  | .one m _, k => .one (f m) k
  | .sgl m, _ => .sgl (f m)
  | .par a b o, _ => .par (f a) (f b) o
  | .tyd a b o _, k => .tyd (f a) (f b) o k
def behind (r : Rule) (row : Row) (t : Tok) : Option Tok :=
  if isFin row then none else if t.hasRoom then (match roomB r row t with
    | none => none
    | some k => some (t.back (sbh row) k)) else some (t.back (sbh row) 0)
def encT : Option Tok → PyData
  | none => .none
  | some t => t.enc
/-- what begins at a row, by a token that stands there; by the row alone -/
def begT (r : Rule) : Row → Tok → List Tok
  | .opn _ s, .sgl m => if r.sides = 2 then [.par (wout m s) (2 ^ s) 1, .par (2 ^ s) (wout m s) 2] else []
  | .tie _ s t, .par a b o => if r.sides = 2 ∧ a.testBit s ∧ b.testBit t then [.tyd a b o 0] else []
  | _, _ => []
def beg0 (r : Rule) : Row → List Tok
  | .opn _ s => if r.sides = 1 then (match r.next 0 "open" with
    | none => []
    | some k => [.one (2 ^ s) k]) else [.sgl (2 ^ s)]
  | _ => []
def begun (r : Rule) (row : Row) (ts : List Tok) : List Tok := beg0 r row ++ ts.flatMap (begT r row)
/-- a token, or the new handle, breaks the rule -/
def breaks (r : Rule) (row : Row) : Option Tok → Bool
  | none => match row with
    | .opn _ _ => r.sides == 1 && (r.next 0 "open").isNone
    | _ => false
  | some t => t.hasRoom && (roomB r row t).isNone
def after (at_ : Nat) : Row → List Nat
  | .fin _ => []
  | .jmp _ to => [to]
  | .tst _ _ to => [at_ + 1, to]
  | _ => [at_ + 1]
end Uw
/-! text T1 -/
local macro_rules | `(tactic| walk_at "same") => `(tactic| first
  | assumption
  | exact L2.Same.refl _
  | ((with_reducible refine' L2.Same.trans ?h1 ?h2); (case h2 => assumption); (case h1 => walk_at "same"))
  | ((with_reducible refine' L2.Same.trans ?h1 (Uw.same_new ?h2)); (case h2 => assumption); (case h1 => walk_at "same"))
  | ((with_reducible refine' Uw.same_mut ?h1 ?h2); (case h2 => assumption); (case h1 => walk_at "same")))
local macro_rules | `(tactic| walk_at "dp") => `(tactic| first
  | assumption
  | exact L2.Dp.int _
  | exact L2.Dp.str _
  | exact L2.Dp.bl _
  | exact L2.Dp.non
  | ((with_reducible refine' Uw.dp_mono ?h1 ?h2); (case h2 => assumption); (case h1 => walk_at "same")))
local macro_rules | `(tactic| walk_at "r2") => `(tactic| first
  | exact Uw.r2_addI
  | exact Uw.r2_I0
  | exact Uw.r2_B0
  | exact Uw.r2_ixt rfl
  | exact Uw.r2_ixl rfl
  | exact Uw.r2_isN rfl
  | exact Uw.r2_int rfl rfl rfl
  | exact Uw.r2_inl rfl rfl rfl
  | exact Uw.r2_nit rfl rfl rfl
  | exact Uw.r2_nil rfl rfl rfl
  | exact Uw.r2_notN rfl
  | exact Uw.r2_eq rfl rfl rfl rfl
  | exact Uw.r2_ne rfl rfl rfl rfl
  | exact Uw.r2_I (by first | decide | omega))
local macro_rules | `(tactic| walk_at "gd") => `(tactic| first
  | exact Uw.gd_int
  | exact Uw.gd_str
  | exact Uw.gd_bl
  | exact Uw.gd_non
  | ((with_reducible refine' Uw.gd_var ?h1 ?h2); (case h1 => rfl); (case h2 => walk_at "dp"))
  | ((with_reducible refine' Uw.gd_op ?h1 ?h2 ?h3); (case h1 => walk_at "gd"); (case h2 => walk_at "gd"); (case h3 => walk_at "r2"))
  | ((with_reducible refine' Uw.gd_un ?h1 ?h2); (case h1 => walk_at "gd"); (case h2 => exact Uw.r1_neg))
  | ((with_reducible refine' Uw.gd_tup ?h1 ?h2); (case h1 => walk_at "ga"); (case h2 => exact Nat.le_of_ble_eq_true rfl))
  | ((with_reducible refine' Uw.gd_lst ?h1 ?h2); (case h1 => walk_at "ga"); (case h2 => exact Nat.le_of_ble_eq_true rfl))
  | ((with_reducible refine' Uw.gd_cb ?h1 ?h2); (case h1 => walk_at "ga"); (case h2 => first | exact Uw.rc_lnL | exact Uw.rc_lnT)))
local macro_rules | `(tactic| walk_at "ga") => `(tactic| first
  | exact Uw.ga_nil
  | ((with_reducible refine' Uw.ga_cons ?h1 ?h2); (case h1 => walk_at "gd"); (case h2 => walk_at "ga")))
local macro_rules | `(tactic| walk_at "call") => `(tactic| ((with_reducible refine' Uw.gd_call (ds := ?ds) ?h1 ?h2); rotate_left; (case h1 => walk_at "ga")))
local macro_rules | `(tactic| walk_at "tag") => `(tactic| exact Uw.gt_is (Uw.gt_test (by walk_at "gd")) (by first | decide +kernel | rfl))
local macro_rules | `(tactic| walk_at "tagT") => `(tactic| exact Uw.gt_is (b := true) (Uw.gt_test (by walk_at "gd")) (by first | decide +kernel | rfl))
local macro_rules | `(tactic| walk_at "tagF") => `(tactic| exact Uw.gt_is (b := false) (Uw.gt_test (by walk_at "gd")) (by first | decide +kernel | rfl))
namespace Uw
open PySem PySem.Spec PyProof.Rows L2
/-! ### bits -/
theorem bit_has (m s : Nat) : decide (V.int (Builtin.bitAnd ((m : Int) / 2 ^ (s : Int).toNat) 1) = V.int 1) = m.testBit s := by
  rw [dec_int]
  have e : ((m : Int) / 2 ^ (s : Int).toNat) = ((m / 2 ^ s : Nat) : Int) := by
    rw [Int.toNat_natCast]
    simp
  rw [e, bitAnd_pp (Int.natCast_nonneg _) (by decide), Int.toNat_natCast]
  have h1 : (1 : Int).toNat = 1 := rfl
  rw [h1, Nat.and_one_is_mod, Bool.eq_iff_iff, beq_iff_eq, Nat.testBit_eq_decide_div_mod_eq, decide_eq_true_eq]
  omega
theorem bit_or (m s : Nat) : Builtin.bitOr (m : Int) ((1 : Int) * 2 ^ (s : Int).toNat) = ((wit m s : Nat) : Int) := by
  have e : (1 : Int) * 2 ^ (s : Int).toNat = ((2 ^ s : Nat) : Int) := by
    rw [Int.toNat_natCast, Int.one_mul]
    simp
  rw [e, Bits.bitOr_pp (Int.natCast_nonneg _) (Int.natCast_nonneg _), Int.toNat_natCast, Int.toNat_natCast]
  rfl
theorem bit_xor (m s : Nat) : Builtin.bitXor (m : Int) ((1 : Int) * 2 ^ (s : Int).toNat) = ((m ^^^ 2 ^ s : Nat) : Int) := by
  have e : (1 : Int) * 2 ^ (s : Int).toNat = ((2 ^ s : Nat) : Int) := by
    rw [Int.toNat_natCast, Int.one_mul]
    simp
  rw [e, Bits.bitXor_pp (Int.natCast_nonneg _) (Int.natCast_nonneg _), Int.toNat_natCast, Int.toNat_natCast]
section
variable {P : Program} {w : World} {K : PySem.W.Frag} {mg : Str → Option Value} {base : Heap}
/-! ### has_slot, with_slot, without_slot -/
def R_has_slot (ds : List PyData) (d : PyData) : Prop := ∃ m s : Nat, ds = [.int m, .int s] ∧ d = .bool (m.testBit s)
theorem sc_has_slot : FnScope ["held", "slot"] ["held", "slot"] (defScope (top 3)) := ⟨rfl, rfl, rfl, by decide +kernel, rfl, by decide +kernel, by decide +kernel⟩
theorem kn_has_slot (T : Tx K mg) : Kn P w K mg base 1 "has_slot" ["held", "slot"] (spD K R_has_slot) := by
  refine kn_D (T.fn (("has_slot" : Str), 3) (by decide +kernel)) sc_has_slot (fun _ _ _ _ _ _ us hl => match us, hl with | [_, _], _ => rfl) (fun ds d h => ?_) (fun f cdv A outer s H vs E ds d hr hv h => ?_)
  · obtain ⟨m, s, rfl, rfl⟩ := h
    rfl
  obtain ⟨m, s, rfl, rfl⟩ := h
  obtain _ | ⟨h1, _ | ⟨h2, _ | _⟩⟩ := hv
  refine ⟨_, (pss_one (ps_ret (pe_cmpR op_eq (pe_op op_and (pe_op op_shr (pv 0) (pv 1)) (pe_int)) (pe_int) (nomark _)))), fun Q q => ?_⟩
  refine l_ret (K := K) ?_ q
  refine gd_is (gd_op (gd_op (gd_op (by walk_at "gd") (by walk_at "gd") (r2_I (Int.natCast_nonneg _))) (by walk_at "gd") (by walk_at "r2")) (by walk_at "gd") (by walk_at "r2")) ?_
  exact congrArg _ (bit_has m s)
def R_with_slot (ds : List PyData) (d : PyData) : Prop := ∃ m s : Nat, s ≤ 1000 ∧ ds = [.int m, .int s] ∧ d = .int (wit m s : Nat)
theorem sc_with_slot : FnScope ["held", "slot"] ["held", "slot"] (defScope (top 4)) := ⟨rfl, rfl, rfl, by decide +kernel, rfl, by decide +kernel, by decide +kernel⟩
theorem kn_with_slot (T : Tx K mg) : Kn P w K mg base 1 "with_slot" ["held", "slot"] (spD K R_with_slot) := by
  refine kn_D (T.fn (("with_slot" : Str), 4) (by decide +kernel)) sc_with_slot (fun _ _ _ _ _ _ us hl => match us, hl with | [_, _], _ => rfl) (fun ds d h => ?_) (fun f cdv A outer s H vs E ds d hr hv h => ?_)
  · obtain ⟨m, s, _, rfl, rfl⟩ := h
    rfl
  obtain ⟨m, s, hs, rfl, rfl⟩ := h
  obtain _ | ⟨h1, _ | ⟨h2, _ | _⟩⟩ := hv
  refine ⟨_, (pss_one (ps_ret (pe_op op_or (pv 0) (pe_op op_shl (pe_int) (pv 1))))), fun Q q => ?_⟩
  refine l_ret (K := K) ?_ q
  refine gd_is (gd_op (by walk_at "gd") (gd_op (by walk_at "gd") (by walk_at "gd") (r2_I ⟨Int.natCast_nonneg _, by omega, by decide⟩)) (by walk_at "r2")) ?_
  exact congrArg _ (bit_or m s)
def R_without_slot (ds : List PyData) (d : PyData) : Prop := ∃ m s : Nat, s ≤ 1000 ∧ ds = [.int m, .int s] ∧ d = .int (wout m s : Nat)
theorem sc_without_slot : FnScope ["held", "slot"] ["held", "slot"] (defScope (top 5)) := ⟨rfl, rfl, rfl, by decide +kernel, rfl, by decide +kernel, by decide +kernel⟩
theorem kn_without_slot (T : Tx K mg) : Kn P w K mg base 2 "without_slot" ["held", "slot"] (spD K R_without_slot) := by
  have Kwith_slot := kn_with_slot (P := P) (w := w) (base := base) T
  refine kn_D (T.fn (("without_slot" : Str), 5) (by decide +kernel)) sc_without_slot (fun _ _ _ _ _ _ us hl => match us, hl with | [_, _], _ => rfl) (fun ds d h => ?_) (fun f cdv A outer s H vs E ds d hr hv h => ?_)
  · obtain ⟨m, s, _, rfl, rfl⟩ := h
    rfl
  obtain ⟨m, s, hs, rfl, rfl⟩ := h
  obtain _ | ⟨h1, _ | ⟨h2, _ | _⟩⟩ := hv
  refine ⟨_, (pss_one (ps_ret (pe_op op_xor (pe_kn Kwith_slot (hr.mono (by decide)) rfl (pa_cons (pv 0) (pa_cons (pv 1) (pa_nil)))) (pe_op op_shl (pe_int) (pv 1))))), fun Q q => ?_⟩
  refine l_ret (K := K) ?_ q
  refine gd_is (gd_op (gd_call (by walk_at "ga") ⟨m, s, hs, rfl, rfl⟩) (gd_op (by walk_at "gd") (by walk_at "gd") (r2_I ⟨Int.natCast_nonneg _, by omega, by decide⟩)) (by walk_at "r2")) ?_
  exact congrArg _ (bit_xor _ s)
/-! ### sums_in, has_room, copied_slot, slots_behind -/
def R_sums_in (ds : List PyData) (d : PyData) : Prop := ∃ (n : Nat) (t : Tok), ds = [.int n, t.enc] ∧ d = .int (if n = 2 ∧ t.ns.length > 1 then 2 else 1)
theorem sc_sums_in : FnScope ["sides", "token"] ["sides", "token"] (defScope (top 6)) := ⟨rfl, rfl, rfl, by decide +kernel, rfl, by decide +kernel, by decide +kernel⟩
theorem kn_sums_in (T : Tx K mg) : Kn P w K mg base 1 "sums_in" ["sides", "token"] (spD K R_sums_in) := by
  refine kn_D (T.fn (("sums_in" : Str), 6) (by decide +kernel)) sc_sums_in (fun _ _ _ _ _ _ us hl => match us, hl with | [_, _], _ => rfl) (fun ds d h => ?_) (fun f cdv A outer s H vs E ds d hr hv h => ?_)
  · obtain ⟨m, s, rfl, rfl⟩ := h
    rfl
  obtain ⟨n, t, rfl, rfl⟩ := h
  obtain _ | ⟨h1, _ | ⟨h2, _ | _⟩⟩ := hv
  refine ⟨_, (pss_cons (ps_if (PW.pt (pw_and (pt_cmpR op_eq (pv 0) (pe_int) (nomark _)) (pw_and1 (pt_cmpR op_gt (pe_callB call_ln (by rfl) (T.free "len" (by decide)) PySem.boot_len (pa_cons (pv 1) (pa_nil))) (pe_int) (nomark _))))) (pss_one (ps_ret (pe_int))) (pss_nil)) (pss_one (ps_ret (pe_int)))), fun Q q => ?_⟩
  refine q_if0 (gt_and (gt_test (K := K) (by walk_at "gd")) fun _ => gt_test (K := K) (by walk_at "gd")) (fun e H1 s1 => ?_) (fun e H1 s1 => ?_)
  · refine l_ret (K := K) (by walk_at "gd") fun v H2 s2 d2 => q v H2 (by walk_at "same") ?_
    rw [Bool.and_eq_true, decide_eq_true_eq, decide_eq_true_eq, List.length_map] at e
    have e1 : n = 2 := by
      have := V.int.inj e.1
      omega
    rw [if_pos ⟨e1, by have := e.2; omega⟩]
    exact d2
  · refine l_ret (K := K) (by walk_at "gd") fun v H2 s2 d2 => q v H2 (by walk_at "same") ?_
    rw [if_neg]
    · exact d2
    · rintro ⟨rfl, h3⟩
      rw [Bool.and_eq_false_iff] at e
      rcases e with e | e
      · exact absurd rfl (of_decide_eq_false e)
      · have := of_decide_eq_false e
        rw [List.length_map] at this
        omega
def R_has_room (ds : List PyData) (d : PyData) : Prop := ∃ (L : Lim) (t : Tok), t.Ok L ∧ ds = [.int L.sides, t.enc] ∧ d = .bool t.hasRoom
theorem sc_has_room : FnScope ["sides", "token"] ["sides", "token"] (defScope (top 7)) := ⟨rfl, rfl, rfl, by decide +kernel, rfl, by decide +kernel, by decide +kernel⟩
theorem kn_has_room (T : Tx K mg) : Kn P w K mg base 1 "has_room" ["sides", "token"] (spD K R_has_room) := by
  refine kn_D (T.fn (("has_room" : Str), 7) (by decide +kernel)) sc_has_room (fun _ _ _ _ _ _ us hl => match us, hl with | [_, _], _ => rfl) (fun ds d h => ?_) (fun f cdv A outer s H vs E ds d hr hv h => ?_)
  · obtain ⟨m, s, _, rfl, rfl⟩ := h
    rfl
  obtain ⟨L, t, ht, rfl, rfl⟩ := h
  obtain _ | ⟨h1, _ | ⟨h2, _ | _⟩⟩ := hv
  refine ⟨_, (pss_one (ps_ret (pe_or (pe_cmpR op_eq (pv 0) (pe_int) (nomark _)) (pe_one (pe_cmpR op_eq (pe_callB call_ln (by rfl) (T.free "len" (by decide)) PySem.boot_len (pa_cons (pv 1) (pa_nil))) (pe_int) (nomark _)))))), fun Q q => ?_⟩
  refine l_ret (K := K) (gd_is (gd_or (by walk_at "gd") fun _ => by walk_at "gd") ?_) q
  have e : L.sides = 1 ∨ L.sides = 2 := by
    cases t <;> first | exact .inl ht.1 | exact .inr ht.1
  cases t <;> (rw [ht.1]; rfl)
def R_copied_slot (ds : List PyData) (d : PyData) : Prop := ∃ m s t : Nat, s ≤ 1000 ∧ ds = [.int m, .int s, .int t] ∧ d = .int (cpd m s t : Nat)
theorem sc_copied_slot : FnScope ["held", "slot", "source"] ["held", "slot", "source"] (defScope (top 8)) := ⟨rfl, rfl, rfl, by decide +kernel, rfl, by decide +kernel, by decide +kernel⟩
theorem kn_copied_slot (T : Tx K mg) : Kn P w K mg base 3 "copied_slot" ["held", "slot", "source"] (spD K R_copied_slot) := by
  have Khas_slot := kn_has_slot (P := P) (w := w) (base := base) T
  have Kwith_slot := kn_with_slot (P := P) (w := w) (base := base) T
  have Kwithout_slot := kn_without_slot (P := P) (w := w) (base := base) T
  refine kn_D (T.fn (("copied_slot" : Str), 8) (by decide +kernel)) sc_copied_slot (fun _ _ _ _ _ _ us hl => match us, hl with | [_, _, _], _ => rfl) (fun ds d h => ?_) (fun f cdv A outer s H vs E ds d hr hv h => ?_)
  · obtain ⟨m, s, t, _, rfl, rfl⟩ := h
    rfl
  obtain ⟨m, s, t, hs, rfl, rfl⟩ := h
  obtain _ | ⟨h1, _ | ⟨h2, _ | ⟨h3, _ | _⟩⟩⟩ := hv
  refine ⟨_, (pss_cons (ps_if (pt_val (pe_kn Khas_slot (hr.mono (by decide)) rfl (pa_cons (pv 0) (pa_cons (pv 2) (pa_nil))))) (pss_one (ps_ret (pe_kn Kwith_slot (hr.mono (by decide)) rfl (pa_cons (pv 0) (pa_cons (pv 1) (pa_nil)))))) (pss_nil)) (pss_one (ps_ret (pe_kn Kwithout_slot (hr.mono (by decide)) rfl (pa_cons (pv 0) (pa_cons (pv 1) (pa_nil))))))), fun Q q => ?_⟩
  unfold cpd at q
  refine q_if0 (gt_B (K := K) (gd_call (by walk_at "ga") ⟨m, t, rfl, rfl⟩)) (fun e H1 s1 => ?_) (fun e H1 s1 => ?_)
  · rw [e] at q
    exact l_ret (K := K) (gd_call (by walk_at "ga") ⟨m, s, hs, rfl, rfl⟩) fun v H2 s2 d2 => q v H2 (by walk_at "same") d2
  · rw [e] at q
    exact l_ret (K := K) (gd_call (by walk_at "ga") ⟨m, s, hs, rfl, rfl⟩) fun v H2 s2 d2 => q v H2 (by walk_at "same") d2
end
end Uw
/-! text T2 -/
namespace Uw
open PySem PySem.Spec PyProof.Rows L2
/-! ### rules -/
theorem Rule.next_in {r : Rule} {R n : Nat} {w : Str} (ok : r.Ok R) (hn : n < R) (hw : w ∈ r.texts) : ∃ m, r.rooms[n]? = some m ∧ m[r.texts.idxOf w]? = some (r.next n w) := by
  have h1 : n < r.rooms.length := by
    rw [ok.len]
    exact hn
  refine ⟨r.rooms[n], List.getElem?_eq_getElem h1, ?_⟩
  have h2 := (ok.row _ (List.getElem_mem h1)).1
  have h3 : r.texts.idxOf w < r.rooms[n].length := by
    rw [h2]
    exact List.idxOf_lt_length_of_mem hw
  unfold Rule.next
  rw [if_pos hw, List.getD_eq_getElem?_getD, List.getD_eq_getElem?_getD, List.getElem?_eq_getElem h1, Option.getD_some, List.getElem?_eq_getElem h3, Option.getD_some]
theorem Rule.next_out {r : Rule} {n : Nat} {w : Str} (hw : ¬ w ∈ r.texts) : r.next n w = some n := if_neg hw
theorem Rule.next_lt {r : Rule} {R n k : Nat} {w : Str} (ok : r.Ok R) (hn : n < R) (h : r.next n w = some k) : k < R := by
  by_cases hw : w ∈ r.texts
  · obtain ⟨m, h1, h2⟩ := Rule.next_in ok hn hw
    rw [h] at h2
    exact (ok.row m (List.mem_of_getElem? h1)).2 k (List.mem_of_getElem? h2)
  · rw [Rule.next_out hw] at h
    exact Option.some.inj h ▸ hn
theorem flat_strs (ss : List Str) : (ss.map PyData.str).all flatD = true := by
  rw [List.all_map]
  exact List.all_eq_true.mpr fun _ _ => rfl
theorem any_strs (w : Str) : ∀ ss : List Str, ((ss.map PyData.str).any fun x => eqF x (.str w)) = decide (w ∈ ss)
  | [] => rfl
  | s :: r => by
    rw [List.map_cons, List.any_cons, any_strs w r]
    show ((s == w) || decide (w ∈ r)) = decide (w ∈ s :: r)
    by_cases e : s = w
    · rw [e]
      simp
    · have e' : ¬ w = s := fun z => e z.symm
      simp [e, e']
theorem at_map {α : Type} {f : α → PyData} {l : List α} {j : Nat} {x : α} (h : l[j]? = some x) : atI (l.map f) (j : Int) = some (f x) := atI_nat (by rw [List.getElem?_map, h]; rfl)
section
variable {K : PySem.W.Frag} {σ : L2.St} {H : Hp} {te : TE} {ta : TA}
theorem gd_index {ss : List Str} {w : Str} (h : Gd K te σ H (.list (ss.map PyData.str))) (ha : Ga K ta σ H [.str w]) (hw : w ∈ ss) : Gd K (tBM K "list" (rIndex K) te ta) σ H (.int (ss.idxOf w : Nat)) := fun H1 s Q q =>
  h H1 s _ fun v H2 s2 dv => by
    obtain ⟨p, xs, rfl, h3, h4⟩ := dp_list dv
    have e := dps_strs_eq h4
    subst e
    refine ⟨.inl ⟨rfl, _, h3⟩, ha H2 (s.trans s2) _ fun vs H3 s3 dvs => ?_⟩
    obtain _ | ⟨h5, _ | _⟩ := dvs
    have e5 := dp_str h5
    subst e5
    have hl : ss.idxOf w < ss.length := List.idxOf_lt_length_of_mem hw
    refine ⟨p, ss.map V.str, .str w, ss.idxOf w, .str w, rfl, rfl, s3.seq h3, rfl, ?_, ?_, ?_, fun m z' hm hz => ?_, q _ H3 (s2.trans s3) (.int _)⟩
    · rw [List.all_map]
      exact List.all_eq_true.mpr fun _ _ => rfl
    · rw [List.getElem?_map, List.getElem?_eq_getElem hl]
      exact congrArg (fun z => some (V.str z)) (List.getElem_idxOf hl)
    · exact beq_self_eq_true w
    · have hm2 : m < ss.length := by omega
      rw [List.getElem?_map, List.getElem?_eq_getElem hm2] at hz
      have e : V.str ss[m] = z' := Option.some.inj hz
      rw [← e]
      show (ss[m] == w) = false
      have := List.not_of_lt_findIdx (xs := ss) (p := fun x => x == w) (i := m) hm
      simpa using this
end
section
variable {P : Program} {w : World} {K : PySem.W.Frag} {mg : Str → Option Value} {base : Heap}
def R_slots_behind (ds : List PyData) (d : PyData) : Prop := ∃ (S : Nat) (row : Row) (m : Nat), S ≤ 60 ∧ row.Ok S ∧ ds = [row.enc, .int m] ∧ d = .int (sbh row m : Nat)
theorem sc_slots_behind : FnScope ["row", "held"] ["row", "held"] (defScope (top 9)) := ⟨rfl, rfl, rfl, by decide +kernel, rfl, by decide +kernel, by decide +kernel⟩
theorem kn_slots_behind (T : Tx K mg) : Kn P w K mg base 4 "slots_behind" ["row", "held"] (spD K R_slots_behind) := by
  have Kcopied_slot := kn_copied_slot (P := P) (w := w) (base := base) T
  have Kwithout_slot := kn_without_slot (P := P) (w := w) (base := base) T
  refine kn_D (T.fn (("slots_behind" : Str), 9) (by decide +kernel)) sc_slots_behind (fun _ _ _ _ _ _ us hl => match us, hl with | [_, _], _ => rfl) (fun ds d h => ?_) (fun f cdv A outer s H vs E ds d hr hv h => ?_)
  · obtain ⟨_, row, m, _, _, rfl, rfl⟩ := h
    rfl
  obtain ⟨S, row, m, hS, ho, rfl, rfl⟩ := h
  obtain _ | ⟨h1, _ | ⟨h2, _ | _⟩⟩ := hv
  refine ⟨_, (pss_cons (ps_if (pt_cmpR op_eq (pe_ix ix_seq (pv 0) (pe_int) (fun _ _ => rfl)) (pe_str) (nomark _)) (pss_one (ps_ret (pe_kn Kcopied_slot (hr.mono (by decide)) rfl (pa_cons (pv 1) (pa_cons (pe_ix ix_seq (pv 0) (pe_int) (fun _ _ => rfl)) (pa_cons (pe_ix ix_seq (pv 0) (pe_int) (fun _ _ => rfl)) (pa_nil))))))) (pss_nil)) (pss_cons (ps_if (pt_cmpR op_in_seq (pe_ix ix_seq (pv 0) (pe_int) (fun _ _ => rfl)) (pe_tup (pa_cons (pe_str) (pa_cons (pe_str) (pa_nil)))) (by rfl)) (pss_one (ps_ret (pe_kn Kwithout_slot (hr.mono (by decide)) rfl (pa_cons (pv 1) (pa_cons (pe_ix ix_seq (pv 0) (pe_int) (fun _ _ => rfl)) (pa_nil)))))) (pss_nil)) (pss_one (ps_ret (pv 1))))), fun Q q => ?_⟩
  cases row with
  | cpy l a b =>
    obtain ⟨o1, o2⟩ := ho
    refine q_yes (by walk_at "tag") fun H1 s1 => ?_
    exact l_ret (K := K) (gd_call (by walk_at "ga") ⟨m, a, b, by omega, rfl, rfl⟩) fun v H2 s2 d2 => q v H2 (by walk_at "same") d2
  | opn l a =>
    have o1 : a < S := ho
    refine q_no (by walk_at "tag") fun H1 s1 => q_yes (by walk_at "tag") fun H2 s2 => ?_
    exact l_ret (K := K) (gd_call (by walk_at "ga") ⟨m, a, by omega, rfl, rfl⟩) fun v H3 s3 d2 => q v H3 (by walk_at "same") d2
  | drp l a =>
    have o1 : a < S := ho
    refine q_no (by walk_at "tag") fun H1 s1 => q_yes (by walk_at "tag") fun H2 s2 => ?_
    exact l_ret (K := K) (gd_call (by walk_at "ga") ⟨m, a, by omega, rfl, rfl⟩) fun v H3 s3 d2 => q v H3 (by walk_at "same") d2
  | _ =>
    refine q_no (by walk_at "tag") fun H1 s1 => q_no (by walk_at "tag") fun H2 s2 => ?_
    exact l_ret (K := K) (by walk_at "gd") fun v H3 s3 d2 => q v H3 (by walk_at "same") d2
def R_next_room (ds : List PyData) (d : PyData) : Prop := ∃ (r : Rule) (R n : Nat) (w : Str), r.Ok R ∧ n < R ∧ ds = [r.enc, .int n, .str w] ∧ d = encO (r.next n w)
theorem sc_next_room : FnScope ["rule", "room", "word"] ["rule", "room", "word"] (defScope (top 1)) := ⟨rfl, rfl, rfl, by decide +kernel, rfl, by decide +kernel, by decide +kernel⟩
theorem kn_next_room (T : Tx K mg) : Kn P w K mg base 1 "next_room" ["rule", "room", "word"] (spD K R_next_room) := by
  refine kn_D (T.fn (("next_room" : Str), 1) (by decide +kernel)) sc_next_room (fun _ _ _ _ _ _ us hl => match us, hl with | [_, _, _], _ => rfl) (fun ds d h => ?_) (fun f cdv A outer s H vs E ds d hr hv h => ?_)
  · obtain ⟨_, _, _, _, _, _, rfl, rfl⟩ := h
    rfl
  obtain ⟨r, R, n, x, ok, hn, rfl, rfl⟩ := h
  obtain _ | ⟨h1, _ | ⟨h2, _ | ⟨h3, _ | _⟩⟩⟩ := hv
  have h1 : Dp K H _ (.tuple [.int r.sides, .list (r.texts.map PyData.str), .list (r.rooms.map fun m => .list (m.map encO))]) := h1
  refine ⟨_, (pss_cons (ps_if (pt_cmpR op_notIn_seq (pv 2) (pe_ix ix_seq (pv 0) (pe_int) (fun _ _ => rfl)) (by rfl)) (pss_one (ps_ret (pv 1))) (pss_nil)) (pss_one (ps_ret (pe_ix ix_seq (pe_ix ix_seq (pe_ix ix_seq (pv 0) (pe_int) (fun _ _ => rfl)) (pv 1) (fun _ _ => rfl)) (pe_bm PySem.F.plainAttrs_list PySem.F.slot_list_index PySem.F.type_list_index mt_index (pe_ix ix_seq (pv 0) (pe_int) (fun _ _ => rfl)) (pa_cons (pv 2) (pa_nil))) (fun _ _ => rfl))))), fun Q q => ?_⟩
  refine q_if0 (a := !decide (x ∈ r.texts)) (gt_test (K := K) (gd_op (by walk_at "gd") (by walk_at "gd") (r2_nil rfl (flat_strs _) (congrArg not (any_strs x _))))) (fun e H1 s1 => ?_) (fun e H1 s1 => ?_)
  · have hx : ¬ x ∈ r.texts := by simpa using e
    rw [Rule.next_out hx] at q
    exact l_ret (K := K) (by walk_at "gd") fun v H2 s2 d2 => q v H2 (by walk_at "same") d2
  · have hx : x ∈ r.texts := by simpa using e
    obtain ⟨m, a1, a2⟩ := Rule.next_in ok hn hx
    refine l_ret (K := K) ?_ fun v H2 s2 d2 => q v H2 (by walk_at "same") d2
    exact gd_op (gd_op (by walk_at "gd") (by walk_at "gd") (r2_ixl (at_map a1))) (gd_index (by walk_at "gd") (by walk_at "ga") hx) (r2_ixl (at_map a2))
end
end Uw
/-! text U2 -/
/-! Loops, comprehensions by data. -/
namespace Uw
open PySem PySem.Spec PyProof.Rows L2
section
variable {K : PySem.W.Frag} {σ : L2.St} {H : Hp} {tl te : TE} {ds : List PyData} {D : Ends} {tb u : TS} {j : Nat}
/-- over a list that stays as it is -/
theorem q_forA (h : Gd K tl σ H (.list ds))
    (k : ∀ a xs H1, Same H H1 → SqL K H1 a xs → DpAll K H1 xs ds → ∃ Pv : Nat → L2.St → Hp → Prop, Pv 0 σ H1 ∧ (∀ i σ' H', Pv i σ' H' → SqL K H' a xs) ∧
      (∀ i d v σ' H', ds[i]? = some d → xs[i]? = some v → Pv i σ' H' → tb { D with nx := Pv (i + 1), ct := Pv (i + 1), bk := u D } (σ'.set j (some v)) H') ∧ ∀ σ' H', Pv ds.length σ' H' → u D σ' H') :
    tSeq (tFor (iList K tl) (gName j) tb) u D σ H := h H (Same.refl _) _ fun v H1 s1 dv => by
  obtain ⟨a, xs, rfl, h1, h2⟩ := dp_list dv
  obtain ⟨Pv, p0, pl, pt, pe⟩ := k a xs H1 s1 h1 h2
  refine ⟨a, rfl, ⟨xs, h1⟩, for_list (K := K) (a := a) (xs := xs) Pv p0 (fun i σ' H' _ p => pl i σ' H' p) (fun i x σ' H' hx p => ?_) fun σ' H' p => pe σ' H' (by rw [← dps_len h2]; exact p)⟩
  obtain ⟨d, e, _⟩ := dps_get' h2 hx
  exact pt i d x σ' H' e hx p
/-- .. in a heap that only grows -/
theorem q_forL (h : Gd K tl σ H (.list ds))
    (k : ∀ H1, Same H H1 → ∃ Pv : Nat → L2.St → Hp → Prop, Pv 0 σ H1 ∧ (∀ i σ' H', Pv i σ' H' → Same H1 H') ∧
      (∀ i d v σ' H', ds[i]? = some d → Pv i σ' H' → Dp K H' v d → tb { D with nx := Pv (i + 1), ct := Pv (i + 1), bk := u D } (σ'.set j (some v)) H') ∧ ∀ σ' H', Pv ds.length σ' H' → u D σ' H') :
    tSeq (tFor (iList K tl) (gName j) tb) u D σ H := q_forA h fun a xs H1 s1 h1 h2 => by
  obtain ⟨Pv, p0, pl, pt, pe⟩ := k H1 s1
  refine ⟨Pv, p0, fun i σ' H' p => (pl i σ' H' p).seq h1, fun i d v σ' H' e hx p => ?_, pe⟩
  obtain ⟨d', e', q⟩ := dps_get' h2 hx
  rw [e] at e'
  cases e'
  exact pt i d v σ' H' e p (dp_mono (pl i σ' H' p) q)
theorem dps_of {α : Type} {f : α → PyData} : ∀ {l : List α} {i : Nat} {d : PyData}, (l.map f)[i]? = some d → ∃ x, l[i]? = some x ∧ d = f x := fun {l i d} e => by
  rw [List.getElem?_map] at e
  cases q : l[i]? with
  | none =>
    rw [q] at e
    cases e
  | some x =>
    rw [q] at e
    exact ⟨x, rfl, (Option.some.inj e).symm⟩
end
/-! ### data without lists: they stay while the tuples stay -/
mutual
def nol : PyData → Bool
  | .list _ => false
  | .dict _ => false
  | .tuple ds => nolAll ds
  | _ => true
def nolAll : List PyData → Bool
  | [] => true
  | d :: ds => nol d && nolAll ds
end
theorem nolAll_of : ∀ {ds : List PyData}, (∀ d, d ∈ ds → nol d = true) → nolAll ds = true
  | [], _ => by unfold nolAll; rfl
  | d :: ds, h => by
    unfold nolAll
    rw [h d List.mem_cons_self, nolAll_of fun x hx => h x (List.mem_cons_of_mem _ hx)]
    rfl
def SameT (H H' : Hp) : Prop := ∀ b xs, Rd H b (.tup xs) → Rd H' b (.tup xs)
theorem SameT.of {H H' : Hp} (s : Same H H') : SameT H H' := fun b xs h => by
  rcases h with h | ⟨o, h⟩
  · exact .inl (s _ _ h)
  · exact .inr ⟨o, s _ _ h⟩
theorem SameT.trans {H H1 H2 : Hp} (a : SameT H H1) (b : SameT H1 H2) : SameT H H2 := fun c xs h => b c xs (a c xs h)
def isTupO : HO → Bool
  | .tup _ => true
  | .frz _ _ => true
  | _ => false
theorem SameT.upd {H : Hp} {p : Addr} {o o' : HO} (h : H p = some o) (ho : isTupO o = false) : SameT H (upd H p o') := fun b xs q => by
  have hb : b ≠ p := fun e => by
    subst e
    rcases q with q | ⟨u, q⟩
    · rw [h] at q
      cases q
      cases ho
    · rw [h] at q
      cases q
      cases ho
  rcases q with q | ⟨u, q⟩
  · exact .inl ((upd_ne hb).trans q)
  · exact .inr ⟨u, (upd_ne hb).trans q⟩
mutual
theorem dp_keepT {K : PySem.W.Frag} {H H' : Hp} (s : SameT H H') : ∀ {v : V} {d : PyData}, nol d = true → Dp K H v d → Dp K H' v d
  | _, _, _, .non => .non
  | _, _, _, .bl b => .bl b
  | _, _, _, .int i => .int i
  | _, _, _, .str x => .str x
  | _, _, hn, .lst _ _ => by
    unfold nol at hn
    cases hn
  | _, _, hn, .tup h t => .tup (by
      rcases h with h | h
      · exact .inl (s _ _ h)
      · exact .inr h) (dps_keepT s (by
        unfold nol at hn
        exact hn) t)
theorem dps_keepT {K : PySem.W.Frag} {H H' : Hp} (s : SameT H H') : ∀ {vs : List V} {ds : List PyData}, nolAll ds = true → DpAll K H vs ds → DpAll K H' vs ds
  | _, _, _, .nil => .nil
  | _, _, hn, .cons h t => by
    unfold nolAll at hn
    rw [Bool.and_eq_true] at hn
    exact .cons (dp_keepT s hn.1 h) (dps_keepT s hn.2 t)
end
section
variable {K : PySem.W.Frag} {σ : L2.St} {H : Hp} {tl te : TE} {ds : List PyData} {D : Ends} {tb u : TS} {j : Nat} {vs : List Nat}
/-- an item more on the list that a comprehension makes -/
theorem lc_turn {H1 H4 : Hp} {Dd : Addr} {acc : List V} {es : List PyData} {y : V} {d : PyData} (hD : H1 Dd = none) (s : Same H1 H4) (hDa : H4 Dd = some (.lst acc)) (ha : DpAll K H4 acc es) (hn : nolAll es = true) (hy : Dp K H4 y d) (hd : nol d = true) :
    Same H1 (upd H4 Dd (.lst (acc ++ [y]))) ∧ upd H4 Dd (.lst (acc ++ [y])) Dd = some (.lst (acc ++ [y])) ∧ DpAll K (upd H4 Dd (.lst (acc ++ [y]))) (acc ++ [y]) (es ++ [d]) :=
  have t : SameT H4 (upd H4 Dd (.lst (acc ++ [y]))) := SameT.upd hDa rfl
  ⟨same_mut s hD, upd_same, dps_snoc (dps_keepT t hn ha) (dp_keepT t hd hy)⟩
theorem map_snoc {α β : Type} {f : α → β} {l : List α} {i : Nat} {x : α} (h : l[i]? = some x) : (l.take (i + 1)).map f = (l.take i).map f ++ [f x] := by
  rw [List.take_add_one, h, List.map_append]
  rfl
theorem gd_lcL {F : PyData → PyData} (h : Gd K tl σ H (.list ds)) (hw : ∀ v, wipe ((wipe σ vs).set j (some v)) vs = wipe σ vs) (hn : ∀ d, d ∈ ds → nol (F d) = true) (hl : ds.length ≤ 1000000)
    (he : ∀ d, d ∈ ds → ∀ v H', Same H H' → Dp K H' v d → Gd K te ((wipe σ vs).set j (some v)) H' (F d)) : Gd K (tLc (iList K tl) (gName j) tYes te vs) σ H (.list (ds.map F)) := fun H1 s Q q =>
  h H1 s _ fun v H2 s2 dv => by
    obtain ⟨a, xs, rfl, h1, h2⟩ := dp_list dv
    refine ⟨a, rfl, ⟨xs, h1⟩, fun Dd hD => lc_list (K := K) (a := a) (xs := xs) (fun i H' => ∃ acc, H' Dd = some (.lst acc) ∧ DpAll K H' acc ((ds.take i).map F) ∧ Same H2 H') ⟨[], upd_same, .nil, same_new hD⟩
      (fun i H' _ ⟨_, _, _, s3⟩ => s3.seq h1) (fun i x H' hx ⟨acc, e1, e2, s3⟩ => ?_) fun H' ⟨acc, e1, e2, s3⟩ => ?_⟩
    · obtain ⟨d, hd, dd⟩ := dps_get' h2 hx
      have hm : d ∈ ds := List.mem_of_getElem? hd
      refine ⟨hw x, ?_⟩
      refine iteT (B := False) ?_
      refine he d hm x H' (s.trans (s2.trans s3)) (dp_mono s3 dd) H' (Same.refl _) _ fun y H4 s4 dy => ?_
      have la := dps_len e2
      rw [List.length_map, List.length_take] at la
      have hnt : nolAll ((ds.take i).map F) = true := nolAll_of fun z hz => by
        obtain ⟨w', hw', rfl⟩ := List.mem_map.mp hz
        exact hn w' (List.mem_of_mem_take hw')
      obtain ⟨t1, t2, t3⟩ := lc_turn hD (s3.trans s4) (s4 _ _ e1) (dps_mono s4 e2) hnt dy (hn d hm)
      exact ⟨acc, s4 _ _ e1, small_lt (by omega), _, t2, by rw [map_snoc hd]; exact t3, t1⟩
    · rw [dps_len h2, List.take_length] at e2
      exact q _ _ (s2.trans s3) (.lst (SqL.of e1) e2)
theorem gd_lcT {F : PyData → PyData} (h : Gd K tl σ H (.tuple ds)) (hw : ∀ v, wipe ((wipe σ vs).set j (some v)) vs = wipe σ vs) (hn : ∀ d, d ∈ ds → nol (F d) = true) (hl : ds.length ≤ 1000000)
    (he : ∀ d, d ∈ ds → ∀ v H', Same H H' → Dp K H' v d → Gd K te ((wipe σ vs).set j (some v)) H' (F d)) : Gd K (tLc (iTup K tl) (gName j) tYes te vs) σ H (.list (ds.map F)) := fun H1 s Q q =>
  h H1 s _ fun v H2 s2 dv => by
    obtain ⟨a, xs, rfl, h1, h2⟩ := dp_tup dv
    refine ⟨a, rfl, ⟨xs, h1⟩, fun Dd hD => lc_tup (K := K) (a := a) (xs := xs) (fun i H' => ∃ acc, H' Dd = some (.lst acc) ∧ DpAll K H' acc ((ds.take i).map F) ∧ Same H2 H') ⟨[], upd_same, .nil, same_new hD⟩
      (fun i H' _ ⟨_, _, _, s3⟩ => same_sqT s3 h1) (fun i x H' hx ⟨acc, e1, e2, s3⟩ => ?_) fun H' ⟨acc, e1, e2, s3⟩ => ?_⟩
    · obtain ⟨d, hd, dd⟩ := dps_get' h2 hx
      have hm : d ∈ ds := List.mem_of_getElem? hd
      refine ⟨hw x, ?_⟩
      refine iteT (B := False) ?_
      refine he d hm x H' (s.trans (s2.trans s3)) (dp_mono s3 dd) H' (Same.refl _) _ fun y H4 s4 dy => ?_
      have la := dps_len e2
      rw [List.length_map, List.length_take] at la
      have hnt : nolAll ((ds.take i).map F) = true := nolAll_of fun z hz => by
        obtain ⟨w', hw', rfl⟩ := List.mem_map.mp hz
        exact hn w' (List.mem_of_mem_take hw')
      obtain ⟨t1, t2, t3⟩ := lc_turn hD (s3.trans s4) (s4 _ _ e1) (dps_mono s4 e2) hnt dy (hn d hm)
      exact ⟨acc, s4 _ _ e1, small_lt (by omega), _, t2, by rw [map_snoc hd]; exact t3, t1⟩
    · rw [dps_len h2, List.take_length] at e2
      exact q _ _ (s2.trans s3) (.lst (SqL.of e1) e2)
theorem map_range_snoc {β : Type} (f : Nat → β) (i : Nat) : (List.range (i + 1)).map f = (List.range i).map f ++ [f i] := by
  rw [List.range_succ, List.map_append]
  rfl
theorem gd_lcR {F : Nat → PyData} {ta : TA} {n : Int} (h : Ga K ta σ H [.int n]) (hw : ∀ v, wipe ((wipe σ vs).set j (some v)) vs = wipe σ vs) (hn : ∀ i, nol (F i) = true) (hl : n ≤ 1000000) (hl0 : -1000000 ≤ n)
    (he : ∀ i : Nat, (i : Int) < n → ∀ H', Same H H' → Gd K te ((wipe σ vs).set j (some (.int (0 + i)))) H' (F i)) : Gd K (tLc (iRng1 ta) (gName j) tYes te vs) σ H (.list ((List.range n.toNat).map F)) := fun H1 s Q q =>
  h H1 s _ fun vs' H2 s2 dv => by
    obtain _ | ⟨h5, _ | _⟩ := dv
    have e5 := dp_int h5
    subst e5
    refine ⟨n, rfl, by omega, by omega, fun Dd hD => lc_range (lo := 0) (n := n.toNat) (fun i H' => ∃ acc, H' Dd = some (.lst acc) ∧ DpAll K H' acc ((List.range i).map F) ∧ Same H2 H') ⟨[], upd_same, .nil, same_new hD⟩
      (fun i H' hx ⟨acc, e1, e2, s3⟩ => ?_) fun H' ⟨acc, e1, e2, s3⟩ => ?_⟩
    · refine ⟨hw _, ?_⟩
      refine iteT (B := False) ?_
      refine he i (by omega) H' (s.trans (s2.trans s3)) H' (Same.refl _) _ fun y H4 s4 dy => ?_
      have la := dps_len e2
      rw [List.length_map, List.length_range] at la
      have hnt : nolAll ((List.range i).map F) = true := nolAll_of fun z hz => by
        obtain ⟨w', hw', rfl⟩ := List.mem_map.mp hz
        exact hn w'
      obtain ⟨t1, t2, t3⟩ := lc_turn hD (s3.trans s4) (s4 _ _ e1) (dps_mono s4 e2) hnt dy (hn i)
      exact ⟨acc, s4 _ _ e1, small_lt (by omega), _, t2, by rw [map_range_snoc]; exact t3, t1⟩
    · exact q _ _ (s2.trans s3) (.lst (SqL.of e1) e2)
def rTup (K : PySem.W.Frag) : List V → Hp → VK → Prop := fun xs H Q => ∃ p ys, xs = [.ref p] ∧ ((SqL K H p ys ∧ ∀ l, H l = none → Q (.ref l) (upd H l (.tup ys))) ∨ (SqT K H p ys ∧ Q (.ref p) H))
theorem call_tup {X : Cx} : CallR X (.type "tuple") (rTup X.K) := call_tuple_of
theorem rc_tup : RdC K (rTup K) [.list ds] H (.tuple ds) := fun H1 _ vs dv Q q => by
  obtain _ | ⟨h, _ | _⟩ := dv
  obtain ⟨p, xs, rfl, h1, h2⟩ := dp_list h
  exact ⟨p, xs, rfl, .inl ⟨h1, fun l hl => q _ _ (same_new hl) (.tup (SqT.of upd_same) (dps_mono (same_new hl) h2))⟩⟩
end
end Uw
/-! text T3 -/
namespace Uw
open PySem PySem.Spec PyProof.Rows L2
section
variable {P : Program} {w : World} {K : PySem.W.Frag} {mg : Str → Option Value} {base : Heap}
theorem len2 : ("1." : Str).length = 2 ∧ ("2." : Str).length = 2 ∧ ("" : Str).length = 0 := by decide +kernel
def R_texts_at (ds : List PyData) (d : PyData) : Prop := ∃ (L : Lim) (row : Row) (t : Tok), row.Ok L.S ∧ t.Ok L ∧ t.hasRoom = true ∧ ds = [row.enc, .int L.sides, t.enc] ∧ d = .list ((textsAt L.sides row t).map PyData.str)
theorem sc_texts_at : FnScope ["row", "sides", "token"] ["row", "sides", "token"] (defScope (top 10)) := ⟨rfl, rfl, rfl, by decide +kernel, rfl, by decide +kernel, by decide +kernel⟩
theorem kn_texts_at (T : Tx K mg) : Kn P w K mg base 2 "texts_at" ["row", "sides", "token"] (spD K R_texts_at) := by
  have Khas_slot := kn_has_slot (P := P) (w := w) (base := base) T
  refine kn_D (T.fn (("texts_at" : Str), 10) (by decide +kernel)) sc_texts_at (fun _ _ _ _ _ _ us hl => match us, hl with | [_, _, _], _ => rfl) (fun ds d h => ?_) (fun f cdv A outer s H vs E ds d hr hv h => ?_)
  · obtain ⟨_, _, _, _, _, _, rfl, rfl⟩ := h
    rfl
  obtain ⟨⟨sd, S, R⟩, row, t, ho, ht, hm, rfl, rfl⟩ := h
  dsimp only at ho hv ⊢
  obtain _ | ⟨h1, _ | ⟨h2, _ | ⟨h3, _ | _⟩⟩⟩ := hv
  refine ⟨_, (pss_cons (ps_if (PW.pt (pw_and (pt_cmpR op_eq (pe_ix ix_seq (pv 0) (pe_int) (fun _ _ => rfl)) (pe_str) (nomark _)) (pw_and1 (pt_cmpR op_eq (pv 1) (pe_int) (nomark _))))) (pss_one (ps_ret (pe_lst (pa_cons (pe_str) (pa_nil))))) (pss_nil)) (pss_cons (ps_if (pt_cmpR op_eq (pe_ix ix_seq (pv 0) (pe_int) (fun _ _ => rfl)) (pe_str) (nomark _)) (pss_one (ps_ret (pe_ix ix_seq (pe_lst (pa_cons (pe_lst (pa_cons (pe_str) (pa_cons (pe_str) (pa_nil)))) (pa_cons (pe_lst (pa_cons (pe_str) (pa_cons (pe_str) (pa_nil)))) (pa_nil)))) (pe_op op_sub (pe_ix ix_seq (pv 2) (pe_int) (fun _ _ => rfl)) (pe_int)) (fun _ _ => rfl)))) (pss_nil)) (pss_cons (ps_if (pt_cmpR op_ne (pe_ix ix_seq (pv 0) (pe_int) (fun _ _ => rfl)) (pe_str) (nomark _)) (pss_one (ps_ret (pe_lst (pa_nil)))) (pss_nil)) (pss_cons (ps_if (pt_val (pe_kn Khas_slot (hr.mono (by decide)) rfl (pa_cons (pe_ix ix_seq (pv 2) (pe_int) (fun _ _ => rfl)) (pa_cons (pe_ix ix_seq (pv 0) (pe_int) (fun _ _ => rfl)) (pa_nil))))) (pss_one (ps_ret (pe_lst (pa_cons (pe_op op_addU (pe_ix ix_seq (pe_lst (pa_cons (pe_str) (pa_cons (pe_str) (pa_nil)))) (pe_op op_sub (pv 1) (pe_int)) (fun _ _ => rfl)) (pe_ix ix_seq (pv 0) (pe_int) (fun _ _ => rfl))) (pa_nil))))) (pss_nil)) (pss_cons (ps_if (PW.pt (pw_and (pt_cmpR op_eq (pv 1) (pe_int) (nomark _)) (pw_and1 (pt_val (pe_kn Khas_slot (hr.mono (by decide)) rfl (pa_cons (pe_ix ix_seq (pv 2) (pe_int) (fun _ _ => rfl)) (pa_cons (pe_ix ix_seq (pv 0) (pe_int) (fun _ _ => rfl)) (pa_nil)))))))) (pss_one (ps_ret (pe_lst (pa_cons (pe_op op_addU (pe_str) (pe_ix ix_seq (pv 0) (pe_int) (fun _ _ => rfl))) (pa_nil))))) (pss_nil)) (pss_one (ps_ret (pe_lst (pa_nil))))))))), fun Q q => ?_⟩
  obtain ⟨l1, l2, l0⟩ := len2
  cases t with
  | sgl m => cases hm
  | par a b o => cases hm
  | one m k =>
    have e : sd = 1 := ht.1
    subst e
    have h3 : Dp K H _ (.tuple [.int m, .int k]) := h3
    cases row with
    | fin l =>
      refine q_yes (gt_andT (by walk_at "tagT") (by walk_at "tagT")) fun H1 s1 => ?_
      exact l_ret (K := K) (d := .list [.str "end"]) (by walk_at "gd") fun v H2 s2 d2 => q v H2 (by walk_at "same") d2
    | act l i x =>
      refine q_no (gt_andF (by walk_at "tagF")) fun H1 s1 => ?_
      refine q_no (by walk_at "tag") fun H2 s2 => q_no (by walk_at "tag") fun H3 s3 => ?_
      refine q_if0 (gt_B (K := K) (gd_call (by walk_at "ga") ⟨m, i, rfl, rfl⟩)) (fun e H4 s4 => ?_) (fun e H4 s4 => ?_)
      · have z : textsAt 1 (.act l i x) (.one m k) = [("" : Str) ++ x] := if_pos e
        rw [z] at q
        refine l_ret (K := K) (gd_lst (ga_cons (gd_op (by walk_at "gd") (by walk_at "gd") (r2_addT ?_)) ga_nil) (Nat.le_of_ble_eq_true rfl)) fun v H5 s5 d5 => q v H5 (by walk_at "same") d5
        have := ho.2
        omega
      · have z : textsAt 1 (.act l i x) (.one m k) = [] := if_neg (by rw [e]; decide)
        rw [z] at q
        refine q_no (gt_andF (by walk_at "tagF")) fun H5 s5 => ?_
        exact l_ret (K := K) (d := .list []) (by walk_at "gd") fun v H6 s6 d6 => q v H6 (by walk_at "same") d6
    | _ =>
      refine q_no (gt_andF (by walk_at "tagF")) fun H1 s1 => ?_
      refine q_no (by walk_at "tag") fun H2 s2 => q_yes (by walk_at "tag") fun H3 s3 => ?_
      exact l_ret (K := K) (d := .list []) (by walk_at "gd") fun v H4 s4 d4 => q v H4 (by walk_at "same") d4
  | tyd a b o k =>
    have e : sd = 2 := ht.1
    subst e
    have h3 : Dp K H _ (.tuple [.int a, .int b, .int o, .int k]) := h3
    cases row with
    | fin l =>
      refine q_no (gt_andT (by walk_at "tagT") (by walk_at "tagF")) fun H1 s1 => ?_
      refine q_yes (by walk_at "tag") fun H2 s2 => ?_
      rcases ht.2.2.2.1 with e | e
      · subst e
        exact l_ret (K := K) (d := .list [.str "1.end", .str "2.end"]) (gd_op (by walk_at "gd") (by walk_at "gd") (r2_ixl rfl)) fun v H3 s3 d3 => q v H3 (by walk_at "same") d3
      · subst e
        exact l_ret (K := K) (d := .list [.str "2.end", .str "1.end"]) (gd_op (by walk_at "gd") (by walk_at "gd") (r2_ixl rfl)) fun v H3 s3 d3 => q v H3 (by walk_at "same") d3
    | act l i x =>
      refine q_no (gt_andF (by walk_at "tagF")) fun H1 s1 => ?_
      refine q_no (by walk_at "tag") fun H2 s2 => q_no (by walk_at "tag") fun H3 s3 => ?_
      refine q_if0 (gt_B (K := K) (gd_call (by walk_at "ga") ⟨a, i, rfl, rfl⟩)) (fun e H4 s4 => ?_) (fun e H4 s4 => ?_)
      · have z : textsAt 2 (.act l i x) (.tyd a b o k) = [("1." : Str) ++ x] := if_pos e
        rw [z] at q
        refine l_ret (K := K) (gd_lst (ga_cons (gd_op (by walk_at "gd") (by walk_at "gd") (r2_addT ?_)) ga_nil) (Nat.le_of_ble_eq_true rfl)) fun v H5 s5 d5 => q v H5 (by walk_at "same") d5
        have := ho.2
        omega
      · refine q_if0 (gt_andT (by walk_at "tagT") (gt_B (K := K) (gd_call (by walk_at "ga") ⟨b, i, rfl, rfl⟩))) (fun e2 H5 s5 => ?_) (fun e2 H5 s5 => ?_)
        · have z : textsAt 2 (.act l i x) (.tyd a b o k) = [("2." : Str) ++ x] := (if_neg (by rw [e]; decide)).trans (if_pos e2)
          rw [z] at q
          refine l_ret (K := K) (gd_lst (ga_cons (gd_op (by walk_at "gd") (by walk_at "gd") (r2_addT ?_)) ga_nil) (Nat.le_of_ble_eq_true rfl)) fun v H6 s6 d6 => q v H6 (by walk_at "same") d6
          have := ho.2
          omega
        · have z : textsAt 2 (.act l i x) (.tyd a b o k) = [] := (if_neg (by rw [e]; decide)).trans (if_neg (by rw [e2]; decide))
          rw [z] at q
          exact l_ret (K := K) (d := .list []) (by walk_at "gd") fun v H6 s6 d6 => q v H6 (by walk_at "same") d6
    | _ =>
      refine q_no (gt_andF (by walk_at "tagF")) fun H1 s1 => ?_
      refine q_no (by walk_at "tag") fun H2 s2 => q_yes (by walk_at "tag") fun H3 s3 => ?_
      exact l_ret (K := K) (d := .list []) (by walk_at "gd") fun v H4 s4 d4 => q v H4 (by walk_at "same") d4
end
end Uw
/-! text T4 -/
namespace Uw
open PySem PySem.Spec PyProof.Rows L2
section
variable {P : Program} {w : World} {K : PySem.W.Frag} {mg : Str → Option Value} {base : Heap}
theorem Tok.room_lt {L : Lim} {t : Tok} (h : t.Ok L) (m : t.hasRoom = true) : t.room < L.R := by
  cases t with
  | one a r => exact h.2.2
  | tyd a b o r => exact h.2.2.2.2
  | sgl a => cases m
  | par a b o => cases m
theorem rooms_snoc (r : Rule) : ∀ (ss : List Str) (x : Str) (n : Nat), rooms r (ss ++ [x]) n = (rooms r ss n).bind fun k => r.next k x
  | [], x, n => by
    show (match r.next n x with
      | none => none
      | some k => some k) = r.next n x
    cases r.next n x <;> rfl
  | s :: ss, x, n => by
    show (match r.next n s with
      | none => none
      | some k => rooms r (ss ++ [x]) k) = (match r.next n s with
      | none => none
      | some k => rooms r ss k).bind fun k => r.next k x
    cases r.next n s with
    | none => rfl
    | some k => exact rooms_snoc r ss x k
theorem rooms_none (r : Rule) : ∀ (ss tt : List Str) (n : Nat), rooms r ss n = none → rooms r (ss ++ tt) n = none
  | [], _, _, h => by cases h
  | s :: ss, tt, n, h => by
    have h' : (match r.next n s with
      | none => none
      | some k => rooms r ss k) = none := h
    show (match r.next n s with
      | none => none
      | some k => rooms r (ss ++ tt) k) = none
    cases q : r.next n s with
    | none => rfl
    | some k =>
      rw [q] at h'
      exact rooms_none r ss tt k h'
theorem rooms_lt {r : Rule} {R : Nat} (ok : r.Ok R) : ∀ (ss : List Str) (n k : Nat), n < R → rooms r ss n = some k → k < R
  | [], n, k, hn, h => Option.some.inj h ▸ hn
  | s :: ss, n, k, hn, h => by
    have h' : (match r.next n s with
      | none => none
      | some k => rooms r ss k) = some k := h
    cases q : r.next n s with
    | none =>
      rw [q] at h'
      cases h'
    | some j =>
      rw [q] at h'
      exact rooms_lt ok ss j k (Rule.next_lt ok hn q) h'
def R_room_behind (ds : List PyData) (d : PyData) : Prop := ∃ (r : Rule) (L : Lim) (row : Row) (t : Tok), r.Ok L.R ∧ r.sides = L.sides ∧ row.Ok L.S ∧ t.Ok L ∧ t.hasRoom = true ∧ ds = [r.enc, row.enc, t.enc] ∧ d = encO (roomB r row t)
theorem sc_room_behind : FnScope ["rule", "row", "token", "room", "text"] ["rule", "row", "token"] (defScope (top 11)) := ⟨rfl, rfl, rfl, by decide +kernel, rfl, by decide +kernel, by decide +kernel⟩
theorem kn_room_behind (T : Tx K mg) : Kn P w K mg base 3 "room_behind" ["rule", "row", "token"] (spD K R_room_behind) := by
  have Knext_room := kn_next_room (P := P) (w := w) (base := base) T
  have Ktexts_at := kn_texts_at (P := P) (w := w) (base := base) T
  refine kn_D (T.fn (("room_behind" : Str), 11) (by decide +kernel)) sc_room_behind (fun _ _ _ _ _ _ us hl => match us, hl with | [_, _, _], _ => rfl) (fun ds d h => ?_) (fun f cdv A outer s H vs E ds d hr hv h => ?_)
  · obtain ⟨_, _, _, _, _, _, _, _, _, rfl, rfl⟩ := h
    rfl
  obtain ⟨r, L, row, t, ok, hs, ho, ht, hm, rfl, rfl⟩ := h
  obtain _ | ⟨h1, _ | ⟨h2, _ | ⟨h3, _ | _⟩⟩⟩ := hv
  rename_i v1 v2 v3
  have h1' : Dp K H _ (.tuple [.int r.sides, .list (r.texts.map PyData.str), .list (r.rooms.map fun m => .list (m.map encO))]) := h1
  refine ⟨_, (pss_cons (ps_set (i := 3) sc_room_behind.nd rfl (Or.inl rfl) (pe_ix ix_seq (pv 2) (pe_un un_neg (pe_int)) (fun _ _ => rfl))) (pss_cons (ps_for PassesOwn.never rfl (pi_list (pe_kn Ktexts_at (hr.mono (by decide)) rfl (pa_cons (pv 1) (pa_cons (pe_ix ix_seq (pv 0) (pe_int) (fun _ _ => rfl)) (pa_cons (pv 2) (pa_nil)))))) (pg_name (i := 4) sc_room_behind.nd rfl (.inl rfl)) (pss_cons (ps_set (i := 3) sc_room_behind.nd rfl (Or.inl rfl) (pe_kn Knext_room (hr.mono (by decide)) rfl (pa_cons (pv 0) (pa_cons (pv 3) (pa_cons (pv 4) (pa_nil)))))) (pss_one (ps_if (pt_cmpR op_isNon (pv 3) (pe_non) (nomark _)) (pss_one (ps_ret (pe_non))) (pss_nil))))) (pss_one (ps_ret (pv 3))))), fun Q q => ?_⟩
  have hlast : Gd K (tOp (rIx K) (tVar 2) (tUn (rU fun i => .int (-i)) (tC (.int 1)))) (L2.start ["rule", "row", "token", "room", "text"] [v1, v2, v3]) H (.int t.room) := by
    cases t with
    | sgl m => cases hm
    | par a b o => cases hm
    | one m k =>
      have h3 : Dp K H _ (.tuple [.int m, .int k]) := h3
      exact gd_op (by walk_at "gd") (by walk_at "gd") (r2_ixt rfl)
    | tyd a b o k =>
      have h3 : Dp K H _ (.tuple [.int a, .int b, .int o, .int k]) := h3
      exact gd_op (by walk_at "gd") (by walk_at "gd") (r2_ixt rfl)
  refine q_asg (K := K) hlast fun v0 H1 s1 d1 => ?_
  have e0 := dp_int d1
  subst e0
  refine q_forL (K := K) (ds := (textsAt L.sides row t).map PyData.str) ?_ fun H2 s2 => ?_
  · refine gd_call (ds := [row.enc, .int r.sides, t.enc]) (ga_cons (by walk_at "gd") (ga_cons (gd_op (by walk_at "gd") (by walk_at "gd") (r2_ixt rfl)) (ga_cons (by walk_at "gd") ga_nil))) ?_
    exact ⟨L, row, t, ho, ht, hm, by rw [hs], rfl⟩
  have hR := Tok.room_lt ht hm
  refine ⟨fun i σ' H' => ∃ (k : Nat) (z : Option V), σ' = [some v1, some v2, some v3, some (.int k), z] ∧ Same H2 H' ∧ rooms r ((textsAt r.sides row t).take i) t.room = some k ∧ k < L.R, ⟨t.room, none, rfl, by walk_at "same", rfl, hR⟩,
    fun i σ' H' ⟨_, _, _, s3, _⟩ => s3, fun i d v σ' H' hd ⟨k, z, e, s3, hk, hkR⟩ dv => ?_, fun σ' H' ⟨k, z, e, s3, hk, _⟩ => ?_⟩
  · subst e
    obtain ⟨x, hx, rfl⟩ := dps_of hd
    rw [← hs] at hx
    refine q_asg (K := K) (d := encO (r.next k x)) (gd_call (ds := [r.enc, .int k, .str x]) (ga_cons (by walk_at "gd") (ga_cons (gd_var rfl (.int _)) (ga_cons (by walk_at "gd") ga_nil))) ⟨r, L.R, k, x, ok, hkR, rfl, rfl⟩) fun v4 H4 s4 d4 => ?_
    have step : rooms r ((textsAt r.sides row t).take (i + 1)) t.room = r.next k x := by
      rw [List.take_add_one, hx]
      exact (rooms_snoc r _ x _).trans (by rw [hk]; rfl)
    cases hq : r.next k x with
    | none =>
      rw [hq] at d4
      refine l_yes (by walk_at "tagT") fun H5 s5 => ?_
      have z1 : roomB r row t = none := by
        have := rooms_none r _ ((textsAt r.sides row t).drop (i + 1)) _ (step.trans hq)
        rw [List.take_append_drop] at this
        exact this
      rw [z1] at q
      exact l_ret (K := K) (d := .none) (by walk_at "gd") fun v6 H6 s6 d6 => q v6 H6 (by walk_at "same") d6
    | some k2 =>
      rw [hq] at d4
      have e4 := dp_int d4
      subst e4
      refine l_no (by walk_at "tagF") fun H5 s5 => ?_
      exact ⟨k2, _, rfl, by walk_at "same", step.trans hq, Rule.next_lt ok hkR hq⟩
  · subst e
    rw [List.length_map, ← hs, List.take_length] at hk
    have z1 : roomB r row t = some k := hk
    rw [z1] at q
    exact l_ret (K := K) (d := .int k) (gd_var rfl (.int _)) fun v6 H6 s6 d6 => q v6 H6 (by walk_at "same") d6
end
end Uw
/-! text T5 -/
namespace Uw
open PySem PySem.Spec PyProof.Rows L2
theorem cutL_take {α : Type} (xs : List α) (n : Nat) : cutL xs none (some (n : Int)) = xs.take n := by
  unfold cutL
  rw [HT.sIx_none, HT.sIx_nat, List.drop_zero, Nat.sub_zero]
  by_cases h : n ≤ xs.length
  · rw [Nat.min_eq_left h]
  · rw [Nat.min_eq_right (by omega), List.take_length, List.take_of_length_le (by omega)]
theorem cutL_drop {α : Type} (xs : List α) (n : Nat) : cutL xs (some (n : Int)) none = xs.drop n := by
  unfold cutL
  rw [HT.sIx_none, HT.sIx_nat]
  by_cases h : n ≤ xs.length
  · rw [Nat.min_eq_left h]
    exact List.take_of_length_le (by rw [List.length_drop]; omega)
  · rw [Nat.min_eq_right (by omega), Nat.sub_self, List.take_zero, List.drop_eq_nil_of_le (by omega)]
def Row.tag : Row → Str
  | .opn _ _ => "open"
  | .act _ _ _ => "do"
  | .cpy _ _ _ => "copy"
  | .drp _ _ => "drop"
  | .tie _ _ _ => "tie"
  | .tst _ _ _ => "test"
  | .jmp _ _ => "jump"
  | .fin _ => "end"
theorem tag_fin (row : Row) : decide (V.str row.tag = V.str "end") = isFin row := by
  cases row <;> first | decide +kernel | rfl
section
variable {K : PySem.W.Frag} {σ : L2.St} {H : Hp} {te : TE}
theorem gd_tag {row : Row} (h : Gd K te σ H row.enc) : Gd K (tOp (rIx K) te (tC (.int 0))) σ H (.str row.tag) := by
  cases row <;> exact gd_op h gd_int (r2_ixt rfl)
theorem gt_tag {row : Row} {x : Str} {b : Bool} (h : Gd K te σ H row.enc) (e : decide (V.str row.tag = V.str x) = b) : Gt (tTest (tOp rEq (tOp (rIx K) te (tC (.int 0))) (tC (.str x)))) σ H b :=
  gt_test (gd_op (gd_tag h) gd_str (r2_eq rfl rfl rfl e))
end
section
variable {P : Program} {w : World} {K : PySem.W.Frag} {mg : Str → Option Value} {base : Heap}
def R_behind_at (ds : List PyData) (d : PyData) : Prop := ∃ (code : List Row) (r : Rule) (L : Lim) (at_ : Nat) (row : Row) (t : Tok), code[at_]? = some row ∧ r.Ok L.R ∧ r.sides = L.sides ∧ row.Ok L.S ∧ L.S ≤ 60 ∧ t.Ok L ∧
  ds = [encCode code, r.enc, .int at_, t.enc] ∧ d = encT (behind r row t)
def natD (n : Nat) : PyData := .int n
def Fsb (row : Row) : PyData → PyData
  | .int i => natD (sbh row i.toNat)
  | d => d
theorem Fsb_nol (row : Row) {ds : List PyData} (h : nolAll ds = true) : ∀ d, d ∈ ds → nol (Fsb row d) = true := by
  induction ds with
  | nil => intro d hd; cases hd
  | cons x xs ih =>
    intro d hd
    unfold nolAll at h
    rw [Bool.and_eq_true] at h
    rcases List.mem_cons.mp hd with e | hd
    · subst e
      cases d <;> first | exact h.1 | (show nol (natD _) = true; unfold natD nol; rfl)
    · exact ih h.2 d hd
theorem sc_behind_at : FnScope ["code", "rule", "at", "token", "row", "sums", "behind", "held", "room"] ["code", "rule", "at", "token"] (defScope (top 12)) := ⟨rfl, rfl, rfl, by decide +kernel, rfl, by decide +kernel, by decide +kernel⟩
theorem kn_behind_at (T : Tx K mg) : Kn P w K mg base 5 "behind_at" ["code", "rule", "at", "token"] (spD K R_behind_at) := by
  have Ksums_in := kn_sums_in (P := P) (w := w) (base := base) T
  have Khas_room := kn_has_room (P := P) (w := w) (base := base) T
  have Kslots_behind := kn_slots_behind (P := P) (w := w) (base := base) T
  have Kroom_behind := kn_room_behind (P := P) (w := w) (base := base) T
  refine kn_D (T.fn (("behind_at" : Str), 12) (by decide +kernel)) sc_behind_at (fun _ _ _ _ _ _ us hl => match us, hl with | [_, _, _, _], _ => rfl) (fun ds d h => ?_) (fun f cdv A outer s H vs E ds d hr hv h => ?_)
  · obtain ⟨_, _, _, _, _, _, _, _, _, _, _, _, rfl, rfl⟩ := h
    rfl
  obtain ⟨code, r, L, at_, row, t, hc, ok, hs, ho, hS, ht, rfl, rfl⟩ := h
  obtain _ | ⟨h1, _ | ⟨h2, _ | ⟨h3, _ | ⟨h4, _ | _⟩⟩⟩⟩ := hv
  rename_i v1 v2 v3 v4
  have h2' : Dp K H _ (.tuple [.int r.sides, .list (r.texts.map PyData.str), .list (r.rooms.map fun m => .list (m.map encO))]) := h2
  have h1' : Dp K H v1 (.list (code.map Row.enc)) := h1
  refine ⟨_, (pss_cons (ps_set (i := 4) sc_behind_at.nd rfl (Or.inr rfl) (pe_ix ix_seq (pv 0) (pv 2) (fun _ _ => rfl))) (pss_cons (ps_if (pt_cmpR op_eq (pe_ix ix_seq (pv 4) (pe_int) (fun _ _ => rfl)) (pe_str) (nomark _)) (pss_one (ps_ret (pe_non))) (pss_nil)) (pss_cons (ps_set (i := 5) sc_behind_at.nd rfl (Or.inl rfl) (pe_kn Ksums_in (hr.mono (by decide)) rfl (pa_cons (pe_ix ix_seq (pv 1) (pe_int) (fun _ _ => rfl)) (pa_cons (pv 3) (pa_nil))))) (pss_cons (ps_set (i := 6) sc_behind_at.nd rfl (Or.inl rfl) (pe_op op_addU (pe_callTy call_tup (by rfl) (T.free "tuple" (by decide)) (by decide +kernel) (pa_cons (pe_lc (own := [("held", 7)]) rfl sc_behind_at.nd (pi_tup ((pe_slice sl_U (pv 3) po_none (po_some (pv 5))))) (blkOk_by (N := ["code", "rule", "at", "token", "row", "sums", "behind", "held", "room"]) (sc := defScope (top 12)) (by decide +kernel)) (fun _ _ _ _ _ => pg_name (i := 7) sc_behind_at.nd rfl (Or.inl rfl)) (fun _ _ _ _ _ => pts_nil) (fun _ _ _ _ _ => pe_kn Kslots_behind (hr.mono (by decide)) rfl (pa_cons (pv 4) (pa_cons (pv 7) (pa_nil))))) (pa_nil))) (pe_slice sl_U (pv 3) (po_some (pv 5)) po_none))) (pss_cons (ps_if (pt_not (pt_val (pe_kn Khas_room (hr.mono (by decide)) rfl (pa_cons (pe_ix ix_seq (pv 1) (pe_int) (fun _ _ => rfl)) (pa_cons (pv 3) (pa_nil)))))) (pss_one (ps_ret (pv 6))) (pss_nil)) (pss_cons (ps_set (i := 8) sc_behind_at.nd rfl (Or.inl rfl) (pe_kn Kroom_behind (hr.mono (by decide)) rfl (pa_cons (pv 1) (pa_cons (pv 4) (pa_cons (pv 3) (pa_nil)))))) (pss_cons (ps_if (pt_cmpR op_isNon (pv 8) (pe_non) (nomark _)) (pss_one (ps_ret (pe_non))) (pss_nil)) (pss_one (ps_ret (pe_op op_addU (pe_slice sl_U (pv 6) po_none (po_some (pe_un un_neg (pe_int)))) (pe_tup (pa_cons (pv 8) (pa_nil))))))))))))), fun Q q => ?_⟩
  refine q_asg (K := K) (d := row.enc) (gd_op (by walk_at "gd") (by walk_at "gd") (r2_ixl (at_map hc))) fun v5 H1 s1 d5 => ?_
  refine q_if0 (gt_tag (K := K) (row := row) (by walk_at "gd") (tag_fin row)) (fun e H2 s2 => ?_) (fun e H2 s2 => ?_)
  · have z : behind r row t = none := if_pos e
    rw [z] at q
    exact l_ret (K := K) (d := .none) (by walk_at "gd") fun v6 H6 s6 d6 => q v6 H6 (by walk_at "same") d6
  have hz : behind r row t = if t.hasRoom then (match roomB r row t with
    | none => none
    | some k => some (t.back (sbh row) k)) else some (t.back (sbh row) 0) := if_neg (by rw [e]; decide)
  generalize hn : (if L.sides = 2 ∧ t.ns.length > 1 then 2 else 1 : Nat) = n
  refine q_asg (K := K) (d := .int n) (gd_call (ds := [.int L.sides, t.enc]) (ga_cons (by rw [← hs]; exact gd_op (by walk_at "gd") (by walk_at "gd") (r2_ixt rfl)) (by walk_at "ga")) ⟨L.sides, t, rfl, ?_⟩) fun v6 H3 s3 d6 => ?_
  · rw [← hn]
    by_cases c : L.sides = 2 ∧ t.ns.length > 1
    · rw [if_pos c, if_pos c]
      rfl
    · rw [if_neg c, if_neg c]
      rfl
  have e6 := dp_int d6
  subst e6
  have dt : Dp K H3 v4 (.tuple (t.ns.map natD)) := by
    have h4 : Dp K H v4 (.tuple (t.ns.map natD)) := h4
    walk_at "dp"
  have few : t.ns.length ≤ 4 := by cases t <;> exact Nat.le_of_ble_eq_true rfl
  refine q_asg (K := K) (d := .tuple (((t.ns.take n).map fun m => natD (sbh row m)) ++ (t.ns.drop n).map natD)) ?_ fun v7 H4 s4 d7 => ?_
  · have hr1 : nolAll (((t.ns.take n).map natD)) = true := nolAll_of fun z hz => by
      obtain ⟨_, _, rfl⟩ := List.mem_map.mp hz
      unfold natD nol
      rfl
    have lt : (t.ns.take n).length ≤ 4 := Nat.le_trans (by rw [List.length_take]; omega) few
    have ld : (t.ns.drop n).length ≤ 4 := Nat.le_trans (by rw [List.length_drop]; omega) few
    refine gd_op (gd_is (gd_cb (ga_cons (gd_lcT (F := Fsb row) (ds := (t.ns.take n).map natD) (gd_is (gd_slT (by walk_at "gd") go_none (go_some (K := K) (n := (n : Int)) (gd_var rfl (.int _)))) ?_) (fun _ => rfl) (Fsb_nol row hr1) ?_ fun d hd v H' s' dv => ?_) ga_nil) rc_tup)
      (z := .tuple ((t.ns.take n).map fun m => natD (sbh row m))) ?_) (gd_is (gd_slT (by walk_at "gd") (go_some (K := K) (n := (n : Int)) (gd_var rfl (.int _))) go_none) (z := .tuple ((t.ns.drop n).map natD)) ?_) (r2_addU ?_)
    · rw [cutL_take, List.map_take]
    · rw [List.length_map]
      omega
    · obtain ⟨m, hm, rfl⟩ := List.mem_map.mp hd
      exact gd_call (ds := [row.enc, .int m]) (ga_cons (by walk_at "gd") (ga_cons (by walk_at "gd") ga_nil)) ⟨L.S, row, m, hS, ho, rfl, rfl⟩
    · rw [List.map_map]
      rfl
    · rw [cutL_drop, List.map_drop]
    · rw [List.length_map, List.length_map]
      omega
  refine q_if0 (gt_not (gt_B (K := K) (gd_call (ds := [.int L.sides, t.enc]) (ga_cons (by rw [← hs]; exact gd_op (by walk_at "gd") (by walk_at "gd") (r2_ixt rfl)) (by walk_at "ga")) ⟨L, t, ht, rfl, rfl⟩))) (fun e2 H5 s5 => ?_) (fun e2 H5 s5 => ?_)
  · have m0 : t.hasRoom = false := by simpa using e2
    have z : behind r row t = some (t.back (sbh row) 0) := by
      rw [hz, m0]
      rfl
    rw [z] at q
    refine l_ret (K := K) (d := (t.back (sbh row) 0).enc) (gd_is (by walk_at "gd") ?_) fun v8 H8 s8 d8 => q v8 H8 (by walk_at "same") d8
    subst hn
    cases t with
    | one m k => cases m0
    | tyd a b o k => cases m0
    | sgl m =>
      rw [if_neg (fun c => absurd (show 1 > 1 from c.2) (by decide))]
      rfl
    | par a b o =>
      rw [if_pos ⟨ht.1, by show 3 > 1; decide⟩]
      rfl
  · have m1 : t.hasRoom = true := by simpa using e2
    rw [m1] at hz
    have hz : behind r row t = match roomB r row t with
      | none => none
      | some k => some (t.back (sbh row) k) := hz
    refine q_asg (K := K) (d := encO (roomB r row t)) (gd_call (ds := [r.enc, row.enc, t.enc]) (by walk_at "ga") ⟨r, L, row, t, ok, hs, ho, ht, m1, rfl, rfl⟩) fun v8 H6 s6 d8 => ?_
    cases hq : roomB r row t with
    | none =>
      rw [hq] at d8 hz
      rw [hz] at q
      refine q_yes (by walk_at "tagT") fun H7 s7 => ?_
      exact l_ret (K := K) (d := .none) (by walk_at "gd") fun v9 H9 s9 d9 => q v9 H9 (by walk_at "same") d9
    | some k =>
      rw [hq] at d8 hz
      have hz : behind r row t = some (t.back (sbh row) k) := hz
      rw [hz] at q
      have e8 := dp_int d8
      subst e8
      refine q_no (by walk_at "tagF") fun H7 s7 => ?_
      refine l_ret (K := K) (d := (t.back (sbh row) k).enc) ?_ fun v9 H9 s9 d9 => q v9 H9 (by walk_at "same") d9
      subst hn
      cases t with
      | sgl m => cases m1
      | par a b o => cases m1
      | one m j =>
        rw [if_neg (by intro c; rw [ht.1] at c; exact absurd c.1 (by decide))] at d7
        have d7 : Dp K H4 v7 (.tuple [natD (sbh row m), natD j]) := d7
        exact gd_op (gd_is (gd_slT (by walk_at "gd") go_none (go_some (K := K) (by walk_at "gd"))) (z := .tuple [natD (sbh row m)]) rfl) (gd_tup (ga_cons (gd_var rfl (.int _)) ga_nil) (Nat.le_of_ble_eq_true rfl)) (r2_addU (Nat.le_of_ble_eq_true rfl))
      | tyd a b o j =>
        rw [if_pos ⟨ht.1, by show 4 > 1; decide⟩] at d7
        have d7 : Dp K H4 v7 (.tuple [natD (sbh row a), natD (sbh row b), natD o, natD j]) := d7
        exact gd_op (gd_is (gd_slT (by walk_at "gd") go_none (go_some (K := K) (by walk_at "gd"))) (z := .tuple [natD (sbh row a), natD (sbh row b), natD o]) rfl) (gd_tup (ga_cons (gd_var rfl (.int _)) ga_nil) (Nat.le_of_ble_eq_true rfl)) (r2_addU (Nat.le_of_ble_eq_true rfl))
end
end Uw
/-! text U3 -/
/-! set(xs) of a list whose items are keys carried by value (ints, texts), sorted of a set: the members alone. -/
namespace Uw
open PySem PySem.Spec PyProof.Rows L2
section
variable {κ : Type} [DecidableEq κ] {P : Program} {w : World}
/-- an entry of a key -/
def EntIs (knd : PySem.KeyKind P w κ) (k : κ) (e : Int × Value) : Prop := knd.is k e.2 = true ∧ e.1 = knd.hash k ∧ e.2.scannable = true
def SetG (knd : PySem.KeyKind P w κ) (h : Heap) (a : Addr) (L : List κ) : Prop :=
  ∃ o es ep t, h.get? a = some o ∧ o.ExactSet ∧ o.data = .set es ep t ∧ Paired (EntIs knd) L es.toList ∧ L.Nodup ∧ es.size < scanBound ∧ t.fits es.size = true ∧ Ris t.place.toList ∧ (w.params.followText "set-order" = true ∨ t.led = true)
theorem paired_perm {α β : Type} {F : α → β → Prop} {ys zs : List β} (p : ys.Perm zs) : ∀ {xs : List α}, Paired F xs ys → ∃ xs', xs'.Perm xs ∧ Paired F xs' zs := by
  induction p with
  | nil => intro xs h; exact ⟨xs, .refl _, h⟩
  | cons x p ih =>
    intro xs h
    cases h with
    | cons h t =>
      obtain ⟨xs', q, r⟩ := ih t
      exact ⟨_, .cons _ q, .cons h r⟩
  | swap x y l =>
    intro xs h
    cases h with
    | cons h1 t =>
      cases t with
      | cons h2 t => exact ⟨_, .swap _ _ _, .cons h2 (.cons h1 t)⟩
  | trans p q ih1 ih2 =>
    intro xs h
    obtain ⟨x1, q1, r1⟩ := ih1 h
    obtain ⟨x2, q2, r2⟩ := ih2 r1
    exact ⟨x2, q2.trans q1, r2⟩
theorem paired_at {α β : Type} {F : α → β → Prop} : ∀ {xs : List α} {ys : List β} {i : Nat} {y : β}, Paired F xs ys → ys[i]? = some y → ∃ x, xs[i]? = some x ∧ F x y
  | _, _, _, _, .nil, e => by simp at e
  | _, _, 0, _, .cons h _, e => by
    simp at e
    subst e
    exact ⟨_, rfl, h⟩
  | _, _, i + 1, y, .cons _ t, e => by
    obtain ⟨x, a, b⟩ := paired_at (i := i) (y := y) t (by simpa using e)
    exact ⟨x, by simpa using a, b⟩
variable {knd : PySem.KeyKind P w κ}
theorem ent_elems {L : List κ} {l : List (Int × Value)} (h : Paired (EntIs knd) L l) : ElemsOf knd l := by
  induction h with
  | nil => intro e he; cases he
  | cons h t ih =>
    intro e he
    rcases List.mem_cons.mp he with z | z
    · subst z
      exact ⟨⟨_, h.1, h.2.1⟩, h.2.2⟩
    · exact ih e z
theorem ent_find {L : List κ} {l : List (Int × Value)} (h : Paired (EntIs knd) L l) (k : κ) : (l.findIdx? fun e => knd.is k e.2) = none ↔ ¬ k ∈ L := by
  induction h with
  | nil => simp
  | @cons j e L l h t ih =>
    rw [List.findIdx?_cons]
    by_cases q : knd.is k e.2 = true
    · rw [if_pos q]
      have z : k = j := knd.inj e.2 k j q h.1
      subst z
      simp
    · rw [if_neg q]
      have z : ¬ k = j := fun z => q (z ▸ h.1)
      rw [Option.map_eq_none_iff, ih, List.mem_cons]
      exact ⟨fun a b => b.elim z a, fun a b => a (.inr b)⟩
end
section
variable {κ : Type} [DecidableEq κ] {P : Program} {w : World} {knd : PySem.KeyKind P w κ} {A : Around} {E : Value → Shared → Prop} {s : Shared} {a : Addr} {L : List κ}
theorem setG_tail {g : Bool → Sem Unit} (hg : ∀ (b : Bool) (s₁ : Shared) (Q' : Unit → Shared → Prop), Q' () s₁ → wpAny (model P w) A (g b) Q' E s₁)
    {o : Obj} {es : Array (Int × Value)} {ep : Nat} {t : SetTable} (ho : s.heap.get? a = some o) (hex : o.ExactSet) (hd : o.data = .set es ep t)
    {es1 : Array (Int × Value)} {t2 : SetTable} {L1 : List κ} (g1 : Paired (EntIs knd) L1 es1.toList) (nd1 : L1.Nodup) (hb1 : es1.size < scanBound) (hf2 : t2.fits es1.size = true) (hr : Ris t2.place.toList)
    (hl : w.params.followText "set-order" = true ∨ t2.led = true) {wasDummy : Bool} {R : Option Bool → Shared → Prop}
    (hR : ∀ h' L', Heap.SameBut a s.heap h' → L'.Perm L1 → SetG knd h' a L' → R (some true) { s with heap := h' }) :
    wpAny (model P w) A (storeSet a es1 t2 >>= fun _ => if (!wasDummy && t2.tooFull) = true then (g (relayAll t2 es1 (SetTable.grown es1.size)).2.2 >>= fun _ =>
      storeSet a (relayAll t2 es1 (SetTable.grown es1.size)).1 (relayAll t2 es1 (SetTable.grown es1.size)).2.1 >>= fun _ => pure (some true)) else pure (some true)) R E s := by
  refine wpAny_bind (wpAny_storeSet_of ho hd ?_ (fits_of_scanBound hb1))
  have w1 := store_at (es' := es1) (t' := t2) ho hd
  have k1 := Heap.SameBut.update s.heap a (Obj.putSet es1 t2)
  split
  · have pm := relayAll_perm t2 es1 (SetTable.grown es1.size)
    have f3 := relayAll_fits t2 es1 (SetTable.grown es1.size)
    have r3 := relayAll_ris t2 es1 (SetTable.grown es1.size)
    have l3 := relayAll_led t2 es1 (SetTable.grown es1.size)
    generalize relayAll t2 es1 (SetTable.grown es1.size) = Z at pm f3 r3 l3 ⊢
    obtain ⟨es2, t3, gave⟩ := Z
    dsimp only at pm f3 r3 l3 ⊢
    have zz : es2.size = es1.size := by rw [← Array.length_toList, pm.length_eq, Array.length_toList]
    have b2 : es2.size < scanBound := by rw [zz]; exact hb1
    obtain ⟨L2, pL, gL⟩ := paired_perm pm.symm g1
    refine wpAny_bind (hg _ _ _ ?_)
    refine wpAny_bind (wpAny_storeSet_of w1 rfl ?_ (fits_of_scanBound b2))
    have w2 := store_at (es' := es2) (t' := t3) w1 rfl
    exact wpAny_pure (hR _ L2 (k1.trans (Heap.SameBut.update _ a _)) pL ⟨_, es2, _, t3, w2, hex, rfl, gL, pL.nodup_iff.mpr nd1, b2, f3, r3, hl.imp id fun z => by rw [l3]; exact z⟩)
  · exact wpAny_pure (hR _ L1 k1 (.refl _) ⟨_, es1, _, t2, w1, hex, rfl, g1, nd1, hb1, hf2, hr, hl⟩)
theorem setG_add {k : κ} {v : Value} {Q : Bool → Shared → Prop} (hk : knd.is k v = true) (hsc : v.scannable = true) (R : SetG knd s.heap a L) (room : L.length + 1 < scanBound)
    (hQ : ∀ h' L' b, Heap.SameBut a s.heap h' → SetG knd h' a L' → (∀ j, j ∈ L' ↔ j = k ∨ j ∈ L) → L'.length ≤ L.length + 1 → Q b { s with heap := h' }) :
    wpAny (model P w) A (setAddHashed a v (knd.hash k)) Q E s := by
  obtain ⟨o, es, ep, t, ho, hex, hd, g, nd, hb, hf, hr, hl⟩ := R
  have hsz : L.length = es.size := by rw [← Array.length_toList]; exact Paired.length g
  unfold setAddHashed setAddHashedIn
  refine wpAny_holding (wpAny_bind (wpAny_setState_of ho hd hf ?_))
  dsimp only
  rw [byScan_of hsc hb (ent_elems g)]
  simp only [↓reduceIte]
  unfold setAddByScan
  refine wpAny_bind (wpAny_bind (wpAny_rule (wpAny_bind (wpAny_setScan_of hk ho hd hf (ent_elems g) ?_))))
  cases hfi : List.findIdx? (fun e => knd.is k e.2) es.toList with
  | some j =>
    dsimp only
    have hm : k ∈ L := by
      by_cases z : k ∈ L
      · exact z
      · rw [(ent_find g k).mpr z] at hfi
        cases hfi
    exact wpAny_pure (wpAny_pure (hQ s.heap L false (Heap.SameBut.refl a s.heap) ⟨o, es, ep, t, ho, hex, hd, g, nd, hb, hf, hr, hl⟩ (fun i => ⟨.inr, fun z => z.elim (fun e => e ▸ hm) id⟩) (Nat.le_succ _)))
  | none =>
    dsimp only
    have hn : ¬ k ∈ L := (ent_find g k).mp hfi
    have gw : ∀ (b : Bool) {s₁ : Shared} {Q' : Unit → Shared → Prop}, Q' () s₁ → wpAny (model P w) A (match b with | true => rule "set.scan.the-table-gave-way" | false => pure ()) Q' E s₁ :=
      fun b s₁ Q' q => by cases b <;> first | exact wpAny_pure q | exact wpAny_rule q
    have pm := layNew_perm t es (knd.hash k) v
    have f1 := layNew_fits t es (knd.hash k) v
    have r1 := layNew_ris t es (knd.hash k) v hr
    have l1 := layNew_led t es (knd.hash k) v
    generalize layNew t es (knd.hash k) v = Z at pm f1 r1 l1 ⊢
    obtain ⟨es1, t1, wasDummy, gave⟩ := Z
    dsimp only at pm f1 r1 l1 ⊢
    rw [Array.toList_push] at pm
    obtain ⟨M, pM, gM⟩ := paired_perm pm.symm (Paired.snoc g (show EntIs knd k (knd.hash k, v) from ⟨hk, rfl, hsc⟩))
    have ndM : M.Nodup := pM.nodup_iff.mpr (nd_snoc nd hn)
    have lM : M.length = L.length + 1 := by rw [pM.length_eq, List.length_append] <;> rfl
    have bM : es1.size < scanBound := by
      have z := Paired.length gM
      rw [← Array.length_toList, ← z]
      omega
    have hled : w.params.followText "set-order" = true ∨ t1.led = true := hl.imp id fun z => by rw [l1]; exact z
    have fin : ∀ h' L', Heap.SameBut a s.heap h' → L'.Perm M → SetG knd h' a L' → Q true { s with heap := h' } := fun h' L' sb p r => by
      refine hQ h' L' true sb r (fun j => ?_) (by rw [p.length_eq]; omega)
      rw [p.mem_iff, pM.mem_iff, List.mem_append, List.mem_singleton]
      exact Or.comm
    refine wpAny_bind (gw _ ?_)
    split
    · refine wpAny_bind ?_
      rw [hashByValue_scannable 8 hsc]
      refine wpAny_pure ?_
      refine setG_tail (L1 := M) ?_ ho hex hd gM ndM bM ?_ ?_ ?_ ?_
      · intro b s₁ Q' q
        cases b <;> first | exact wpAny_pure q | exact wpAny_rule q
      · first | (split <;> first | exact f1 | exact SetTable.fits_plain_off f1) | exact f1
      · first | (split <;> exact r1) | exact r1
      · first | (split <;> exact hled) | exact hled
      · intro h' L' sb p r
        dsimp only
        exact wpAny_pure (fin h' L' sb p r)
    · refine wpAny_bind (wpAny_pure ?_)
      simp only [↓reduceIte]
      refine setG_tail (L1 := M) ?_ ho hex hd gM ndM bM f1 r1 hled ?_
      · intro b s₁ Q' q
        cases b <;> first | exact wpAny_pure q | exact wpAny_rule q
      · intro h' L' sb p r
        dsimp only
        exact wpAny_pure (fin h' L' sb p r)
theorem SetG.at {h h' : Heap} (R : SetG knd h a L) (k : ∀ o, h.get? a = some o → h'.get? a = some o) : SetG knd h' a L := by
  obtain ⟨o, es, ep, t, ho, r⟩ := R
  exact ⟨o, es, ep, t, k o ho, r⟩
/-- the loop of set.update over any walk -/
theorem setG_loop {I : Addr} {fp wr : List Addr} {G : Array GenState → Array GenState → Prop} {n : Nat} {Pv : Nat → Value → Prop} {St : Nat → Shared → Prop} {R : Result → Shared → Prop}
    (W : WalksS P w A.in1 I fp wr G n Pv St) (S : Addr) (hS : S ∉ fp) (ks : List κ) (hn : n = ks.length) (hb : ks.length + 1 < scanBound) (hval : ∀ i v, Pv i v → ∃ k, ks[i]? = some k ∧ knd.is k v = true ∧ v.scannable = true) :
    ∀ (m i : Nat) (s : Shared), n - i = m → i ≤ n → St i s → (∃ L, SetG knd s.heap S L ∧ (∀ j, j ∈ L ↔ j ∈ ks.take i) ∧ L.length ≤ i) →
      (∀ s' L, Moved (S :: wr) G s s' → SetG knd s'.heap S L → (∀ j, j ∈ L ↔ j ∈ ks) → R (.ok (.ret .none)) s') → codeAny (model P w) A (.builtin "set.update.loop" ⟨[.ref S, .ref I], []⟩) R s := by
  have nw : S ∉ wr := fun h => hS (W.sub _ h)
  have sub : ∀ b ∈ wr, b ∈ S :: wr := fun b hb => List.mem_cons_of_mem _ hb
  intro m
  induction m with
  | zero =>
    intro i s hm hi hst ⟨L, hL, hj, _⟩ hR
    have e : i = n := by omega
    subst e
    refine codeAny_builtin F.entry_set_update_loop ?_
    rw [Around.under_plainId F.plain_set_update_loop _]
    show wpAny _ A.in1 (pyNext (.ref I) >>= _) _ _ s
    refine wpAny_bind (W.done s _ _ hst fun s' mv => ?_)
    show wpAny _ A.in1 (ret Value.none) _ _ s'
    refine wpAny_pure (hR s' L (mv.mono sub) (hL.at fun o e => mv.heap S o nw e) fun j => ?_)
    rw [hj j, List.take_of_length_le (by omega)]
  | succ m ih =>
    intro i s hm hi hst ⟨L, hL, hj, hl⟩ hR
    have lt : i < n := by omega
    refine codeAny_builtin F.entry_set_update_loop ?_
    rw [Around.under_plainId F.plain_set_update_loop _]
    show wpAny _ A.in1 (pyNext (.ref I) >>= _) _ _ s
    refine wpAny_bind (W.item i s _ _ lt hst fun v s' hP hst' mv => ?_)
    obtain ⟨k, hk, his, hsc⟩ := hval i v hP
    have hL' := hL.at fun o e => mv.heap S o nw e
    show wpAny _ A.in1 (holding [v] (setAdd S v) >>= _) _ _ s'
    refine wpAny_bind (wpAny_holding ?_)
    unfold setAdd
    refine wpAny_holding (wpAny_bind (knd.pyHash his ?_))
    refine setG_add (s := { s' with toks := s'.toks + 1 }) his hsc hL' (by omega) fun h' L' b sb r mem len => ?_
    refine wpAny_pure ⟨plainId_quiet F.plain_set_update_loop _, ih (i + 1) _ (by omega) lt (W.frame _ s' _ _ hst' (Nat.le_succ _) fun b hb o e => ?_) ⟨L', r, fun j => ?_, by omega⟩ fun s'' L2 mv2 r2 mem2 => ?_⟩
    · rw [sb.2 b (fun z => hS (z ▸ hb))]
      exact e
    · rw [mem j, hj j, List.take_add_one, hk, List.mem_append]
      simp [or_comm]
    · refine hR s'' L2 (Moved.trans W.gtrans ((mv.mono sub).then_heap (Nat.le_succ _) fun b o hb e => ?_) mv2) r2 mem2
      rw [sb.2 b (fun z => hb (z ▸ List.mem_cons_self))]
      exact e
end
section
variable {κ : Type} [DecidableEq κ] {P : Program} {w : World} {knd : PySem.KeyKind P w κ} {A : Around} {E : Value → Shared → Prop} {s : Shared}
abbrev freshSet (w : World) : Obj := { cls := .type "set", dict := none, data := .set #[] 0 (.fresh 0 0 (!w.params.followText "set-order")) }
theorem setG_fresh {h : Heap} {a : Addr} (ho : h.get? a = some (freshSet w)) : SetG knd h a [] :=
  ⟨_, #[], 0, _, ho, ⟨rfl, rfl, rfl⟩, rfl, .nil, List.nodup_nil, (by decide), (by rfl), List.Pairwise.nil, by
    show _ ∨ (!w.params.followText "set-order") = true
    cases w.params.followText "set-order"
    · exact .inr rfl
    · exact .inl rfl⟩
theorem call_setG {l : Addr} {items : Array Value} (ks : List κ) {Q : Value → Shared → Prop} (hh : A.handled = none) (hl : s.heap.IsList l items) (hit : Paired (fun k v => knd.is k v = true ∧ v.scannable = true) ks items.toList) (hb : ks.length + 1 < scanBound)
    (h : ∀ (h' : Heap) (tk : Nat) (L : List κ), SetG knd h' s.heap.objs.size L → (∀ j, j ∈ L ↔ j ∈ ks) → (∀ b o, s.heap.get? b = some o → h'.get? b = some o) → Q (.ref s.heap.objs.size) { s with heap := h', toks := tk }) :
    wpAny (model P w) A (call (.type "set") [.ref l]) Q E s := by
  have sz : items.size = ks.length := by
    rw [← Array.length_toList]
    exact (Paired.length hit).symm
  obtain ⟨c, tl, mro⟩ := F.called_set.mro
  have made := F.called_set.made
  have issub := F.called_set.sub
  refine wpAny_call (codeAny_of_tree ?_)
  show wpAny _ _ (callAny (.type "set") _) _ _ _
  refine wpAny_pure ⟨Code.quiet_builtin _ (by decide +kernel), codeAny_builtin F.entry_type_call ?_⟩
  rw [Around.under_plain (weight_type_call_type "set" [.ref l] []) rfl]
  have n1 := F.called_set.notType
  have n2 := F.called_set.canCreate
  have n3 := F.typeCall_set_1 (.ref l)
  repeat (any_goals (first | assumption | wp_step))
  refine codeAny_mono (code_set_led1 (.ref l) (E := E) (Q₁ := fun obj s₁ => obj = .ref s.heap.objs.size ∧ s₁ = { s with heap := s.heap.push (freshSet w) }) ⟨rfl, rfl⟩) fun r s₁ hr => ?_
  cases r with
  | error e => exact hr
  | ok fl =>
    cases fl with
    | ret obj =>
      obtain ⟨rfl, rfl⟩ := hr
      have hS : (s.heap.push (freshSet w)).get? s.heap.objs.size = some (freshSet w) := Heap.get?_push_size _ rfl
      have hT : Shared.TypeIs { s with heap := s.heap.push (freshSet w) } (.ref s.heap.objs.size) "set" := ⟨_, hS, rfl⟩
      have li := F.called_set.init.lookup
      have bi := F.called_set.init.bind (.ref s.heap.objs.size)
      repeat (any_goals (first | assumption | wp_step))
      refine codeAny_mono (codeAny_call_builtin (R := wants (fun r s₂ => r = .none ∧ ∃ h' tk L, s₂ = { s with heap := h', toks := tk } ∧ SetG knd h' s.heap.objs.size L ∧ (∀ j, j ∈ L ↔ j ∈ ks) ∧ (∀ b o, s.heap.get? b = some o → h'.get? b = some o)) E)
        F.called_set.init.plain F.entry_set_init (check_set_init_1 hT ?_)) fun r₂ s₂ hr₂ => ?_
      · obtain ⟨ol, hol, hcl, nl, hdl⟩ := hl
        obtain ⟨oc, od, odat, osl⟩ := ol
        simp only at hcl hdl
        subst hcl hdl
        have hol' : (s.heap.push (freshSet w)).get? l = some { cls := .type "list", dict := od, data := .seq items nl, slots := osl } := Heap.get?_push_of_some _ hol
        have q1 := F.sub_list_set
        have q2 := F.sub_list_frozenset
        have q3 : (Value.type "list" == Value.type "dict") = false := by decide
        have hl1 : (s.heap.push (freshSet w)).IsList l items := ⟨_, hol', rfl, nl, rfl⟩
        unfold Builtin.«set.__init__» noKeywords Builtin.Frozenset.updateFrom
        generalize hPI : pyIter = PI
        wp_walk
        subst hPI
        refine wpAny_pyIter_list hl1 (wpAny_bind (wpAny_runValue ?_))
        have hlS : l < s.heap.objs.size := Heap.lt_size hol
        have hh3 : A.in1.in1.in1.handled = none := by simp [hh]
        have s1 : (s.heap.push (freshSet w)).objs.size = s.heap.objs.size + 1 := Heap.size_push ..
        have nI : l ≠ (s.heap.push (freshSet w)).objs.size := by
          rw [s1]
          exact Nat.ne_of_lt (Nat.lt_succ_of_lt hlS)
        have nS : s.heap.objs.size ∉ [(s.heap.push (freshSet w)).objs.size, l] := by
          rw [s1]
          simp only [List.mem_cons, List.not_mem_nil, or_false, not_or]
          exact ⟨Nat.ne_of_lt (Nat.lt_succ_self _), Nat.ne_of_gt hlS⟩
        have hval : ∀ (i : Nat) (v : Value), items[i]? = some v → ∃ k, ks[i]? = some k ∧ knd.is k v = true ∧ v.scannable = true := fun i v hv => by
          have q : items.toList[i]? = some v := by
            rw [Array.getElem?_toList]
            exact hv
          obtain ⟨k, z1, z2⟩ := paired_at hit q
          exact ⟨k, z1, z2⟩
        refine setG_loop (knd := knd) ((Walks.list hh3 _ l nI items).toS) s.heap.objs.size nS ks sz hb hval (items.size - 0) 0 _ (by omega) (Nat.zero_le _) ⟨⟨_, Heap.get?_push_size _ rfl, rfl, rfl⟩, (hl1.push _)⟩ ?h0 ?hR
        case h0 =>
          have z : ((s.heap.push (freshSet w)).push { cls := .type "list_iterator", data := .fields #[.ref l, .int 0 0] }).get? s.heap.objs.size = some (freshSet w) := Heap.get?_push_of_some _ hS
          exact ⟨[], setG_fresh z, fun j => by simp, Nat.le_refl _⟩
        case hR =>
          intro s' L mv r mem
          obtain ⟨h', g2, d', tk', os'⟩ := s'
          have eg : g2 = s.gens := mv.gens
          have ed : d' = s.drawn := mv.drawn
          have eo : os' = s.os := mv.os
          subst eg ed eo
          show wpAny _ _ _ _ _ _
          refine wpAny_pure ?_
          show wpAny _ _ (ret Value.none) _ _ _
          refine wpAny_pure ⟨rfl, h', tk', L, rfl, r, mem, fun b o e => ?_⟩
          have b0 : b < s.heap.objs.size := Heap.lt_size e
          refine mv.heap b o ?_ (Heap.get?_push_of_some _ (Heap.get?_push_of_some _ e))
          rw [s1]
          simp only [List.mem_cons, List.not_mem_nil, or_false, not_or]
          exact ⟨Nat.ne_of_lt b0, Nat.ne_of_lt (Nat.lt_succ_of_lt b0)⟩
      · cases r₂ with
        | error e => exact hr₂
        | ok fl₂ =>
          cases fl₂ with
          | ret r =>
            obtain ⟨rfl, h', tk, L, rfl, z1, z2, z3⟩ := hr₂
            repeat (any_goals (first | assumption | wp_step))
            exact h _ _ _ z1 z2 z3
          | _ => exact hr₂.elim
    | _ => exact hr.elim
end
end Uw
/-! text U4 -/
/-! sorted of a set (its members in some order), sorted of a list of tuples of ints: the members alone. -/
namespace Uw
open PySem PySem.Spec PyProof.Rows L2
theorem each_of_paired {α β : Type} {F : β → α → Prop} : ∀ {ys : List β} {xs : List α}, Paired F ys xs → PySem.W.EachIs (fun x y => F y x) xs ys
  | _, _, .nil => .nil
  | _, _, .cons h t => .cons h (each_of_paired t)
theorem each_len {α β : Type} {F : α → β → Prop} : ∀ {xs : List α} {ys : List β}, PySem.W.EachIs F xs ys → xs.length = ys.length
  | _, _, .nil => rfl
  | _, _, .cons _ t => congrArg (· + 1) (each_len t)
theorem each_imp {α β : Type} {F G : α → β → Prop} : ∀ {xs : List α} {ys : List β}, PySem.W.EachIs F xs ys → (∀ x y, y ∈ ys → F x y → G x y) → PySem.W.EachIs G xs ys
  | _, _, .nil, _ => .nil
  | _, _, .cons h t, f => .cons (f _ _ List.mem_cons_self h) (each_imp t fun x y m => f x y (List.mem_cons_of_mem _ m))
theorem vals_of_each {β : Type} {g : β → V} : ∀ {xs : List Value} {ys : List β}, PySem.W.EachIs (fun v y => RelV (g y) v) xs ys → Vals (ys.map g) xs
  | _, _, .nil => .nil
  | _, _, .cons h t => .cons h (vals_of_each t)
section
variable {P : Program} {w : World} {A : Around} {E : Value → Shared → Prop} {s : Shared} {β : Type} {enc : β → PyData} {R : Value → β → Prop} {bs : List β} {a : Addr}
/-- sorted of what is gathered in some order -/
theorem sorted_any {Q : Value → Shared → Prop}
    (hc : ∀ Q' : List Value → Shared → Prop, (∀ s1 vs bs1, (∀ b o, s.heap.get? b = some o → s1.heap.get? b = some o) → s.heap.objs.size ≤ s1.heap.objs.size → s1.gens = s.gens → s1.os = s.os → PySem.W.EachIs R vs bs1 → bs1.Perm bs → Q' vs s1) →
      ∀ E' : Value → Shared → Prop, wpAny (model P w) A.in1 (collect (.ref a)) Q' E' s)
    (hr : ∀ h : Heap, (∀ b o, s.heap.get? b = some o → h.get? b = some o) → ∀ v b, b ∈ bs → R v b → Reads h v (enc b) []) (hal : PySem.W.AllAlike (bs.map enc)) (hk : PySem.W.Sortable (bs.map enc)) (hL : bs.length ≤ sizeLine)
    (hu : ∀ b, b ∈ bs → A.units + 2 + (enc b).depth < cLine)
    (hQ : ∀ s' p (out : List Value) (c : Nat) bs', (∀ b o, s.heap.get? b = some o → s'.heap.get? b = some o) → s'.gens = s.gens → s'.os = s.os → s.heap.objs.size ≤ p → s'.heap.get? p = some (seqObj "list" out.toArray c) →
      PySem.W.EachIs R out bs' → bs'.Perm bs → Q (.ref p) s') : wpAny (model P w) A (call (.builtin "sorted") [.ref a]) Q E s := by
  refine Calls.call_function_entry kind_sorted plain_sorted entry_sorted (args_sorted1 _) ?_
  unfold Builtin.«sorted»
  refine wpAny_bind (m := checkCount "sorted" 1 1 _) (wpAny_pure ?_)
  refine wpAny_bind (hc _ (fun s1 vs bs1 k1 z1 g1 o1 e1 p1 => ?_) _)
  have hl1 : vs.length ≤ sizeLine := by
    rw [each_len e1, p1.length_eq]
    exact hL
  refine wpAny_bind (wpAny_newList ?_ hl1)
  have hoL : (s1.heap.push (seqObj "list" vs.toArray 0)).get? s1.heap.objs.size = some (seqObj "list" vs.toArray 0) := Heap.get?_push_size _ rfl
  have kk : ∀ b o, s.heap.get? b = some o → (s1.heap.push (seqObj "list" vs.toArray 0)).get? b = some o := fun b o e => Heap.get?_push_of_some _ (k1 b o e)
  have er : PySem.W.EachIs (fun v b => ∃ as, Reads (s1.heap.push (seqObj "list" vs.toArray 0)) v (enc b) as ∧ s1.heap.objs.size ∉ as) vs bs1 :=
    each_imp e1 fun v b m r => ⟨[], hr _ kk v b (p1.mem_iff.mp m) r, fun z => by cases z⟩
  have hal1 : PySem.W.AllAlike (bs1.map enc) := fun d hd d' hd' => hal d ((p1.map enc).mem_iff.mp hd) d' ((p1.map enc).mem_iff.mp hd')
  have hk1 : PySem.W.Sortable (bs1.map enc) := hk.imp (fun z d hd => z d ((p1.map enc).mem_iff.mp hd)) fun z d hd => z d ((p1.map enc).mem_iff.mp hd)
  refine wpAny_bind (wpAny_holding (PySem.W.list_sort_data (s := { s1 with heap := s1.heap.push (seqObj "list" vs.toArray 0) }) hoL e1 er hal1 hk1 (by rw [p1.length_eq]; exact hL)
    (fun b hb => by
      have z := hu b (p1.mem_iff.mp hb)
      show A.units + 1 + 1 + _ < _
      omega) fun out hlen eo => ?_))
  obtain ⟨c, hcc⟩ := sortedHeap_at (vs := vs) (out := out.toArray) hoL
  refine wpAny_pure ⟨_, rfl, hQ _ s1.heap.objs.size out c _ (fun b u e => ?_) g1 o1 z1 hcc eo ((List.mergeSort_perm _ _).trans p1)⟩
  have q := k1 b u e
  have hlt := Heap.lt_size q
  show (sortedHeap (s1.heap.push (seqObj "list" vs.toArray 0)) s1.heap.objs.size vs out.toArray).get? b = some u
  rw [sortedHeap_old (Nat.ne_of_lt hlt) (by rw [size_push']; exact Nat.lt_succ_of_lt hlt)]
  exact Heap.get?_push_of_some _ q
end
/-! ### sets as objects -/
def SetI (P : Program) (w : World) (a : Addr) (L : List Int) : HO := .ext fun h => SetG (intKind P w) h a L
def SetS (P : Program) (w : World) (a : Addr) (L : List Str) : HO := .ext fun h => SetG (strKind P w) h a L
theorem setG_ok {κ : Type} [DecidableEq κ] {P : Program} {w : World} {knd : PySem.KeyKind P w κ} {H : Hp} {h : Heap} {a : Addr} {L : List κ} (R : SetG knd h a L) : ObjOk P w H h a (.ext fun h => SetG knd h a L) :=
  ⟨R, by
    obtain ⟨o, _, _, _, ho, _⟩ := R
    exact ⟨o, ho⟩, fun h1 h2 p k => p.at k⟩
section
variable {X : Cx}
def rSetI (K : PySem.W.Frag) (P : Program) (w : World) : List V → Hp → VK → Prop := fun xs H Q => ∃ (l : Addr) (ns : List Int), xs = [V.ref l] ∧ SqL K H l (ns.map V.int) ∧ ns.length + 1 < 4096 ∧
  ∀ a L, H a = none → L.Nodup → (∀ j, j ∈ L ↔ j ∈ ns) → Q (.ref a) (upd H a (SetI P w a L))
def rSetS (K : PySem.W.Frag) (P : Program) (w : World) : List V → Hp → VK → Prop := fun xs H Q => ∃ (l : Addr) (ns : List Str), xs = [V.ref l] ∧ SqL K H l (ns.map V.str) ∧ ns.length + 1 < 4096 ∧
  ∀ a L, H a = none → L.Nodup → (∀ j, j ∈ L ↔ j ∈ ns) → Q (.ref a) (upd H a (SetS P w a L))
theorem paired_ints {P : Program} {w : World} : ∀ {ns : List Int} {us : List Value}, Vals (ns.map V.int) us → Paired (fun k v => (intKind P w).is k v = true ∧ v.scannable = true) ns us
  | [], _, .nil => .nil
  | n :: r, _, .cons h t => by
    obtain ⟨tk, rfl⟩ := h
    exact .cons ⟨intKind_is P w n tk, rfl⟩ (paired_ints t)
theorem paired_strs {P : Program} {w : World} : ∀ {ns : List Str} {us : List Value}, Vals (ns.map V.str) us → Paired (fun k v => (strKind P w).is k v = true ∧ v.scannable = true) ns us
  | [], _, .nil => .nil
  | n :: r, _, .cons h t => by
    obtain ⟨tk, rfl⟩ := h
    exact .cons ⟨strKind_is P w n tk, rfl⟩ (paired_strs t)
theorem SetG.nodup {κ : Type} [DecidableEq κ] {P : Program} {w : World} {knd : PySem.KeyKind P w κ} {h : Heap} {a : Addr} {L : List κ} (R : SetG knd h a L) : L.Nodup := by
  obtain ⟨_, _, _, _, _, _, _, _, nd, _⟩ := R
  exact nd
theorem cr_setI (hc : X.calm = true) : CallR X (.type "set") (rSetI X.K X.prog X.w) := by
  intro pins s σ H xs us Q I r h
  obtain ⟨l, ns, rfl, hl, hb, q⟩ := h
  rw [Vals.ref1 r]
  obtain ⟨its, rv, pl, hz⟩ := I.list hl
  refine call_setG (knd := intKind X.prog X.w) ns (I.ok.hd hc) pl.isList (by simpa using paired_ints rv) hb fun h' tk L R mem k => ?_
  exact ⟨.ref s.heap.objs.size, upd H s.heap.objs.size (SetI X.prog X.w s.heap.objs.size L), I.laid (t' := tk) k (Nat.le_refl _) (setG_ok R), rfl, q _ L (I.hok.fresh (Nat.le_refl _)) R.nodup mem⟩
theorem cr_setS (hc : X.calm = true) : CallR X (.type "set") (rSetS X.K X.prog X.w) := by
  intro pins s σ H xs us Q I r h
  obtain ⟨l, ns, rfl, hl, hb, q⟩ := h
  rw [Vals.ref1 r]
  obtain ⟨its, rv, pl, hz⟩ := I.list hl
  refine call_setG (knd := strKind X.prog X.w) ns (I.ok.hd hc) pl.isList (by simpa using paired_strs rv) hb fun h' tk L R mem k => ?_
  exact ⟨.ref s.heap.objs.size, upd H s.heap.objs.size (SetS X.prog X.w s.heap.objs.size L), I.laid (t' := tk) k (Nat.le_refl _) (setG_ok R), rfl, q _ L (I.hok.fresh (Nat.le_refl _)) R.nodup mem⟩
end
end Uw
/-! text U5 -/
/-! sorted of a set, of a list of tuples of ints; set(..), any: as rules by data. -/
namespace Uw
open PySem PySem.Spec PyProof.Rows L2
section
variable {κ : Type} [DecidableEq κ] {P : Program} {w : World} {knd : PySem.KeyKind P w κ}
theorem paired_each {L : List κ} {l : List (Int × Value)} (h : Paired (EntIs knd) L l) : PySem.W.EachIs (fun v k => knd.is k v = true) (l.map (·.2)) L := by
  induction h with
  | nil => exact .nil
  | cons h t ih => exact .cons h.1 ih
theorem each_perm {α β : Type} {F : α → β → Prop} {xs xs' : List α} (p : xs'.Perm xs) : ∀ {ys : List β}, PySem.W.EachIs F xs ys → ∃ ys', ys'.Perm ys ∧ PySem.W.EachIs F xs' ys' := by
  induction p with
  | nil => intro ys h; exact ⟨ys, .refl _, h⟩
  | cons x p ih =>
    intro ys h
    cases h with
    | cons h t =>
      obtain ⟨ys', q, r⟩ := ih t
      exact ⟨_, .cons _ q, .cons h r⟩
  | swap x y l =>
    intro ys h
    cases h with
    | cons h1 t =>
      cases t with
      | cons h2 t => exact ⟨_, .swap _ _ _, .cons h2 (.cons h1 t)⟩
  | trans p q ih1 ih2 =>
    intro ys h
    obtain ⟨y1, q1, r1⟩ := ih2 h
    obtain ⟨y2, q2, r2⟩ := ih1 r1
    exact ⟨y2, q2.trans q1, r2⟩
variable {A : Around} {E : Value → Shared → Prop} {s : Shared} {a : Addr} {L : List κ}
theorem collect_setG (hh : A.handled = none) (R : SetG knd s.heap a L) {Q : List Value → Shared → Prop}
    (hQ : ∀ s1 vs bs1, (∀ b o, s.heap.get? b = some o → s1.heap.get? b = some o) → s.heap.objs.size ≤ s1.heap.objs.size → s1.gens = s.gens → s1.os = s.os → PySem.W.EachIs (fun v k => knd.is k v = true) vs bs1 → bs1.Perm L → Q vs s1) :
    wpAny (model P w) A (collect (.ref a)) Q E s := by
  obtain ⟨o, es, ep, t, ho, hex, hd, g, nd, hb, hf, hr, hl⟩ := R
  refine collect_set hh ⟨o, ho, hex.1, hd⟩ hf hb hr hl fun s1 out k1 hz g1 o1 pm => ?_
  obtain ⟨L', p', e'⟩ := each_perm pm (paired_each g)
  exact hQ s1 out L' k1 hz g1 o1 e' p'
end
section
variable {X : Cx}
def rSoI (P : Program) (w : World) : List V → Hp → VK → Prop := fun xs H Q => ∃ (a : Addr) (L : List Int), xs = [V.ref a] ∧ H a = some (SetI P w a L) ∧ L.length ≤ 4096 ∧
  ∀ (p : Addr) (L' : List _), H p = none → List.Perm L' L → Q (.ref p) (upd H p (.lst (L'.map V.int)))
def rSoS (P : Program) (w : World) : List V → Hp → VK → Prop := fun xs H Q => ∃ (a : Addr) (L : List Str), xs = [V.ref a] ∧ H a = some (SetS P w a L) ∧ L.length ≤ 4096 ∧
  ∀ (p : Addr) (L' : List _), H p = none → List.Perm L' L → Q (.ref p) (upd H p (.lst (L'.map V.str)))
/-- tuples of one int or more -/
def rSoT (K : PySem.W.Frag) (P : Program) (w : World) : List V → Hp → VK → Prop := fun xs H Q => ∃ (a : Addr) (L : List (Addr × List Int)), xs = [V.ref a] ∧ H a = some (SetTO P w a L) ∧ (∀ p ∈ L, SqT K H p.1 (p.2.map V.int)) ∧ (∀ p ∈ L, p.2 ≠ []) ∧
  ∀ (p : Addr) (L' : List (Addr × List Int)), H p = none → List.Perm L' L → L.length < 64 → Q (.ref p) (upd H p (.lst (L'.map fun q => V.ref q.1)))
def rSoL (K : PySem.W.Frag) : List V → Hp → VK → Prop := fun xs H Q => ∃ (a : Addr) (L : List (Addr × List Int)), xs = [V.ref a] ∧ SqL K H a (L.map fun q => V.ref q.1) ∧ (∀ p ∈ L, SqT K H p.1 (p.2.map V.int)) ∧ (∀ p ∈ L, p.2 ≠ []) ∧
  ∀ (p : Addr) (L' : List (Addr × List Int)), H p = none → List.Perm L' L → Q (.ref p) (upd H p (.lst (L'.map fun q => V.ref q.1)))
theorem so_inv {pins : List (Addr × Obj)} {σ : L2.St} {H : Hp} {s s' : Shared} {p : Addr} {xs : List V} {out : List Value} {c : Nat} (I : Inv X pins σ H s) (k : ∀ b o, s.heap.get? b = some o → s'.heap.get? b = some o) (g : s'.gens = s.gens) (o : s'.os = s.os) (hp : s.heap.objs.size ≤ p)
    (hg : s'.heap.get? p = some (seqObj "list" out.toArray c)) (hv : Vals xs out) (hl : xs.length ≤ sizeLine) : H p = none ∧ Inv X pins σ (upd H p (.lst xs)) s' := by
  have hn : H p = none := I.hok.fresh hp
  have J : Inv X pins σ (upd H p (.lst xs)) { s with heap := s'.heap, gens := s'.gens, drawn := s'.drawn, toks := s'.toks } :=
    I.call (ch := []) (Un.laid k hp hn) (I.hok.laid k hp ⟨hl, out, c, hv, hg⟩) (by rw [g]; exact I.bare) (fun _ z => nomatch z)
  have e : s' = { s with heap := s'.heap, gens := s'.gens, drawn := s'.drawn, toks := s'.toks } := by
    cases s'
    cases s
    cases o
    rfl
  rw [e]
  exact ⟨hn, J⟩
theorem each_ints {P : Program} {w : World} : ∀ {out : List Value} {L : List Int}, PySem.W.EachIs (fun v k => (intKind P w).is k v = true) out L → Vals (L.map V.int) out
  | _, _, .nil => .nil
  | _, _, .cons h t => .cons (Value.isInt_shape h) (each_ints t)
theorem each_strs {P : Program} {w : World} : ∀ {out : List Value} {L : List Str}, PySem.W.EachIs (fun v k => (strKind P w).is k v = true) out L → Vals (L.map V.str) out
  | _, _, .nil => .nil
  | _, _, .cons h t => .cons (Value.isStrOf_shape h) (each_strs t)
theorem cr_soI (hc : X.calm = true) (hu : X.A.units + 64 < cLine) : CallR X (.builtin "sorted") (rSoI X.prog X.w) := by
  intro pins s σ H vs us Q I r h
  obtain ⟨a, L, rfl, ha, hl, q⟩ := h
  have R : SetG (intKind X.prog X.w) s.heap a L := (I.hok a _ ha).1
  rw [Vals.ref1 r]
  refine sorted_any (enc := PyData.int) (R := fun v k => (intKind X.prog X.w).is k v = true) (bs := L) (fun Q' hQ E' => collect_setG (A := X.A.in1) (I.ok.hd hc) R hQ) (fun h k v b hb hv => ?_) (PySem.W.AllAlike.of fun _ _ => rfl) (PySem.W.Sortable.others fun b => ⟨fun z => (nomatch z), fun _ z => (nomatch z)⟩) (small_le (by omega)) (fun b hb => ?_) fun s' p out c bs' k g o hp hg he pm => ?_
  · obtain ⟨t, rfl⟩ := Value.isInt_shape hv
    exact .int b t
  · show X.A.units + 2 + 0 < cLine
    omega
  · obtain ⟨hn, J⟩ := so_inv (xs := bs'.map V.int) I k g o hp hg (each_ints he) (small_le (by rw [List.length_map, pm.length_eq]; omega))
    exact ⟨.ref p, _, J, rfl, q p bs' hn pm⟩
theorem cr_soS (hc : X.calm = true) (hu : X.A.units + 64 < cLine) : CallR X (.builtin "sorted") (rSoS X.prog X.w) := by
  intro pins s σ H vs us Q I r h
  obtain ⟨a, L, rfl, ha, hl, q⟩ := h
  have R : SetG (strKind X.prog X.w) s.heap a L := (I.hok a _ ha).1
  rw [Vals.ref1 r]
  refine sorted_any (enc := PyData.str) (R := fun v k => (strKind X.prog X.w).is k v = true) (bs := L) (fun Q' hQ E' => collect_setG (A := X.A.in1) (I.ok.hd hc) R hQ) (fun h k v b hb hv => ?_) (PySem.W.AllAlike.of fun _ _ => rfl) (PySem.W.Sortable.others fun b => ⟨fun z => (nomatch z), fun _ z => (nomatch z)⟩) (small_le (by omega)) (fun b hb => ?_) fun s' p out c bs' k g o hp hg he pm => ?_
  · obtain ⟨t, rfl⟩ := Value.isStrOf_shape hv
    exact .str b t
  · show X.A.units + 2 + 0 < cLine
    omega
  · obtain ⟨hn, J⟩ := so_inv (xs := bs'.map V.str) I k g o hp hg (each_strs he) (small_le (by rw [List.length_map, pm.length_eq]; omega))
    exact ⟨.ref p, _, J, rfl, q p bs' hn pm⟩
theorem vals_reads {h : Heap} : ∀ {ns : List Int} {us : List Value}, Vals (ns.map V.int) us → ReadsAll h us (ns.map PyData.int) []
  | [], _, .nil => .nil
  | n :: r, _, .cons h t => by
    obtain ⟨tk, rfl⟩ := h
    exact .cons (as := []) (bs := []) (.int n tk) (vals_reads t)
theorem tup_reads {pins : List (Addr × Obj)} {σ : L2.St} {H : Hp} {s : Shared} (I : Inv X pins σ H s) {b : Addr} {ns : List Int} (h : SqT X.K H b (ns.map V.int)) {h' : Heap} (k : ∀ b o, s.heap.get? b = some o → h'.get? b = some o) : Reads h' (.ref b) (.tuple (ns.map PyData.int)) [] := by
  obtain ⟨its, r, ⟨o, ho, hc, n, hd⟩, _⟩ := I.tuple h
  exact .tuple (k _ _ ho) hc hd (by simpa using vals_reads r)
theorem each_refs : ∀ {out : List Value} {L : List (Addr × List Int)}, PySem.W.EachIs (fun v q => v = Value.ref q.1) out L → Vals (L.map fun q => V.ref q.1) out
  | _, _, .nil => .nil
  | _, _, .cons h t => by
    subst h
    exact .cons rfl (each_refs t)
theorem refs_each : ∀ (L : List (Addr × List Int)), PySem.W.EachIs (fun v q => v = Value.ref q.1) (L.map fun q => Value.ref q.1) L
  | [] => .nil
  | q :: L => .cons rfl (refs_each L)
theorem encT_alike (L : List (Addr × List Int)) : PySem.W.AllAlike (L.map fun q => PyData.tuple (q.2.map PyData.int)) := PySem.W.AllAlike.of fun b b' => PySem.W.alike_ints b.2 b'.2
theorem encT_sortable {L : List (Addr × List Int)} (h : ∀ p ∈ L, p.2 ≠ []) : PySem.W.Sortable (L.map fun q => PyData.tuple (q.2.map PyData.int)) := .inl fun d hd => by
  obtain ⟨b, hb, rfl⟩ := List.mem_map.mp hd
  cases e : b.2 with
  | nil => exact absurd e (h b hb)
  | cons n r => exact ⟨.int n, r.map .int, rfl⟩
theorem encT_depth (q : Addr × List Int) : (PyData.tuple (q.2.map PyData.int)).depth ≤ 1 := by
  rw [PyData.depth, PySem.W.depth_ints]
  exact Nat.le_refl _
theorem cr_soT (hc : X.calm = true) (hu : X.A.units + 64 < cLine) : CallR X (.builtin "sorted") (rSoT X.K X.prog X.w) := by
  intro pins s σ H vs us Q I r h
  obtain ⟨a, L, rfl, ha, ht, hne, q⟩ := h
  have R0 : SetT0 X.prog X.w s.heap a L := (I.hok a _ ha).1
  obtain ⟨es, ep, t, R⟩ := R0.full fun p hp => I.isT (ht p hp)
  obtain ⟨o, ho, hex, hd⟩ := R.ob
  have hfew := R.few
  have hsz := R.size
  rw [Vals.ref1 r]
  refine sorted_any (enc := fun q : Addr × List Int => PyData.tuple (q.2.map PyData.int)) (R := fun v q => v = Value.ref q.1) (bs := L)
    (fun Q' hQ E' => collect_set (A := X.A.in1) (I.ok.hd hc) ⟨o, ho, hex.1, hd⟩ R.fits (by unfold scanBound; omega) R.tab.ris R.led fun s1 vs k1 hz g1 o1 pm => ?_) (fun h k v b hb hv => ?_) (encT_alike L) (encT_sortable hne) (small_le (by omega)) (fun b hb => ?_) fun s' p out c bs' k g o hp hg he pm => ?_
  · have hes : es.toList.map (·.2) = L.map fun q => Value.ref q.1 := by
      rw [R.rows]
      unfold rowsOf
      rw [List.map_map] <;> rfl
    rw [hes] at pm
    obtain ⟨L', p', e'⟩ := each_perm pm (refs_each L)
    exact hQ s1 vs L' k1 hz g1 o1 e' p'
  · subst hv
    exact tup_reads I (ht b hb) k
  · have z := encT_depth b
    show X.A.units + 2 + (PyData.tuple (b.2.map PyData.int)).depth < cLine
    omega
  · obtain ⟨hn, J⟩ := so_inv (xs := bs'.map fun q => V.ref q.1) I k g o hp hg (each_refs he) (small_le (by rw [List.length_map, pm.length_eq]; omega))
    exact ⟨.ref p, _, J, rfl, q p bs' hn pm hfew⟩
theorem cr_soL (hu : X.A.units + 64 < cLine) : CallR X (.builtin "sorted") (rSoL X.K) := by
  intro pins s σ H vs us Q I r h
  obtain ⟨a, L, rfl, hl, ht, hne, q⟩ := h
  obtain ⟨its, rv, pl, hz⟩ := I.list hl
  rw [Vals.ref1 r]
  rw [List.length_map] at hz
  have hits : its = L.map fun q => Value.ref q.1 := refs_of_vals rv
  subst hits
  refine sorted_any (enc := fun q : Addr × List Int => PyData.tuple (q.2.map PyData.int)) (R := fun v q => v = Value.ref q.1) (bs := L)
    (fun Q' hQ E' => collect_list pl.isList ?_ (by rw [List.length_map]; exact hz)) (fun h k v b hb hv => ?_) (encT_alike L) (encT_sortable hne) hz (fun b hb => ?_) fun s' p out c bs' k g o hp hg he pm => ?_
  · refine hQ _ _ L (fun b o e => ?_) ?_ rfl rfl (by simpa using refs_each L) (.refl _)
    · have hlt : b < s.heap.objs.size := Heap.lt_size e
      show ((s.heap.push _).update _ _).get? b = some o
      rw [Heap.get?_update_ne _ _ _ _ (Nat.ne_of_lt hlt)]
      exact Heap.get?_push_of_some _ e
    · show _ ≤ ((s.heap.push _).update _ _).objs.size
      rw [Heap.size_update, Heap.size_push]
      exact Nat.le_succ _
  · subst hv
    exact tup_reads I (ht b hb) k
  · have z := encT_depth b
    show X.A.units + 2 + (PyData.tuple (b.2.map PyData.int)).depth < cLine
    omega
  · obtain ⟨hn, J⟩ := so_inv (xs := bs'.map fun q => V.ref q.1) I k g o hp hg (each_refs he) (by rw [List.length_map, pm.length_eq]; exact hz)
    exact ⟨.ref p, _, J, rfl, q p bs' hn pm⟩
end
end Uw
/-! text U6 -/
/-! Results told by a property: data (Gn), a fresh list (Gf). sorted, set by data. -/
namespace Uw
open PySem PySem.Spec PyProof.Rows L2
theorem nodup_len {α : Type} [BEq α] [LawfulBEq α] : ∀ (l D : List α), l.Nodup → (∀ x ∈ l, x ∈ D) → l.length ≤ D.length
  | [], _, _, _ => Nat.zero_le _
  | x :: l, D, hn, hs => by
    obtain ⟨h1, h2⟩ := List.nodup_cons.mp hn
    have hx : x ∈ D := hs x List.mem_cons_self
    have ih := nodup_len l (D.erase x) h2 fun y hy => by
      have hne : y ≠ x := fun e => h1 (e ▸ hy)
      exact (List.mem_erase_of_ne hne).2 (hs y (List.mem_cons_of_mem _ hy))
    have e := List.length_erase_of_mem hx
    have hp : 0 < D.length := List.length_pos_of_mem hx
    rw [List.length_cons]
    omega
/-! ### the promises -/
/-- data told by a property -/
def spN (K : PySem.W.Frag) (R : List PyData → (PyData → Prop) → Prop) : Sp := fun vs H Q _ => ∃ ds Z, DpAll K H vs ds ∧ R ds Z ∧ ∀ v H' d, Z d → Same H H' → Dp K H' v d → Q v H'
/-- a fresh list, its items told by a property -/
def spF (K : PySem.W.Frag) (R : List PyData → (List PyData → Prop) → Prop) : Sp := fun vs H Q _ => ∃ ds Z, DpAll K H vs ds ∧ R ds Z ∧ ∀ p H' xs es, Z es → Same H H' → H p = none → H' p = some (.lst xs) → DpAll K H' xs es → Q (.ref p) H'
def Gn (K : PySem.W.Frag) (te : TE) (σ : L2.St) (H : Hp) (Z : PyData → Prop) : Prop := ∀ H1, Same H H1 → ∀ Q : VK, (∀ v H2 d, Z d → Same H1 H2 → Dp K H2 v d → Q v H2) → te σ H1 Q
def Gf (K : PySem.W.Frag) (te : TE) (σ : L2.St) (H : Hp) (Z : List PyData → Prop) : Prop := ∀ H1, Same H H1 → ∀ Q : VK, (∀ p H2 xs es, Z es → Same H1 H2 → H1 p = none → H2 p = some (.lst xs) → DpAll K H2 xs es → Q (.ref p) H2) → te σ H1 Q
section
variable {K : PySem.W.Frag} {σ : L2.St} {H H' : Hp} {te : TE} {ta : TA} {ds : List PyData} {E : XK} {Z Z' : List PyData → Prop} {Y Y' : PyData → Prop} {d : PyData}
theorem gn_d (h : Gd K te σ H d) (hy : Y d) : Gn K te σ H Y := fun H1 s Q q => h H1 s Q fun v H2 s2 d2 => q v H2 _ hy s2 d2
theorem gn_f (h : Gf K te σ H Z) (hy : ∀ es, Z es → Y (.list es)) : Gn K te σ H Y := fun H1 s Q q => h H1 s Q fun p H2 xs es z s2 _ h2 d2 => q _ H2 _ (hy es z) s2 (.lst (SqL.of h2) d2)
theorem gn_imp (h : Gn K te σ H Y') (hy : ∀ d, Y' d → Y d) : Gn K te σ H Y := fun H1 s Q q => h H1 s Q fun v H2 d z => q v H2 d (hy d z)
theorem gf_imp (h : Gf K te σ H Z') (hy : ∀ d, Z' d → Z d) : Gf K te σ H Z := fun H1 s Q q => h H1 s Q fun p H2 xs es z => q p H2 xs es (hy es z)
theorem gn_call {R : List PyData → (PyData → Prop) → Prop} (h : Ga K ta σ H ds) (hr : R ds Y) : Gn K (tCall (spN K R) [] E ta) σ H Y := fun H1 s Q q =>
  h H1 s _ fun vs H2 s2 dv => ⟨ds, Y, by rw [List.append_nil]; exact dv, hr, fun v H3 d y s3 d3 => q v H3 d y (s2.trans s3) d3⟩
theorem gf_call {R : List PyData → (List PyData → Prop) → Prop} (h : Ga K ta σ H ds) (hr : R ds Z) : Gf K (tCall (spF K R) [] E ta) σ H Z := fun H1 s Q q =>
  h H1 s _ fun vs H2 s2 dv => ⟨ds, Z, by rw [List.append_nil]; exact dv, hr, fun p H3 xs es z s3 n l d3 => q p H3 xs es z (s2.trans s3) (s2.free n) l d3⟩
theorem gf_lst {ta : TA} (h : Ga K ta σ H ds) (hl : ds.length ≤ 1000000) (hz : Z ds) : Gf K (tLst ta) σ H Z := fun H1 s Q q =>
  h H1 s _ fun vs H2 s2 dv => ⟨small_le (by rw [dps_len dv]; exact hl), fun p hp => q p _ vs ds hz (s2.trans (same_new hp)) (s2.free hp) upd_same (dps_mono (same_new hp) dv)⟩
end
/-! ### set, sorted -/
def sameMem (es ds : List PyData) : Prop := ∀ d, d ∈ es ↔ d ∈ ds
def rSet (K : PySem.W.Frag) (P : Program) (w : World) : List V → Hp → VK → Prop := fun xs H Q => (rSetI K P w xs H Q ∨ rSetS K P w xs H Q) ∨ rSetOfT K P w xs H Q
def rSo (K : PySem.W.Frag) (P : Program) (w : World) : List V → Hp → VK → Prop := fun xs H Q => (rSoI P w xs H Q ∨ rSoS P w xs H Q) ∨ (rSoT K P w xs H Q ∨ rSoL K xs H Q)
theorem cr_set {X : Cx} (hc : X.calm = true) (hu : X.A.units + 64 < cLine) : CallR X (.type "set") (rSet X.K X.prog X.w) := ((cr_setI hc).or (cr_setS hc)).or (cr_setOfT hc hu)
theorem cr_so {X : Cx} (hc : X.calm = true) (hu : X.A.units + 64 < cLine) : CallR X (.builtin "sorted") (rSo X.K X.prog X.w) := ((cr_soI hc hu).or (cr_soS hc hu)).or ((cr_soT hc hu).or (cr_soL hu))
def intsT (ns : List Int) : PyData := .tuple (ns.map PyData.int)
section
variable {K : PySem.W.Frag} {σ : L2.St} {H H' : Hp} {te : TE} {P : Program} {w : World}
theorem dps_tups : ∀ {vs : List V} {tss : List (List Int)}, DpAll K H vs (tss.map intsT) → ∃ ks : List (Addr × List Int), vs = ks.map (fun p => V.ref p.1) ∧ ks.map (·.2) = tss ∧ ∀ p ∈ ks, SqT K H p.1 (p.2.map V.int)
  | _, [], .nil => ⟨[], rfl, rfl, fun p hp => by cases hp⟩
  | _, ns :: r, .cons h t => by
    obtain ⟨a, xs, rfl, h1, h2⟩ := dp_tup (ds := ns.map PyData.int) h
    have e := dps_ints_eq h2
    subst e
    obtain ⟨ks, e1, e2, h3⟩ := dps_tups t
    refine ⟨(a, ns) :: ks, by rw [e1]; rfl, by rw [← e2]; rfl, fun p hp => ?_⟩
    rcases List.mem_cons.mp hp with e | hp
    · subst e
      exact h1
    · exact h3 p hp
theorem tups_dps : ∀ {ks : List (Addr × List Int)}, (∀ p ∈ ks, SqT K H p.1 (p.2.map V.int)) → DpAll K H (ks.map fun p => V.ref p.1) ((ks.map (·.2)).map intsT)
  | [], _ => .nil
  | p :: ks, h => .cons (.tup (h p List.mem_cons_self) (dps_ints p.2)) (tups_dps fun q hq => h q (List.mem_cons_of_mem _ hq))
theorem mem_ints {L ns : List Int} (h : ∀ j, j ∈ L ↔ j ∈ ns) : sameMem (L.map PyData.int) (ns.map PyData.int) := fun d => by
  constructor
  · intro m
    obtain ⟨x, hx, rfl⟩ := List.mem_map.mp m
    exact List.mem_map.mpr ⟨x, (h x).mp hx, rfl⟩
  · intro m
    obtain ⟨x, hx, rfl⟩ := List.mem_map.mp m
    exact List.mem_map.mpr ⟨x, (h x).mpr hx, rfl⟩
theorem gf_setI {ns : List Int} (h : Gd K te σ H (.list (ns.map PyData.int))) (hl : ns.length < 4000) : Gf K (tCB (rSo K P w) (tCons (tCB (rSet K P w) (tCons te tNil)) tNil)) σ H (fun es => ∃ L : List Int, es = L.map PyData.int ∧ ∀ j, j ∈ L ↔ j ∈ ns) := fun H1 s Q q =>
  h H1 s _ fun v H2 s2 dv => by
    obtain ⟨a, xs, rfl, h1, h2⟩ := dp_list dv
    have e := dps_ints_eq h2
    subst e
    refine .inl (.inl ⟨a, ns, rfl, h1, by omega, fun b L hb nd mem => ?_⟩)
    have len : L.length ≤ ns.length := nodup_len L ns nd fun x hx => (mem x).mp hx
    refine .inl (.inl ⟨b, L, rfl, upd_same, by omega, fun p L' hp pm => ?_⟩)
    have s3 : Same H2 (upd (upd H2 b (SetI P w b L)) p (.lst (L'.map V.int))) := (same_new hb).trans (same_new hp)
    exact q p _ _ _ ⟨L', rfl, fun j => (pm.mem_iff).trans (mem j)⟩ (s2.trans s3) ((s2.trans (same_new hb)).free hp) upd_same (dps_ints L')
theorem gf_setS {ns : List Str} (h : Gd K te σ H (.list (ns.map PyData.str))) (hl : ns.length < 4000) : Gf K (tCB (rSo K P w) (tCons (tCB (rSet K P w) (tCons te tNil)) tNil)) σ H (fun es => ∃ L : List Str, es = L.map PyData.str ∧ (∀ j, j ∈ L ↔ j ∈ ns) ∧ L.length ≤ ns.length) := fun H1 s Q q =>
  h H1 s _ fun v H2 s2 dv => by
    obtain ⟨a, xs, rfl, h1, h2⟩ := dp_list dv
    have e := dps_strs_eq h2
    subst e
    refine .inl (.inr ⟨a, ns, rfl, h1, by omega, fun b L hb nd mem => ?_⟩)
    have len : L.length ≤ ns.length := nodup_len L ns nd fun x hx => (mem x).mp hx
    refine .inl (.inr ⟨b, L, rfl, upd_same, by omega, fun p L' hp pm => ?_⟩)
    have s3 : Same H2 (upd (upd H2 b (SetS P w b L)) p (.lst (L'.map V.str))) := (same_new hb).trans (same_new hp)
    exact q p _ _ _ ⟨L', rfl, fun j => (pm.mem_iff).trans (mem j), by rw [pm.length_eq]; exact len⟩ (s2.trans s3) ((s2.trans (same_new hb)).free hp) upd_same (dps_strs L')
theorem gf_setT {tss : List (List Int)} (h : Gd K te σ H (.list (tss.map intsT))) (hl : tss.length < 64) (hne : ∀ ns ∈ tss, ns ≠ []) : Gf K (tCB (rSo K P w) (tCons (tCB (rSet K P w) (tCons te tNil)) tNil)) σ H (fun es => ∃ L : List (List Int), es = L.map intsT ∧ (∀ j, j ∈ L ↔ j ∈ tss) ∧ L.length < 64) := fun H1 s Q q =>
  h H1 s _ fun v H2 s2 dv => by
    obtain ⟨a, xs, rfl, h1, h2⟩ := dp_list dv
    obtain ⟨ks, rfl, rfl, h3⟩ := dps_tups h2
    refine .inr ⟨a, ks, rfl, h1, h3, by rw [List.length_map] at hl; exact hl, fun b L hb sub all => ?_⟩
    have s2' : Same H2 (upd H2 b (SetTO P w b L)) := same_new hb
    refine .inr (.inl ⟨b, L, rfl, upd_same, fun p hp => same_sqT s2' (h3 p (sub p hp)), fun p hp => hne _ (List.mem_map.mpr ⟨p, sub p hp, rfl⟩), fun p L' hp pm few => ?_⟩)
    have s3 : Same H2 (upd (upd H2 b (SetTO P w b L)) p (.lst (L'.map fun q => V.ref q.1))) := s2'.trans (same_new hp)
    refine q p _ _ _ ⟨L'.map (·.2), rfl, fun j => ⟨fun m => ?_, fun m => ?_⟩, by rw [List.length_map, pm.length_eq]; exact few⟩ (s2.trans s3) ((s2.trans s2').free hp) upd_same (tups_dps fun r hr => same_sqT s3 (h3 r (sub r (pm.mem_iff.mp hr))))
    · obtain ⟨r, hr, rfl⟩ := List.mem_map.mp m
      exact List.mem_map.mpr ⟨r, sub r (pm.mem_iff.mp hr), rfl⟩
    · obtain ⟨r, hr, rfl⟩ := List.mem_map.mp m
      obtain ⟨r', hr', e⟩ := List.mem_map.mp (all r hr)
      exact List.mem_map.mpr ⟨r', pm.mem_iff.mpr hr', e⟩
/-- sorted of a list of tuples: in some order, each as often -/
theorem gf_soL {tss : List (List Int)} (h : Gd K te σ H (.list (tss.map intsT))) (hne : ∀ ns ∈ tss, ns ≠ []) : Gf K (tCB (rSo K P w) (tCons te tNil)) σ H (fun es => ∃ L : List (List Int), es = L.map intsT ∧ L.Perm tss) := fun H1 s Q q =>
  h H1 s _ fun v H2 s2 dv => by
    obtain ⟨a, xs, rfl, h1, h2⟩ := dp_list dv
    obtain ⟨ks, rfl, rfl, h3⟩ := dps_tups h2
    refine .inr (.inr ⟨a, ks, rfl, h1, h3, fun p hp => hne _ (List.mem_map.mpr ⟨p, hp, rfl⟩), fun p L' hp pm => ?_⟩)
    have s3 : Same H2 (upd H2 p (.lst (L'.map fun q => V.ref q.1))) := same_new hp
    exact q p _ _ _ ⟨L'.map (·.2), rfl, pm.map _⟩ (s2.trans s3) (s2.free hp) upd_same (tups_dps fun r hr => same_sqT s3 (h3 r (pm.mem_iff.mp hr)))
end
/-! ### the rules of the defs -/
theorem kn_F {P : Program} {w : World} {K : PySem.W.Frag} {mg : Str → Option Value} {base : Heap} {x : Str} {st : Stmt} {N ps : List Str} {k : Nat} {R : List PyData → (List PyData → Prop) → Prop} (D : Dn K mg x st) (S : FnScope N ps (defScope st))
    (hb : ∀ (kV doc pm : Value) (an : Option Addr) (cdv ct : Value) (us : List Value), us.length = ps.length → bindArgs (PySem.W.fnOf x x (defArgs st) (defBody st) (defScope st) .none kV doc pm an cdv ct) ⟨us, []⟩ = pure (ps.zip us))
    (len : ∀ ds d, R ds d → ds.length = ps.length)
    (hbody : ∀ (f : Addr) (cdv : Value) (A : Around) (outer : List Env) (s : Shared) (H : Hp) (vs : List V) (E : XK) (ds : List PyData) (Z : List PyData → Prop), Room k (A.deeper (envOfC x (defScope st) s.heap.objs.size f cdv)) → DpAll K H vs ds → R ds Z →
      ∃ t, PSs (cxOf CX0 P w K mg base N x (defScope st) f cdv A outer s H E).nox (defBody st) t ∧ ∀ Q : VK, (∀ p H' xs es, Z es → Same H H' → H p = none → H' p = some (.lst xs) → DpAll K H' xs es → Q (.ref p) H') → t { nx := fun _ H' => Q .non H', rt := Q } (start N vs) H) : Kn P w K mg base (k + 1) x ps (spF K R) :=
  kn_mk D S hb (fun vs H Q E h => by
    obtain ⟨ds, d, h1, h2, _⟩ := h
    rw [dps_len h1]
    exact len ds d h2) fun f cdv A outer s H vs Q E hr h => by
    obtain ⟨ds, d, h1, h2, h3⟩ := h
    obtain ⟨t, a, b⟩ := hbody f cdv A outer s H vs E ds d hr h1 h2
    exact ⟨t, a, b Q h3⟩
theorem kn_N {P : Program} {w : World} {K : PySem.W.Frag} {mg : Str → Option Value} {base : Heap} {x : Str} {st : Stmt} {N ps : List Str} {k : Nat} {R : List PyData → (PyData → Prop) → Prop} (D : Dn K mg x st) (S : FnScope N ps (defScope st))
    (hb : ∀ (kV doc pm : Value) (an : Option Addr) (cdv ct : Value) (us : List Value), us.length = ps.length → bindArgs (PySem.W.fnOf x x (defArgs st) (defBody st) (defScope st) .none kV doc pm an cdv ct) ⟨us, []⟩ = pure (ps.zip us))
    (len : ∀ ds d, R ds d → ds.length = ps.length)
    (hbody : ∀ (f : Addr) (cdv : Value) (A : Around) (outer : List Env) (s : Shared) (H : Hp) (vs : List V) (E : XK) (ds : List PyData) (Z : PyData → Prop), Room k (A.deeper (envOfC x (defScope st) s.heap.objs.size f cdv)) → DpAll K H vs ds → R ds Z →
      ∃ t, PSs (cxOf CX0 P w K mg base N x (defScope st) f cdv A outer s H E).nox (defBody st) t ∧ ∀ Q : VK, (∀ v H' d, Z d → Same H H' → Dp K H' v d → Q v H') → t { nx := fun _ H' => Q .non H', rt := Q } (start N vs) H) : Kn P w K mg base (k + 1) x ps (spN K R) :=
  kn_mk D S hb (fun vs H Q E h => by
    obtain ⟨ds, d, h1, h2, _⟩ := h
    rw [dps_len h1]
    exact len ds d h2) fun f cdv A outer s H vs Q E hr h => by
    obtain ⟨ds, d, h1, h2, h3⟩ := h
    obtain ⟨t, a, b⟩ := hbody f cdv A outer s H vs E ds d hr h1 h2
    exact ⟨t, a, b Q h3⟩
/-! ### statements -/
section
variable {K : PySem.W.Frag} {σ : L2.St} {H : Hp} {te tl : TE} {D : Ends} {u tb : TS} {Z : List PyData → Prop} {Y : PyData → Prop} {j : Nat}
theorem l_retF (h : Gf K te σ H Z) (k : ∀ p H2 xs es, Z es → Same H H2 → H p = none → H2 p = some (.lst xs) → DpAll K H2 xs es → D.rt (.ref p) H2) : tRet te D σ H := h H (Same.refl _) _ k
theorem q_retF (h : Gf K te σ H Z) (k : ∀ p H2 xs es, Z es → Same H H2 → H p = none → H2 p = some (.lst xs) → DpAll K H2 xs es → D.rt (.ref p) H2) : tSeq (tRet te) u D σ H := h H (Same.refl _) _ k
theorem l_retN (h : Gn K te σ H Y) (k : ∀ v H2 d, Y d → Same H H2 → Dp K H2 v d → D.rt v H2) : tRet te D σ H := h H (Same.refl _) _ k
theorem q_asgF (h : Gf K te σ H Z) (k : ∀ p H2 xs es, Z es → Same H H2 → H p = none → H2 p = some (.lst xs) → DpAll K H2 xs es → u D (σ.set j (some (.ref p))) H2) : tSeq (tAsg te (gName j)) u D σ H := h H (Same.refl _) _ k
theorem q_asgN (h : Gn K te σ H Y) (k : ∀ v H2 d, Y d → Same H H2 → Dp K H2 v d → u D (σ.set j (some v)) H2) : tSeq (tAsg te (gName j)) u D σ H := h H (Same.refl _) _ k
/-- x.append(e) -/
theorem gd_append {to : Nat} {p : Addr} {xs : List V} {d : PyData} (hx : σ[to]? = some (some (.ref p))) (h : Gd K te σ H d) (hl : xs.length ≤ 1000000) (hp : H p = some (.lst xs)) {Q : VK}
    (k : ∀ v H2, Same H H2 → Dp K H2 v d → Q .non (upd H2 p (.lst (xs ++ [v])))) : tBM K "list" rAppend (tVar to) (tCons te tNil) σ H Q :=
  ⟨_, hx, .inl ⟨rfl, xs, SqL.of hp⟩, h H (Same.refl _) _ fun v H2 s2 dv => ⟨p, xs, v, rfl, rfl, s2 _ _ hp, small_lt hl, k v H2 s2 dv⟩⟩
end
/-! ### a list that is filled, a loop over a variable's list -/
section
variable {K : PySem.W.Frag} {σ : L2.St} {H H0 : Hp} {te : TE} {D : Ends} {u tb : TS} {j n : Nat} {ds es : List PyData} {d : PyData} {p : Addr} {xs : List V} {v : V}
theorem q_app (hx : σ[n]? = some (some (.ref p))) (h : Gd K te σ H d) (hp : H p = some (.lst xs)) (h0 : H0 p = none) (s : Same H0 H) (he : DpAll K H xs es) (hl : es.length ≤ 1000000) (hn : nolAll es = true) (hd : nol d = true)
    (k : ∀ v H3, Same H0 H3 → H3 p = some (.lst (xs ++ [v])) → DpAll K H3 (xs ++ [v]) (es ++ [d]) → u D σ H3) : tSeq (tDrop (tBM K "list" rAppend (tVar n) (tCons te tNil))) u D σ H :=
  gd_append hx h (by rw [dps_len he]; exact hl) hp fun v H2 s2 dv => by
    obtain ⟨t1, t2, t3⟩ := lc_turn h0 (s.trans s2) (s2 _ _ hp) (dps_mono s2 he) hn dv hd
    exact k v _ t1 t2 t3
theorem l_app (hx : σ[n]? = some (some (.ref p))) (h : Gd K te σ H d) (hp : H p = some (.lst xs)) (h0 : H0 p = none) (s : Same H0 H) (he : DpAll K H xs es) (hl : es.length ≤ 1000000) (hn : nolAll es = true) (hd : nol d = true)
    (k : ∀ v H3, Same H0 H3 → H3 p = some (.lst (xs ++ [v])) → DpAll K H3 (xs ++ [v]) (es ++ [d]) → D.nx σ H3) : tDrop (tBM K "list" rAppend (tVar n) (tCons te tNil)) D σ H :=
  q_app (u := fun D => D.nx) hx h hp h0 s he hl hn hd k
theorem q_forV (Pv : Nat → L2.St → Hp → Prop) (hv : σ[n]? = some (some v)) (hd : Dp K H0 v (.list ds)) (s0 : Same H0 H) (p0 : Pv 0 σ H) (pl : ∀ i σ' H', Pv i σ' H' → Same H0 H')
    (pt : ∀ i d v σ' H', ds[i]? = some d → Pv i σ' H' → Dp K H' v d → tb { D with nx := Pv (i + 1), ct := Pv (i + 1), bk := u D } (σ'.set j (some v)) H') (pe : ∀ σ' H', Pv ds.length σ' H' → u D σ' H') :
    tSeq (tFor (iList K (tVar n)) (gName j) tb) u D σ H := by
  obtain ⟨a, xs, rfl, h1, h2⟩ := dp_list hd
  refine ⟨_, hv, a, rfl, ⟨xs, s0.seq h1⟩, for_list (K := K) (a := a) (xs := xs) Pv p0 (fun i σ' H' _ p => (pl i σ' H' p).seq h1) (fun i x σ' H' hx p => ?_) fun σ' H' p => pe σ' H' (by rw [← dps_len h2]; exact p)⟩
  obtain ⟨d, e, q⟩ := dps_get' h2 hx
  exact pt i d x σ' H' e p (dp_mono (pl i σ' H' p) q)
/-- the loop is the last statement -/
theorem l_forV (Pv : Nat → L2.St → Hp → Prop) (hv : σ[n]? = some (some v)) (hd : Dp K H0 v (.list ds)) (s0 : Same H0 H) (p0 : Pv 0 σ H) (pl : ∀ i σ' H', Pv i σ' H' → Same H0 H')
    (pt : ∀ i d v σ' H', ds[i]? = some d → Pv i σ' H' → Dp K H' v d → tb { D with nx := Pv (i + 1), ct := Pv (i + 1), bk := D.nx } (σ'.set j (some v)) H') (pe : ∀ σ' H', Pv ds.length σ' H' → D.nx σ' H') :
    tFor (iList K (tVar n)) (gName j) tb D σ H := q_forV (u := fun D => D.nx) Pv hv hd s0 p0 pl pt pe
end
end Uw
/-! text T6 -/
namespace Uw
open PySem PySem.Spec PyProof.Rows L2
/-! begun_by_open -/
def isSgl : Tok → Bool
  | .sgl _ => true
  | _ => false
theorem enc_inj {a b : Tok} (h : a.enc = b.enc) : a = b := by
  have h2 : a.ns.map natD = b.ns.map natD := by
    injection h
  have f : ∀ x y : List Nat, x.map natD = y.map natD → x = y := by
    intro x
    induction x with
    | nil => intro y h; cases y with
      | nil => rfl
      | cons _ _ => cases h
    | cons n x ih =>
      intro y h
      cases y with
      | nil => cases h
      | cons m y =>
        injection h with h1 h2
        injection h1 with h1
        rw [ih y h2, Int.ofNat.inj h1]
  have h3 := f _ _ h2
  cases a <;> cases b <;> simp [Tok.ns] at h3 ⊢ <;> exact h3
def Tok.is (t : Tok) : List Int := t.ns.map Int.ofNat
theorem enc_is (t : Tok) : t.enc = intsT t.is := by
  unfold Tok.enc intsT Tok.is
  rw [List.map_map]
  rfl
theorem encs_is (ts : List Tok) : ts.map Tok.enc = (ts.map Tok.is).map intsT := by
  rw [List.map_map]
  exact List.map_congr_left fun t _ => enc_is t
theorem is_ne (t : Tok) : t.is ≠ [] := by cases t <;> exact fun z => (List.cons_ne_nil _ _ z)
theorem is_inj {a b : Tok} (h : a.is = b.is) : a = b := enc_inj (by rw [enc_is, enc_is, h])
/-- lists of tokens' ints with the same members -/
theorem toks_of {L : List (List Int)} {ts : List Tok} (h : ∀ j, j ∈ L ↔ j ∈ ts.map Tok.is) : ∃ us : List Tok, L.map intsT = us.map Tok.enc ∧ (∀ t, t ∈ us ↔ t ∈ ts) ∧ us.length = L.length := by
  have step : ∀ L : List (List Int), (∀ j ∈ L, j ∈ ts.map Tok.is) → ∃ us : List Tok, L = us.map Tok.is := by
    intro L
    induction L with
    | nil => intro _; exact ⟨[], rfl⟩
    | cons j L ih =>
      intro h
      obtain ⟨us, e⟩ := ih fun i hi => h i (List.mem_cons_of_mem _ hi)
      obtain ⟨t, _, e2⟩ := List.mem_map.mp (h j List.mem_cons_self)
      exact ⟨t :: us, by rw [List.map_cons, e, e2]⟩
  obtain ⟨us, e⟩ := step L fun j hj => (h j).mp hj
  refine ⟨us, by rw [e, ← encs_is], fun t => ⟨fun m => ?_, fun m => ?_⟩, by rw [e, List.length_map]⟩
  · have z := (h t.is).mp (by rw [e]; exact List.mem_map.mpr ⟨t, m, rfl⟩)
    obtain ⟨t', ht, e'⟩ := List.mem_map.mp z
    rw [← is_inj e']
    exact ht
  · have z := (h t.is).mpr (List.mem_map.mpr ⟨t, m, rfl⟩)
    rw [e] at z
    obtain ⟨t', ht, e'⟩ := List.mem_map.mp z
    rw [← is_inj e']
    exact ht
theorem begun_one {r : Rule} {l : Int} {s : Nat} (e : r.sides = 1) : ∀ ts : List Tok, begun r (.opn l s) ts = beg0 r (.opn l s) := by
  intro ts
  unfold begun
  rw [show ts.flatMap (begT r (.opn l s)) = [] from List.flatMap_eq_nil_iff.mpr fun t _ => ?_, List.append_nil]
  cases t <;> simp [begT, e]
theorem begun_two {r : Rule} {l : Int} {s : Nat} (e : r.sides = 2) (ts : List Tok) : begun r (.opn l s) ts = [.sgl (2 ^ s)] ++ ts.flatMap (begT r (.opn l s)) := by
  have z : beg0 r (.opn l s) = [.sgl (2 ^ s)] := if_neg (by omega)
  unfold begun
  rw [z]
theorem take_fm {α β : Type} {f : α → List β} {l : List α} {i : Nat} {x : α} (h : l[i]? = some x) : (l.take (i + 1)).flatMap f = (l.take i).flatMap f ++ f x := by
  rw [List.take_add_one, h, List.flatMap_append]
  simp
theorem toks_nol (ts : List Tok) : nolAll (ts.map Tok.enc) = true := nolAll_of fun d hd => by
  obtain ⟨t, _, rfl⟩ := List.mem_map.mp hd
  cases t <;> rfl
def Pbo (K : PySem.W.Frag) (H2 : Hp) (v1 v2 v3 : V) (p : Addr) (r : Rule) (l : Int) (s : Nat) (ts : List Tok) (i : Nat) (σ' : L2.St) (H' : Hp) : Prop :=
  Same H2 H' ∧ (∃ o1 o2, σ' = [some v1, some v2, some v3, some (V.int (2 ^ s : Nat)), none, some (.ref p), o1, o2]) ∧ ∃ (xs : List V) (us : List Tok), H' p = some (.lst xs) ∧ DpAll K H' xs (us.map Tok.enc) ∧
      us.length ≤ 1 + 2 * ((ts.take i).filter isSgl).length ∧ ∀ t, t ∈ us ↔ t ∈ begun r (.opn l s) (ts.take i)
section
variable {P : Program} {w : World} {K : PySem.W.Frag} {mg : Str → Option Value} {base : Heap}
def R_begun_by_open (ds : List PyData) (Z : List PyData → Prop) : Prop := ∃ (r : Rule) (L : Lim) (s : Nat) (ts : List Tok) (l : Int), r.Ok L.R ∧ r.sides = L.sides ∧ s < L.S ∧ L.S ≤ 60 ∧ (∀ t ∈ ts, t.Ok L) ∧ (ts.filter isSgl).length ≤ 31 ∧ ts.length ≤ 100000 ∧
  ds = [r.enc, .int s, .list (ts.map Tok.enc)] ∧ Z = fun es => ∃ us : List Tok, es = us.map Tok.enc ∧ (∀ t, t ∈ us ↔ t ∈ begun r (.opn l s) ts) ∧ us.length ≤ 64
theorem sc_begun_by_open : FnScope ["rule", "slot", "tokens", "new", "room", "found", "token", "old"] ["rule", "slot", "tokens"] (defScope (top 13)) := ⟨rfl, rfl, rfl, by decide +kernel, rfl, by decide +kernel, by decide +kernel⟩
theorem kn_begun_by_open (T : Tx K mg) : Kn P w K mg base 5 "begun_by_open" ["rule", "slot", "tokens"] (spF K R_begun_by_open) := by
  have Kwith_slot := kn_with_slot (P := P) (w := w) (base := base) T
  have Kwithout_slot := kn_without_slot (P := P) (w := w) (base := base) T
  have Knext_room := kn_next_room (P := P) (w := w) (base := base) T
  refine kn_F (T.fn (("begun_by_open" : Str), 13) (by decide +kernel)) sc_begun_by_open (fun _ _ _ _ _ _ us hl => match us, hl with | [_, _, _], _ => rfl) (fun ds d h => ?_) (fun f cdv A outer s H vs E ds Z hr hv h => ?_)
  · obtain ⟨_, _, _, _, _, _, _, _, _, _, _, _, rfl, _⟩ := h
    rfl
  obtain ⟨r, L, s, ts, l, ok, hs, hsl, hS, hts, hf, hn, rfl, rfl⟩ := h
  obtain _ | ⟨h1, _ | ⟨h2, _ | ⟨h3, _ | _⟩⟩⟩ := hv
  rename_i v1 v2 v3
  have h1' : Dp K H v1 (.tuple [.int r.sides, .list (r.texts.map PyData.str), .list (r.rooms.map fun m => .list (m.map encO))]) := h1
  refine ⟨_, (pss_cons (ps_set (i := 3) sc_begun_by_open.nd rfl (Or.inl rfl) (pe_kn Kwith_slot (hr.mono (by decide)) rfl (pa_cons (pe_int) (pa_cons (pv 1) (pa_nil))))) (pss_cons (ps_if (pt_cmpR op_eq (pe_ix ix_seq (pv 0) (pe_int) (fun _ _ => rfl)) (pe_int) (nomark _)) (pss_cons (ps_set (i := 4) sc_begun_by_open.nd rfl (Or.inl rfl) (pe_kn Knext_room (hr.mono (by decide)) rfl (pa_cons (pv 0) (pa_cons (pe_int) (pa_cons (pe_str) (pa_nil)))))) (pss_cons (ps_if (pt_cmpR op_isNon (pv 4) (pe_non) (nomark _)) (pss_one (ps_ret (pe_lst (pa_nil)))) (pss_nil)) (pss_one (ps_ret (pe_lst (pa_cons (pe_tup (pa_cons (pv 3) (pa_cons (pv 4) (pa_nil)))) (pa_nil))))))) (pss_nil)) (pss_cons (ps_set (i := 5) sc_begun_by_open.nd rfl (Or.inl rfl) (pe_lst (pa_cons (pe_tup (pa_cons (pv 3) (pa_nil))) (pa_nil)))) (pss_cons (ps_for PassesOwn.never rfl (pi_list (pv 2)) (pg_name (i := 6) sc_begun_by_open.nd rfl (.inl rfl)) (pss_one (ps_if (pt_cmpR op_eq (pe_callB call_ln (by rfl) (T.free "len" (by decide)) PySem.boot_len (pa_cons (pv 6) (pa_nil))) (pe_int) (nomark _)) (pss_cons (ps_set (i := 7) sc_begun_by_open.nd rfl (Or.inl rfl) (pe_kn Kwithout_slot (hr.mono (by decide)) rfl (pa_cons (pe_ix ix_seq (pv 6) (pe_int) (fun _ _ => rfl)) (pa_cons (pv 1) (pa_nil))))) (pss_cons (ps_expr (pe_bm PySem.F.plainAttrs_list PySem.F.slot_list_append PySem.F.type_list_append mt_append (pv 5) (pa_cons (pe_tup (pa_cons (pv 7) (pa_cons (pv 3) (pa_cons (pe_int) (pa_nil))))) (pa_nil)))) (pss_one (ps_expr (pe_bm PySem.F.plainAttrs_list PySem.F.slot_list_append PySem.F.type_list_append mt_append (pv 5) (pa_cons (pe_tup (pa_cons (pv 3) (pa_cons (pv 7) (pa_cons (pe_int) (pa_nil))))) (pa_nil))))))) (pss_nil)))) (pss_one (ps_ret (pe_callB (cr_so rfl hr.units) (by rfl) (T.free "sorted" (by decide)) (by decide +kernel) (pa_cons (pe_callTy (cr_set rfl hr.units) (by rfl) (T.free "set" (by decide)) (by decide +kernel) (pa_cons (pv 5) (pa_nil))) (pa_nil))))))))), fun Q q => ?_⟩
  have e0 : wit 0 s = 2 ^ s := Nat.zero_or _
  refine q_asg (K := K) (d := .int (2 ^ s : Nat)) (gd_call (ds := [.int 0, .int s]) (by walk_at "ga") ⟨0, s, by omega, rfl, by rw [e0]⟩) fun v4 H1 s1 d4 => ?_
  have e4 := dp_int d4
  subst e4
  have pos := ok.pos
  rcases ok.sides with e | e
  · rw [e] at h1'
    refine q_yes (by walk_at "tagT") fun H2 s2 => ?_
    refine q_asg (K := K) (d := encO (r.next 0 "open")) (gd_call (ds := [r.enc, .int 0, .str "open"]) (by walk_at "ga") ⟨r, L.R, 0, "open", ok, pos, rfl, rfl⟩) fun v5 H3 s3 d5 => ?_
    cases hq : r.next 0 "open" with
    | none =>
      rw [hq] at d5
      refine q_yes (by walk_at "tagT") fun H4 s4 => ?_
      refine l_retF (K := K) (gf_lst (Z := fun es => es = []) ga_nil (Nat.zero_le _) rfl) fun p H5 xs es z s5 n5 l5 d5 => q p H5 xs es ⟨[], z, fun t => ?_, Nat.zero_le _⟩ (by walk_at "same") (Same.free (by walk_at "same") n5) l5 d5
      rw [begun_one e ts, beg0, if_pos e, hq]
    | some k =>
      rw [hq] at d5
      have e5 := dp_int d5
      subst e5
      refine q_no (by walk_at "tagF") fun H4 s4 => ?_
      refine l_retF (K := K) (gf_lst (Z := fun es => es = [(Tok.one (2 ^ s) k).enc]) (ga_cons (d := (Tok.one (2 ^ s) k).enc) (gd_tup (ga_cons (gd_var rfl (.int _)) (ga_cons (gd_var rfl (.int _)) ga_nil)) (Nat.le_of_ble_eq_true rfl)) ga_nil) (Nat.le_of_ble_eq_true rfl) rfl) fun p H5 xs es z s5 n5 l5 d5 => q p H5 xs es ⟨[.one (2 ^ s) k], z, fun t => ?_, Nat.le_of_ble_eq_true rfl⟩ (by walk_at "same") (Same.free (by walk_at "same") n5) l5 d5
      rw [begun_one e ts, beg0, if_pos e, hq]
  · rw [e] at h1'
    refine q_no (by walk_at "tagF") fun H2 s2 => ?_
    refine q_asgF (K := K) (gf_lst (Z := fun es => es = [(Tok.sgl (2 ^ s)).enc]) (ga_cons (d := (Tok.sgl (2 ^ s)).enc) (gd_tup (ga_cons (gd_var rfl (.int _)) ga_nil) (Nat.le_of_ble_eq_true rfl)) ga_nil) (Nat.le_of_ble_eq_true rfl) rfl) fun p H3 xs es z s3 n3 l3 d3 => ?_
    subst z
    refine q_forV (K := K) (H0 := H2) (ds := ts.map Tok.enc) (v := v3) (Pbo K H2 v1 v2 v3 p r l s ts) rfl (by walk_at "dp") s3 ?_ (fun i σ' H' p => p.1) (fun i d v σ' H' hd hP dv => ?_) fun σ' H' hP => ?_
    · refine ⟨s3, ⟨none, none, rfl⟩, xs, [.sgl (2 ^ s)], l3, d3, by rw [List.take_zero]; exact Nat.le_of_ble_eq_true rfl, fun t => ?_⟩
      rw [List.take_zero, begun_two e, List.flatMap_nil, List.append_nil]
    · obtain ⟨t, ht, rfl⟩ := dps_of hd
      obtain ⟨sm, ⟨o1, o2, rfl⟩, xs, us, hp, hxs, hus, hm⟩ := hP
      have hn0 : H2 p = none := n3
      have hlen : us.length ≤ 999000 := by
        have z : ((ts.take i).filter isSgl).length ≤ ts.length := Nat.le_trans (List.length_filter_le _ _) (by rw [List.length_take]; omega)
        omega
      have hc1 : ((ts.take (i + 1)).filter isSgl).length = ((ts.take i).filter isSgl).length + ([t].filter isSgl).length := by
        rw [List.take_add_one, ht, List.filter_append, List.length_append]
        rfl
      have keep : begT r (.opn l s) t = [] → ∀ H'', Same H' H'' → Pbo K H2 v1 v2 v3 p r l s ts (i + 1) [some v1, some v2, some v3, some (V.int (2 ^ s : Nat)), none, some (V.ref p), some v, o2] H'' := fun e1 H'' s' => by
        refine ⟨sm.trans s', ⟨_, _, rfl⟩, xs, us, s' _ _ hp, dps_mono s' hxs, by rw [hc1]; omega, fun u => ?_⟩
        rw [hm u, begun_two e, begun_two e, take_fm ht, e1, List.append_nil]
      cases t with
      | one m k => exact l_no (by walk_at "tagF") fun H6 s6 => keep rfl H6 s6
      | par a b o => exact l_no (by walk_at "tagF") fun H6 s6 => keep rfl H6 s6
      | tyd a b o k => exact l_no (by walk_at "tagF") fun H6 s6 => keep rfl H6 s6
      | sgl m =>
        have dv' : Dp K H' v (.tuple [.int m]) := dv
        refine l_yes (by walk_at "tagT") fun H6 s6 => ?_
        refine q_asg (K := K) (d := .int (wout m s : Nat)) (gd_call (ds := [.int m, .int s]) (by walk_at "ga") ⟨m, s, by omega, rfl, rfl⟩) fun v7 H7 s7 d7 => ?_
        have e7 := dp_int d7
        subst e7
        have g1 : ∀ {σ : L2.St} {H : Hp}, σ[3]? = some (some (V.int (2 ^ s : Nat))) → σ[7]? = some (some (V.int (wout m s : Nat))) → Gd K (tTup (tCons (tVar 7) (tCons (tVar 3) (tCons (tC (.int 1)) tNil)))) σ H (Tok.par (wout m s) (2 ^ s) 1).enc := fun h1 h2 =>
          gd_tup (ga_cons (gd_var h2 (.int _)) (ga_cons (gd_var h1 (.int _)) (ga_cons gd_int ga_nil))) (Nat.le_of_ble_eq_true rfl)
        have g2 : ∀ {σ : L2.St} {H : Hp}, σ[3]? = some (some (V.int (2 ^ s : Nat))) → σ[7]? = some (some (V.int (wout m s : Nat))) → Gd K (tTup (tCons (tVar 3) (tCons (tVar 7) (tCons (tC (.int 2)) tNil)))) σ H (Tok.par (2 ^ s) (wout m s) 2).enc := fun h1 h2 =>
          gd_tup (ga_cons (gd_var h1 (.int _)) (ga_cons (gd_var h2 (.int _)) (ga_cons gd_int ga_nil))) (Nat.le_of_ble_eq_true rfl)
        have s67 := s6.trans s7
        refine q_app (K := K) (H0 := H2) rfl (g1 rfl rfl) (s67 _ _ hp) hn0 (sm.trans s67) (dps_mono s67 hxs) (by rw [List.length_map]; omega) (toks_nol us) rfl fun v8 H8 s8 p8 d8 => ?_
        refine l_app (K := K) (H0 := H2) rfl (g2 rfl rfl) p8 hn0 s8 d8 (by rw [List.length_append, List.length_map]; exact Nat.le_trans (Nat.add_le_add_right hlen 1) (Nat.le_of_ble_eq_true rfl)) (toks_nol (us ++ [Tok.par (wout m s) (2 ^ s) 1]) ▸ by rw [List.map_append]; rfl) rfl fun v9 H9 s9 p9 d9 => ?_
        refine ⟨s9, ⟨_, _, rfl⟩, _, us ++ [.par (wout m s) (2 ^ s) 1, .par (2 ^ s) (wout m s) 2], p9, by rw [List.map_append]; simpa using d9, ?_, fun u => ?_⟩
        · rw [hc1, List.length_append]
          show us.length + 2 ≤ 1 + 2 * (_ + 1)
          omega
        · have zb : begT r (.opn l s) (.sgl m) = [.par (wout m s) (2 ^ s) 1, .par (2 ^ s) (wout m s) 2] := if_pos e
          rw [List.mem_append, hm u, begun_two e, begun_two e, take_fm ht, zb, List.mem_append, List.mem_append, List.mem_append, or_assoc]
    · obtain ⟨sm, ⟨o1, o2, rfl⟩, xs, us, hp, hxs, hus, hm⟩ := hP
      rw [List.length_map, List.take_length] at hus hm
      refine l_retF (K := K) (gf_setT (tss := us.map Tok.is) (by rw [← encs_is]; exact gd_var rfl (.lst (SqL.of hp) hxs)) (by rw [List.length_map]; omega) fun ns hns => ?_) fun p' H8 xs' es z s8 n8 l8 d8 => ?_
      · obtain ⟨t, _, rfl⟩ := List.mem_map.mp hns
        exact is_ne t
      · obtain ⟨M, rfl, hM, hfew⟩ := z
        obtain ⟨us', eu, hu', hl'⟩ := toks_of hM
        refine q p' H8 xs' _ ⟨us', eu, fun t => (hu' t).trans (hm t), by omega⟩ (by walk_at "same") (Same.free (by walk_at "same") n8) l8 d8
end
end Uw
/-! text T7 -/
namespace Uw
open PySem PySem.Spec PyProof.Rows L2
/-! begun_by_tie, begins_at -/
def tieHit (s t : Nat) : Tok → Bool
  | .par a b _ => a.testBit s && b.testBit t
  | _ => false
theorem tie_beg {r : Rule} {l : Int} {s t : Nat} (e : r.sides = 2) (u : Tok) : begT r (.tie l s t) u = if tieHit s t u then (match u with
    | .par a b o => [.tyd a b o 0]
    | _ => []) else [] := by
  cases u <;> simp [begT, tieHit, e]
def Pbt (K : PySem.W.Frag) (H2 : Hp) (v1 v2 : V) (p : Addr) (r : Rule) (l : Int) (s t : Nat) (ts : List Tok) (i : Nat) (σ' : L2.St) (H' : Hp) : Prop :=
  Same H2 H' ∧ (∃ o1, σ' = [some v1, some v2, some (.ref p), o1]) ∧ ∃ (xs : List V) (us : List Tok), H' p = some (.lst xs) ∧ DpAll K H' xs (us.map Tok.enc) ∧
      us.length ≤ ((ts.take i).filter (tieHit s t)).length ∧ ∀ u, u ∈ us ↔ u ∈ (ts.take i).flatMap (begT r (.tie l s t))
section
variable {P : Program} {w : World} {K : PySem.W.Frag} {mg : Str → Option Value} {base : Heap}
def R_begun_by_tie (ds : List PyData) (Z : List PyData → Prop) : Prop := ∃ (r : Rule) (L : Lim) (s t : Nat) (ts : List Tok) (l : Int), r.sides = 2 ∧ (∀ t ∈ ts, t.Ok L) ∧ (ts.filter (tieHit s t)).length ≤ 63 ∧ ts.length ≤ 100000 ∧
  ds = [(Row.tie l s t).enc, .list (ts.map Tok.enc)] ∧ Z = fun es => ∃ us : List Tok, es = us.map Tok.enc ∧ (∀ u, u ∈ us ↔ u ∈ ts.flatMap (begT r (.tie l s t))) ∧ us.length ≤ 64
theorem sc_begun_by_tie : FnScope ["row", "tokens", "found", "token"] ["row", "tokens"] (defScope (top 14)) := ⟨rfl, rfl, rfl, by decide +kernel, rfl, by decide +kernel, by decide +kernel⟩
theorem kn_begun_by_tie (T : Tx K mg) : Kn P w K mg base 2 "begun_by_tie" ["row", "tokens"] (spF K R_begun_by_tie) := by
  have Khas_slot := kn_has_slot (P := P) (w := w) (base := base) T
  refine kn_F (T.fn (("begun_by_tie" : Str), 14) (by decide +kernel)) sc_begun_by_tie (fun _ _ _ _ _ _ us hl => match us, hl with | [_, _], _ => rfl) (fun ds d h => ?_) (fun f cdv A outer s0 H vs E ds Z hr hv h => ?_)
  · obtain ⟨_, _, _, _, _, _, _, _, _, _, rfl, _⟩ := h
    rfl
  obtain ⟨r, L, s, t, ts, l, e, hts, hf, hn, rfl, rfl⟩ := h
  obtain _ | ⟨h1, _ | ⟨h2, _ | _⟩⟩ := hv
  rename_i v1 v2
  have h1' : Dp K H v1 (.tuple [.str "tie", .int l, .int s, .int t]) := h1
  refine ⟨_, (pss_cons (ps_set (i := 2) sc_begun_by_tie.nd rfl (Or.inl rfl) (pe_lst (pa_nil))) (pss_cons (ps_for PassesOwn.never rfl (pi_list (pv 1)) (pg_name (i := 3) sc_begun_by_tie.nd rfl (.inl rfl)) (pss_one (ps_if (PW.pt (pw_and (pt_cmpR op_eq (pe_callB call_ln (by rfl) (T.free "len" (by decide)) PySem.boot_len (pa_cons (pv 3) (pa_nil))) (pe_int) (nomark _)) (pw_and (pt_val (pe_kn Khas_slot (hr.mono (by decide)) rfl (pa_cons (pe_ix ix_seq (pv 3) (pe_int) (fun _ _ => rfl)) (pa_cons (pe_ix ix_seq (pv 0) (pe_int) (fun _ _ => rfl)) (pa_nil))))) (pw_and1 (pt_val (pe_kn Khas_slot (hr.mono (by decide)) rfl (pa_cons (pe_ix ix_seq (pv 3) (pe_int) (fun _ _ => rfl)) (pa_cons (pe_ix ix_seq (pv 0) (pe_int) (fun _ _ => rfl)) (pa_nil))))))))) (pss_one (ps_expr (pe_bm PySem.F.plainAttrs_list PySem.F.slot_list_append PySem.F.type_list_append mt_append (pv 2) (pa_cons (pe_op op_addU (pv 3) (pe_tup (pa_cons (pe_int) (pa_nil)))) (pa_nil))))) (pss_nil)))) (pss_one (ps_ret (pe_callB (cr_so rfl hr.units) (by rfl) (T.free "sorted" (by decide)) (by decide +kernel) (pa_cons (pe_callTy (cr_set rfl hr.units) (by rfl) (T.free "set" (by decide)) (by decide +kernel) (pa_cons (pv 2) (pa_nil))) (pa_nil))))))), fun Q q => ?_⟩
  refine q_asgF (K := K) (gf_lst (Z := fun es => es = []) ga_nil (Nat.zero_le _) rfl) fun p H3 xs es z s3 n3 l3 d3 => ?_
  subst z
  refine q_forV (K := K) (H0 := H) (ds := ts.map Tok.enc) (v := v2) (Pbt K H v1 v2 p r l s t ts) rfl (by walk_at "dp") s3 ?_ (fun i σ' H' p => p.1) (fun i d v σ' H' hd hP dv => ?_) fun σ' H' hP => ?_
  · exact ⟨s3, ⟨none, rfl⟩, xs, [], l3, d3, Nat.zero_le _, fun t => by rw [List.take_zero]; rfl⟩
  · obtain ⟨u, hu, rfl⟩ := dps_of hd
    obtain ⟨sm, ⟨o1, rfl⟩, xs, us, hp, hxs, hus, hm⟩ := hP
    have hlen : us.length ≤ 999000 := by
      have z : ((ts.take i).filter (tieHit s t)).length ≤ ts.length := Nat.le_trans (List.length_filter_le _ _) (by rw [List.length_take]; omega)
      omega
    have hc1 : ((ts.take (i + 1)).filter (tieHit s t)).length = ((ts.take i).filter (tieHit s t)).length + ([u].filter (tieHit s t)).length := by
      rw [List.take_add_one, hu, List.filter_append, List.length_append]
      rfl
    have keep : tieHit s t u = false → ∀ H'', Same H' H'' → Pbt K H v1 v2 p r l s t ts (i + 1) [some v1, some v2, some (V.ref p), some v] H'' := fun e1 H'' s' => by
      refine ⟨sm.trans s', ⟨_, rfl⟩, xs, us, s' _ _ hp, dps_mono s' hxs, by rw [hc1]; omega, fun u' => ?_⟩
      rw [hm u', take_fm hu, tie_beg e, e1, if_neg (by decide), List.append_nil]
    cases u with
    | one m k => exact l_no (gt_andF (by walk_at "tagF")) fun H6 s6 => keep rfl H6 s6
    | sgl m => exact l_no (gt_andF (by walk_at "tagF")) fun H6 s6 => keep rfl H6 s6
    | tyd a b o k => exact l_no (gt_andF (by walk_at "tagF")) fun H6 s6 => keep rfl H6 s6
    | par a b o =>
      have dv' : Dp K H' v (.tuple [.int a, .int b, .int o]) := dv
      refine l_if (gt_andT (by walk_at "tagT") (gt_and (gt_B (K := K) (gd_call (ds := [.int a, .int s]) (by walk_at "ga") ⟨a, s, rfl, rfl⟩)) fun _ => gt_B (K := K) (gd_call (ds := [.int b, .int t]) (by walk_at "ga") ⟨b, t, rfl, rfl⟩))) (fun c H6 s6 => ?_) fun c H6 s6 => keep c H6 s6
      refine l_app (K := K) (H0 := H) rfl (gd_op (d := .tuple [.int a, .int b, .int o]) (by walk_at "gd") (gd_tup (ga_cons gd_int ga_nil) (Nat.le_of_ble_eq_true rfl)) (r2_addU (Nat.le_of_ble_eq_true rfl))) (s6 _ _ hp) n3 (sm.trans s6) (dps_mono s6 hxs) (by rw [List.length_map]; omega) (toks_nol us) rfl fun v9 H9 s9 p9 d9 => ?_
      refine ⟨s9, ⟨_, rfl⟩, _, us ++ [.tyd a b o 0], p9, by rw [List.map_append]; exact d9, ?_, fun u => ?_⟩
      · rw [hc1, List.length_append]
        have z : [Tok.par a b o].filter (tieHit s t) = [.par a b o] := List.filter_cons_of_pos c
        rw [z]
        exact Nat.add_le_add_right hus 1
      · have zb : begT r (.tie l s t) (.par a b o) = [.tyd a b o 0] := by
          rw [tie_beg e]
          exact if_pos c
        rw [List.mem_append, hm u, take_fm hu, zb, List.mem_append]
  · obtain ⟨sm, ⟨o1, rfl⟩, xs, us, hp, hxs, hus, hm⟩ := hP
    rw [List.length_map, List.take_length] at hus hm
    refine l_retF (K := K) (gf_setT (tss := us.map Tok.is) (by rw [← encs_is]; exact gd_var rfl (.lst (SqL.of hp) hxs)) (by rw [List.length_map]; omega) fun ns hns => ?_) fun p' H8 xs' es z s8 n8 l8 d8 => ?_
    · obtain ⟨t, _, rfl⟩ := List.mem_map.mp hns
      exact is_ne t
    · obtain ⟨M, rfl, hM, hfew⟩ := z
      obtain ⟨us', eu, hu', hl'⟩ := toks_of hM
      exact q p' H8 xs' _ ⟨us', eu, fun t => (hu' t).trans (hm t), by omega⟩ (by walk_at "same") (Same.free (by walk_at "same") n8) l8 d8
/-- few enough of the tokens that begin something -/
def Few (row : Row) (ts : List Tok) : Prop := match row with
  | .opn _ _ => (ts.filter isSgl).length ≤ 31
  | .tie _ s t => (ts.filter (tieHit s t)).length ≤ 63
  | _ => True
def R_begins_at (ds : List PyData) (Z : List PyData → Prop) : Prop := ∃ (code : List Row) (r : Rule) (L : Lim) (at_ : Nat) (row : Row) (ts : List Tok), code[at_]? = some row ∧ r.Ok L.R ∧ r.sides = L.sides ∧ row.Ok L.S ∧ L.S ≤ 60 ∧ (∀ t ∈ ts, t.Ok L) ∧ Few row ts ∧ ts.length ≤ 100000 ∧
  ds = [encCode code, r.enc, .int at_, .list (ts.map Tok.enc)] ∧ Z = fun es => ∃ us : List Tok, es = us.map Tok.enc ∧ (∀ t, t ∈ us ↔ t ∈ begun r row ts) ∧ us.length ≤ 64
theorem begun_nil {r : Rule} {row : Row} (ts : List Tok) (h0 : beg0 r row = []) (h : ∀ t, begT r row t = []) : begun r row ts = [] := by
  unfold begun
  rw [h0, List.flatMap_eq_nil_iff.mpr fun t _ => h t]
  rfl
theorem sc_begins_at : FnScope ["code", "rule", "at", "tokens", "row"] ["code", "rule", "at", "tokens"] (defScope (top 15)) := ⟨rfl, rfl, rfl, by decide +kernel, rfl, by decide +kernel, by decide +kernel⟩
theorem kn_begins_at (T : Tx K mg) : Kn P w K mg base 6 "begins_at" ["code", "rule", "at", "tokens"] (spF K R_begins_at) := by
  have Kbegun_by_open := kn_begun_by_open (P := P) (w := w) (base := base) T
  have Kbegun_by_tie := kn_begun_by_tie (P := P) (w := w) (base := base) T
  refine kn_F (T.fn (("begins_at" : Str), 15) (by decide +kernel)) sc_begins_at (fun _ _ _ _ _ _ us hl => match us, hl with | [_, _, _, _], _ => rfl) (fun ds d h => ?_) (fun f cdv A outer s0 H vs E ds Z hr hv h => ?_)
  · obtain ⟨_, _, _, _, _, _, _, _, _, _, _, _, _, _, rfl, _⟩ := h
    rfl
  obtain ⟨code, r, L, at_, row, ts, hc, ok, hs, ho, hS, hts, hf, hn, rfl, rfl⟩ := h
  obtain _ | ⟨h1, _ | ⟨h2, _ | ⟨h3, _ | ⟨h4, _ | _⟩⟩⟩⟩ := hv
  rename_i v1 v2 v3 v4
  have h1' : Dp K H v1 (.list (code.map Row.enc)) := h1
  have h2' : Dp K H v2 (.tuple [.int r.sides, .list (r.texts.map PyData.str), .list (r.rooms.map fun m => .list (m.map encO))]) := h2
  refine ⟨_, (pss_cons (ps_set (i := 4) sc_begins_at.nd rfl (Or.inl rfl) (pe_ix ix_seq (pv 0) (pv 2) (fun _ _ => rfl))) (pss_cons (ps_if (pt_cmpR op_eq (pe_ix ix_seq (pv 4) (pe_int) (fun _ _ => rfl)) (pe_str) (nomark _)) (pss_one (ps_ret (pe_kn Kbegun_by_open (hr.mono (by decide)) rfl (pa_cons (pv 1) (pa_cons (pe_ix ix_seq (pv 4) (pe_int) (fun _ _ => rfl)) (pa_cons (pv 3) (pa_nil))))))) (pss_nil)) (pss_cons (ps_if (PW.pt (pw_and (pt_cmpR op_eq (pe_ix ix_seq (pv 4) (pe_int) (fun _ _ => rfl)) (pe_str) (nomark _)) (pw_and1 (pt_cmpR op_eq (pe_ix ix_seq (pv 1) (pe_int) (fun _ _ => rfl)) (pe_int) (nomark _))))) (pss_one (ps_ret (pe_kn Kbegun_by_tie (hr.mono (by decide)) rfl (pa_cons (pv 4) (pa_cons (pv 3) (pa_nil)))))) (pss_nil)) (pss_one (ps_ret (pe_lst (pa_nil))))))), fun Q q => ?_⟩
  refine q_asg (K := K) (d := row.enc) (gd_op (by walk_at "gd") (by walk_at "gd") (r2_ixl (at_map hc))) fun v5 H1 s1 d5 => ?_
  have none_ : (∀ t, t ∈ begun r row ts ↔ t ∈ ([] : List Tok)) → ∀ H' D' u, Same H1 H' → D'.rt = Q → tRet (tLst tNil) D' u H' := fun hh H' D' u s' hD => by
    refine l_retF (K := K) (gf_lst (Z := fun es => es = []) ga_nil (Nat.zero_le _) rfl) fun p H5 xs es z s5 n5 l5 d5 => ?_
    rw [hD]
    exact q p H5 xs es ⟨[], z, fun t => (hh t).symm, Nat.zero_le _⟩ (by walk_at "same") (Same.free (by walk_at "same") n5) l5 d5
  have gs : ∀ {H'}, Same H1 H' → Gt (tTest (tOp rEq (tOp (rIx K) (tVar 1) (tC (.int 0))) (tC (.int 2)))) [some v1, some v2, some v3, some v4, some v5] H' (decide (r.sides = 2)) := fun {H'} s' => by
    rcases ok.sides with e | e <;> (rw [e] at h2' ⊢; walk_at "tag")
  cases row with
  | opn l s =>
    refine q_yes (gt_tag (K := K) (row := .opn l s) (by walk_at "gd") rfl) fun H2 s2 => ?_
    have d5' : Dp K H1 v5 (.tuple [.str "open", .int l, .int s]) := d5
    exact l_retF (K := K) (gf_call (ds := [r.enc, .int s, .list (ts.map Tok.enc)]) (by walk_at "ga") ⟨r, L, s, ts, l, ok, hs, ho, hS, hts, hf, hn, rfl, rfl⟩) fun p H8 xs' es z s8 n8 l8 d8 => q p H8 xs' es z (by walk_at "same") (Same.free (by walk_at "same") n8) l8 d8
  | tie l s t =>
    refine q_no (gt_tag (K := K) (row := .tie l s t) (by walk_at "gd") rfl) fun H2 s2 => ?_
    have d5' : Dp K H1 v5 (.tuple [.str "tie", .int l, .int s, .int t]) := d5
    refine q_if0 (gt_andT (gt_tag (K := K) (row := .tie l s t) (by walk_at "gd") rfl) (gs s2)) (fun c H3 s3 => ?_) fun c H3 s3 => ?_
    · have e2 : r.sides = 2 := of_decide_eq_true c
      exact l_retF (K := K) (gf_call (ds := [(Row.tie l s t).enc, .list (ts.map Tok.enc)]) (by walk_at "ga") ⟨r, L, s, t, ts, l, e2, hts, hf, hn, rfl, rfl⟩) fun p H8 xs' es z s8 n8 l8 d8 => q p H8 xs' es z (by walk_at "same") (Same.free (by walk_at "same") n8) l8 d8
    · have e2 : ¬ r.sides = 2 := of_decide_eq_false c
      refine none_ (fun t' => by rw [begun_nil ts rfl fun u => by cases u <;> simp [begT, e2]]) H3 _ _ (by walk_at "same") rfl
  | act l s x =>
    refine q_no (gt_tag (K := K) (row := (.act l s x)) (by walk_at "gd") rfl) fun H2 s2 => ?_
    refine q_no (gt_andF (gt_tag (K := K) (row := (.act l s x)) (by walk_at "gd") rfl)) fun H3 s3 => ?_
    exact none_ (fun t' => by rw [begun_nil ts rfl fun u => by cases u <;> rfl]) H3 _ _ (by walk_at "same") rfl
  | cpy l s t =>
    refine q_no (gt_tag (K := K) (row := (.cpy l s t)) (by walk_at "gd") rfl) fun H2 s2 => ?_
    refine q_no (gt_andF (gt_tag (K := K) (row := (.cpy l s t)) (by walk_at "gd") rfl)) fun H3 s3 => ?_
    exact none_ (fun t' => by rw [begun_nil ts rfl fun u => by cases u <;> rfl]) H3 _ _ (by walk_at "same") rfl
  | drp l s =>
    refine q_no (gt_tag (K := K) (row := (.drp l s)) (by walk_at "gd") rfl) fun H2 s2 => ?_
    refine q_no (gt_andF (gt_tag (K := K) (row := (.drp l s)) (by walk_at "gd") rfl)) fun H3 s3 => ?_
    exact none_ (fun t' => by rw [begun_nil ts rfl fun u => by cases u <;> rfl]) H3 _ _ (by walk_at "same") rfl
  | tst l n to =>
    refine q_no (gt_tag (K := K) (row := (.tst l n to)) (by walk_at "gd") rfl) fun H2 s2 => ?_
    refine q_no (gt_andF (gt_tag (K := K) (row := (.tst l n to)) (by walk_at "gd") rfl)) fun H3 s3 => ?_
    exact none_ (fun t' => by rw [begun_nil ts rfl fun u => by cases u <;> rfl]) H3 _ _ (by walk_at "same") rfl
  | jmp l to =>
    refine q_no (gt_tag (K := K) (row := (.jmp l to)) (by walk_at "gd") rfl) fun H2 s2 => ?_
    refine q_no (gt_andF (gt_tag (K := K) (row := (.jmp l to)) (by walk_at "gd") rfl)) fun H3 s3 => ?_
    exact none_ (fun t' => by rw [begun_nil ts rfl fun u => by cases u <;> rfl]) H3 _ _ (by walk_at "same") rfl
  | fin l =>
    refine q_no (gt_tag (K := K) (row := (.fin l)) (by walk_at "gd") rfl) fun H2 s2 => ?_
    refine q_no (gt_andF (gt_tag (K := K) (row := (.fin l)) (by walk_at "gd") rfl)) fun H3 s3 => ?_
    exact none_ (fun t' => by rw [begun_nil ts rfl fun u => by cases u <;> rfl]) H3 _ _ (by walk_at "same") rfl
end
end Uw
/-! text T8 -/
namespace Uw
open PySem PySem.Spec PyProof.Rows L2
/-! rows_behind, breaks_at, breaks_some, moves_some -/
theorem same_none {H H' : Hp} {p : Addr} (s : Same H H') (h : H' p = none) : H p = none := s.free h
section
variable {P : Program} {w : World} {K : PySem.W.Frag} {mg : Str → Option Value} {base : Heap}
def natsOf (Z : List Nat) (es : List PyData) : Prop := ∃ L : List Nat, es = L.map natD ∧ ∀ j, j ∈ L ↔ j ∈ Z
def R_rows_behind (ds : List PyData) (Z : List PyData → Prop) : Prop := ∃ (code : List Row) (at_ : Nat) (row : Row), code[at_]? = some row ∧ ds = [encCode code, .int at_] ∧ Z = natsOf (after at_ row)
theorem nats_of {L : List Int} {N : List Nat} (h : ∀ j, j ∈ L ↔ j ∈ N.map Int.ofNat) : natsOf N (L.map PyData.int) := by
  refine ⟨L.map Int.toNat, ?_, fun j => ⟨fun m => ?_, fun m => ?_⟩⟩
  · rw [List.map_map]
    refine List.map_congr_left fun x hx => ?_
    obtain ⟨n, _, rfl⟩ := List.mem_map.mp ((h x).mp hx)
    rfl
  · obtain ⟨x, hx, rfl⟩ := List.mem_map.mp m
    obtain ⟨n, hn, rfl⟩ := List.mem_map.mp ((h x).mp hx)
    exact hn
  · exact List.mem_map.mpr ⟨j, (h j).mpr (List.mem_map.mpr ⟨j, m, rfl⟩), rfl⟩
theorem sc_rows_behind : FnScope ["code", "at", "row"] ["code", "at"] (defScope (top 17)) := ⟨rfl, rfl, rfl, by decide +kernel, rfl, by decide +kernel, by decide +kernel⟩
theorem kn_rows_behind (T : Tx K mg) : Kn P w K mg base 1 "rows_behind" ["code", "at"] (spF K R_rows_behind) := by
  refine kn_F (T.fn (("rows_behind" : Str), 17) (by decide +kernel)) sc_rows_behind (fun _ _ _ _ _ _ us hl => match us, hl with | [_, _], _ => rfl) (fun ds d h => ?_) (fun f cdv A outer s0 H vs E ds Z hr hv h => ?_)
  · obtain ⟨_, _, _, _, rfl, _⟩ := h
    rfl
  obtain ⟨code, at_, row, hc, rfl, rfl⟩ := h
  obtain _ | ⟨h1, _ | ⟨h2, _ | _⟩⟩ := hv
  rename_i v1 v2
  have h1' : Dp K H v1 (.list (code.map Row.enc)) := h1
  have e2 := dp_int h2
  subst e2
  refine ⟨_, (pss_cons (ps_set (i := 2) sc_rows_behind.nd rfl (Or.inl rfl) (pe_ix ix_seq (pv 0) (pv 1) (fun _ _ => rfl))) (pss_cons (ps_if (pt_cmpR op_eq (pe_ix ix_seq (pv 2) (pe_int) (fun _ _ => rfl)) (pe_str) (nomark _)) (pss_one (ps_ret (pe_lst (pa_nil)))) (pss_nil)) (pss_cons (ps_if (pt_cmpR op_eq (pe_ix ix_seq (pv 2) (pe_int) (fun _ _ => rfl)) (pe_str) (nomark _)) (pss_one (ps_ret (pe_lst (pa_cons (pe_ix ix_seq (pv 2) (pe_int) (fun _ _ => rfl)) (pa_nil))))) (pss_nil)) (pss_cons (ps_if (pt_cmpR op_eq (pe_ix ix_seq (pv 2) (pe_int) (fun _ _ => rfl)) (pe_str) (nomark _)) (pss_one (ps_ret (pe_callB (cr_so rfl hr.units) (by rfl) (T.free "sorted" (by decide)) (by decide +kernel) (pa_cons (pe_callTy (cr_set rfl hr.units) (by rfl) (T.free "set" (by decide)) (by decide +kernel) (pa_cons (pe_lst (pa_cons (pe_op op_addU (pv 1) (pe_int)) (pa_cons (pe_ix ix_seq (pv 2) (pe_int) (fun _ _ => rfl)) (pa_nil)))) (pa_nil))) (pa_nil))))) (pss_nil)) (pss_one (ps_ret (pe_lst (pa_cons (pe_op op_addU (pv 1) (pe_int)) (pa_nil))))))))), fun Q q => ?_⟩
  refine q_asg (K := K) (d := row.enc) (gd_op (by walk_at "gd") (by walk_at "gd") (r2_ixl (at_map hc))) fun v3 H1 s1 d3 => ?_
  have fin : ∀ {te : TE} {D' : Ends} {H'} {ns : List Nat}, Same H1 H' → D'.rt = Q → after at_ row = ns → Gd K te [some v1, some (.int at_), some v3] H' (.list (ns.map natD)) → True := fun _ _ _ _ => trivial
  have one : ∀ {te : TE} {D' : Ends} {H'} {n : Nat}, Same H1 H' → D'.rt = Q → after at_ row = [n] → Gd K te [some v1, some (.int at_), some v3] H' (natD n) → tRet (tLst (tCons te tNil)) D' [some v1, some (.int at_), some v3] H' := fun {te D' H' n} s' hD hn hg =>
    l_retF (K := K) (gf_lst (Z := fun es => es = [natD n]) (ga_cons hg ga_nil) (Nat.le_of_ble_eq_true rfl) rfl) fun p H5 xs es z s5 n5 l5 d5 => by
      rw [hD]
      exact q p H5 xs es ⟨[n], z, fun j => by rw [hn]⟩ (by walk_at "same") (Same.free (by walk_at "same") n5) l5 d5
  have gp : ∀ {H'}, Gd K (tOp (rAddU K) (tVar 1) (tC (.int 1))) [some v1, some (.int at_), some v3] H' (natD (at_ + 1)) := fun {H'} => gd_op (gd_var rfl (.int _)) gd_int r2_addI
  cases row with
  | fin l =>
    refine q_yes (gt_tag (K := K) (row := .fin l) (by walk_at "gd") rfl) fun H2 s2 => ?_
    exact l_retF (K := K) (gf_lst (Z := fun es => es = []) ga_nil (Nat.zero_le _) rfl) fun p H5 xs es z s5 n5 l5 d5 => q p H5 xs es ⟨[], z, fun t => by rfl⟩ (by walk_at "same") (Same.free (by walk_at "same") n5) l5 d5
  | jmp l to =>
    refine q_no (gt_tag (K := K) (row := .jmp l to) (by walk_at "gd") rfl) fun H2 s2 => ?_
    refine q_yes (gt_tag (K := K) (row := .jmp l to) (by walk_at "gd") rfl) fun H3 s3 => ?_
    have d3' : Dp K H1 v3 (.tuple [.str "jump", .int l, .int to]) := d3
    exact one (by walk_at "same") rfl rfl (by walk_at "gd")
  | tst l n to =>
    refine q_no (gt_tag (K := K) (row := .tst l n to) (by walk_at "gd") rfl) fun H2 s2 => ?_
    refine q_no (gt_tag (K := K) (row := .tst l n to) (by walk_at "gd") rfl) fun H3 s3 => ?_
    refine q_yes (gt_tag (K := K) (row := .tst l n to) (by walk_at "gd") rfl) fun H4 s4 => ?_
    have d3' : Dp K H1 v3 (.tuple [.str "test", .int l, .int n, .int to]) := d3
    refine l_retF (K := K) (gf_setI (ns := [((at_ + 1 : Nat) : Int), (to : Int)]) (gd_lst (ga_cons gp (ga_cons (by walk_at "gd") ga_nil)) (Nat.le_of_ble_eq_true rfl)) (by show 2 < 4000; decide)) fun p H5 xs es z s5 n5 l5 d5 => ?_
    obtain ⟨L, rfl, hL⟩ := z
    exact q p H5 xs _ (nats_of hL) (by walk_at "same") (Same.free (by walk_at "same") n5) l5 d5
  | opn l s =>
    refine q_no (gt_tag (K := K) (row := .opn l s) (by walk_at "gd") rfl) fun H2 s2 => ?_
    refine q_no (gt_tag (K := K) (row := .opn l s) (by walk_at "gd") rfl) fun H3 s3 => ?_
    refine q_no (gt_tag (K := K) (row := .opn l s) (by walk_at "gd") rfl) fun H4 s4 => ?_
    exact one (by walk_at "same") rfl rfl gp
  | act l s x =>
    refine q_no (gt_tag (K := K) (row := .act l s x) (by walk_at "gd") rfl) fun H2 s2 => ?_
    refine q_no (gt_tag (K := K) (row := .act l s x) (by walk_at "gd") rfl) fun H3 s3 => ?_
    refine q_no (gt_tag (K := K) (row := .act l s x) (by walk_at "gd") rfl) fun H4 s4 => ?_
    exact one (by walk_at "same") rfl rfl gp
  | cpy l s t =>
    refine q_no (gt_tag (K := K) (row := .cpy l s t) (by walk_at "gd") rfl) fun H2 s2 => ?_
    refine q_no (gt_tag (K := K) (row := .cpy l s t) (by walk_at "gd") rfl) fun H3 s3 => ?_
    refine q_no (gt_tag (K := K) (row := .cpy l s t) (by walk_at "gd") rfl) fun H4 s4 => ?_
    exact one (by walk_at "same") rfl rfl gp
  | drp l s =>
    refine q_no (gt_tag (K := K) (row := .drp l s) (by walk_at "gd") rfl) fun H2 s2 => ?_
    refine q_no (gt_tag (K := K) (row := .drp l s) (by walk_at "gd") rfl) fun H3 s3 => ?_
    refine q_no (gt_tag (K := K) (row := .drp l s) (by walk_at "gd") rfl) fun H4 s4 => ?_
    exact one (by walk_at "same") rfl rfl gp
  | tie l s t =>
    refine q_no (gt_tag (K := K) (row := .tie l s t) (by walk_at "gd") rfl) fun H2 s2 => ?_
    refine q_no (gt_tag (K := K) (row := .tie l s t) (by walk_at "gd") rfl) fun H3 s3 => ?_
    refine q_no (gt_tag (K := K) (row := .tie l s t) (by walk_at "gd") rfl) fun H4 s4 => ?_
    exact one (by walk_at "same") rfl rfl gp
def R_breaks_at (ds : List PyData) (d : PyData) : Prop := ∃ (code : List Row) (r : Rule) (L : Lim) (at_ : Nat) (row : Row) (t : Option Tok), code[at_]? = some row ∧ r.Ok L.R ∧ r.sides = L.sides ∧ row.Ok L.S ∧ (∀ u, t = some u → u.Ok L) ∧
  ds = [encCode code, r.enc, .int at_, encT t] ∧ d = .bool (breaks r row t)
theorem tag_opn (row : Row) : decide (V.str row.tag = V.str "open") = (match row with
    | .opn _ _ => true
    | _ => false) := by
  cases row <;> rfl
theorem sc_breaks_at : FnScope ["code", "rule", "at", "token"] ["code", "rule", "at", "token"] (defScope (top 16)) := ⟨rfl, rfl, rfl, by decide +kernel, rfl, by decide +kernel, by decide +kernel⟩
theorem kn_breaks_at (T : Tx K mg) : Kn P w K mg base 4 "breaks_at" ["code", "rule", "at", "token"] (spD K R_breaks_at) := by
  have Khas_room := kn_has_room (P := P) (w := w) (base := base) T
  have Knext_room := kn_next_room (P := P) (w := w) (base := base) T
  have Kroom_behind := kn_room_behind (P := P) (w := w) (base := base) T
  refine kn_D (T.fn (("breaks_at" : Str), 16) (by decide +kernel)) sc_breaks_at (fun _ _ _ _ _ _ us hl => match us, hl with | [_, _, _, _], _ => rfl) (fun ds d h => ?_) (fun f cdv A outer s0 H vs E ds d hr hv h => ?_)
  · obtain ⟨_, _, _, _, _, _, _, _, _, _, _, rfl, rfl⟩ := h
    rfl
  obtain ⟨code, r, L, at_, row, t, hc, ok, hs, ho, ht, rfl, rfl⟩ := h
  obtain _ | ⟨h1, _ | ⟨h2, _ | ⟨h3, _ | ⟨h4, _ | _⟩⟩⟩⟩ := hv
  rename_i v1 v2 v3 v4
  have h1' : Dp K H v1 (.list (code.map Row.enc)) := h1
  have h2' : Dp K H v2 (.tuple [.int r.sides, .list (r.texts.map PyData.str), .list (r.rooms.map fun m => .list (m.map encO))]) := h2
  refine ⟨_, (pss_cons (ps_if (pt_cmpR op_isNon (pv 3) (pe_non) (nomark _)) (pss_one (ps_ret (pe_and (pe_cmpR op_eq (pe_ix ix_seq (pe_ix ix_seq (pv 0) (pv 2) (fun _ _ => rfl)) (pe_int) (fun _ _ => rfl)) (pe_str) (nomark _)) (pe_and (pe_cmpR op_eq (pe_ix ix_seq (pv 1) (pe_int) (fun _ _ => rfl)) (pe_int) (nomark _)) (pe_one (pe_cmpR op_isNon (pe_kn Knext_room (hr.mono (by decide)) rfl (pa_cons (pv 1) (pa_cons (pe_int) (pa_cons (pe_str) (pa_nil))))) (pe_non) (nomark _))))))) (pss_nil)) (pss_one (ps_ret (pe_and (pe_kn Khas_room (hr.mono (by decide)) rfl (pa_cons (pe_ix ix_seq (pv 1) (pe_int) (fun _ _ => rfl)) (pa_cons (pv 3) (pa_nil)))) (pe_one (pe_cmpR op_isNon (pe_kn Kroom_behind (hr.mono (by decide)) rfl (pa_cons (pv 1) (pa_cons (pe_ix ix_seq (pv 0) (pv 2) (fun _ _ => rfl)) (pa_cons (pv 3) (pa_nil))))) (pe_non) (nomark _))))))), fun Q q => ?_⟩
  cases t with
  | none =>
    have h4' : Dp K H v4 .none := h4
    refine q_yes (by walk_at "tagT") fun H1 s1 => ?_
    refine l_ret (K := K) (d := .bool (breaks r row none)) (gd_is (gd_and (a := decide (V.str row.tag = V.str "open")) (gd_op (gd_tag (gd_op (d := .list (code.map Row.enc)) (by walk_at "gd") (by walk_at "gd") (r2_ixl (at_map hc)))) gd_str (r2_eq rfl rfl rfl rfl)) fun _ => gd_and (a := r.sides == 1) ?_ fun _ => gd_op (gd_call (ds := [r.enc, .int 0, .str "open"]) (by walk_at "ga") ⟨r, L.R, 0, "open", ok, ok.pos, rfl, rfl⟩) gd_non (r2_isN (a := (r.next 0 "open").isNone) ?_)) ?_) fun v H2 s2 d2 => q v H2 (by walk_at "same") d2
    · exact gd_op (d := .int r.sides) (gd_op (by walk_at "gd") (by walk_at "gd") (r2_ixt rfl)) gd_int (r2_eq rfl rfl rfl (by rcases ok.sides with e | e <;> rw [e] <;> rfl))
    · cases r.next 0 "open" <;> rfl
    · rw [tag_opn]
      cases row <;> rfl
  | some u =>
    have hu := ht u rfl
    have h4' : Dp K H v4 (.tuple (u.ns.map natD)) := h4
    have h4'' : Dp K H v4 u.enc := h4
    refine q_no (by walk_at "tagF") fun H1 s1 => ?_
    refine l_ret (K := K) (d := .bool (breaks r row (some u))) (gd_and (a := u.hasRoom) (gd_call (ds := [.int L.sides, u.enc]) (ga_cons (by rw [← hs]; exact gd_op (by walk_at "gd") (by walk_at "gd") (r2_ixt rfl)) (by walk_at "ga")) ⟨L, u, hu, rfl, rfl⟩) fun m => gd_op (gd_call (ds := [r.enc, row.enc, u.enc]) (ga_cons (by walk_at "gd") (ga_cons (gd_op (d := .list (code.map Row.enc)) (by walk_at "gd") (by walk_at "gd") (r2_ixl (at_map hc))) (by walk_at "ga"))) ⟨r, L, row, u, ok, hs, ho, hu, m, rfl, rfl⟩) gd_non (r2_isN (by cases roomB r row u <;> rfl))) fun v H2 s2 d2 => q v H2 (by walk_at "same") d2
end
end Uw
/-! text T9 -/
namespace Uw
open PySem PySem.Spec PyProof.Rows L2
/-! breaks_some, moves_some -/
section
variable {K : PySem.W.Frag} {σ : L2.St} {H : Hp} {tl te : TE} {j : Nat} {vs : List Nat}
theorem gd_lcM {α : Type} {g F : α → PyData} {ts : List α} (h : Gd K tl σ H (.list (ts.map g))) (hw : ∀ v, wipe ((wipe σ vs).set j (some v)) vs = wipe σ vs) (hn : ∀ t, t ∈ ts → nol (F t) = true) (hl : ts.length ≤ 1000000)
    (he : ∀ t, t ∈ ts → ∀ v H', Same H H' → Dp K H' v (g t) → Gd K te ((wipe σ vs).set j (some v)) H' (F t)) : Gd K (tLc (iList K tl) (gName j) tYes te vs) σ H (.list (ts.map F)) := fun H1 s Q q =>
  h H1 s _ fun v H2 s2 dv => by
    obtain ⟨a, xs, rfl, h1, h2⟩ := dp_list dv
    refine ⟨a, rfl, ⟨xs, h1⟩, fun Dd hD => lc_list (K := K) (a := a) (xs := xs) (fun i H' => ∃ acc, H' Dd = some (.lst acc) ∧ DpAll K H' acc ((ts.take i).map F) ∧ Same H2 H') ⟨[], upd_same, .nil, same_new hD⟩
      (fun i H' _ ⟨_, _, _, s3⟩ => s3.seq h1) (fun i x H' hx ⟨acc, e1, e2, s3⟩ => ?_) fun H' ⟨acc, e1, e2, s3⟩ => ?_⟩
    · obtain ⟨d, hd, dd⟩ := dps_get' h2 hx
      obtain ⟨t, ht, rfl⟩ := dps_of hd
      have hm : t ∈ ts := List.mem_of_getElem? ht
      refine ⟨hw x, ?_⟩
      refine iteT (B := False) ?_
      refine he t hm x H' (s.trans (s2.trans s3)) (dp_mono s3 dd) H' (Same.refl _) _ fun y H4 s4 dy => ?_
      have la := dps_len e2
      rw [List.length_map, List.length_take] at la
      have hnt : nolAll ((ts.take i).map F) = true := nolAll_of fun z hz => by
        obtain ⟨w', hw', rfl⟩ := List.mem_map.mp hz
        exact hn w' (List.mem_of_mem_take hw')
      obtain ⟨t1, t2, t3⟩ := lc_turn hD (s3.trans s4) (s4 _ _ e1) (dps_mono s4 e2) hnt dy (hn t hm)
      exact ⟨acc, s4 _ _ e1, small_lt (by omega), _, t2, by rw [map_snoc ht]; exact t3, t1⟩
    · have l2 := dps_len h2
      rw [List.length_map] at l2
      rw [l2, List.take_length] at e2
      exact q _ _ (s2.trans s3) (.lst (SqL.of e1) e2)
theorem dps_bls_eq {H : Hp} : ∀ {vs : List V} {ns : List Bool}, DpAll K H vs (ns.map PyData.bool) → vs = ns.map V.bl
  | _, [], .nil => rfl
  | _, n :: r, .cons h t => by
    cases h
    rw [dps_bls_eq t]
    rfl
theorem rc_any {bs : List Bool} : RdC K (rAny K) [.list (bs.map PyData.bool)] H (.bool (bs.any id)) := fun H1 _ vs dv Q q => by
  obtain _ | ⟨h, _ | _⟩ := dv
  obtain ⟨a, xs, rfl, h1, h2⟩ := dp_list h
  have e := dps_bls_eq h2
  subst e
  exact ⟨a, bs, rfl, h1, q _ H1 (Same.refl _) (.bl _)⟩
end
section
variable {P : Program} {w : World} {K : PySem.W.Frag} {mg : Str → Option Value} {base : Heap}
def R_breaks_some (ds : List PyData) (d : PyData) : Prop := ∃ (code : List Row) (r : Rule) (L : Lim) (at_ : Nat) (row : Row) (ts : List Tok), code[at_]? = some row ∧ r.Ok L.R ∧ r.sides = L.sides ∧ row.Ok L.S ∧ (∀ u ∈ ts, u.Ok L) ∧ ts.length ≤ 100000 ∧
  ds = [encCode code, r.enc, .int at_, .list (ts.map Tok.enc)] ∧ d = .bool (breaks r row none || ts.any fun t => breaks r row (some t))
theorem sc_breaks_some : FnScope ["code", "rule", "at", "tokens", "token"] ["code", "rule", "at", "tokens"] (defScope (top 18)) := ⟨rfl, rfl, rfl, by decide +kernel, rfl, by decide +kernel, by decide +kernel⟩
theorem kn_breaks_some (T : Tx K mg) : Kn P w K mg base 5 "breaks_some" ["code", "rule", "at", "tokens"] (spD K R_breaks_some) := by
  have Kbreaks_at := kn_breaks_at (P := P) (w := w) (base := base) T
  refine kn_D (T.fn (("breaks_some" : Str), 18) (by decide +kernel)) sc_breaks_some (fun _ _ _ _ _ _ us hl => match us, hl with | [_, _, _, _], _ => rfl) (fun ds d h => ?_) (fun f cdv A outer s0 H vs E ds d hr hv h => ?_)
  · obtain ⟨_, _, _, _, _, _, _, _, _, _, _, _, rfl, rfl⟩ := h
    rfl
  obtain ⟨code, r, L, at_, row, ts, hc, ok, hs, ho, ht, hn, rfl, rfl⟩ := h
  obtain _ | ⟨h1, _ | ⟨h2, _ | ⟨h3, _ | ⟨h4, _ | _⟩⟩⟩⟩ := hv
  rename_i v1 v2 v3 v4
  refine ⟨_, (pss_one (ps_ret (pe_or (pe_kn Kbreaks_at (hr.mono (by decide)) rfl (pa_cons (pv 0) (pa_cons (pv 1) (pa_cons (pv 2) (pa_cons (pe_non) (pa_nil)))))) (pe_one (pe_callB (cr_any rfl) (by rfl) (T.free "any" (by decide)) (by decide +kernel) (pa_cons (pe_lc (own := [("token", 4)]) rfl sc_breaks_some.nd (pi_list (pv 3)) (blkOk_by (N := ["code", "rule", "at", "tokens", "token"]) (sc := defScope (top 18)) (by decide +kernel)) (fun _ _ _ _ _ => pg_name (i := 4) sc_breaks_some.nd rfl (Or.inl rfl)) (fun _ _ _ _ _ => pts_nil) (fun _ _ _ _ _ => pe_kn Kbreaks_at (hr.mono (by decide)) rfl (pa_cons (pv 0) (pa_cons (pv 1) (pa_cons (pv 2) (pa_cons (pv 4) (pa_nil))))))) (pa_nil))))))), fun Q q => ?_⟩
  refine l_ret (K := K) (d := .bool (breaks r row none || ts.any fun t => breaks r row (some t))) ?_ fun v H2 s2 d2 => q v H2 (by walk_at "same") d2
  refine gd_or (gd_call (ds := [encCode code, r.enc, .int at_, .none]) (by walk_at "ga") ⟨code, r, L, at_, row, none, hc, ok, hs, ho, fun u e => (nomatch e), rfl, rfl⟩) fun _ => ?_
  refine gd_is (gd_cb (ga_cons (gd_lcM (g := Tok.enc) (ts := ts) (F := fun t => .bool (breaks r row (some t))) (by walk_at "gd") (fun _ => rfl) (fun t _ => by unfold nol; rfl) (by omega) fun t hm v H' s' dv => ?_) ga_nil) ?_) (d := .bool ((ts.map fun t => breaks r row (some t)).any id)) ?_
  · exact gd_call (ds := [encCode code, r.enc, .int at_, t.enc]) (by walk_at "ga") ⟨code, r, L, at_, row, some t, hc, ok, hs, ho, fun u e => by cases e; exact ht t hm, rfl, rfl⟩
  · have z := rc_any (K := K) (H := H) (bs := ts.map fun t => breaks r row (some t))
    rw [List.map_map] at z
    exact z
  · rw [List.any_map]
    rfl
def R_moves_some (ds : List PyData) (Z : PyData → Prop) : Prop := ∃ (code : List Row) (r : Rule) (L : Lim) (at_ : Nat) (row : Row) (ts : List Tok), code[at_]? = some row ∧ r.Ok L.R ∧ r.sides = L.sides ∧ row.Ok L.S ∧ (∀ u ∈ ts, u.Ok L) ∧
  ds = [encCode code, r.enc, .int at_, .list (ts.map Tok.enc)] ∧ Z = fun d => ∃ b, d = .bool b
theorem tok_last {u : Tok} (hm : u.hasRoom = true) {σ : L2.St} {H : Hp} {v : V} {i : Nat} (h : σ[i]? = some (some v)) (d : Dp K H v u.enc) : Gd K (tOp (rIx K) (tVar i) (tUn (rU fun i => .int (-i)) (tC (.int 1)))) σ H (.int u.room) := by
  cases u with
  | sgl m => cases hm
  | par a b o => cases hm
  | one m k =>
    have d : Dp K H _ (.tuple [.int m, .int k]) := d
    exact gd_op (gd_var h d) (gd_un gd_int r1_neg) (r2_ixt rfl)
  | tyd a b o k =>
    have d : Dp K H _ (.tuple [.int a, .int b, .int o, .int k]) := d
    exact gd_op (gd_var h d) (gd_un gd_int r1_neg) (r2_ixt rfl)
theorem sc_moves_some : FnScope ["code", "rule", "at", "tokens", "row", "token"] ["code", "rule", "at", "tokens"] (defScope (top 19)) := ⟨rfl, rfl, rfl, by decide +kernel, rfl, by decide +kernel, by decide +kernel⟩
theorem kn_moves_some (T : Tx K mg) : Kn P w K mg base 4 "moves_some" ["code", "rule", "at", "tokens"] (spN K R_moves_some) := by
  have Khas_room := kn_has_room (P := P) (w := w) (base := base) T
  have Knext_room := kn_next_room (P := P) (w := w) (base := base) T
  have Kroom_behind := kn_room_behind (P := P) (w := w) (base := base) T
  refine kn_N (T.fn (("moves_some" : Str), 19) (by decide +kernel)) sc_moves_some (fun _ _ _ _ _ _ us hl => match us, hl with | [_, _, _, _], _ => rfl) (fun ds d h => ?_) (fun f cdv A outer s0 H vs E ds Z hr hv h => ?_)
  · obtain ⟨_, _, _, _, _, _, _, _, _, _, _, rfl, _⟩ := h
    rfl
  obtain ⟨code, r, L, at_, row, ts, hc, ok, hs, ho, ht, rfl, rfl⟩ := h
  obtain _ | ⟨h1, _ | ⟨h2, _ | ⟨h3, _ | ⟨h4, _ | _⟩⟩⟩⟩ := hv
  rename_i v1 v2 v3 v4
  have h1' : Dp K H v1 (.list (code.map Row.enc)) := h1
  have h2' : Dp K H v2 (.tuple [.int r.sides, .list (r.texts.map PyData.str), .list (r.rooms.map fun m => .list (m.map encO))]) := h2
  refine ⟨_, (pss_cons (ps_set (i := 4) sc_moves_some.nd rfl (Or.inl rfl) (pe_ix ix_seq (pv 0) (pv 2) (fun _ _ => rfl))) (pss_cons (ps_if (pt_cmpR op_eq (pe_ix ix_seq (pv 4) (pe_int) (fun _ _ => rfl)) (pe_str) (nomark _)) (pss_one (ps_ret (pe_and (pe_cmpR op_eq (pe_ix ix_seq (pv 1) (pe_int) (fun _ _ => rfl)) (pe_int) (nomark _)) (pe_one (pe_cmpR op_ne (pe_kn Knext_room (hr.mono (by decide)) rfl (pa_cons (pv 1) (pa_cons (pe_int) (pa_cons (pe_str) (pa_nil))))) (pe_int) (nomark _)))))) (pss_nil)) (pss_cons (ps_for PassesOwn.never rfl (pi_list (pv 3)) (pg_name (i := 5) sc_moves_some.nd rfl (.inl rfl)) (pss_one (ps_if (PW.pt (pw_and (pt_val (pe_kn Khas_room (hr.mono (by decide)) rfl (pa_cons (pe_ix ix_seq (pv 1) (pe_int) (fun _ _ => rfl)) (pa_cons (pv 5) (pa_nil))))) (pw_and1 (pt_cmpR op_ne (pe_kn Kroom_behind (hr.mono (by decide)) rfl (pa_cons (pv 1) (pa_cons (pv 4) (pa_cons (pv 5) (pa_nil))))) (pe_ix ix_seq (pv 5) (pe_un un_neg (pe_int)) (fun _ _ => rfl)) (nomark _))))) (pss_one (ps_ret (pe_bl))) (pss_nil)))) (pss_one (ps_ret (pe_bl)))))), fun Q q => ?_⟩
  refine q_asg (K := K) (d := row.enc) (gd_op (by walk_at "gd") (by walk_at "gd") (r2_ixl (at_map hc))) fun v5 H1 s1 d5 => ?_
  refine q_if0 (gt_tag (K := K) (row := row) (by walk_at "gd") rfl) (fun e H2 s2 => ?_) (fun e H2 s2 => ?_)
  · have hx : ∃ x, scV (encO (r.next 0 "open")) = some x ∧ scal x (.int 0) = true := by
      cases r.next 0 "open" <;> exact ⟨_, rfl, rfl⟩
    obtain ⟨x, hx, hsc⟩ := hx
    refine l_ret (K := K) (gd_and (a := r.sides == 1) (gd_op (d := .int r.sides) (gd_op (by walk_at "gd") (by walk_at "gd") (r2_ixt rfl)) gd_int (r2_eq rfl rfl rfl (by rcases ok.sides with e | e <;> rw [e] <;> rfl))) fun _ => gd_op (gd_call (ds := [r.enc, .int 0, .str "open"]) (by walk_at "ga") ⟨r, L.R, 0, "open", ok, ok.pos, rfl, rfl⟩) gd_int (r2_ne hx rfl hsc rfl)) fun v H3 s3 d3 => q v H3 _ ⟨_, rfl⟩ (by walk_at "same") d3
  refine q_forV (K := K) (H0 := H2) (ds := ts.map Tok.enc) (v := v4) (fun i σ' H' => Same H2 H' ∧ ∃ z, σ' = [some v1, some v2, some v3, some v4, some v5, z]) rfl (by walk_at "dp") (by walk_at "same") ⟨by walk_at "same", none, rfl⟩ (fun i σ' H' p => p.1) (fun i d v σ' H' hd hP dv => ?_) fun σ' H' hP => ?_
  · obtain ⟨u, hu, rfl⟩ := dps_of hd
    obtain ⟨sm, z, rfl⟩ := hP
    have hok := ht u (List.mem_of_getElem? hu)
    have dv' : Dp K H' v u.enc := dv
    have hx : ∃ x, scV (encO (roomB r row u)) = some x ∧ scal x (.int u.room) = true := by
      cases roomB r row u <;> exact ⟨_, rfl, rfl⟩
    obtain ⟨x, hx, hsc⟩ := hx
    refine l_if (gt_and (a := u.hasRoom) (gt_B (K := K) (gd_call (ds := [.int L.sides, u.enc]) (ga_cons (by rw [← hs]; exact gd_op (by walk_at "gd") (by walk_at "gd") (r2_ixt rfl)) (by walk_at "ga")) ⟨L, u, hok, rfl, rfl⟩)) fun m => gt_test (K := K) (gd_op (gd_call (ds := [r.enc, row.enc, u.enc]) (by walk_at "ga") ⟨r, L, row, u, ok, hs, ho, hok, m, rfl, rfl⟩) (tok_last m rfl dv') (r2_ne hx rfl hsc rfl))) (fun _ H6 s6 => ?_) fun _ H6 s6 => ?_
    · exact l_ret (K := K) (d := .bool true) gd_bl fun v H3 s3 d3 => q v H3 _ ⟨_, rfl⟩ (by walk_at "same") d3
    · exact ⟨sm.trans s6, _, rfl⟩
  · obtain ⟨sm, z, rfl⟩ := hP
    exact l_ret (K := K) (d := .bool false) gd_bl fun v H3 s3 d3 => q v H3 _ ⟨_, rfl⟩ (by walk_at "same") d3
end
end Uw
/-! text D1 -/
/-! Dicts whose keys are None and tuples of ints, whose values are True. -/
namespace Uw
open PySem PySem.Spec PyProof.Rows L2
abbrev MK := Option (List Int × Addr)
def MK.key (k : MK) : Option (List Int) := k.map (·.1)
def MK.val : MK → Value
  | none => .none
  | some (_, b) => .ref b
def mkH (P : Program) (w : World) : Option (List Int) → Int
  | none => reduceHash 0xFCA86420
  | some ns => tupleKeyHash (intKind P w) ns
def mkEnt (P : Program) (w : World) (k : MK) : DictEntry := ⟨mkH P w k.key, k.val, .bool true⟩
def MOk (P : Program) (w : World) (h : Heap) : MK → Prop
  | none => True
  | some (ns, b) => IsTupleKey (intKind P w) h ns b
def DictM (P : Program) (w : World) (h : Heap) (a : Addr) (ks : List MK) (ep : Nat) : Prop := (a == sysModules) = false ∧ ∃ o, h.get? a = some o ∧ o.ExactDict ∧ o.data = .dict (ks.map (mkEnt P w)).toArray ep
section
variable {P : Program} {w : World} {A : Around} {E : Value → Shared → Prop} {s : Shared}
theorem isTuple_of {h : Heap} {ns : List Int} {b : Addr} (x : IsTupleKey (intKind P w) h ns b) : ∃ items, h.IsTuple b items := by
  obtain ⟨o, items, n, ho, hc, hd, hi⟩ := x
  exact ⟨items, o, ho, hc, n, hd⟩
theorem eqB_M {x y : MK} {Q : Bool → Shared → Prop} (hu : A.units < cLine) (hx : MOk P w s.heap x) (hy : MOk P w s.heap y) (h : Q (decide (x.key = y.key)) s) : wpAny (model P w) A (eqBool x.val y.val) Q E s := by
  rcases x with _ | ⟨ns, a⟩
  · rcases y with _ | ⟨ms, b⟩
    · exact SeqAt.EqAt.same _ _ _ _ _ h
    · obtain ⟨items, ht⟩ := isTuple_of hy
      exact SeqAt.EqAt.none_tuple ht hu _ _ _ _ h
  · rcases y with _ | ⟨ms, b⟩
    · obtain ⟨items, ht⟩ := isTuple_of hx
      exact SeqAt.EqAt.tuple_none ht hu _ _ _ _ h
    · refine wpAny_eqBool_tuple hu hx hy ?_
      have e : decide (MK.key (some (ns, a)) = MK.key (some (ms, b))) = decide (ns = ms) := by
        by_cases c : ns = ms
        · rw [decide_eq_true c, c]
          exact decide_eq_true rfl
        · rw [decide_eq_false c]
          exact decide_eq_false fun z => c (Option.some.inj z)
      rw [← e]
      exact h
theorem quiet_M {x : MK} {Q : Bool → Shared → Prop} (hx : MOk P w s.heap x) (h : Q true s) : wpAny (model P w) A (eqIsQuiet 8 x.val) Q E s := by
  rcases x with _ | ⟨ns, a⟩
  · show wpAny _ _ (eqIsQuiet 8 .none) _ _ _
    unfold eqIsQuiet
    exact wpAny_pure h
  · exact wpAny_eqIsQuiet_tuple hx h
theorem hash_M {x : MK} {Q : Int → Shared → Prop} (hu : A.units < cLine) (hx : MOk P w s.heap x) (h : ∀ t, Q (mkH P w x.key) { s with toks := t }) : wpAny (model P w) A (PySem.pyHash x.val) Q E s := by
  rcases x with _ | ⟨ns, a⟩
  · exact PySem.W.pyHash_slot (T := "NoneType") rfl PySem.F.slot_NoneType_hash PySem.F.entry_NoneType_hash (PySem.F.args_NoneType_hash_1 _) (beq_builtin_none _) (.inl rfl) (wpAny_bind (wpAny_pure (wpAny_bind (wpAny_mkInt (wpAny_pure ⟨_, _, rfl, h _⟩)))))
  · exact wpAny_pyHash_tuple hu hx (h _)
theorem tell_M {k : MK} {stored : List Value} {Q : Bool → Shared → Prop} (hk : MOk P w s.heap k) (hst : ∀ v ∈ stored, ∃ k', v = MK.val k' ∧ MOk P w s.heap k') (h : Q false s) : wpAny (model P w) A (tableMayTell k.val stored) Q E s := by
  unfold tableMayTell
  split
  · exact wpAny_pure h
  · refine wpAny_bind (quiet_M hk ?_)
    simp only [Bool.not_true, Bool.false_eq_true, if_false]
    refine wpAny_bind ?_
    refine wpAny_forIn_list _ (fun rest r s' => s' = s ∧ r = (none, ()) ∧ ∀ v ∈ rest, ∃ k', v = MK.val k' ∧ MOk P w s.heap k') _ ?_ ?_ _ _ ⟨rfl, rfl, hst⟩
    · rintro x rest r s' ⟨rfl, rfl, hr⟩
      obtain ⟨k', rfl, hb⟩ := hr x List.mem_cons_self
      refine wpAny_bind (quiet_M hb ?_)
      simp only [Bool.not_true, Bool.false_eq_true, if_false]
      exact wpAny_pure ⟨rfl, rfl, fun v hv => hr v (List.mem_cons_of_mem _ hv)⟩
    · rintro r s' ⟨rfl, rfl, _⟩
      exact wpAny_pure h
theorem val_inj {x y : MK} (hx : MOk P w s.heap x) (hy : MOk P w s.heap y) (e : x.val = y.val) : x.key = y.key := by
  rcases x with _ | ⟨ns, a⟩
  · rcases y with _ | ⟨ms, b⟩
    · rfl
    · cases e
  · rcases y with _ | ⟨ms, b⟩
    · cases e
    · injection e with e
      subst e
      exact congrArg some (hx.inj hy)
theorem ent_at {es : Array DictEntry} {ks : List MK} (he : es.toList = ks.map (mkEnt P w)) (j : Nat) : es[j]? = (ks[j]?).map (mkEnt P w) := by
  rw [← Array.getElem?_toList, he, List.getElem?_map]
theorem ent_size {es : Array DictEntry} {ks : List MK} (he : es.toList = ks.map (mkEnt P w)) : es.size = ks.length := by
  rw [← Array.length_toList, he, List.length_map]
theorem find_M {d : Addr} {o : Obj} {es ep} {ks : List MK} {k : MK} {Q : Option Nat → Shared → Prop} (hu : A.units < cLine) (hk : MOk P w s.heap k)
    (ho : s.heap.get? d = some o) (hd : o.data = .dict es ep) (he : es.toList = ks.map (mkEnt P w)) (hks : ∀ x ∈ ks, MOk P w s.heap x) (hn : (ks.map MK.key).Nodup)
    (hnone : (∀ x ∈ ks, x.key ≠ k.key) → Q none s) (hsome : ∀ (j : Nat) (x : MK), ks[j]? = some x → x.key = k.key → Q (some j) s) :
    wpAny (model P w) A (dictFind d k.val (mkH P w k.key)) Q E s := by
  have hsz : es.size = ks.length := ent_size he
  have uniq : ∀ {i j : Nat} {x y : MK}, ks[i]? = some x → ks[j]? = some y → x.key = y.key → i = j := fun {i j x y} hi hj e => by
    have hi' : (ks.map MK.key)[i]? = some x.key := by rw [List.getElem?_map, hi]; rfl
    have hj' : (ks.map MK.key)[j]? = some x.key := by rw [List.getElem?_map, hj, e]; rfl
    exact (List.getElem?_inj (List.getElem?_eq_some_iff.mp hi').1 hn).mp (hi'.trans hj'.symm)
  have haskey : ∀ (j : Nat) (x : MK), ks[j]? = some x → x.key = k.key → ((es[j]?.map (·.hash)) == some (mkH P w k.key)) = true := by
    intro j x hj e
    rw [ent_at he j, hj]
    simp [mkEnt, e]
  have hmem : ∀ e ∈ es, ∃ x ∈ ks, e = mkEnt P w x := by
    intro e hin
    have : e ∈ ks.map (mkEnt P w) := he ▸ Array.mem_toList_iff.mpr hin
    obtain ⟨x, hx, rfl⟩ := List.mem_map.mp this
    exact ⟨x, hx, rfl⟩
  have hany : ¬ (es.any fun e => e.key == k.val && e.hash != mkH P w k.key) = true := by
    rw [← Array.any_toList, List.any_eq_true]
    rintro ⟨e, hin, hc⟩
    obtain ⟨x, hx, rfl⟩ := hmem e (Array.mem_toList_iff.mp hin)
    simp only [mkEnt, Bool.and_eq_true, beq_iff_eq, bne_iff_ne, ne_eq] at hc
    obtain ⟨hxa, hne⟩ := hc
    exact hne (by rw [val_inj (hks x hx) hk hxa])
  have hst : ∀ v ∈ (placesWithHash es.size (fun i => es[i]?.map (·.hash)) (mkH P w k.key)).filterMap (fun i => es[i]?.map (·.key)), ∃ k', v = MK.val k' ∧ MOk P w s.heap k' := by
    intro v hv
    obtain ⟨i, _, hi⟩ := List.mem_filterMap.mp hv
    cases hei : es[i]? with
    | none => rw [hei] at hi; cases hi
    | some e =>
      rw [hei] at hi
      obtain rfl : e.key = v := by simpa using hi
      obtain ⟨x, hx, rfl⟩ := hmem e (Array.mem_of_getElem? hei)
      exact ⟨x, rfl, hks x hx⟩
  have hnone' : (∀ (j : Nat) (x : MK), ks[j]? = some x → x.key ≠ k.key) → Q none s := fun h => hnone fun x hx => by
    obtain ⟨j, hj⟩ := List.mem_iff_getElem?.mp hx
    exact h j x hj
  unfold dictFind
  try with_reducible refine wpAny_holding ?_
  refine wpAny_bind (wpAny_dictEntries ho hd ?_)
  dsimp only
  have walkP : wpAny (model P w) A (dictWalkPlain d k.val (mkH P w k.key) es (placesWithHash es.size (fun i => es[i]?.map (·.hash)) (mkH P w k.key))) Q E s := by
    unfold dictWalkPlain
    refine wpAny_bind ?_
    refine wpAny_forIn_list _
        (fun rest b s' => s' = s ∧ b = (none, ()) ∧ ∃ i, rest = (List.range' i (es.size - i)).filter (fun i => (es[i]?.map (·.hash)) == some (mkH P w k.key)) ∧ i ≤ es.size ∧
          (∀ (j : Nat) (x : MK), j < i → ks[j]? = some x → x.key ≠ k.key)) _ ?_ ?_ _ _
        ⟨rfl, rfl, 0, by rw [placesWithHash, List.range_eq_range', Nat.sub_zero], Nat.zero_le _, fun _ _ h => absurd h (Nat.not_lt_zero _)⟩
    · rintro x rest b s' ⟨rfl, rfl, i, hr, hi, hno⟩
      obtain ⟨hix, hxn, hpx, hskip, hrest⟩ := filter_range'_cons _ _ _ _ _ hr.symm
      have hlt : x < es.size := by omega
      have hrest' : rest = (List.range' (x + 1) (es.size - (x + 1))).filter (fun i => (es[i]?.map (·.hash)) == some (mkH P w k.key)) := by rw [hrest]; congr 2; omega
      obtain ⟨y, hkv⟩ : ∃ y, ks[x]? = some y := ⟨ks[x]'(by rw [← hsz]; exact hlt), List.getElem?_eq_getElem _⟩
      have hib : MOk P w s'.heap y := hks _ (List.mem_of_getElem? hkv)
      have hex : es[x]? = some (mkEnt P w y) := by rw [ent_at he x, hkv]; rfl
      have hnx : ¬ y.key = k.key → ∀ (j : Nat) (z : MK), j < x + 1 → ks[j]? = some z → z.key ≠ k.key := fun hne j z hjx hj ek => by
        rcases Nat.lt_or_ge j i with h | h
        · exact hno j z h hj ek
        · rcases Nat.lt_or_ge j x with h' | h'
          · have := hskip j h h'
            rw [haskey j z hj ek] at this
            exact absurd this (by decide)
          · have hjx' : j = x := by omega
            subst hjx'
            rw [hkv] at hj
            injection hj with hj
            subst hj
            exact hne ek
      rw [hex]
      dsimp only [mkEnt]
      by_cases hh : (mkH P w y.key == mkH P w k.key) = true
      · rw [if_pos hh]
        refine wpAny_bind (wpAny_dictEpoch ho hd (wpAny_bind (eqB_M (x := y) (y := k) hu hib hk (wpAny_bind (wpAny_dictEpoch ho hd ?_)))))
        show wpAny _ _ (if (ep != ep) = true then _ else _) _ E _
        rw [if_neg (by simp)]
        by_cases hkk : y.key = k.key
        · rw [decide_eq_true hkk]
          first | rw [if_pos rfl] | skip
          first | refine wpAny_bind (wpAny_pure ?_) | skip
          refine wpAny_bind (wpAny_rule ?_)
          exact wpAny_pure (wpAny_pure (hsome x _ hkv hkk))
        · rw [decide_eq_false hkk]
          simp only [Bool.false_eq_true, if_false]
          refine wpAny_bind (wpAny_rule ?_)
          first
            | exact wpAny_pure ⟨rfl, rfl, x + 1, hrest', hlt, hnx hkk⟩
            | exact wpAny_bind (wpAny_pure (wpAny_pure ⟨rfl, rfl, x + 1, hrest', hlt, hnx hkk⟩))
      · rw [if_neg hh]
        refine wpAny_pure ⟨rfl, rfl, x + 1, hrest', hlt, hnx ?_⟩
        intro hkk
        rw [hkk] at hh; simp at hh
    · rintro b s' ⟨rfl, rfl, i, hr, hi, hno⟩
      have hall : ∀ j, i ≤ j → j < es.size → ((es[j]?.map (·.hash)) == some (mkH P w k.key)) = false := by
        intro j h1 h2
        have := List.filter_eq_nil_iff.mp hr.symm j (List.mem_range'_1.mpr ⟨h1, by omega⟩)
        simpa using this
      refine wpAny_pure (hnone' fun j p hj ek => ?_)
      rcases Nat.lt_or_ge j i with h | h
      · exact hno j p h hj ek
      · have hjl : j < es.size := by
          rw [hsz]
          rcases Nat.lt_or_ge j ks.length with h' | h'
          · exact h'
          · rw [List.getElem?_eq_none h'] at hj; exact nomatch hj
        have := hall j h hjl
        rw [haskey j p hj ek] at this
        exact absurd this (by decide)
  rcases k with _ | ⟨ns, kb⟩
  · by_cases hall : ((MK.val none :: (placesWithHash es.size (fun i => es[i]?.map (·.hash)) (mkH P w (MK.key none))).filterMap (fun i => es[i]?.map (·.key))).all carriedByValue) = true
    · rw [if_pos hall]
      first | exact walkP | exact wpAny_bind walkP
    rw [if_neg hall]
    by_cases hone : (((placesWithHash es.size (fun i => es[i]?.map (·.hash)) (mkH P w (MK.key none))).filterMap (fun i => es[i]?.map (·.key))) == [MK.val none]) = true <;>
    (first | rw [if_pos hone] | rw [if_neg hone]) <;> (first | refine wpAny_bind (wpAny_pure ?_) | refine wpAny_bind (tell_M hk hst ?_)) <;> (
      rw [if_neg (by simp)]
      refine wpAny_bind ?_
      refine wpAny_forIn_list _
        (fun rest b s' => s' = s ∧ ∃ i hit, b = (none, hit) ∧ rest = (List.range' i (es.size - i)).filter (fun i => (es[i]?.map (·.hash)) == some (mkH P w (MK.key none))) ∧ i ≤ es.size ∧
          ((hit = none ∧ ∀ (j : Nat) (x : MK), j < i → ks[j]? = some x → x.key ≠ MK.key none) ∨ ∃ (j : Nat) (x : MK), hit = some j ∧ j < i ∧ ks[j]? = some x ∧ x.key = MK.key none)) _ ?_ ?_ _ _
        ⟨rfl, 0, none, rfl, by rw [placesWithHash, List.range_eq_range', Nat.sub_zero], Nat.zero_le _, .inl ⟨rfl, fun _ _ h => absurd h (Nat.not_lt_zero _)⟩⟩
      · rintro x rest b s' ⟨rfl, i, hit, rfl, hr, hi, hH⟩
        obtain ⟨hix, hxn, hpx, hskip, hrest⟩ := filter_range'_cons _ _ _ _ _ hr.symm
        have hlt : x < es.size := by omega
        have hrest' : rest = (List.range' (x + 1) (es.size - (x + 1))).filter (fun i => (es[i]?.map (·.hash)) == some (mkH P w (MK.key none))) := by rw [hrest]; congr 2; omega
        obtain ⟨y, hkv⟩ : ∃ y, ks[x]? = some y := ⟨ks[x]'(by rw [← hsz]; exact hlt), List.getElem?_eq_getElem _⟩
        have hib : MOk P w s'.heap y := hks _ (List.mem_of_getElem? hkv)
        have hex : es[x]? = some (mkEnt P w y) := by rw [ent_at he x, hkv]; rfl
        have hHx : (hit = none ∧ ∀ (j : Nat) (z : MK), j < x → ks[j]? = some z → z.key ≠ MK.key none) ∨ ∃ (j : Nat) (z : MK), hit = some j ∧ j < x ∧ ks[j]? = some z ∧ z.key = MK.key none := by
          rcases hH with ⟨h0, hno⟩ | ⟨j, p, h1, hji, hj⟩
          · refine .inl ⟨h0, fun j p hjx hj ek => ?_⟩
            rcases Nat.lt_or_ge j i with h | h
            · exact hno j p h hj ek
            · have := hskip j h hjx
              rw [haskey j p hj ek] at this
              exact absurd this (by decide)
          · exact .inr ⟨j, p, h1, by omega, hj⟩
        have hstay : ¬ y.key = MK.key none → ((hit = none ∧ ∀ (j : Nat) (z : MK), j < x + 1 → ks[j]? = some z → z.key ≠ MK.key none) ∨ ∃ (j : Nat) (z : MK), hit = some j ∧ j < x + 1 ∧ ks[j]? = some z ∧ z.key = MK.key none) := by
          intro hne
          rcases hHx with ⟨h0, hno⟩ | ⟨j, p, h1, hjx, hj⟩
          · refine .inl ⟨h0, fun j p hjx hj => ?_⟩
            rcases Nat.lt_or_ge j x with h | h
            · exact hno j p h hj
            · have hjx' : j = x := by omega
              subst hjx'
              rw [hkv] at hj
              injection hj with hj
              subst hj
              exact hne
          · exact .inr ⟨j, p, h1, by omega, hj⟩
        rw [hex]
        dsimp only [mkEnt]
        by_cases hh : (mkH P w y.key == mkH P w (MK.key none)) = true
        · rw [if_pos hh]
          refine wpAny_bind (wpAny_dictEpoch ho hd (wpAny_bind (eqB_M (x := y) (y := none) hu hib hk (wpAny_bind (wpAny_dictEpoch ho hd ?_)))))
          show wpAny _ _ (if (ep != ep) = true then _ else _) _ E _
          rw [if_neg (by simp)]
          by_cases hkk : y.key = MK.key none
          · rw [decide_eq_true hkk]
            rcases hHx with ⟨rfl, _⟩ | ⟨j, p, _, hjx, hj, ej⟩
            · first | rw [if_pos rfl] | skip
              simp only [Option.isSome_none, Bool.false_eq_true, if_false]
              first | refine wpAny_bind (wpAny_pure ?_) | skip
              refine wpAny_bind (wpAny_rule ?_)
              split
              · exact wpAny_pure (wpAny_pure (hsome x _ hkv hkk))
              · exact wpAny_pure ⟨rfl, x + 1, some x, rfl, hrest', hlt, .inr ⟨x, _, rfl, Nat.lt_succ_self x, hkv, hkk⟩⟩
            · exact absurd (uniq hj hkv (ej.trans hkk.symm)) (by omega)
          · rw [decide_eq_false hkk]
            simp only [Bool.false_eq_true, if_false]
            refine wpAny_bind (wpAny_rule ?_)
            first | rw [if_neg (by simp)] | skip
            first
              | exact wpAny_pure ⟨rfl, x + 1, hit, rfl, hrest', hlt, hstay hkk⟩
              | exact wpAny_bind (wpAny_pure (wpAny_pure ⟨rfl, x + 1, hit, rfl, hrest', hlt, hstay hkk⟩))
        · rw [if_neg hh]
          refine wpAny_pure ⟨rfl, x + 1, hit, rfl, hrest', hlt, hstay ?_⟩
          intro hkk
          rw [hkk] at hh; simp at hh
      · rintro b s' ⟨rfl, i, hit, rfl, hr, hi, hH⟩
        have hall : ∀ j, i ≤ j → j < es.size → ((es[j]?.map (·.hash)) == some (mkH P w (MK.key none))) = false := by
          intro j h1 h2
          have := List.filter_eq_nil_iff.mp hr.symm j (List.mem_range'_1.mpr ⟨h1, by omega⟩)
          simpa using this
        rcases hH with ⟨rfl, hno⟩ | ⟨j, p, rfl, _, hj, ej⟩
        · refine wpAny_pure (hnone' fun j p hj ek => ?_)
          rcases Nat.lt_or_ge j i with h | h
          · exact hno j p h hj ek
          · have hjl : j < es.size := by
              rw [hsz]
              rcases Nat.lt_or_ge j ks.length with h' | h'
              · exact h'
              · rw [List.getElem?_eq_none h'] at hj; exact nomatch hj
            have := hall j h hjl
            rw [haskey j p hj ek] at this
            exact absurd this (by decide)
        · exact wpAny_pure (hsome j p hj ej))
  · rw [if_neg (show ¬ ((MK.val (some (ns, kb)) :: (placesWithHash es.size (fun i => es[i]?.map (·.hash)) (mkH P w (MK.key (some (ns, kb))))).filterMap (fun i => es[i]?.map (·.key))).all carriedByValue) = true by simp [carriedByValue, MK.val])]
    rw [if_neg hany]
    by_cases hone : (((placesWithHash es.size (fun i => es[i]?.map (·.hash)) (mkH P w (MK.key (some (ns, kb))))).filterMap (fun i => es[i]?.map (·.key))) == [MK.val (some (ns, kb))]) = true <;>
    (first | rw [if_pos hone] | rw [if_neg hone]) <;> (first | refine wpAny_bind (wpAny_pure ?_) | refine wpAny_bind (tell_M hk hst ?_)) <;> (
      rw [if_neg (by simp)]
      refine wpAny_bind ?_
      refine wpAny_forIn_list _
        (fun rest b s' => s' = s ∧ ∃ i hit, b = (none, hit) ∧ rest = (List.range' i (es.size - i)).filter (fun i => (es[i]?.map (·.hash)) == some (mkH P w (MK.key (some (ns, kb))))) ∧ i ≤ es.size ∧
          ((hit = none ∧ ∀ (j : Nat) (x : MK), j < i → ks[j]? = some x → x.key ≠ MK.key (some (ns, kb))) ∨ ∃ (j : Nat) (x : MK), hit = some j ∧ j < i ∧ ks[j]? = some x ∧ x.key = MK.key (some (ns, kb)))) _ ?_ ?_ _ _
        ⟨rfl, 0, none, rfl, by rw [placesWithHash, List.range_eq_range', Nat.sub_zero], Nat.zero_le _, .inl ⟨rfl, fun _ _ h => absurd h (Nat.not_lt_zero _)⟩⟩
      · rintro x rest b s' ⟨rfl, i, hit, rfl, hr, hi, hH⟩
        obtain ⟨hix, hxn, hpx, hskip, hrest⟩ := filter_range'_cons _ _ _ _ _ hr.symm
        have hlt : x < es.size := by omega
        have hrest' : rest = (List.range' (x + 1) (es.size - (x + 1))).filter (fun i => (es[i]?.map (·.hash)) == some (mkH P w (MK.key (some (ns, kb))))) := by rw [hrest]; congr 2; omega
        obtain ⟨y, hkv⟩ : ∃ y, ks[x]? = some y := ⟨ks[x]'(by rw [← hsz]; exact hlt), List.getElem?_eq_getElem _⟩
        have hib : MOk P w s'.heap y := hks _ (List.mem_of_getElem? hkv)
        have hex : es[x]? = some (mkEnt P w y) := by rw [ent_at he x, hkv]; rfl
        have hHx : (hit = none ∧ ∀ (j : Nat) (z : MK), j < x → ks[j]? = some z → z.key ≠ MK.key (some (ns, kb))) ∨ ∃ (j : Nat) (z : MK), hit = some j ∧ j < x ∧ ks[j]? = some z ∧ z.key = MK.key (some (ns, kb)) := by
          rcases hH with ⟨h0, hno⟩ | ⟨j, p, h1, hji, hj⟩
          · refine .inl ⟨h0, fun j p hjx hj ek => ?_⟩
            rcases Nat.lt_or_ge j i with h | h
            · exact hno j p h hj ek
            · have := hskip j h hjx
              rw [haskey j p hj ek] at this
              exact absurd this (by decide)
          · exact .inr ⟨j, p, h1, by omega, hj⟩
        have hstay : ¬ y.key = MK.key (some (ns, kb)) → ((hit = none ∧ ∀ (j : Nat) (z : MK), j < x + 1 → ks[j]? = some z → z.key ≠ MK.key (some (ns, kb))) ∨ ∃ (j : Nat) (z : MK), hit = some j ∧ j < x + 1 ∧ ks[j]? = some z ∧ z.key = MK.key (some (ns, kb))) := by
          intro hne
          rcases hHx with ⟨h0, hno⟩ | ⟨j, p, h1, hjx, hj⟩
          · refine .inl ⟨h0, fun j p hjx hj => ?_⟩
            rcases Nat.lt_or_ge j x with h | h
            · exact hno j p h hj
            · have hjx' : j = x := by omega
              subst hjx'
              rw [hkv] at hj
              injection hj with hj
              subst hj
              exact hne
          · exact .inr ⟨j, p, h1, by omega, hj⟩
        rw [hex]
        dsimp only [mkEnt]
        by_cases hh : (mkH P w y.key == mkH P w (MK.key (some (ns, kb)))) = true
        · rw [if_pos hh]
          refine wpAny_bind (wpAny_dictEpoch ho hd (wpAny_bind (eqB_M (x := y) (y := some (ns, kb)) hu hib hk (wpAny_bind (wpAny_dictEpoch ho hd ?_)))))
          show wpAny _ _ (if (ep != ep) = true then _ else _) _ E _
          rw [if_neg (by simp)]
          by_cases hkk : y.key = MK.key (some (ns, kb))
          · rw [decide_eq_true hkk]
            rcases hHx with ⟨rfl, _⟩ | ⟨j, p, _, hjx, hj, ej⟩
            · first | rw [if_pos rfl] | skip
              simp only [Option.isSome_none, Bool.false_eq_true, if_false]
              first | refine wpAny_bind (wpAny_pure ?_) | skip
              refine wpAny_bind (wpAny_rule ?_)
              split
              · exact wpAny_pure (wpAny_pure (hsome x _ hkv hkk))
              · exact wpAny_pure ⟨rfl, x + 1, some x, rfl, hrest', hlt, .inr ⟨x, _, rfl, Nat.lt_succ_self x, hkv, hkk⟩⟩
            · exact absurd (uniq hj hkv (ej.trans hkk.symm)) (by omega)
          · rw [decide_eq_false hkk]
            simp only [Bool.false_eq_true, if_false]
            refine wpAny_bind (wpAny_rule ?_)
            first | rw [if_neg (by simp)] | skip
            first
              | exact wpAny_pure ⟨rfl, x + 1, hit, rfl, hrest', hlt, hstay hkk⟩
              | exact wpAny_bind (wpAny_pure (wpAny_pure ⟨rfl, x + 1, hit, rfl, hrest', hlt, hstay hkk⟩))
        · rw [if_neg hh]
          refine wpAny_pure ⟨rfl, x + 1, hit, rfl, hrest', hlt, hstay ?_⟩
          intro hkk
          rw [hkk] at hh; simp at hh
      · rintro b s' ⟨rfl, i, hit, rfl, hr, hi, hH⟩
        have hall : ∀ j, i ≤ j → j < es.size → ((es[j]?.map (·.hash)) == some (mkH P w (MK.key (some (ns, kb))))) = false := by
          intro j h1 h2
          have := List.filter_eq_nil_iff.mp hr.symm j (List.mem_range'_1.mpr ⟨h1, by omega⟩)
          simpa using this
        rcases hH with ⟨rfl, hno⟩ | ⟨j, p, rfl, _, hj, ej⟩
        · refine wpAny_pure (hnone' fun j p hj ek => ?_)
          rcases Nat.lt_or_ge j i with h | h
          · exact hno j p h hj ek
          · have hjl : j < es.size := by
              rw [hsz]
              rcases Nat.lt_or_ge j ks.length with h' | h'
              · exact h'
              · rw [List.getElem?_eq_none h'] at hj; exact nomatch hj
            have := hall j h hjl
            rw [haskey j p hj ek] at this
            exact absurd this (by decide)
        · exact wpAny_pure (hsome j p hj ej))
end
end Uw
/-! text D2 -/
/-! .. : not in, store, walk, as rules. -/
namespace Uw
open PySem PySem.Spec PyProof.Rows L2
def addK (ks : List MK) (k : MK) : List MK := if k.key ∈ ks.map MK.key then ks else ks ++ [k]
section
variable {P : Program} {w : World} {A : Around} {E : Value → Shared → Prop} {s : Shared} {d : Addr} {ks : List MK} {ep : Nat} {k : MK}
theorem DictM.typeIs (D : DictM P w s.heap d ks ep) : s.TypeIs (.ref d) "dict" := let ⟨_, o, ho, hc, _⟩ := D; ⟨o, ho, hc.1⟩
theorem get_M {Q : Option Value → Shared → Prop} (hu : A.units < cLine) (hk : MOk P w s.heap k) (D : DictM P w s.heap d ks ep) (hks : ∀ x ∈ ks, MOk P w s.heap x) (hn : (ks.map MK.key).Nodup)
    (h0 : k.key ∉ ks.map MK.key → ∀ t, Q none { s with toks := t }) (h1 : k.key ∈ ks.map MK.key → ∀ t, Q (some (.bool true)) { s with toks := t }) : wpAny (model P w) A (dictGet d k.val) Q E s := by
  obtain ⟨hsys, o, ho, hc, hd⟩ := D
  have he : (ks.map (mkEnt P w)).toArray.toList = ks.map (mkEnt P w) := rfl
  unfold dictGet
  try with_reducible refine wpAny_holding ?_
  refine wpAny_bind (hash_M hu hk fun t => wpAny_bind (find_M (s := { s with toks := t }) hu hk ho hd he hks hn ?_ ?_))
  · intro hno
    refine wpAny_pure (h0 (fun m => ?_) t)
    obtain ⟨x, hx, e⟩ := List.mem_map.mp m
    exact hno x hx e
  · intro j x hj e
    refine wpAny_bind (wpAny_dictEntries (s := { s with toks := t }) ho hd ?_)
    rw [ent_at he j, hj]
    exact wpAny_pure (h1 (List.mem_map.mpr ⟨x, List.mem_of_getElem? hj, e⟩) t)
theorem notIn_M {Q : Value → Shared → Prop} (hu : A.in1.units < cLine) (hk : MOk P w s.heap k) (D : DictM P w s.heap d ks ep) (hks : ∀ x ∈ ks, MOk P w s.heap x) (hn : (ks.map MK.key).Nodup)
    (h : ∀ t, Q (.bool (!decide (k.key ∈ ks.map MK.key))) { s with toks := t }) : wpAny (model P w) A (compareOp .NotIn k.val (.ref d)) Q E s := by
  show wpAny _ _ (do return .bool (!(← contains (.ref d) k.val))) Q E s
  refine wpAny_bind ?_
  unfold contains
  try with_reducible refine wpAny_holding ?_
  refine wpAny_bind (wpAny_specialOf D.typeIs slot_dict_contains.lookup ?_)
  show wpAny _ _ (if (some (Value.builtin "dict.__contains__") == some Value.none) = true then _ else _) _ E s
  rw [if_neg (by rw [beq_builtin_none]; exact Bool.false_ne_true)]
  refine wpAny_bind (wpAny_callSpecialUnlessNone?_slot (name := Str.ofString "__contains__") D.typeIs slot_dict_contains
    (wpAny_call_entry slot_dict_contains D.typeIs entry_dict_contains ?_ (args_dict_contains _ _)))
  show wpAny _ _ (dictGet d k.val >>= _) _ _ s
  refine wpAny_bind (get_M hu hk D hks hn (fun m t => ?_) fun m t => ?_)
  · have z := h t
    rw [decide_eq_false m] at z
    show wpAny _ _ (Builtin.Dict.pendingKey? d k.val >>= _) _ _ _
    exact wpAny_bind (wpAny_pendingKey_other D.1 (wpAny_pure ⟨_, rfl, wpAny_truthy_bool (wpAny_pure z)⟩))
  · have z := h t
    rw [decide_eq_true m] at z
    show wpAny _ _ (ret (.bool true)) _ _ _
    exact wpAny_pure ⟨_, rfl, wpAny_truthy_bool (wpAny_pure z)⟩
theorem set_M {Q : Unit → Shared → Prop} (hu : A.in1.units < cLine) (hk : MOk P w s.heap k) (D : DictM P w s.heap d ks ep) (hks : ∀ x ∈ ks, MOk P w s.heap x) (hn : (ks.map MK.key).Nodup) (hz : ks.length ≤ sizeLine)
    (hQ : ∀ h' t ep', Heap.SameBut d s.heap h' → DictM P w h' d (addK ks k) ep' → Q () { s with heap := h', toks := t }) : wpAny (model P w) A (setItem (.ref d) k.val (.bool true)) Q E s := by
  have hT := D.typeIs
  obtain ⟨hsys, o, ho, hc, hd⟩ := D
  have he : (ks.map (mkEnt P w)).toArray.toList = ks.map (mkEnt P w) := rfl
  unfold setItem
  try with_reducible refine wpAny_holding ?_
  refine wpAny_bind (wpAny_sequenceKey hT (by decide) ?_)
  refine wpAny_bind (wpAny_callSpecial?_slot (name := Str.ofString "__setitem__") hT slot_dict_setitem
    (wpAny_call_entry slot_dict_setitem hT entry_dict_setitem ?_ (args_dict_setitem _ _ _)))
  show wpAny _ _ (Builtin.Dict.notOrdered "__setitem__" ⟨[.ref d, k.val, .bool true], []⟩ >>= _) _ _ s
  refine wpAny_bind (wpAny_notOrdered_dict hT ?_)
  show wpAny _ _ (dictSet d k.val (.bool true) >>= _) _ _ s
  refine wpAny_bind ?_
  unfold dictSet
  try with_reducible refine wpAny_holding ?_
  refine wpAny_bind (hash_M hu hk fun t => ?_)
  unfold dictSetHashed
  try with_reducible refine wpAny_holding ?_
  refine wpAny_bind (find_M (s := { s with toks := t }) hu hk ho hd he hks hn ?_ ?_)
  · intro hno
    have hnot : k.key ∉ ks.map MK.key := fun m => by
      obtain ⟨x, hx, e⟩ := List.mem_map.mp m
      exact hno x hx e
    have ea : addK ks k = ks ++ [k] := if_neg hnot
    refine wpAny_bind (wpAny_rule (wpAny_updateDictKeys (hz := by have e := ent_size he; omega) (s := { s with toks := t }) ho hd (wpAny_pure ⟨.none, rfl, wpAny_pure (hQ _ t (ep + 1) (Heap.SameBut.update ..) ⟨hsys, _, Heap.get?_update_self _ ho (Obj.isFreed_of_dict (Obj.data_mapDictKeys hd _)), hc.mapDictKeys _, ?_⟩)⟩)))
    rw [ea, Obj.data_mapDictKeys hd]
    simp [mkEnt]
  · intro j x hj e
    have hin : k.key ∈ ks.map MK.key := List.mem_map.mpr ⟨x, List.mem_of_getElem? hj, e⟩
    have ea : addK ks k = ks := if_pos hin
    refine wpAny_bind (wpAny_rule (wpAny_bind (wpAny_updateDict (s := { s with toks := t }) ho hd (wpAny_point (wpAny_pure ⟨.none, rfl, wpAny_pure (hQ _ t ep (Heap.SameBut.update ..) ⟨hsys, _, Heap.get?_update_self _ ho (Obj.isFreed_of_dict (Obj.data_mapDict hd _)), hc.mapDict _, ?_⟩)⟩)))))
    rw [ea, Obj.data_mapDict hd]
    have em : ∀ (l : List MK) (j : Nat), (l.map (mkEnt P w)).modify j (fun e : DictEntry => { e with val := .bool true }) = l.map (mkEnt P w) := by
      intro l
      induction l with
      | nil => intro j; simp
      | cons y l ih =>
        intro j
        cases j with
        | zero => simp [mkEnt]
        | succ j => simp [ih j]
    have e2 := em ks j
    simp [e2]
end
/-! ### as an object; values -/
def DM (P : Program) (w : World) (a : Addr) (ks : List MK) (ep : Nat) : HO := .ext fun h => DictM P w h a ks ep
theorem DM_ok {P : Program} {w : World} {H : Hp} {h : Heap} {a : Addr} {ks : List MK} {ep : Nat} (D : DictM P w h a ks ep) : ObjOk P w H h a (DM P w a ks ep) :=
  ⟨D, by
    obtain ⟨_, o, ho, _⟩ := D
    exact ⟨o, ho⟩, fun h1 h2 p k => by
    obtain ⟨hs, o, ho, q⟩ := p
    exact ⟨hs, o, k o ho, q⟩⟩
def mkV : MK → V
  | none => .non
  | some (_, b) => .ref b
def MOkV (K : PySem.W.Frag) (H : Hp) : MK → Prop
  | none => True
  | some (ns, b) => SqT K H b (ns.map V.int)
theorem mk_val {k : MK} {v : Value} (r : RelV (mkV k) v) : v = k.val := by
  rcases k with _ | ⟨ns, b⟩
  · exact r
  · exact r
theorem mk_rel (k : MK) : RelV (mkV k) k.val := by
  rcases k with _ | ⟨ns, b⟩
  · exact rfl
  · exact rfl
section
variable {X : Cx} {pins : List (Addr × Obj)} {σ : L2.St} {H : Hp} {s : Shared}
theorem inv_mok (I : Inv X pins σ H s) {k : MK} (h : MOkV X.K H k) : MOk X.prog X.w s.heap k := by
  rcases k with _ | ⟨ns, b⟩
  · trivial
  · exact I.isT h
def tDNewM (P : Program) (w : World) : TE := fun _ H Q => ∀ p, H p = none → Q (.ref p) (upd H p (DM P w p [] 0))
theorem pe_dnewM {pos : Pos} : PE X (.Dict [] [] pos) (tDNewM X.prog X.w) := ⟨fun pins s σ H Q I h =>
  wpAny_Dict_empty ⟨.ref s.heap.objs.size, _, I.laid (a := s.heap.objs.size) (o := DM X.prog X.w s.heap.objs.size [] 0) (t' := s.toks) (fun _ _ q => Heap.get?_push_of_some _ q) (Nat.le_refl _)
    (DM_ok ⟨beq_eq_false_iff_ne.mpr (Ne.symm (Nat.ne_of_lt I.big)), _, Heap.get?_push_size _ rfl, ⟨rfl, rfl, rfl⟩, rfl⟩), rfl, h _ (I.hok.fresh (Nat.le_refl _))⟩⟩
/-- k not in d -/
def rNotInM (K : PySem.W.Frag) (P : Program) (w : World) : R2 := fun x y H Q => ∃ (a : Addr) (ks : List MK) (ep : Nat) (k : MK), x = mkV k ∧ y = .ref a ∧ H a = some (DM P w a ks ep) ∧ MOkV K H k ∧ (∀ x ∈ ks, MOkV K H x) ∧ (ks.map MK.key).Nodup ∧
  Q (.bl (!decide (k.key ∈ ks.map MK.key))) H
theorem op_notInM (hu : X.A.units + 64 < cLine) : OpR X (compareOp .NotIn) (rNotInM X.K X.prog X.w) := by
  intro pins s σ H x y v u Q I rx ry h
  obtain ⟨a, ks, ep, k, rfl, rfl, ha, hk, hks, hn, q⟩ := h
  obtain rfl := mk_val rx
  obtain rfl : u = Value.ref a := ry
  have D : DictM X.prog X.w s.heap a ks ep := (I.hok a _ ha).1
  refine notIn_M (by show X.A.units + 1 < cLine; omega) (inv_mok I hk) D (fun x hx => inv_mok I (hks x hx)) hn fun t => ⟨.bl _, H, I.tok t, rfl, q⟩
/-- d[k] = True -/
def rSetM (K : PySem.W.Frag) (P : Program) (w : World) : TSet := fun o i v H Q => ∃ (a : Addr) (ks : List MK) (ep : Nat) (k : MK), o = .ref a ∧ i = mkV k ∧ v = .bl true ∧ H a = some (DM P w a ks ep) ∧ MOkV K H k ∧ (∀ x ∈ ks, MOkV K H x) ∧ (ks.map MK.key).Nodup ∧ ks.length ≤ sizeLine ∧
  ∀ ep', Q (upd H a (DM P w a (addK ks k) ep'))
theorem set_dM (hu : X.A.units + 64 < cLine) : PSet X (rSetM X.K X.prog X.w) := by
  intro pins s σ H o i v ov iv u Q I ro ri rv h
  obtain ⟨a, ks, ep, k, rfl, rfl, rfl, ha, hk, hks, hn, hz, q⟩ := h
  obtain rfl := mk_val ri
  obtain rfl : ov = Value.ref a := ro
  obtain rfl : u = Value.bool true := rv
  have D : DictM X.prog X.w s.heap a ks ep := (I.hok a _ ha).1
  refine set_M (by show X.A.units + 1 < cLine; omega) (inv_mok I hk) D (fun x hx => inv_mok I (hks x hx)) hn hz fun h' t ep' sb D' => ⟨_, I.write (x := a) (e := a) (t' := t) (by rw [ha]; exact trivial) (.inl rfl) (fun b u hb e => (sb.2 b hb).trans e) ?_ (DM_ok D'), q ep'⟩
  obtain ⟨_, o, ho, _⟩ := D'
  exact ⟨o, ho⟩
/-! ### for k in d -/
def Itm (P : Program) (w : World) (d : Addr) (ks : List MK) (ep : Nat) : It :=
  ⟨fun i H => H d = some (DM P w d ks ep) ∧ i < ks.length, fun i H x H' => H' = H ∧ ∃ k, ks[i]? = some k ∧ x = mkV k, fun i H => H d = some (DM P w d ks ep) ∧ ks.length ≤ i⟩
theorem raw_M {P : Program} {w : World} {h : Heap} {d : Addr} {ks : List MK} {ep : Nat} (D : DictM P w h d ks ep) : Heap.DictRaw h d (ks.map (mkEnt P w)).toArray ep := D.2
theorem turn_M {P : Program} {w : World} {K : PySem.W.Frag} {tg : Expr} {d : Addr} {ks : List MK} {ep : Nat} (it : Addr) : Turn P w K tg (Itm P w d ks ep) [it] it (fun i h => h.IsKeyIter it d i (ks.map (mkEnt P w)).toArray.size ep) where
  mem := by simp
  obj := fun i h st b hb => by
    have e : b = it := by simpa using hb
    subst e
    obtain ⟨oi, e, c, dd⟩ := st
    exact ⟨oi, e, fun v z => by rw [dd] at z; cases z⟩
  keep := fun i h h' st k => st.at fun oi e => k it (by simp) oi e
  item := by
    intro X hP hw hK hc i pins s σ H E I hf st hg
    subst hP hw hK
    obtain ⟨hd, hi⟩ := hg
    obtain ⟨f0, f1, f2, f3, f4, f5⟩ := hf it (by simp)
    have D : DictM X.prog X.w s.heap d ks ep := (I.hok d _ hd).1
    have hi' : i < (ks.map (mkEnt X.prog X.w)).toArray.size := by simpa using hi
    refine wpAny_pyNext_keys_item_raw st (raw_M D) hi' fun h' st' sb => ?_
    have I1 : Inv X pins σ H { s with heap := h' } := I.turned (t' := s.toks) (fun b ob hb e => (sb.2 b hb).trans e) f0 f1 f3 f4 f5
    obtain ⟨oi, e, c, dd⟩ := id st'
    have ek : ((ks.map (mkEnt X.prog X.w)).toArray[i]).key = ks[i].val := by simp [mkEnt]
    refine ⟨_, rfl, go_of (s := { s with heap := h' }) e c dd (by decide) ⟨mkV ks[i], H, I1, by rw [ek]; exact mk_rel _, ⟨rfl, ks[i], List.getElem?_eq_getElem hi, rfl⟩, st', fun b hb => (hf b hb).1⟩⟩
  done := by
    intro X hP hw hK hc i pins s σ H E I hf st hg
    subst hP hw hK
    obtain ⟨hd, hi⟩ := hg
    obtain ⟨f0, f1, f2, f3, f4, f5⟩ := hf it (by simp)
    have D : DictM X.prog X.w s.heap d ks ep := (I.hok d _ hd).1
    exact wpAny_pyNext_keys_end_raw (I.ok.hd hc) st (raw_M D) (by simpa using hi) fun h' eb => ⟨rfl, I.turned (t' := s.toks) (fun b ob hb e => eb b ob hb e) f0 f1 f3 f4 f5⟩
  self := fun A i s Q E st h => wpAny_pyIter_keyiter st h
def iDM (P : Program) (w : World) (td : TE) : TI := fun σ H R => td σ H fun x H1 => ∃ d ks ep, x = .ref d ∧ H1 d = some (DM P w d ks ep) ∧ R (Itm P w d ks ep) H1
theorem pi_dM {tg e : Expr} {td : TE} (he : PE X e td) : PI X tg e (iDM X.prog X.w td) := by
  refine ⟨fun pins s σ H R I h => ?_⟩
  refine thn (he.run pins s σ H _ I h) fun u s1 ⟨x, H1, I1, rx, d, ks, ep, ex, hd, q⟩ => ?_
  subst ex
  obtain rfl : u = Value.ref d := rx
  have D : DictM X.prog X.w s1.heap d ks ep := (I1.hok d _ hd).1
  exact wpAny_pyIter_dict_raw D.1 (raw_M D) (pi_one (tk := s1.toks) I1 _ (turn_M _) ⟨_, Heap.get?_push_size _ rfl, rfl, rfl⟩ q)
theorem lc_dM {P : Program} {w : World} {a : Addr} {ks : List MK} {ep : Nat} {g : TG} {tt : TT} {te : TE} {vs : List Nat} {σ : L2.St} {H1 : Hp} {D : Addr} {Qd : Hp → Prop} (Pv : Nat → Hp → Prop) (h0 : Pv 0 (upd H1 D (.lst []))) (hl : ∀ i H, i ≤ ks.length → Pv i H → H a = some (DM P w a ks ep))
    (hs : ∀ i k H, ks[i]? = some k → Pv i H → g (mkV k) (wipe σ vs) H fun σ2 H2 => wipe σ2 vs = wipe σ vs ∧ tt σ2 H2 fun b H3 =>
      if b = true then te σ2 H3 fun y H4 => ∃ acc, H4 D = some (.lst acc) ∧ acc.length < sizeLine ∧ Pv (i + 1) (upd H4 D (.lst (acc ++ [y]))) else Pv (i + 1) H3) (hd : ∀ H, Pv ks.length H → Qd H) :
    ∃ W : Nat → Nat → Hp → Prop, (∃ m, W 0 m (upd H1 D (.lst []))) ∧ ∀ i m H, W i m H →
      ((Itm P w a ks ep).stop i H ∧ Qd H) ∨ ((Itm P w a ks ep).go i H ∧ ∃ Nx : Hp → Prop, (∀ H', Nx H' → ∃ m', m' < m ∧ W (i + 1) m' H') ∧ ∀ x H', (Itm P w a ks ep).yld i H x H' → g x (wipe σ vs) H' fun σ2 H2 => wipe σ2 vs = wipe σ vs ∧ tt σ2 H2 fun b H3 =>
        if b = true then te σ2 H3 fun y H4 => ∃ acc, H4 D = some (.lst acc) ∧ acc.length < sizeLine ∧ Nx (upd H4 D (.lst (acc ++ [y]))) else Nx H3) := by
  refine ⟨fun i m H => m = ks.length - i ∧ i ≤ ks.length ∧ Pv i H, ⟨ks.length, by simp, Nat.zero_le _, h0⟩, ?_⟩
  rintro i m H ⟨rfl, hi, p⟩
  have q := hl i H hi p
  by_cases hlt : i < ks.length
  · refine .inr ⟨⟨q, hlt⟩, Pv (i + 1), fun H' p' => ⟨ks.length - (i + 1), by omega, rfl, hlt, p'⟩, fun x H' y => ?_⟩
    obtain ⟨e, k, hk, rfl⟩ := y
    subst e
    exact hs i k _ hk p
  · have e : i = ks.length := by omega
    subst e
    exact .inl ⟨⟨q, Nat.le_refl _⟩, hd H p⟩
end
end Uw
/-! text T10 -/
namespace Uw
open PySem PySem.Spec PyProof.Rows L2
/-! the dicts of tokens; known_in -/
def tkey (t : Option Tok) : Option (List Int) := t.map Tok.is
theorem tkey_inj {a b : Option Tok} (h : tkey a = tkey b) : a = b := by
  cases a <;> cases b
  · rfl
  · cases h
  · cases h
  · exact congrArg some (is_inj (Option.some.inj h))
/-- the dict at p has these keys, in this order -/
def KD (K : PySem.W.Frag) (P : Program) (w : World) (H : Hp) (p : Addr) (S : List (Option Tok)) : Prop := ∃ ks ep, H p = some (DM P w p ks ep) ∧ (∀ k ∈ ks, MOkV K H k) ∧ ks.map MK.key = S.map tkey ∧ S.Nodup
theorem mok_mono {K : PySem.W.Frag} {H H' : Hp} (s : Same H H') {k : MK} (h : MOkV K H k) : MOkV K H' k := by
  rcases k with _ | ⟨ns, b⟩
  · trivial
  · exact same_sqT s h
theorem mok_keep {K : PySem.W.Frag} {H H' : Hp} (s : SameT H H') {k : MK} (h : MOkV K H k) : MOkV K H' k := by
  rcases k with _ | ⟨ns, b⟩
  · trivial
  · rcases h with h | h
    · exact .inl (s _ _ h)
    · exact .inr h
theorem KD.mono {K : PySem.W.Frag} {P : Program} {w : World} {H H' : Hp} {p : Addr} {S : List (Option Tok)} (h : KD K P w H p S) (s : Same H H') : KD K P w H' p S := by
  obtain ⟨ks, ep, a, b, c, d⟩ := h
  exact ⟨ks, ep, s _ _ a, fun k hk => mok_mono s (b k hk), c, d⟩
theorem nodup_tk {S : List (Option Tok)} (h : S.Nodup) : (S.map tkey).Nodup := by
  refine List.pairwise_map.mpr (List.Pairwise.imp (fun {a b} hne e => hne (tkey_inj e)) h)
theorem tok_mk {K : PySem.W.Frag} {H : Hp} {v : V} {t : Option Tok} (h : Dp K H v (encT t)) : ∃ k : MK, v = mkV k ∧ MOkV K H k ∧ k.key = tkey t := by
  cases t with
  | none => exact ⟨none, dp_non h, trivial, rfl⟩
  | some t =>
    have h : Dp K H v (intsT t.is) := by
      rw [← enc_is]
      exact h
    obtain ⟨a, xs, rfl, h1, h2⟩ := dp_tup (ds := t.is.map PyData.int) h
    have e := dps_ints_eq h2
    subst e
    exact ⟨some (t.is, a), rfl, h1, rfl⟩
def addT (S : List (Option Tok)) (t : Option Tok) : List (Option Tok) := if t ∈ S then S else S ++ [t]
theorem mem_addT {S : List (Option Tok)} {t u : Option Tok} : u ∈ addT S t ↔ u = t ∨ u ∈ S := by
  unfold addT
  by_cases c : t ∈ S
  · rw [if_pos c]
    exact ⟨.inr, fun z => z.elim (fun e => e ▸ c) id⟩
  · rw [if_neg c, List.mem_append, List.mem_singleton, or_comm]
theorem mem_tk {S : List (Option Tok)} {t : Option Tok} : tkey t ∈ S.map tkey ↔ t ∈ S := by
  constructor
  · intro m
    obtain ⟨u, hu, e⟩ := List.mem_map.mp m
    exact tkey_inj e ▸ hu
  · exact fun m => List.mem_map.mpr ⟨t, m, rfl⟩
theorem nodup_addT {S : List (Option Tok)} {t : Option Tok} (h : S.Nodup) : (addT S t).Nodup := by
  unfold addT
  by_cases c : t ∈ S
  · rw [if_pos c]
    exact h
  · rw [if_neg c]
    exact nd_snoc h c
section
variable {K : PySem.W.Frag} {P : Program} {w : World} {σ : L2.St} {H H0 : Hp} {v : V} {t : Option Tok} {p a : Addr} {S : List (Option Tok)} {i1 i2 i3 j : Nat} {xs : List V}
theorem gt_notKn (ht : σ[i1]? = some (some v)) (dv : Dp K H v (encT t)) (hk : σ[i2]? = some (some (.ref a))) (hl : SqL K H a xs) (hto : σ[i3]? = some (some (.int j))) (hx : xs[j]? = some (.ref p)) (hd : KD K P w H p S) :
    Gt (tTest (tOp (rNotInM K P w) (tVar i1) (tOp (rIx K) (tVar i2) (tVar i3)))) σ H (!decide (t ∈ S)) := fun H1 s Q q => by
  obtain ⟨ks, ep, h1, h2, h3, h4⟩ := hd.mono s
  obtain ⟨k, rfl, hm, ek⟩ := tok_mk (dp_mono s dv)
  refine ⟨_, ht, _, hk, _, hto, .inl ⟨a, xs, j, _, rfl, rfl, s.seq hl, atI_nat hx, p, ks, ep, k, rfl, rfl, h1, hm, h2, by rw [h3]; exact nodup_tk h4, _, rfl, ?_⟩⟩
  have e : decide (k.key ∈ ks.map MK.key) = decide (t ∈ S) := by
    rw [ek, h3]
    exact decide_eq_decide.mpr mem_tk
  rw [e]
  exact q H1 (Same.refl _)
theorem KD.len {S : List (Option Tok)} (h : KD K P w H p S) : ∃ ks ep, H p = some (DM P w p ks ep) ∧ (∀ k ∈ ks, MOkV K H k) ∧ ks.map MK.key = S.map tkey ∧ S.Nodup ∧ ks.length = S.length := by
  obtain ⟨ks, ep, a, b, c, d⟩ := h
  have e := congrArg List.length c
  rw [List.length_map, List.length_map] at e
  exact ⟨ks, ep, a, b, c, d, e⟩
/-- d[k] = True -/
theorem l_setM {D : Ends} {to ti : TE} (ho : ∀ Q : VK, Q (.ref p) H → to σ H Q) (hi : ∀ Q : VK, Q v H → ti σ H Q) (dv : Dp K H v (encT t)) (hd : KD K P w H p S) (hz : S.length ≤ 1000000)
    (k : ∀ o, SameT H (upd H p o) → KD K P w (upd H p o) p (addT S t) → D.nx σ (upd H p o)) : tAsg (tC (.bl true)) (gSub to ti (rSetM K P w)) D σ H := by
  obtain ⟨ks, ep, h1, h2, h3, h4, h5⟩ := hd.len
  obtain ⟨k0, rfl, hm, ek⟩ := tok_mk dv
  refine ho _ (hi _ ⟨p, ks, ep, k0, rfl, rfl, rfl, h1, hm, h2, by rw [h3]; exact nodup_tk h4, small_le (by omega), fun ep' => ?_⟩)
  have sT : SameT H (upd H p (DM P w p (addK ks k0) ep')) := SameT.upd h1 rfl
  refine k _ sT ⟨addK ks k0, ep', upd_same, fun x hx => mok_keep sT ?_, ?_, nodup_addT h4⟩
  · unfold addK at hx
    by_cases c : k0.key ∈ ks.map MK.key
    · rw [if_pos c] at hx
      exact h2 x hx
    · rw [if_neg c] at hx
      rcases List.mem_append.mp hx with hx | hx
      · exact h2 x hx
      · rw [List.mem_singleton.mp hx]
        exact hm
  · unfold addK addT
    by_cases c : k0.key ∈ ks.map MK.key
    · rw [if_pos c, if_pos (mem_tk.mp (by rw [← h3, ← ek]; exact c))]
      exact h3
    · rw [if_neg c, if_neg fun m => c (by rw [ek, h3]; exact mem_tk.mpr m), List.map_append, List.map_append, h3]
      show _ ++ [k0.key] = _ ++ [tkey t]
      rw [ek]
end
/-- known_in -/
def spK (K : PySem.W.Frag) (P : Program) (w : World) : Sp := fun vs H Q _ => ∃ ts : List Tok, DpAll K H vs [.list (ts.map Tok.enc)] ∧ ts.length ≤ 100000 ∧ ∀ p H' S, Same H H' → H p = none → KD K P w H' p S → (∀ t, t ∈ S ↔ ∃ u ∈ ts, t = some u) → Q (.ref p) H'
section
variable {P : Program} {w : World} {K : PySem.W.Frag} {mg : Str → Option Value} {base : Heap}
theorem sc_known_in : FnScope ["tokens", "known", "token"] ["tokens"] (defScope (top 21)) := ⟨rfl, rfl, rfl, by decide +kernel, rfl, by decide +kernel, by decide +kernel⟩
theorem kn_known_in (T : Tx K mg) : Kn P w K mg base 1 "known_in" ["tokens"] (spK K P w) := by
  refine kn_mk (T.fn (("known_in" : Str), 21) (by decide +kernel)) sc_known_in (fun _ _ _ _ _ _ us hl => match us, hl with | [_], _ => rfl) (fun vs H Q E h => ?_) (fun f cdv A outer s0 H vs Q E hr h => ?_)
  · obtain ⟨ts, h1, _⟩ := h
    rw [dps_len h1]
    rfl
  obtain ⟨ts, hv, hn, q⟩ := h
  obtain _ | ⟨h1, _ | _⟩ := hv
  rename_i v1
  refine ⟨_, (pss_cons (ps_set (i := 1) sc_known_in.nd rfl (Or.inl rfl) (pe_dnewM)) (pss_cons (ps_for PassesOwn.never rfl (pi_list (pv 0)) (pg_name (i := 2) sc_known_in.nd rfl (.inl rfl)) (pss_one (ps_asg (pe_bl) (pg_sub ((pv 1)) ((pv 2)) (set_dM hr.units))))) (pss_one (ps_ret (pv 1))))), ?_⟩
  show tSeq _ _ _ _ _
  refine q_seq fun p hp => ?_
  refine q_forV (K := K) (H0 := H) (ds := ts.map Tok.enc) (v := v1) (fun i σ' H' => Same H H' ∧ (∃ o, σ' = [some v1, some (.ref p), o]) ∧ ∃ S, KD K P w H' p S ∧ S.length ≤ i ∧ ∀ t, t ∈ S ↔ ∃ u ∈ ts.take i, t = some u) rfl h1 (same_new hp) ?_ (fun i σ' H' p => p.1) (fun i d v σ' H' hd hP dv => ?_) fun σ' H' hP => ?_
  · exact ⟨same_new hp, ⟨none, rfl⟩, [], ⟨[], 0, upd_same, fun k hk => (by cases hk), rfl, List.nodup_nil⟩, Nat.le_refl _, fun t => ⟨fun m => (by cases m), fun ⟨u, hu, _⟩ => by rw [List.take_zero] at hu; cases hu⟩⟩
  · obtain ⟨t, ht, rfl⟩ := dps_of hd
    obtain ⟨sm, ⟨o, rfl⟩, S, hS, hl, hm⟩ := hP
    have hi : i < ts.length := (List.getElem?_eq_some_iff.mp ht).1
    refine l_setM (K := K) (t := some t) (p := p) (v := v) (fun Q q => ⟨_, rfl, q⟩) (fun Q q => ⟨_, rfl, q⟩) dv hS (by omega) fun o' sT hS' => ⟨same_mut sm hp, ⟨_, rfl⟩, _, hS', ?_, fun u => ?_⟩
    · unfold addT
      split
      · omega
      · rw [List.length_append]
        exact Nat.add_le_add_right hl 1
    · rw [mem_addT, hm u, List.take_add_one, ht]
      constructor
      · rintro (e | ⟨x, hx, e⟩)
        · exact ⟨t, by simp, e⟩
        · exact ⟨x, List.mem_append_left _ hx, e⟩
      · rintro ⟨x, hx, e⟩
        rcases List.mem_append.mp hx with hx | hx
        · exact .inr ⟨x, hx, e⟩
        · have ex : x = t := by simpa using hx
          subst ex
          exact .inl e
  · obtain ⟨sm, ⟨o, rfl⟩, S, hS, hl, hm⟩ := hP
    rw [List.length_map, List.take_length] at hm
    exact ⟨_, rfl, q p H' S sm hp hS hm⟩
end
end Uw
/-! text U7 -/
/-! Loops: over a range, over what is read, over a fresh list. -/
namespace Uw
open PySem PySem.Spec PyProof.Rows L2
section
variable {K : PySem.W.Frag} {σ : L2.St} {H H0 : Hp} {te tl : TE} {ta : TA} {D : Ends} {u tb : TS} {j i k : Nat} {ds es : List PyData} {d : PyData} {p : Addr} {xs : List V} {v : V} {Z : List PyData → Prop} {n : Nat}
theorem q_forR (h : Ga K ta σ H [.int n]) (hl : n ≤ 1000000)
    (k : ∀ H1, Same H H1 → ∃ Pv : Nat → L2.St → Hp → Prop, Pv 0 σ H1 ∧ (∀ i σ' H', i < n → Pv i σ' H' → tb { D with nx := Pv (i + 1), ct := Pv (i + 1), bk := u D } (σ'.set j (some (.int i))) H') ∧ ∀ σ' H', Pv n σ' H' → u D σ' H') :
    tSeq (tFor (iRng1 ta) (gName j) tb) u D σ H := h H (Same.refl _) _ fun vs H1 s1 dv => by
  obtain _ | ⟨h5, _ | _⟩ := dv
  have e5 := dp_int h5
  subst e5
  obtain ⟨Pv, p0, pt, pe⟩ := k H1 s1
  refine ⟨n, rfl, by omega, by omega, for_range (lo := 0) (n := n) Pv p0 (fun i σ' H' hi p => ?_) pe⟩
  have z := pt i σ' H' hi p
  show tb _ (σ'.set j (some (.int (0 + (i : Int))))) H'
  rw [Int.zero_add]
  exact z
theorem l_forR (h : Ga K ta σ H [.int n]) (hl : n ≤ 1000000)
    (k : ∀ H1, Same H H1 → ∃ Pv : Nat → L2.St → Hp → Prop, Pv 0 σ H1 ∧ (∀ i σ' H', i < n → Pv i σ' H' → tb { D with nx := Pv (i + 1), ct := Pv (i + 1), bk := D.nx } (σ'.set j (some (.int i))) H') ∧ ∀ σ' H', Pv n σ' H' → D.nx σ' H') :
    tFor (iRng1 ta) (gName j) tb D σ H := q_forR (u := fun D => D.nx) h hl k
/-- what is read where it stands -/
def Rs (te : TE) (σ : L2.St) (H : Hp) (v : V) : Prop := ∀ Q : VK, Q v H → te σ H Q
theorem rs_var (h : σ[i]? = some (some v)) : Rs (tVar i) σ H v := fun Q q => ⟨v, h, q⟩
theorem rs_int {n : Int} : Rs (tC (.int n)) σ H (.int n) := fun Q q => q
theorem rs_ixl {ta tb : TE} {a : Addr} {m : Nat} {x : V} (h1 : Rs ta σ H (.ref a)) (h2 : Rs tb σ H (.int m)) (hl : SqL K H a xs) (hx : xs[m]? = some x) : Rs (tOp (rIx K) ta tb) σ H x := fun Q q => h1 _ (h2 _ (.inl ⟨a, xs, m, x, rfl, rfl, hl, atI_nat hx, q⟩))
theorem rs_ixt {ta tb : TE} {a : Addr} {m : Nat} {x : V} (h1 : Rs ta σ H (.ref a)) (h2 : Rs tb σ H (.int m)) (hl : SqT K H a xs) (hx : xs[m]? = some x) : Rs (tOp (rIx K) ta tb) σ H x := fun Q q => h1 _ (h2 _ (.inr (.inl ⟨a, xs, m, x, rfl, rfl, hl, atI_nat hx, q⟩)))
theorem gd_rs (h : ∀ H1, Same H H1 → Rs te σ H1 v) (hd : Dp K H v d) : Gd K te σ H d := fun H1 s Q q => h H1 s _ (q v H1 (Same.refl _) (dp_mono s hd))
/-- an item of a list of data -/
theorem dp_item {n : Nat} (h : Dp K H v (.list ds)) (e : ds[n]? = some d) : ∃ a xs x, v = .ref a ∧ SqL K H a xs ∧ xs[n]? = some x ∧ Dp K H x d := by
  obtain ⟨a, xs, rfl, h1, h2⟩ := dp_list h
  obtain ⟨x, h3, h4⟩ := dps_get h2 e
  exact ⟨a, xs, x, rfl, h1, h3, h4⟩
theorem q_forS (Pv : Nat → L2.St → Hp → Prop) (hv : Rs tl σ H v) (hd : Dp K H0 v (.list ds)) (s0 : Same H0 H) (p0 : Pv 0 σ H) (pl : ∀ i σ' H', Pv i σ' H' → Same H0 H')
    (pt : ∀ i d v σ' H', ds[i]? = some d → Pv i σ' H' → Dp K H' v d → tb { D with nx := Pv (i + 1), ct := Pv (i + 1), bk := u D } (σ'.set j (some v)) H') (pe : ∀ σ' H', Pv ds.length σ' H' → u D σ' H') :
    tSeq (tFor (iList K tl) (gName j) tb) u D σ H := by
  obtain ⟨a, xs, rfl, h1, h2⟩ := dp_list hd
  refine hv _ ⟨a, rfl, ⟨xs, s0.seq h1⟩, for_list (K := K) (a := a) (xs := xs) Pv p0 (fun i σ' H' _ p => (pl i σ' H' p).seq h1) (fun i x σ' H' hx p => ?_) fun σ' H' p => pe σ' H' (by rw [← dps_len h2]; exact p)⟩
  obtain ⟨d, e, q⟩ := dps_get' h2 hx
  exact pt i d x σ' H' e p (dp_mono (pl i σ' H' p) q)
theorem l_forS (Pv : Nat → L2.St → Hp → Prop) (hv : Rs tl σ H v) (hd : Dp K H0 v (.list ds)) (s0 : Same H0 H) (p0 : Pv 0 σ H) (pl : ∀ i σ' H', Pv i σ' H' → Same H0 H')
    (pt : ∀ i d v σ' H', ds[i]? = some d → Pv i σ' H' → Dp K H' v d → tb { D with nx := Pv (i + 1), ct := Pv (i + 1), bk := D.nx } (σ'.set j (some v)) H') (pe : ∀ σ' H', Pv ds.length σ' H' → D.nx σ' H') :
    tFor (iList K tl) (gName j) tb D σ H := q_forS (u := fun D => D.nx) Pv hv hd s0 p0 pl pt pe
/-- over a fresh list that stays -/
theorem q_forF (h : Gf K tl σ H Z)
    (k : ∀ p xs es H1, Z es → Same H H1 → H p = none → H1 p = some (.lst xs) → DpAll K H1 xs es → ∃ Pv : Nat → L2.St → Hp → Prop, Pv 0 σ H1 ∧ (∀ i σ' H', Pv i σ' H' → H' p = some (.lst xs)) ∧
      (∀ i d v σ' H', es[i]? = some d → xs[i]? = some v → Dp K H1 v d → Pv i σ' H' → tb { D with nx := Pv (i + 1), ct := Pv (i + 1), bk := u D } (σ'.set j (some v)) H') ∧ ∀ σ' H', Pv es.length σ' H' → u D σ' H') :
    tSeq (tFor (iList K tl) (gName j) tb) u D σ H := h H (Same.refl _) _ fun p H1 xs es z s1 n1 l1 d1 => by
  obtain ⟨Pv, p0, pl, pt, pe⟩ := k p xs es H1 z s1 n1 l1 d1
  refine ⟨p, rfl, ⟨xs, SqL.of l1⟩, for_list (K := K) (a := p) (xs := xs) Pv p0 (fun i σ' H' _ p => SqL.of (pl i σ' H' p)) (fun i x σ' H' hx p => ?_) fun σ' H' p => pe σ' H' (by rw [← dps_len d1]; exact p)⟩
  obtain ⟨d, e, q⟩ := dps_get' d1 hx
  exact pt i d x σ' H' e hx q p
theorem l_forF (h : Gf K tl σ H Z)
    (k : ∀ p xs es H1, Z es → Same H H1 → H p = none → H1 p = some (.lst xs) → DpAll K H1 xs es → ∃ Pv : Nat → L2.St → Hp → Prop, Pv 0 σ H1 ∧ (∀ i σ' H', Pv i σ' H' → H' p = some (.lst xs)) ∧
      (∀ i d v σ' H', es[i]? = some d → xs[i]? = some v → Dp K H1 v d → Pv i σ' H' → tb { D with nx := Pv (i + 1), ct := Pv (i + 1), bk := D.nx } (σ'.set j (some v)) H') ∧ ∀ σ' H', Pv es.length σ' H' → D.nx σ' H') :
    tFor (iList K tl) (gName j) tb D σ H := q_forF (u := fun D => D.nx) h k
end
end Uw
/-! text T11 -/
namespace Uw
open PySem PySem.Spec PyProof.Rows L2
/-! is_closed -/
def tokL (ts : List Tok) : PyData := .list (ts.map Tok.enc)
def encPaper (paper : List (List Tok)) : PyData := .list (paper.map tokL)
structure Fit (L : Lim) (r : Rule) (code : List Row) : Prop where
  ok : r.Ok L.R
  sides : r.sides = L.sides
  few : L.S ≤ 60
  rows : ∀ row ∈ code, row.Ok L.S
  len : code.length ≤ 10000
structure PFit (L : Lim) (code : List Row) (paper : List (List Tok)) : Prop where
  len : paper.length = code.length
  toks : ∀ ts ∈ paper, ∀ t ∈ ts, t.Ok L
  few : ∀ (i : Nat) (row : Row) (ts : List Tok), code[i]? = some row → paper[i]? = some ts → Few row ts
  short : ∀ ts ∈ paper, ts.length ≤ 10000
def Closed (r : Rule) (code : List Row) (paper : List (List Tok)) : Prop := ∀ (i : Nat) (row : Row) (ts : List Tok), code[i]? = some row → paper[i]? = some ts → ∀ to ∈ after i row, ∃ us, paper[to]? = some us ∧ (∀ t ∈ begun r row ts, t ∈ us) ∧ ∀ u ∈ ts, ∀ t, behind r row u = some t → t ∈ us
theorem q_asgR {σ : L2.St} {H : Hp} {te : TE} {D : Ends} {u : TS} {j : Nat} (h : te σ H fun v H1 => u D (σ.set j (some v)) H1) : tSeq (tAsg te (gName j)) u D σ H := h
theorem KD.keep {K : PySem.W.Frag} {P : Program} {w : World} {H H' : Hp} {p : Addr} {S : List (Option Tok)} (h : KD K P w H p S) (s : SameT H H') (e : H' p = H p) : KD K P w H' p S := by
  obtain ⟨ks, ep, a, b, c, d⟩ := h
  exact ⟨ks, ep, e.trans a, fun k hk => mok_keep s (b k hk), c, d⟩
/-- the dicts at ps have the tokens of the paper -/
def KTab (K : PySem.W.Frag) (P : Program) (w : World) (H : Hp) (ps : List Addr) (paper : List (List Tok)) : Prop := ps.length = paper.length ∧ ∀ (i : Nat) (p : Addr) (ts : List Tok), ps[i]? = some p → paper[i]? = some ts → ∃ S, KD K P w H p S ∧ ∀ t, t ∈ S ↔ ∃ u ∈ ts, t = some u
theorem KTab.mono {K : PySem.W.Frag} {P : Program} {w : World} {H H' : Hp} {ps : List Addr} {paper : List (List Tok)} (h : KTab K P w H ps paper) (s : Same H H') : KTab K P w H' ps paper :=
  ⟨h.1, fun i p ts h1 h2 => by
    obtain ⟨S, h3, h4⟩ := h.2 i p ts h1 h2
    exact ⟨S, h3.mono s, h4⟩⟩
section
variable {K : PySem.W.Frag} {P : Program} {w : World} {σ : L2.St} {H : Hp} {v : V} {n j : Nat} {vs : List Nat} {paper : List (List Tok)} {E : XK} {Q : VK}
theorem lc_known (hv : σ[n]? = some (some v)) (hd : Dp K H v (encPaper paper)) (hw : ∀ v, wipe ((wipe σ vs).set j (some v)) vs = wipe σ vs) (hj : ∀ v, ((wipe σ vs).set j (some v))[j]? = some (some v)) (hl : paper.length ≤ 10000) (hs : ∀ ts ∈ paper, ts.length ≤ 10000)
    (q : ∀ a ps H', Same H H' → H' a = some (.lst (ps.map V.ref)) → KTab K P w H' ps paper → Q (.ref a) H') :
    tLc (iList K (tVar n)) (gName j) tYes (tCall (spK K P w) [] E (tCons (tVar j) tNil)) vs σ H Q := by
  obtain ⟨a, xs, rfl, h1, h2⟩ := dp_list hd
  have l2 := dps_len h2
  rw [List.length_map] at l2
  refine ⟨_, hv, a, rfl, ⟨xs, h1⟩, fun Dd hD => lc_list (K := K) (a := a) (xs := xs) (fun i H' => Same H H' ∧ ∃ ps : List Addr, H' Dd = some (.lst (ps.map V.ref)) ∧ KTab K P w H' ps (paper.take i) ∧ i ≤ paper.length) ⟨same_new hD, [], upd_same, ⟨by simp, fun i p ts h => by simp at h⟩, Nat.zero_le _⟩
      (fun i H' _ h => h.1.seq h1) (fun i x H' hx ⟨s1, ps, e1, kt, hi⟩ => ?_) fun H' ⟨s1, ps, e1, kt, _⟩ => ?_⟩
  · obtain ⟨d, hd', dd⟩ := dps_get' h2 hx
    obtain ⟨ts, hts, rfl⟩ := dps_of hd'
    refine ⟨hw x, iteT (B := False) ⟨x, hj x, ts, .cons (dp_mono s1 dd) .nil, Nat.le_trans (hs ts (List.mem_of_getElem? hts)) (by decide), fun p H4 S s4 np hS hm => ?_⟩⟩
    have e4 := s4 _ _ e1
    have lps : ps.length = i := by rw [kt.1, List.length_take]; omega
    have hlt : i < paper.length := (List.getElem?_eq_some_iff.mp hts).1
    have sT : SameT H4 (upd H4 Dd (.lst (ps.map V.ref ++ [.ref p]))) := SameT.upd e4 rfl
    have neD : ∀ q S', KD K P w H4 q S' → q ≠ Dd := fun q S' h z => by
      obtain ⟨ks, ep, a, _⟩ := h
      rw [z, e4] at a
      cases a
    refine ⟨_, e4, small_lt (by rw [List.length_map]; omega), same_mut (s1.trans s4) hD, ps ++ [p], by rw [List.map_append]; exact upd_same, ⟨?_, fun k q us h3 h4 => ?_⟩, hlt⟩
    · rw [List.length_append, lps, List.length_take]
      show i + 1 = _
      omega
    · rcases Nat.lt_or_ge k i with hk | hk
      · rw [List.getElem?_append_left (by omega)] at h3
        rw [List.getElem?_take_of_lt (by omega)] at h4
        obtain ⟨S', h5, h6⟩ := kt.2 k q us h3 (by rw [List.getElem?_take_of_lt hk]; exact h4)
        have h5' := h5.mono s4
        exact ⟨S', h5'.keep sT (upd_ne (neD _ _ h5')), h6⟩
      · have hk2 : k = i := by
          have := (List.getElem?_eq_some_iff.mp h3).1
          rw [List.length_append, lps] at this
          have : k < i + 1 := this
          omega
        subst hk2
        rw [List.getElem?_append_right (by omega), lps, Nat.sub_self] at h3
        rw [List.getElem?_take_of_lt (by omega), hts] at h4
        cases h3
        cases h4
        exact ⟨S, hS.keep sT (upd_ne (neD _ _ hS)), hm⟩
  · rw [l2, List.take_length] at kt
    exact q Dd ps H' s1 e1 kt
end
section
variable {P : Program} {w : World} {K : PySem.W.Frag} {mg : Str → Option Value} {base : Heap}
def R_is_closed (ds : List PyData) (d : PyData) : Prop := ∃ (L : Lim) (r : Rule) (code : List Row) (paper : List (List Tok)), Fit L r code ∧ PFit L code paper ∧ Closed r code paper ∧
  ds = [encCode code, r.enc, encPaper paper] ∧ d = .bool true
theorem sc_is_closed : FnScope ["code", "rule", "paper", "known", "tokens", "at", "found", "token", "behind", "to"] ["code", "rule", "paper"] (defScope (top 22)) := ⟨rfl, rfl, rfl, by decide +kernel, rfl, by decide +kernel, by decide +kernel⟩
theorem kn_is_closed (T : Tx K mg) : Kn P w K mg base 7 "is_closed" ["code", "rule", "paper"] (spD K R_is_closed) := by
  have Kknown_in := kn_known_in (P := P) (w := w) (base := base) T
  have Kbegins_at := kn_begins_at (P := P) (w := w) (base := base) T
  have Kbehind_at := kn_behind_at (P := P) (w := w) (base := base) T
  have Krows_behind := kn_rows_behind (P := P) (w := w) (base := base) T
  refine kn_D (T.fn (("is_closed" : Str), 22) (by decide +kernel)) sc_is_closed (fun _ _ _ _ _ _ us hl => match us, hl with | [_, _, _], _ => rfl) (fun ds d h => ?_) (fun f cdv A outer s0 H vs E ds d hr hv h => ?_)
  · obtain ⟨_, _, _, _, _, _, _, rfl, rfl⟩ := h
    rfl
  obtain ⟨L, r, code, paper, fit, pfit, closed, rfl, rfl⟩ := h
  obtain _ | ⟨h1, _ | ⟨h2, _ | ⟨h3, _ | _⟩⟩⟩ := hv
  rename_i v1 v2 v3
  have h1' : Dp K H v1 (.list (code.map Row.enc)) := h1
  have h3' : Dp K H v3 (.list (paper.map tokL)) := h3
  have clen := fit.len
  refine ⟨_, (pss_cons (ps_setLc (i := 3) (own := [("tokens", 4)]) rfl sc_is_closed.nd rfl rfl (sw_true rfl rfl rfl (by decide +kernel)) (pi_list (pv 2)) (blkOk_by (N := ["code", "rule", "paper", "known", "tokens", "at", "found", "token", "behind", "to"]) (sc := defScope (top 22)) (by decide +kernel)) (fun _ _ _ _ _ => pg_name (i := 4) sc_is_closed.nd rfl (Or.inl rfl)) (fun _ _ _ _ _ => pts_nil) (fun _ _ _ _ _ => pe_kn Kknown_in (hr.mono (by decide)) rfl (pa_cons (pv 4) (pa_nil)))) (pss_cons (ps_for PassesOwn.never rfl (pi_range1 rfl (T.free "range" (by decide)) (pa_cons (pe_callB call_ln (by rfl) (T.free "len" (by decide)) PySem.boot_len (pa_cons (pv 0) (pa_nil))) (pa_nil))) (pg_name (i := 5) sc_is_closed.nd rfl (.inl rfl)) (pss_cons (ps_set (i := 6) sc_is_closed.nd rfl (Or.inl rfl) (pe_kn Kbegins_at (hr.mono (by decide)) rfl (pa_cons (pv 0) (pa_cons (pv 1) (pa_cons (pv 5) (pa_cons (pe_ix ix_seq (pv 2) (pv 5) (fun _ _ => rfl)) (pa_nil))))))) (pss_cons (ps_for PassesOwn.never rfl (pi_list (pe_ix ix_seq (pv 2) (pv 5) (fun _ _ => rfl))) (pg_name (i := 7) sc_is_closed.nd rfl (.inl rfl)) (pss_cons (ps_set (i := 8) sc_is_closed.nd rfl (Or.inl rfl) (pe_kn Kbehind_at (hr.mono (by decide)) rfl (pa_cons (pv 0) (pa_cons (pv 1) (pa_cons (pv 5) (pa_cons (pv 7) (pa_nil))))))) (pss_one (ps_if (pt_cmpR op_notNon (pv 8) (pe_non) (nomark _)) (pss_one (ps_expr (pe_bm PySem.F.plainAttrs_list PySem.F.slot_list_append PySem.F.type_list_append mt_append (pv 6) (pa_cons (pv 8) (pa_nil))))) (pss_nil))))) (pss_one (ps_for PassesOwn.never rfl (pi_list (pe_kn Krows_behind (hr.mono (by decide)) rfl (pa_cons (pv 0) (pa_cons (pv 5) (pa_nil))))) (pg_name (i := 9) sc_is_closed.nd rfl (.inl rfl)) (pss_one (ps_for PassesOwn.never rfl (pi_list (pv 6)) (pg_name (i := 7) sc_is_closed.nd rfl (.inl rfl)) (pss_one (ps_if (pt_cmpR (op_notInM hr.units) (pv 7) (pe_ix ix_seq (pv 3) (pv 9) (fun _ _ => rfl)) (by rfl)) (pss_one (ps_ret (pe_bl))) (pss_nil)))))))))) (pss_one (ps_ret (pe_bl))))), fun Q q => ?_⟩
  refine q_asgR (lc_known (K := K) (v := v3) rfl h3 (fun _ => rfl) (fun _ => rfl) (by rw [pfit.len]; exact clen) pfit.short fun a ps H1 s1 ha kt => ?_)
  refine q_forR (K := K) (n := code.length) (ga_cons (gd_is (gd_cb (ga_cons (gd_var rfl (dp_mono s1 h1')) ga_nil) rc_lnL) (by rw [List.length_map])) ga_nil) (by omega) fun H2 s2 => ?_
  refine ⟨fun i σ' H' => Same H2 H' ∧ ∃ o1 o2 o3 o4 o5 o6, σ' = [some v1, some v2, some v3, some (.ref a), o1, o2, o3, o4, o5, o6], ⟨Same.refl _, _, _, _, _, _, _, rfl⟩, fun at_ σ' H' hat hP => ?_, fun σ' H' hP => ?_⟩
  · obtain ⟨sm, o1, o2, o3, o4, o5, o6, rfl⟩ := hP
    obtain ⟨row, hrow⟩ : ∃ row, code[at_]? = some row := ⟨_, List.getElem?_eq_getElem hat⟩
    obtain ⟨ts, hts⟩ : ∃ ts, paper[at_]? = some ts := ⟨_, List.getElem?_eq_getElem (by rw [pfit.len]; exact hat)⟩
    have tok := pfit.toks ts (List.mem_of_getElem? hts)
    have rok := fit.rows row (List.mem_of_getElem? hrow)
    have dH2 : Dp K H2 v3 (.list (paper.map tokL)) := by walk_at "dp"
    obtain ⟨a3, xs3, x3, rfl, hl3, hx3, dx3⟩ := dp_item (n := at_) dH2 (by rw [List.getElem?_map, hts]; rfl)
    have rs3 : ∀ {σ : L2.St} {H'' : Hp}, Same H2 H'' → σ[2]? = some (some (.ref a3)) → σ[5]? = some (some (.int at_)) → Rs (tOp (rIx K) (tVar 2) (tVar 5)) σ H'' x3 := fun s h1 h2 => rs_ixl (rs_var h1) (rs_var h2) (s.seq hl3) hx3
    refine q_asgF (K := K) (gf_call (ds := [encCode code, r.enc, .int at_, tokL ts]) (ga_cons (by walk_at "gd") (ga_cons (by walk_at "gd") (ga_cons (gd_var rfl (.int _)) (ga_cons (gd_rs (fun H'' s'' => rs3 (sm.trans s'') rfl rfl) (dp_mono sm dx3)) ga_nil))))
      ⟨code, r, L, at_, row, ts, hrow, fit.ok, fit.sides, rok, fit.few, tok, pfit.few at_ row ts hrow hts, Nat.le_trans (pfit.short ts (List.mem_of_getElem? hts)) (by decide), rfl, rfl⟩) fun p H3 xs es z s3 n3 l3 d3 => ?_
    obtain ⟨us, rfl, hus, hul⟩ := z
    refine q_forS (K := K) (H0 := H') (ds := ts.map Tok.enc) (v := x3) (fun i σ'' H'' => Same H' H'' ∧ (∃ o3 o4 o5, σ'' = [some v1, some v2, some (.ref a3), some (.ref a), o1, some (.int at_), some (.ref p), o3, o4, o5]) ∧ ∃ (xs : List V) (us : List Tok), H'' p = some (.lst xs) ∧ DpAll K H'' xs (us.map Tok.enc) ∧
      us.length ≤ 64 + i ∧ ∀ t, t ∈ us → t ∈ begun r row ts ∨ ∃ u ∈ ts, behind r row u = some t) (rs3 (sm.trans s3) rfl rfl) (dp_mono sm dx3) s3 ?_ (fun i σ' H' p => p.1) (fun i d v σ'' H'' hd hP dv => ?_) fun σ'' H'' hP => ?_
    · exact ⟨s3, ⟨_, _, _, rfl⟩, xs, us, l3, d3, hul, fun t ht => .inl ((hus t).mp ht)⟩
    · obtain ⟨t, ht, rfl⟩ := dps_of hd
      obtain ⟨sm', ⟨o3, o4, o5, rfl⟩, xs, us, hp, hxs, hl, hm⟩ := hP
      have htm := List.mem_of_getElem? ht
      have hlt : i < ts.length := (List.getElem?_eq_some_iff.mp ht).1
      have hsh := pfit.short ts (List.mem_of_getElem? hts)
      refine q_asg (K := K) (d := encT (behind r row t)) (gd_call (ds := [encCode code, r.enc, .int at_, t.enc]) (ga_cons (by walk_at "gd") (ga_cons (by walk_at "gd") (ga_cons (gd_var rfl (.int _)) (ga_cons (gd_var rfl dv) ga_nil))))
        ⟨code, r, L, at_, row, t, hrow, fit.ok, fit.sides, rok, fit.few, tok t htm, rfl, rfl⟩) fun v7 H7 s7 d7 => ?_
      cases hb : behind r row t with
      | none =>
        rw [hb] at d7
        have d7' : Dp K H7 v7 .none := d7
        refine l_no (by walk_at "tagF") fun H8 s8 => ?_
        exact ⟨(sm'.trans s7).trans s8, ⟨_, _, _, rfl⟩, xs, us, (s7.trans s8) _ _ hp, dps_mono (s7.trans s8) hxs, by omega, hm⟩
      | some b =>
        rw [hb] at d7
        have d7' : Dp K H7 v7 (.tuple (b.ns.map natD)) := d7
        have d7'' : Dp K H7 v7 b.enc := d7
        refine l_yes (by walk_at "tagT") fun H8 s8 => ?_
        refine l_app (K := K) (H0 := H') rfl (gd_var rfl (dp_mono s8 d7'')) ((s7.trans s8) _ _ hp) n3 ((sm'.trans s7).trans s8) (dps_mono (s7.trans s8) hxs) (by rw [List.length_map]; omega) (toks_nol us) (by cases b <;> rfl) fun v9 H9 s9 p9 d9 => ?_
        refine ⟨s9, ⟨_, _, _, rfl⟩, _, us ++ [b], p9, by rw [List.map_append]; exact d9, by rw [List.length_append]; show us.length + 1 ≤ _; omega, fun t' ht' => ?_⟩
        rcases List.mem_append.mp ht' with h | h
        · exact hm t' h
        · rw [List.mem_singleton.mp h]
          exact .inr ⟨t, htm, hb⟩
    · obtain ⟨sm', ⟨o3, o4, o5, rfl⟩, xs, us, hp, hxs, hl, hm⟩ := hP
      refine l_forF (K := K) (gf_call (ds := [encCode code, .int at_]) (ga_cons (by walk_at "gd") (ga_cons (gd_var rfl (.int _)) ga_nil)) ⟨code, at_, row, hrow, rfl, rfl⟩) fun p2 xs2 es2 H6 z s6 n6 l6 d6 => ?_
      obtain ⟨M, rfl, hM⟩ := z
      refine ⟨fun i σ' H' => Same H6 H' ∧ ∃ o3 o4 o5, σ' = [some v1, some v2, some (.ref a3), some (.ref a), o1, some (.int at_), some (.ref p), o3, o4, o5], ⟨Same.refl _, _, _, _, rfl⟩, fun i σ' H' hh => hh.1 _ _ l6, fun i d v σ' H7 hd hx hdv hh => ?_, fun σ' H7 hh => ?_⟩
      · obtain ⟨sm7, o3, o4, o5, rfl⟩ := hh
        obtain ⟨to, hto, rfl⟩ := dps_of hd
        have eto := dp_int hdv
        subst eto
        obtain ⟨us2, hus2, c1, c2⟩ := closed at_ row ts hrow hts to ((hM to).mp (List.mem_of_getElem? hto))
        have dfound : Dp K H7 (.ref p) (.list (us.map Tok.enc)) := dp_mono (s6.trans sm7) (.lst (SqL.of hp) hxs)
        refine l_forV (K := K) (H0 := H7) (ds := us.map Tok.enc) (v := .ref p) (fun i σ' H' => Same H7 H' ∧ ∃ o3 o4, σ' = [some v1, some v2, some (.ref a3), some (.ref a), o1, some (.int at_), some (.ref p), o3, o4, some (.int to)]) rfl dfound (Same.refl _) ⟨Same.refl _, _, _, rfl⟩ (fun i σ' H' p => p.1) (fun i d v σ' H8 hd hP dv => ?_) fun σ' H8 hP => ?_
        · obtain ⟨sm8, o3, o4, rfl⟩ := hP
          obtain ⟨t, ht, rfl⟩ := dps_of hd
          have sall : Same H1 H8 := by walk_at "same"
          have kt8 := kt.mono sall
          have hlt2 : to < ps.length := by
            rw [kt.1]
            exact (List.getElem?_eq_some_iff.mp hus2).1
          obtain ⟨S, hS, hSm⟩ := kt8.2 to _ us2 (List.getElem?_eq_getElem hlt2) hus2
          have hin : some t ∈ S := (hSm (some t)).mpr ⟨t, by
            rcases hm t (List.mem_of_getElem? ht) with h | ⟨u, hu, hb⟩
            · exact c1 t h
            · exact c2 u hu t hb, rfl⟩
          refine l_no (gt_is (gt_notKn (t := some t) rfl dv rfl (SqL.of (sall _ _ ha)) rfl (by rw [List.getElem?_map, List.getElem?_eq_getElem hlt2]; rfl) hS) (by rw [decide_eq_true hin]; rfl)) fun H9 s9 => ?_
          exact ⟨sm8.trans s9, _, _, rfl⟩
        · obtain ⟨sm8, o3, o4, rfl⟩ := hP
          exact ⟨sm7.trans sm8, _, _, _, rfl⟩
      · obtain ⟨sm7, o3, o4, o5, rfl⟩ := hh
        exact ⟨by walk_at "same", _, _, _, _, _, _, rfl⟩
  · obtain ⟨sm, o1, o2, o3, o4, o5, o6, rfl⟩ := hP
    exact l_ret (K := K) (d := .bool true) gd_bl fun v H3 s3 d3 => q v H3 (by walk_at "same") d3
end
end Uw
/-! text T12 -/
namespace Uw
open PySem PySem.Spec PyProof.Rows L2
/-! lets_by -/
def brk (r : Rule) (code : List Row) (paper : List (List Tok)) (i : Nat) : Bool := match code[i]?, paper[i]? with
  | some row, some ts => breaks r row none || ts.any fun t => breaks r row (some t)
  | _, _ => false
def LetsZ (r : Rule) (code : List Row) (paper : List (List Tok)) (col : List Str) (b : Bool) : Prop :=
  ((∀ c ∈ col, c = "look") → b = true) ∧ ((∃ (i : Nat) (c : Str), col[i]? = some c ∧ c ≠ "look" ∧ brk r code paper i = true) → b = false)
theorem str_ne {c x : Str} : decide (V.str c = V.str x) = decide (c = x) := by
  by_cases h : c = x
  · rw [h, decide_eq_true rfl, decide_eq_true rfl]
  · rw [decide_eq_false h, decide_eq_false fun e => h (by injection e)]
section
variable {K : PySem.W.Frag} {σ : L2.St} {H : Hp} {te : TE} {tt tu : TT} {b : Bool} {D : Ends} {t u : TS}
/-- a test that comes to one of the two -/
def Gx (tt : TT) (σ : L2.St) (H : Hp) : Prop := ∀ H1, Same H H1 → ∀ Q : Bool → Hp → Prop, (∀ b H2, Same H1 H2 → Q b H2) → tt σ H1 Q
theorem gx_gt (h : Gt tt σ H b) : Gx tt σ H := fun H1 s Q q => h H1 s Q fun H2 s2 => q b H2 s2
theorem gx_and (h1 : Gx tt σ H) (h2 : Gx tu σ H) : Gx (tAnd tt tu) σ H := fun H1 s Q q => h1 H1 s _ fun b H2 s2 => by
  cases b with
  | true =>
    show tu σ H2 Q
    exact h2 H2 (s.trans s2) Q fun b H3 s3 => q b H3 (s2.trans s3)
  | false =>
    show Q false H2
    exact q _ H2 s2
theorem gx_B (h : Gn K te σ H fun d => ∃ b, d = .bool b) : Gx (tB te) σ H := fun H1 s Q q => h H1 s _ fun v H2 d z s2 dv => by
  obtain ⟨b, rfl⟩ := z
  cases dv
  exact ⟨b, rfl, q b H2 s2⟩
theorem l_ifX (h : Gx tt σ H) (h1 : ∀ H1, Same H H1 → t D σ H1) (h2 : ∀ H1, Same H H1 → u D σ H1) : tIfS tt t u D σ H := h H (Same.refl _) _ fun b H1 s => by
  cases b with
  | true =>
    show t D σ H1
    exact h1 H1 s
  | false =>
    show u D σ H1
    exact h2 H1 s
end
section
variable {P : Program} {w : World} {K : PySem.W.Frag} {mg : Str → Option Value} {base : Heap}
def R_lets_by (ds : List PyData) (Z : PyData → Prop) : Prop := ∃ (L : Lim) (r : Rule) (code : List Row) (paper : List (List Tok)) (col : List Str), Fit L r code ∧ PFit L code paper ∧ Closed r code paper ∧ code ≠ [] ∧ col.length = code.length ∧
  ds = [encCode code, r.enc, encPaper paper, .list (col.map PyData.str)] ∧ Z = fun d => ∃ b, d = .bool b ∧ LetsZ r code paper col b
theorem sc_lets_by : FnScope ["code", "rule", "paper", "column", "broken", "at"] ["code", "rule", "paper", "column"] (defScope (top 23)) := ⟨rfl, rfl, rfl, by decide +kernel, rfl, by decide +kernel, by decide +kernel⟩
theorem kn_lets_by (T : Tx K mg) : Kn P w K mg base 8 "lets_by" ["code", "rule", "paper", "column"] (spN K R_lets_by) := by
  have Kis_closed := kn_is_closed (P := P) (w := w) (base := base) T
  have Kbreaks_some := kn_breaks_some (P := P) (w := w) (base := base) T
  have Kmoves_some := kn_moves_some (P := P) (w := w) (base := base) T
  refine kn_N (T.fn (("lets_by" : Str), 23) (by decide +kernel)) sc_lets_by (fun _ _ _ _ _ _ us hl => match us, hl with | [_, _, _, _], _ => rfl) (fun ds d h => ?_) (fun f cdv A outer s0 H vs E ds Z hr hv h => ?_)
  · obtain ⟨_, _, _, _, _, _, _, _, _, _, rfl, _⟩ := h
    rfl
  obtain ⟨L, r, code, paper, col, fit, pfit, closed, hne, hcol, rfl, rfl⟩ := h
  obtain _ | ⟨h1, _ | ⟨h2, _ | ⟨h3, _ | ⟨h4, _ | _⟩⟩⟩⟩ := hv
  rename_i v1 v2 v3 v4
  have h1' : Dp K H v1 (.list (code.map Row.enc)) := h1
  have h3' : Dp K H v3 (.list (paper.map tokL)) := h3
  have h4' : Dp K H v4 (.list (col.map PyData.str)) := h4
  have clen := fit.len
  refine ⟨_, (pss_cons (ps_if (pt_not (pt_val (pe_kn Kis_closed (hr.mono (by decide)) rfl (pa_cons (pv 0) (pa_cons (pv 1) (pa_cons (pv 2) (pa_nil))))))) (pss_one (ps_ret (pe_bl))) (pss_nil)) (pss_cons (ps_setLc (i := 4) (own := [("at", 5)]) rfl sc_lets_by.nd rfl rfl (sw_true rfl rfl rfl (by decide +kernel)) (pi_range1 rfl (T.free "range" (by decide)) (pa_cons (pe_callB call_ln (by rfl) (T.free "len" (by decide)) PySem.boot_len (pa_cons (pv 0) (pa_nil))) (pa_nil))) (blkOk_by (N := ["code", "rule", "paper", "column", "broken", "at"]) (sc := defScope (top 23)) (by decide +kernel)) (fun _ _ _ _ _ => pg_name (i := 5) sc_lets_by.nd rfl (Or.inl rfl)) (fun _ _ _ _ _ => pts_nil) (fun _ _ _ _ _ => pe_kn Kbreaks_some (hr.mono (by decide)) rfl (pa_cons (pv 0) (pa_cons (pv 1) (pa_cons (pv 5) (pa_cons (pe_ix (show IxR _ (rIx K) from ix_seq) (pv 2) (pv 5) (fun _ _ => rfl)) (pa_nil))))))) (pss_cons (ps_if (PW.pt (pw_and (pt_cmpR op_notIn_seq (pe_bl) (pv 4) (by rfl)) (pw_and (pt_cmpR op_notIn_seq (pe_str) (pv 3) (by rfl)) (pw_and1 (pt_cmpR op_notIn_seq (pe_str) (pv 3) (by rfl)))))) (pss_one (ps_ret (pe_bl))) (pss_nil)) (pss_cons (ps_for PassesOwn.never rfl (pi_range1 rfl (T.free "range" (by decide)) (pa_cons (pe_callB call_ln (by rfl) (T.free "len" (by decide)) PySem.boot_len (pa_cons (pv 0) (pa_nil))) (pa_nil))) (pg_name (i := 5) sc_lets_by.nd rfl (.inl rfl)) (pss_cons (ps_if (pt_cmpR op_eq (pe_ix ix_seq (pv 3) (pv 5) (fun _ _ => rfl)) (pe_str) (nomark _)) (pss_one (ps_continue)) (pss_nil)) (pss_cons (ps_if (pt_val (pe_ix ix_seq (pv 4) (pv 5) (fun _ _ => rfl))) (pss_one (ps_ret (pe_bl))) (pss_nil)) (pss_one (ps_if (PW.pt (pw_and (pt_cmpR op_eq (pe_ix ix_seq (pv 3) (pv 5) (fun _ _ => rfl)) (pe_str) (nomark _)) (pw_and (pt_cmpR op_ne (pe_ix ix_seq (pe_ix ix_seq (pv 0) (pv 5) (fun _ _ => rfl)) (pe_int) (fun _ _ => rfl)) (pe_str) (nomark _)) (pw_and1 (pt_val (pe_kn Kmoves_some (hr.mono (by decide)) rfl (pa_cons (pv 0) (pa_cons (pv 1) (pa_cons (pv 5) (pa_cons (pe_ix ix_seq (pv 2) (pv 5) (fun _ _ => rfl)) (pa_nil))))))))))) (pss_one (ps_ret (pe_bl))) (pss_nil)))))) (pss_one (ps_ret (pe_bl))))))), fun Q q => ?_⟩
  refine q_no (gt_not (a := true) (gt_B (K := K) (gd_call (ds := [encCode code, r.enc, encPaper paper]) (by walk_at "ga") ⟨L, r, code, paper, fit, pfit, closed, rfl, rfl⟩))) fun H1 s1 => ?_
  have gl : ∀ {σ : L2.St} {H'' : Hp}, Same H H'' → σ[0]? = some (some v1) → Ga K (tCons (tCB (rLn K) (tCons (tVar 0) tNil)) tNil) σ H'' [.int code.length] := fun s e => ga_cons (gd_is (gd_cb (ga_cons (gd_var e (dp_mono s h1')) ga_nil) rc_lnL) (by rw [List.length_map])) ga_nil
  refine q_asg (K := K) (d := .list ((List.range (code.length : Int).toNat).map fun i => PyData.bool (brk r code paper i))) (gd_lcR (F := fun i => PyData.bool (brk r code paper i)) (gl s1 rfl) (fun _ => rfl) (fun i => by unfold nol; rfl) (by omega) (by omega) fun i hi H' s' => ?_) fun v5 H2 s2 d5 => ?_
  · have hi' : i < code.length := by omega
    obtain ⟨row, hrow⟩ : ∃ row, code[i]? = some row := ⟨_, List.getElem?_eq_getElem hi'⟩
    obtain ⟨ts, hts⟩ : ∃ ts, paper[i]? = some ts := ⟨_, List.getElem?_eq_getElem (by rw [pfit.len]; exact hi')⟩
    have gi : ∀ {σ : L2.St} {H'' : Hp}, σ[5]? = some (some (V.int (0 + (i : Int)))) → Gd K (tVar 5) σ H'' (.int i) := fun e => gd_is (gd_var e (.int _)) (by rw [Int.zero_add])
    refine gd_is (gd_call (ds := [encCode code, r.enc, .int i, tokL ts]) (ga_cons (by walk_at "gd") (ga_cons (by walk_at "gd") (ga_cons (gi rfl) (ga_cons (gd_op (d := .list (paper.map tokL)) (by walk_at "gd") (gi rfl) (r2_ixl (at_map hts))) ga_nil))))
      ⟨code, r, L, i, row, ts, hrow, fit.ok, fit.sides, fit.rows row (List.mem_of_getElem? hrow), pfit.toks ts (List.mem_of_getElem? hts), Nat.le_trans (pfit.short ts (List.mem_of_getElem? hts)) (by decide), rfl, rfl⟩) ?_
    unfold brk
    rw [hrow, hts]
  rw [Int.toNat_natCast] at d5
  have d5' : Dp K H2 v5 (.list ((List.range code.length).map fun i => PyData.bool (brk r code paper i))) := d5
  have fl5 : ((List.range code.length).map fun i => PyData.bool (brk r code paper i)).all flatD = true := List.all_eq_true.mpr fun d hd => by
    obtain ⟨_, _, rfl⟩ := List.mem_map.mp hd
    rfl
  have fl4 : (col.map PyData.str).all flatD = true := List.all_eq_true.mpr fun d hd => by
    obtain ⟨_, _, rfl⟩ := List.mem_map.mp hd
    rfl
  refine q_if0 (gt_and (gt_test (K := K) (gd_op gd_bl (by walk_at "gd") (r2_nil rfl fl5 rfl))) fun _ => gt_and (gt_test (K := K) (gd_op gd_str (by walk_at "gd") (r2_nil rfl fl4 rfl))) fun _ => gt_test (K := K) (gd_op gd_str (by walk_at "gd") (r2_nil rfl fl4 rfl))) (fun c H3 s3 => ?_) fun _ H3 s3 => ?_
  · rw [Bool.and_eq_true, Bool.not_eq_true'] at c
    refine l_ret (K := K) (d := .bool true) gd_bl fun v H4 s4 d4 => q v H4 _ ⟨true, rfl, fun _ => rfl, fun ⟨i, x, h1, h2, h3⟩ => ?_⟩ (by walk_at "same") d4
    have hi : i < code.length := by
      rw [← hcol]
      exact (List.getElem?_eq_some_iff.mp h1).1
    have z := List.any_eq_false.mp c.1 (.bool (brk r code paper i)) (List.mem_map.mpr ⟨i, List.mem_range.mpr hi, rfl⟩)
    rw [h3] at z
    exact absurd rfl z
  refine q_forR (K := K) (n := code.length) (gl (by walk_at "same") rfl) (by omega) fun H4 s4 => ?_
  refine ⟨fun i σ' H' => Same H4 H' ∧ (∃ o, σ' = [some v1, some v2, some v3, some v4, some v5, o]) ∧ ∀ j x, j < i → col[j]? = some x → x = "look" ∨ brk r code paper j = false, ⟨Same.refl _, ⟨_, rfl⟩, fun j x h => absurd h (Nat.not_lt_zero _)⟩, fun i σ' H' hi hP => ?_, fun σ' H' hP => ?_⟩
  · obtain ⟨sm, ⟨o, rfl⟩, hj⟩ := hP
    obtain ⟨row, hrow⟩ : ∃ row, code[i]? = some row := ⟨_, List.getElem?_eq_getElem hi⟩
    obtain ⟨ts, hts⟩ : ∃ ts, paper[i]? = some ts := ⟨_, List.getElem?_eq_getElem (by rw [pfit.len]; exact hi)⟩
    obtain ⟨x, hx⟩ : ∃ x, col[i]? = some x := ⟨_, List.getElem?_eq_getElem (by rw [hcol]; exact hi)⟩
    have gi : ∀ {σ : L2.St} {H'' : Hp}, σ[5]? = some (some (V.int (i : Int))) → Gd K (tVar 5) σ H'' (.int i) := fun e => gd_var e (.int _)
    have s2all : Same H2 H' := s3.trans (s4.trans sm)
    have sall : Same H H' := s1.trans (s2.trans s2all)
    have gx : ∀ {H''}, Same H' H'' → Gd K (tOp (rIx K) (tVar 3) (tVar 5)) [some v1, some v2, some v3, some v4, some v5, some (V.int (i : Int))] H'' (.str x) := fun s => gd_op (d := .list (col.map PyData.str)) (gd_var rfl (dp_mono (sall.trans s) h4')) (gi rfl) (r2_ixl (at_map hx))
    refine q_if0 (gt_test (K := K) (gd_op (gx (Same.refl _)) gd_str (r2_eq rfl rfl rfl rfl))) (fun c H5 s5 => ?_) fun c H5 s5 => ?_
    · rw [str_ne] at c
      have hx2 : x = "look" := of_decide_eq_true c
      refine ⟨sm.trans s5, ⟨_, rfl⟩, fun j y hji hy => ?_⟩
      rcases Nat.lt_or_ge j i with h | h
      · exact hj j y h hy
      · have e : j = i := by omega
        subst e
        rw [hx] at hy
        cases hy
        exact .inl hx2
    rw [str_ne] at c
    have hnl : x ≠ "look" := of_decide_eq_false c
    have retF : ∀ {D' : Ends} {H''}, Same H' H'' → D'.rt = Q → (brk r code paper i = true ∨ True) → tRet (tC (.bl false)) D' [some v1, some v2, some v3, some v4, some v5, some (V.int (i : Int))] H'' := fun {D' H''} s e _ => by
      refine l_ret (K := K) (d := .bool false) gd_bl fun v H4 s4 d4 => ?_
      rw [e]
      exact q v H4 _ ⟨false, rfl, fun h => absurd (h x (List.mem_of_getElem? hx)) hnl, fun _ => rfl⟩ (by walk_at "same") d4
    refine q_if0 (gt_B (K := K) (gd_op (d := .list ((List.range code.length).map fun i => PyData.bool (brk r code paper i))) (by walk_at "gd") (gi rfl) (r2_ixl (at_map (List.getElem?_range hi))))) (fun c H6 s6 => retF (s5.trans s6) rfl (.inr trivial)) fun c H6 s6 => ?_
    refine l_ifX (gx_and (gx_gt (gt_test (K := K) (gd_op (gx (s5.trans s6)) gd_str (r2_eq rfl rfl rfl rfl)))) (gx_and (gx_gt (gt_test (K := K) (gd_op (gd_tag (row := row) (gd_op (d := .list (code.map Row.enc)) (by walk_at "gd") (gi rfl) (r2_ixl (at_map hrow)))) gd_str (r2_ne rfl rfl rfl rfl))))
      (gx_B (K := K) (gn_call (ds := [encCode code, r.enc, .int i, tokL ts]) (ga_cons (by walk_at "gd") (ga_cons (by walk_at "gd") (ga_cons (gi rfl) (ga_cons (gd_op (d := .list (paper.map tokL)) (by walk_at "gd") (gi rfl) (r2_ixl (at_map hts))) ga_nil))))
        ⟨code, r, L, i, row, ts, hrow, fit.ok, fit.sides, fit.rows row (List.mem_of_getElem? hrow), pfit.toks ts (List.mem_of_getElem? hts), rfl, rfl⟩)))) (fun H7 s7 => retF ((s5.trans s6).trans s7) rfl (.inr trivial)) fun H7 s7 => ?_
    refine ⟨((sm.trans s5).trans s6).trans s7, ⟨_, rfl⟩, fun j y hji hy => ?_⟩
    rcases Nat.lt_or_ge j i with h | h
    · exact hj j y h hy
    · have e : j = i := by omega
      subst e
      exact .inr c
  · obtain ⟨sm, ⟨o, rfl⟩, hj⟩ := hP
    refine l_ret (K := K) (d := .bool true) gd_bl fun v H5 s5 d5 => q v H5 _ ⟨true, rfl, fun _ => rfl, fun ⟨i, x, h1, h2, h3⟩ => ?_⟩ (by walk_at "same") d5
    have hi : i < code.length := by
      rw [← hcol]
      exact (List.getElem?_eq_some_iff.mp h1).1
    rcases hj i x hi h1 with h | h
    · exact absurd h h2
    · rw [h3] at h
      cases h
end
end Uw
/-! text T13 -/
namespace Uw
open PySem PySem.Spec PyProof.Rows L2
/-! all_behind -/
def allB (r : Rule) (row : Row) : Option Tok → List (Option Tok)
  | none => none :: (begun r row []).map some
  | some u => ((begun r row [u]).map some) ++ (match behind r row u with
    | none => []
    | some b => [some b])
section
variable {K : PySem.W.Frag} {σ : L2.St} {H : Hp} {ta tb : TE} {ds : List PyData} {Z : List PyData → Prop}
theorem gf_cat (h1 : Gd K ta σ H (.list ds)) (h2 : Gf K tb σ H Z) (hl : ∀ es, Z es → ds.length + es.length ≤ 1000000) : Gf K (tOp (rAddU K) ta tb) σ H (fun es => ∃ e2, Z e2 ∧ es = ds ++ e2) := fun H1 s Q q =>
  h1 H1 s _ fun x H2 s2 dx => h2 H2 (s.trans s2) _ fun p H3 xs es z s3 n3 l3 d3 => by
    obtain ⟨a, ys, rfl, h3, h4⟩ := dp_list (dp_mono s3 dx)
    refine .inr (.inr (.inl ⟨a, p, ys, xs, rfl, rfl, h3, SqL.of l3, small_le (by rw [dps_len h4, dps_len d3]; exact hl es z), fun u hu => ?_⟩))
    exact q u _ _ _ ⟨es, z, rfl⟩ ((s2.trans s3).trans (same_new hu)) ((s2.trans s3).free hu) upd_same (dps_append (dps_mono (same_new hu) h4) (dps_mono (same_new hu) d3))
end
theorem few_nil (row : Row) : Few row [] := by
  cases row <;> first | exact Nat.zero_le _ | trivial
theorem few_one (row : Row) (u : Tok) : Few row [u] := by
  cases row <;> first | exact Nat.le_trans (List.length_filter_le _ _) (by decide : 1 ≤ 31) | exact Nat.le_trans (List.length_filter_le _ _) (by decide : 1 ≤ 63) | trivial
theorem encT_some (us : List Tok) : us.map Tok.enc = (us.map some).map encT := by
  rw [List.map_map]
  rfl
theorem toksO_nol (ts : List (Option Tok)) : nolAll (ts.map encT) = true := nolAll_of fun d hd => by
  obtain ⟨t, _, rfl⟩ := List.mem_map.mp hd
  cases t with
  | none => rfl
  | some t => cases t <;> rfl
section
variable {P : Program} {w : World} {K : PySem.W.Frag} {mg : Str → Option Value} {base : Heap}
def R_all_behind (ds : List PyData) (Z : List PyData → Prop) : Prop := ∃ (L : Lim) (r : Rule) (code : List Row) (at_ : Nat) (row : Row) (t : Option Tok), Fit L r code ∧ code[at_]? = some row ∧ (∀ u, t = some u → u.Ok L) ∧
  ds = [encCode code, r.enc, .int at_, encT t] ∧ Z = fun es => ∃ us : List (Option Tok), es = us.map encT ∧ (∀ t', t' ∈ us ↔ t' ∈ allB r row t) ∧ us.length ≤ 100
theorem sc_all_behind : FnScope ["code", "rule", "at", "token", "found", "itself"] ["code", "rule", "at", "token"] (defScope (top 39)) := ⟨rfl, rfl, rfl, by decide +kernel, rfl, by decide +kernel, by decide +kernel⟩
theorem kn_all_behind (T : Tx K mg) : Kn P w K mg base 7 "all_behind" ["code", "rule", "at", "token"] (spF K R_all_behind) := by
  have Kbegins_at := kn_begins_at (P := P) (w := w) (base := base) T
  have Kbehind_at := kn_behind_at (P := P) (w := w) (base := base) T
  refine kn_F (T.fn2 (("all_behind" : Str), 39) (by decide +kernel)) sc_all_behind (fun _ _ _ _ _ _ us hl => match us, hl with | [_, _, _, _], _ => rfl) (fun ds d h => ?_) (fun f cdv A outer s0 H vs E ds Z hr hv h => ?_)
  · obtain ⟨_, _, _, _, _, _, _, _, _, rfl, _⟩ := h
    rfl
  obtain ⟨L, r, code, at_, row, t, fit, hrow, ht, rfl, rfl⟩ := h
  obtain _ | ⟨h1, _ | ⟨h2, _ | ⟨h3, _ | ⟨h4, _ | _⟩⟩⟩⟩ := hv
  rename_i v1 v2 v3 v4
  have rok := fit.rows row (List.mem_of_getElem? hrow)
  refine ⟨_, (pss_cons (ps_if (pt_cmpR op_isNon (pv 3) (pe_non) (nomark _)) (pss_one (ps_ret (pe_op op_addU (pe_lst (pa_cons (pe_non) (pa_nil))) (pe_kn Kbegins_at (hr.mono (by decide)) rfl (pa_cons (pv 0) (pa_cons (pv 1) (pa_cons (pv 2) (pa_cons (pe_lst (pa_nil)) (pa_nil))))))))) (pss_nil)) (pss_cons (ps_set (i := 4) sc_all_behind.nd rfl (Or.inl rfl) (pe_kn Kbegins_at (hr.mono (by decide)) rfl (pa_cons (pv 0) (pa_cons (pv 1) (pa_cons (pv 2) (pa_cons (pe_lst (pa_cons (pv 3) (pa_nil))) (pa_nil))))))) (pss_cons (ps_set (i := 5) sc_all_behind.nd rfl (Or.inl rfl) (pe_kn Kbehind_at (hr.mono (by decide)) rfl (pa_cons (pv 0) (pa_cons (pv 1) (pa_cons (pv 2) (pa_cons (pv 3) (pa_nil))))))) (pss_cons (ps_if (pt_cmpR op_notNon (pv 5) (pe_non) (nomark _)) (pss_one (ps_expr (pe_bm PySem.F.plainAttrs_list PySem.F.slot_list_append PySem.F.type_list_append mt_append (pv 4) (pa_cons (pv 5) (pa_nil))))) (pss_nil)) (pss_one (ps_ret (pv 4))))))), fun Q q => ?_⟩
  cases t with
  | none =>
    have h4' : Dp K H v4 .none := h4
    refine q_yes (by walk_at "tagT") fun H1 s1 => ?_
    refine l_retF (K := K) (gf_cat (ds := [.none]) (gd_lst (ga_cons gd_non ga_nil) (by decide)) (gf_call (ds := [encCode code, r.enc, .int at_, .list []]) (ga_cons (by walk_at "gd") (ga_cons (by walk_at "gd") (ga_cons (by walk_at "gd") (ga_cons (gd_lst ga_nil (by decide)) ga_nil))))
      ⟨code, r, L, at_, row, [], hrow, fit.ok, fit.sides, rok, fit.few, fun _ h => (by cases h), few_nil row, Nat.zero_le _, rfl, rfl⟩) fun es z => ?_) fun p H2 xs es z s2 n2 l2 d2 => ?_
    · obtain ⟨us, rfl, _, hl⟩ := z
      rw [List.length_map]
      show 1 + _ ≤ _
      omega
    · obtain ⟨_, ⟨us, rfl, hm, hl⟩, rfl⟩ := z
      refine q p H2 xs _ ⟨none :: us.map some, by rw [List.map_cons, ← encT_some]; rfl, fun t' => ?_, by rw [List.length_cons, List.length_map]; omega⟩ (by walk_at "same") (Same.free (by walk_at "same") n2) l2 d2
      unfold allB
      rw [List.mem_cons, List.mem_cons, List.mem_map, List.mem_map]
      exact or_congr Iff.rfl ⟨fun ⟨a, h, e⟩ => ⟨a, (hm a).mp h, e⟩, fun ⟨a, h, e⟩ => ⟨a, (hm a).mpr h, e⟩⟩
  | some u =>
    have hu := ht u rfl
    have h4' : Dp K H v4 (.tuple (u.ns.map natD)) := h4
    have h4'' : Dp K H v4 u.enc := h4
    refine q_no (by walk_at "tagF") fun H1 s1 => ?_
    refine q_asgF (K := K) (gf_call (ds := [encCode code, r.enc, .int at_, .list [u.enc]]) (ga_cons (by walk_at "gd") (ga_cons (by walk_at "gd") (ga_cons (by walk_at "gd") (ga_cons (gd_lst (ga_cons (by walk_at "gd") ga_nil) (Nat.le_of_ble_eq_true rfl)) ga_nil))))
      ⟨code, r, L, at_, row, [u], hrow, fit.ok, fit.sides, rok, fit.few, fun t h => by rw [List.mem_singleton.mp h]; exact hu, few_one row u, Nat.le_of_ble_eq_true rfl, rfl, rfl⟩) fun p H2 xs es z s2 n2 l2 d2 => ?_
    obtain ⟨us, rfl, hm, hl⟩ := z
    rw [encT_some] at d2
    refine q_asg (K := K) (d := encT (behind r row u)) (gd_call (ds := [encCode code, r.enc, .int at_, u.enc]) (ga_cons (by walk_at "gd") (ga_cons (by walk_at "gd") (ga_cons (by walk_at "gd") (ga_cons (by walk_at "gd") ga_nil))))
        ⟨code, r, L, at_, row, u, hrow, fit.ok, fit.sides, rok, fit.few, hu, rfl, rfl⟩) fun v6 H3 s3 d6 => ?_
    cases hb : behind r row u with
    | none =>
      rw [hb] at d6
      have d6' : Dp K H3 v6 .none := d6
      refine q_no (by walk_at "tagF") fun H4 s4 => ?_
      refine ⟨_, rfl, q p H4 xs _ ⟨us.map some, rfl, fun t' => ?_, by rw [List.length_map]; omega⟩ (by walk_at "same") (Same.free s1 n2) ((s3.trans s4) _ _ l2) (dps_mono (s3.trans s4) d2)⟩
      have ea : allB r row (some u) = (begun r row [u]).map some := by
        show _ ++ _ = _
        rw [hb]
        exact List.append_nil _
      rw [ea, List.mem_map, List.mem_map]
      exact ⟨fun ⟨a, h, e⟩ => ⟨a, (hm a).mp h, e⟩, fun ⟨a, h, e⟩ => ⟨a, (hm a).mpr h, e⟩⟩
    | some b =>
      rw [hb] at d6
      have d6' : Dp K H3 v6 (.tuple (b.ns.map natD)) := d6
      have d6'' : Dp K H3 v6 b.enc := d6
      refine q_yes (by walk_at "tagT") fun H4 s4 => ?_
      refine l_app (K := K) (H0 := H1) rfl (gd_var rfl (dp_mono s4 d6'')) ((s3.trans s4) _ _ l2) n2 ((s2.trans s3).trans s4) (dps_mono (s3.trans s4) d2) (by rw [List.length_map, List.length_map]; omega) (toksO_nol _) (by cases b <;> rfl) fun v9 H9 s9 p9 d9 => ?_
      refine ⟨_, rfl, q p H9 _ _ ⟨us.map some ++ [some b], by rw [List.map_append]; rfl, fun t' => ?_, by rw [List.length_append, List.length_map]; show _ + 1 ≤ _; omega⟩ (s1.trans s9) (Same.free s1 n2) p9 d9⟩
      have ea : allB r row (some u) = (begun r row [u]).map some ++ [some b] := by
        show _ ++ _ = _
        rw [hb]
      rw [ea, List.mem_append, List.mem_append, List.mem_map, List.mem_map]
      exact or_congr ⟨fun ⟨a, h, e⟩ => ⟨a, (hm a).mp h, e⟩, fun ⟨a, h, e⟩ => ⟨a, (hm a).mpr h, e⟩⟩ Iff.rfl
end
end Uw
/-! text P1 -/
/-! Plain: what begins, what goes on, stays within the limits; all tokens there are. -/
namespace Uw
open PySem
theorem wit_lt {m s S : Nat} (hm : m < 2 ^ S) (hs : s < S) : wit m s < 2 ^ S := Nat.or_lt_two_pow hm (Nat.pow_lt_pow_right (by decide) hs)
theorem wout_lt {m s S : Nat} (hm : m < 2 ^ S) (hs : s < S) : wout m s < 2 ^ S := Nat.xor_lt_two_pow (wit_lt hm hs) (Nat.pow_lt_pow_right (by decide) hs)
theorem sbh_lt {row : Row} {m S : Nat} (hm : m < 2 ^ S) (ho : row.Ok S) : sbh row m < 2 ^ S := by
  cases row with
  | opn l s => exact wout_lt hm ho
  | drp l s => exact wout_lt hm ho
  | cpy l s t =>
    show cpd m s t < _
    unfold cpd
    split
    · exact wit_lt hm ho.1
    · exact wout_lt hm ho.1
  | _ => exact hm
theorem next_room_lt {r : Rule} {R n k : Nat} {w : Str} (ok : r.Ok R) (hn : n < R) (h : r.next n w = some k) : k < R := by
  unfold Rule.next at h
  split at h
  · have hl : n < r.rooms.length := by rw [ok.len]; exact hn
    have e1 : r.rooms.getD n [] = r.rooms[n] := by rw [List.getD_eq_getElem?_getD, List.getElem?_eq_getElem hl]; rfl
    rw [e1] at h
    obtain ⟨_, h2⟩ := ok.row _ (List.getElem_mem hl)
    rw [List.getD_eq_getElem?_getD] at h
    cases q : r.rooms[n][r.texts.idxOf w]? with
    | none =>
      rw [q] at h
      cases h
    | some o =>
      rw [q] at h
      have h : o = some k := h
      subst h
      exact h2 k (List.mem_of_getElem? q)
  · cases h
    exact hn
theorem rooms_in {r : Rule} {R : Nat} (ok : r.Ok R) : ∀ {ws : List Str} {n k : Nat}, n < R → rooms r ws n = some k → k < R
  | [], n, k, hn, h => by
    cases h
    exact hn
  | w :: ws, n, k, hn, h => by
    unfold rooms at h
    cases q : r.next n w with
    | none =>
      rw [q] at h
      cases h
    | some j =>
      rw [q] at h
      exact rooms_in ok (next_room_lt ok hn q) h
section
variable {L : Lim} {r : Rule} {row : Row} {u t : Tok}
theorem behind_ok (ok : r.Ok L.R) (hs : r.sides = L.sides) (ho : row.Ok L.S) (hu : u.Ok L) (h : behind r row u = some t) : t.Ok L := by
  unfold behind at h
  split at h
  · cases h
  · split at h
    · rename_i m
      cases q : roomB r row u with
      | none =>
        rw [q] at h
        cases h
      | some k =>
        rw [q] at h
        cases h
        cases u with
        | sgl m => cases m
        | par a b o => cases m
        | one m' j => exact ⟨hu.1, sbh_lt hu.2.1 ho, rooms_in ok hu.2.2 q⟩
        | tyd a b o j => exact ⟨hu.1, sbh_lt hu.2.1 ho, sbh_lt hu.2.2.1 ho, hu.2.2.2.1, rooms_in ok hu.2.2.2.2 q⟩
    · rename_i m
      cases h
      cases u with
      | one m' j => exact absurd rfl m
      | tyd a b o j => exact absurd rfl m
      | sgl m' => exact ⟨hu.1, sbh_lt hu.2 ho⟩
      | par a b o => exact ⟨hu.1, sbh_lt hu.2.1 ho, sbh_lt hu.2.2.1 ho, hu.2.2.2⟩
theorem pow_slot {s S : Nat} (h : s < S) : 2 ^ s < 2 ^ S := Nat.pow_lt_pow_right (by decide) h
theorem beg0_ok (ok : r.Ok L.R) (hs : r.sides = L.sides) (ho : row.Ok L.S) (h : t ∈ beg0 r row) : t.Ok L := by
  cases row with
  | opn l s =>
    by_cases e : r.sides = 1
    · have z : beg0 r (.opn l s) = (match r.next 0 "open" with
        | none => []
        | some k => [.one (2 ^ s) k]) := if_pos e
      rw [z] at h
      cases q : r.next 0 "open" with
      | none =>
        rw [q] at h
        cases h
      | some k =>
        rw [q] at h
        rw [List.mem_singleton.mp h]
        exact ⟨by rw [← hs, e], pow_slot ho, next_room_lt ok ok.pos q⟩
    · have z : beg0 r (.opn l s) = [.sgl (2 ^ s)] := if_neg e
      rw [z] at h
      rw [List.mem_singleton.mp h]
      exact ⟨by rw [← hs]; exact ok.sides.resolve_left e, pow_slot ho⟩
  | _ => cases h
theorem begT_ok (ok : r.Ok L.R) (hs : r.sides = L.sides) (ho : row.Ok L.S) (hu : u.Ok L) (h : t ∈ begT r row u) : t.Ok L := by
  cases row with
  | opn l s =>
    cases u with
    | sgl m =>
      by_cases e : r.sides = 2
      · have z : begT r (.opn l s) (.sgl m) = [.par (wout m s) (2 ^ s) 1, .par (2 ^ s) (wout m s) 2] := if_pos e
        rw [z] at h
        rcases List.mem_cons.mp h with h | h
        · subst h
          exact ⟨hu.1, wout_lt hu.2 ho, pow_slot ho, .inl rfl⟩
        · rw [List.mem_singleton.mp h]
          exact ⟨hu.1, pow_slot ho, wout_lt hu.2 ho, .inr rfl⟩
      · have z : begT r (.opn l s) (.sgl m) = [] := if_neg e
        rw [z] at h
        cases h
    | _ => cases h
  | tie l s s' =>
    cases u with
    | par a b o =>
      by_cases e : r.sides = 2 ∧ a.testBit s ∧ b.testBit s'
      · have z : begT r (.tie l s s') (.par a b o) = [.tyd a b o 0] := if_pos e
        rw [z] at h
        rw [List.mem_singleton.mp h]
        exact ⟨hu.1, hu.2.1, hu.2.2.1, hu.2.2.2, ok.pos⟩
      · have z : begT r (.tie l s s') (.par a b o) = [] := if_neg e
        rw [z] at h
        cases h
    | _ => cases h
  | _ => cases h
theorem begun_ok {ts : List Tok} (ok : r.Ok L.R) (hs : r.sides = L.sides) (ho : row.Ok L.S) (hu : ∀ u ∈ ts, u.Ok L) (h : t ∈ begun r row ts) : t.Ok L := by
  unfold begun at h
  rcases List.mem_append.mp h with h | h
  · exact beg0_ok ok hs ho h
  · obtain ⟨u, h1, h2⟩ := List.mem_flatMap.mp h
    exact begT_ok ok hs ho (hu u h1) h2
theorem allB_ok {o o' : Option Tok} (ok : r.Ok L.R) (hs : r.sides = L.sides) (ho : row.Ok L.S) (hu : ∀ u, o = some u → u.Ok L) (h : o' ∈ allB r row o) : ∀ t, o' = some t → t.Ok L := by
  intro t e
  subst e
  cases o with
  | none =>
    rcases List.mem_cons.mp h with h | h
    · cases h
    · obtain ⟨x, hx, e⟩ := List.mem_map.mp h
      cases e
      exact begun_ok ok hs ho (fun u hu => by cases hu) hx
  | some u =>
    rcases List.mem_append.mp h with h | h
    · obtain ⟨x, hx, e⟩ := List.mem_map.mp h
      cases e
      exact begun_ok ok hs ho (fun v hv => by rw [List.mem_singleton.mp hv]; exact hu u rfl) hx
    · cases q : behind r row u with
      | none =>
        rw [q] at h
        cases h
      | some b =>
        rw [q] at h
        have e := List.mem_singleton.mp h
        cases e
        exact behind_ok ok hs ho (hu u rfl) q
end
/-! ### all tokens -/
def allToks (L : Lim) : List Tok :=
  if L.sides = 1 then (List.range (2 ^ L.S)).flatMap fun m => (List.range L.R).map fun k => .one m k
  else ((List.range (2 ^ L.S)).map fun m => .sgl m) ++ (((List.range (2 ^ L.S)).flatMap fun a => (List.range (2 ^ L.S)).flatMap fun b => [Tok.par a b 1, .par a b 2]) ++
    (List.range (2 ^ L.S)).flatMap fun a => (List.range (2 ^ L.S)).flatMap fun b => (List.range L.R).flatMap fun k => [Tok.tyd a b 1 k, .tyd a b 2 k])
theorem mem_allToks {L : Lim} {t : Tok} (h : t.Ok L) : t ∈ allToks L := by
  unfold allToks
  cases t with
  | one m k =>
    rw [if_pos h.1]
    exact List.mem_flatMap.mpr ⟨m, List.mem_range.mpr h.2.1, List.mem_map.mpr ⟨k, List.mem_range.mpr h.2.2, rfl⟩⟩
  | sgl m =>
    rw [if_neg (by rw [h.1]; decide)]
    exact List.mem_append_left _ (List.mem_map.mpr ⟨m, List.mem_range.mpr h.2, rfl⟩)
  | par a b o =>
    rw [if_neg (by rw [h.1]; decide)]
    refine List.mem_append_right _ (List.mem_append_left _ (List.mem_flatMap.mpr ⟨a, List.mem_range.mpr h.2.1, List.mem_flatMap.mpr ⟨b, List.mem_range.mpr h.2.2.1, ?_⟩⟩))
    rcases h.2.2.2 with e | e <;> subst e <;> simp
  | tyd a b o k =>
    rw [if_neg (by rw [h.1]; decide)]
    refine List.mem_append_right _ (List.mem_append_right _ (List.mem_flatMap.mpr ⟨a, List.mem_range.mpr h.2.1, List.mem_flatMap.mpr ⟨b, List.mem_range.mpr h.2.2.1, List.mem_flatMap.mpr ⟨k, List.mem_range.mpr h.2.2.2.2, ?_⟩⟩⟩))
    rcases h.2.2.2.1 with e | e <;> subst e <;> simp
structure Small (L : Lim) : Prop where
  all : (allToks L).length ≤ 600
  sgl : ((allToks L).filter isSgl).length ≤ 31
  tie : ∀ s t, s < L.S → t < L.S → ((allToks L).filter (tieHit s t)).length ≤ 63
def smallB (L : Lim) : Bool := decide ((allToks L).length ≤ 600) && (decide (((allToks L).filter isSgl).length ≤ 31) && (List.range L.S).all fun s => (List.range L.S).all fun t => decide (((allToks L).filter (tieHit s t)).length ≤ 63))
theorem small_of {L : Lim} (h : smallB L = true) : Small L := by
  unfold smallB at h
  rw [Bool.and_eq_true, Bool.and_eq_true] at h
  refine ⟨of_decide_eq_true h.1, of_decide_eq_true h.2.1, fun s t hs ht => ?_⟩
  have h1 := List.all_eq_true.mp h.2.2 s (List.mem_range.mpr hs)
  exact of_decide_eq_true (List.all_eq_true.mp h1 t (List.mem_range.mpr ht))
theorem small_one : ∀ R, R ≤ 4 → smallB ⟨1, 5, R⟩ = true := by
  intro R h
  have : R = 0 ∨ R = 1 ∨ R = 2 ∨ R = 3 ∨ R = 4 := by omega
  rcases this with e | e | e | e | e <;> subst e <;> decide +kernel
theorem small_two : ∀ R, R ≤ 3 → smallB ⟨2, 3, R⟩ = true := by
  intro R h
  have : R = 0 ∨ R = 1 ∨ R = 2 ∨ R = 3 := by omega
  rcases this with e | e | e | e <;> subst e <;> decide +kernel
theorem few_of {L : Lim} (sm : Small L) {row : Row} (ho : row.Ok L.S) {ts : List Tok} (hn : ts.Nodup) (hok : ∀ t ∈ ts, t.Ok L) : Few row ts := by
  have len : ∀ p : Tok → Bool, (ts.filter p).length ≤ ((allToks L).filter p).length := fun p => nodup_len _ _ (hn.filter p) fun x hx => by
    rw [List.mem_filter] at hx ⊢
    exact ⟨mem_allToks (hok x hx.1), hx.2⟩
  cases row with
  | opn l s => exact Nat.le_trans (len _) sm.sgl
  | tie l s t => exact Nat.le_trans (len _) (sm.tie s t ho.1 ho.2)
  | _ => trivial
theorem few_len {L : Lim} (sm : Small L) {ts : List Tok} (hn : ts.Nodup) (hok : ∀ t ∈ ts, t.Ok L) : ts.length ≤ 600 := Nat.le_trans (nodup_len _ _ hn fun x hx => mem_allToks (hok x hx)) sm.all
theorem few_lenO {L : Lim} (sm : Small L) {ts : List (Option Tok)} (hn : ts.Nodup) (hok : ∀ t, some t ∈ ts → t.Ok L) : ts.length ≤ 601 := by
  have z := nodup_len ts (none :: (allToks L).map some) hn fun x hx => by
    cases x with
    | none => exact List.mem_cons_self
    | some t => exact List.mem_cons_of_mem _ (List.mem_map.mpr ⟨t, mem_allToks (hok t hx), rfl⟩)
  rw [List.length_cons, List.length_map] at z
  have := sm.all
  omega
end Uw
/-! text P2 -/
/-! Plain: the work list of paper_of. -/
namespace Uw
open PySem
abbrev Pt := Nat × Option Tok
structure Wf (code : List Row) : Prop where
  ne : code ≠ []
  to : ∀ (i : Nat) (row : Row), code[i]? = some row → ∀ to ∈ after i row, to < code.length
  pred : ∀ i, 0 < i → i < code.length → ∃ j row, j < i ∧ code[j]? = some row ∧ i ∈ after j row
def has (Ss : List (List (Option Tok))) (i : Nat) (t : Option Tok) : Prop := ∃ S, Ss[i]? = some S ∧ t ∈ S
/-- what stands behind (i, t) is known -/
def Dn1 (r : Rule) (code : List Row) (Ss : List (List (Option Tok))) (i : Nat) (t : Option Tok) : Prop := ∀ row, code[i]? = some row → ∀ o ∈ allB r row t, ∀ to ∈ after i row, has Ss to o
structure PIv (L : Lim) (r : Rule) (code : List Row) (Ss : List (List (Option Tok))) (W : List Pt) (exc : Option Pt) : Prop where
  len : Ss.length = code.length
  nd : ∀ S ∈ Ss, S.Nodup
  ok : ∀ S ∈ Ss, ∀ t, some t ∈ S → t.Ok L
  w : ∀ p ∈ W, has Ss p.1 p.2
  cl : ∀ i t, has Ss i t → (i, t) ∈ W ∨ exc = some (i, t) ∨ Dn1 r code Ss i t
  z : has Ss 0 none
def tot (Ss : List (List (Option Tok))) : Nat := (Ss.map List.length).sum
def mu (n : Nat) (Ss : List (List (Option Tok))) (W : List Pt) : Nat := 2 * (n * 601 - tot Ss) + W.length
theorem tot_set : ∀ {Ss : List (List (Option Tok))} {i : Nat} {S S' : List (Option Tok)}, Ss[i]? = some S → tot (Ss.set i S') + S.length = tot Ss + S'.length
  | [], _, _, _, h => by simp at h
  | A :: Ss, 0, S, S', h => by
    simp at h
    subst h
    show (S'.length + _) + A.length = (A.length + _) + S'.length
    omega
  | A :: Ss, i + 1, S, S', h => by
    have z := tot_set (Ss := Ss) (i := i) (S := S) (S' := S') (by simpa using h)
    show (A.length + tot (Ss.set i S')) + S.length = (A.length + tot Ss) + S'.length
    omega
theorem tot_le {B : Nat} : ∀ {Ss : List (List (Option Tok))}, (∀ S ∈ Ss, S.length ≤ B) → tot Ss ≤ Ss.length * B
  | [], _ => Nat.zero_le _
  | A :: Ss, h => by
    have z := tot_le (B := B) (Ss := Ss) fun S hS => h S (List.mem_cons_of_mem _ hS)
    have z2 := h A List.mem_cons_self
    show A.length + tot Ss ≤ (Ss.length + 1) * B
    rw [Nat.add_mul]
    omega
section
variable {L : Lim} {r : Rule} {code : List Row} {Ss : List (List (Option Tok))} {W : List Pt} {exc : Option Pt} {i to : Nat} {t o : Option Tok}
theorem PIv.len1 (sm : Small L) (I : PIv L r code Ss W exc) {S : List (Option Tok)} (h : S ∈ Ss) : S.length ≤ 601 := few_lenO sm (I.nd S h) (I.ok S h)
theorem PIv.tot (sm : Small L) (I : PIv L r code Ss W exc) : tot Ss ≤ code.length * 601 := by
  rw [← I.len]
  exact tot_le fun S hS => I.len1 sm hS
theorem has_set {S : List (Option Tok)} (h : Ss[to]? = some S) (hi : has Ss i t) : has (Ss.set to (S ++ [o])) i t := by
  obtain ⟨S', h1, h2⟩ := hi
  by_cases e : i = to
  · subst e
    rw [h] at h1
    cases h1
    refine ⟨S ++ [o], ?_, List.mem_append_left _ h2⟩
    rw [List.getElem?_set_self (List.getElem?_eq_some_iff.mp h).1]
  · exact ⟨S', by rw [List.getElem?_set_ne (fun z => e z.symm)]; exact h1, h2⟩
theorem has_new {S : List (Option Tok)} (h : Ss[to]? = some S) : has (Ss.set to (S ++ [o])) to o :=
  ⟨S ++ [o], by rw [List.getElem?_set_self (List.getElem?_eq_some_iff.mp h).1], List.mem_append_right _ List.mem_cons_self⟩
theorem Dn1.set {S : List (Option Tok)} (h : Ss[to]? = some S) (d : Dn1 r code Ss i t) : Dn1 r code (Ss.set to (S ++ [o])) i t := fun row hr o' ho to' ht => has_set h (d row hr o' ho to' ht)
theorem mem_set_sub {S A : List (Option Tok)} (h : A ∈ Ss.set to S) : A = S ∨ A ∈ Ss := (List.mem_or_eq_of_mem_set h).symm
theorem PIv.push (I : PIv L r code Ss W exc) {S : List (Option Tok)} (h : Ss[to]? = some S) (hn : o ∉ S) (ho : ∀ u, o = some u → u.Ok L) : PIv L r code (Ss.set to (S ++ [o])) (W ++ [(to, o)]) exc where
  len := by rw [List.length_set]; exact I.len
  nd := fun A hA => by
    rcases mem_set_sub hA with e | hA
    · subst e
      exact L2.nd_snoc (I.nd S (List.mem_of_getElem? h)) hn
    · exact I.nd A hA
  ok := fun A hA u hu => by
    rcases mem_set_sub hA with e | hA
    · subst e
      rcases List.mem_append.mp hu with hu | hu
      · exact I.ok S (List.mem_of_getElem? h) u hu
      · exact ho u (List.mem_singleton.mp hu).symm
    · exact I.ok A hA u hu
  w := fun p hp => by
    rcases List.mem_append.mp hp with hp | hp
    · exact has_set h (I.w p hp)
    · rw [List.mem_singleton.mp hp]
      exact has_new h
  cl := fun j u hu => by
    by_cases hx : has Ss j u
    · rcases I.cl j u hx with c | c | c
      · exact .inl (List.mem_append_left _ c)
      · exact .inr (.inl c)
      · exact .inr (.inr (c.set h))
    · obtain ⟨A, h1, h2⟩ := hu
      by_cases e : j = to
      · subst e
        rw [List.getElem?_set_self (List.getElem?_eq_some_iff.mp h).1] at h1
        cases h1
        rcases List.mem_append.mp h2 with h2 | h2
        · exact absurd ⟨S, h, h2⟩ hx
        · rw [List.mem_singleton.mp h2]
          exact .inl (List.mem_append_right _ List.mem_cons_self)
      · rw [List.getElem?_set_ne (fun z => e z.symm)] at h1
        exact absurd ⟨A, h1, h2⟩ hx
  z := has_set h I.z
theorem mu_push (sm : Small L) (I : PIv L r code Ss W exc) {S : List (Option Tok)} (h : Ss[to]? = some S) (I' : PIv L r code (Ss.set to (S ++ [o])) (W ++ [(to, o)]) exc) : mu code.length (Ss.set to (S ++ [o])) (W ++ [(to, o)]) + 1 ≤ mu code.length Ss W := by
  have z := tot_set (S' := S ++ [o]) h
  have b := I'.tot sm
  unfold mu
  rw [List.length_append] at z ⊢
  simp only [List.length_cons, List.length_nil] at z ⊢
  omega
theorem PIv.pop (I : PIv L r code Ss (W ++ [(i, t)]) none) : PIv L r code Ss W (some (i, t)) where
  len := I.len
  nd := I.nd
  ok := I.ok
  w := fun p hp => I.w p (List.mem_append_left _ hp)
  cl := fun j u hu => by
    rcases I.cl j u hu with c | c | c
    · rcases List.mem_append.mp c with c | c
      · exact .inl c
      · exact .inr (.inl (congrArg some (List.mem_singleton.mp c).symm))
    · cases c
    · exact .inr (.inr c)
  z := I.z
theorem PIv.fin (I : PIv L r code Ss W (some (i, t))) (d : Dn1 r code Ss i t) : PIv L r code Ss W none where
  len := I.len
  nd := I.nd
  ok := I.ok
  w := I.w
  cl := fun j u hu => by
    rcases I.cl j u hu with c | c | c
    · exact .inl c
    · injection c with c
      injection c with c1 c2
      subst c1 c2
      exact .inr (.inr d)
    · exact .inr (.inr c)
  z := I.z
/-- when nothing waits -/
theorem PIv.reach (I : PIv L r code Ss [] none) (wf : Wf code) : ∀ j, j < code.length → has Ss j none := by
  intro j
  induction j using Nat.strongRecOn with
  | ind j ih =>
    intro hj
    by_cases h0 : j = 0
    · subst h0
      exact I.z
    · obtain ⟨k, row, hk, hr, hm⟩ := wf.pred j (by omega) hj
      have hkl : k < code.length := (List.getElem?_eq_some_iff.mp hr).1
      rcases I.cl k none (ih k hk hkl) with c | c | c
      · cases c
      · cases c
      · exact c row hr none List.mem_cons_self j hm
/-- the paper: the tokens of each row, in any order -/
def PaperOf (Ss : List (List (Option Tok))) (paper : List (List Tok)) : Prop := paper.length = Ss.length ∧ ∀ (i : Nat) (S : List (Option Tok)) (ts : List Tok), Ss[i]? = some S → paper[i]? = some ts → ts.Nodup ∧ ∀ u, u ∈ ts ↔ some u ∈ S
theorem mem_fm {S : List (Option Tok)} {u : Tok} : u ∈ S.filterMap id ↔ some u ∈ S := by
  rw [List.mem_filterMap]
  constructor
  · rintro ⟨x, h1, h2⟩
    have h2 : x = some u := h2
    rw [← h2]
    exact h1
  · exact fun h => ⟨some u, h, rfl⟩
theorem nodup_fm : ∀ {S : List (Option Tok)}, S.Nodup → (S.filterMap id).Nodup
  | [], _ => List.nodup_nil
  | none :: S, h => by
    rw [show (none :: S).filterMap id = S.filterMap id from rfl]
    exact nodup_fm (List.nodup_cons.mp h).2
  | some u :: S, h => by
    rw [show (some u :: S).filterMap id = u :: S.filterMap id from rfl]
    exact List.nodup_cons.mpr ⟨fun m => (List.nodup_cons.mp h).1 (mem_fm.mp m), nodup_fm (List.nodup_cons.mp h).2⟩
theorem paper_ok (fit : Fit L r code) (sm : Small L) (wf : Wf code) (I : PIv L r code Ss [] none) {paper : List (List Tok)} (hp : PaperOf Ss paper) : PFit L code paper ∧ Closed r code paper := by
  have at_ : ∀ (i : Nat) (ts : List Tok), paper[i]? = some ts → ∃ S, Ss[i]? = some S ∧ ts.Nodup ∧ (∀ u, u ∈ ts ↔ some u ∈ S) := fun i ts h => by
    have hl : i < Ss.length := by
      rw [← hp.1]
      exact (List.getElem?_eq_some_iff.mp h).1
    exact ⟨_, List.getElem?_eq_getElem hl, hp.2 i _ ts (List.getElem?_eq_getElem hl) h⟩
  have ok : ∀ (i : Nat) (ts : List Tok), paper[i]? = some ts → ts.Nodup ∧ ∀ u ∈ ts, u.Ok L := fun i ts h => by
    obtain ⟨S, h1, h2, h3⟩ := at_ i ts h
    have hm := List.mem_of_getElem? h1
    exact ⟨h2, fun u hu => I.ok S hm u ((h3 u).mp hu)⟩
  refine ⟨⟨hp.1.trans I.len, fun ts hts => ?_, fun i row ts hr hts => ?_, fun ts hts => ?_⟩, fun i row ts hr hts to hto => ?_⟩
  · obtain ⟨i, hi⟩ := List.mem_iff_getElem?.mp hts
    exact (ok i ts hi).2
  · exact few_of sm (fit.rows row (List.mem_of_getElem? hr)) (ok i ts hts).1 (ok i ts hts).2
  · obtain ⟨i, hi⟩ := List.mem_iff_getElem?.mp hts
    exact Nat.le_trans (few_len sm (ok i ts hi).1 (ok i ts hi).2) (by decide)
  · obtain ⟨S, h1, _, h2⟩ := at_ i ts hts
    have hlt := wf.to i row hr to hto
    obtain ⟨us, hus⟩ : ∃ us, paper[to]? = some us := ⟨_, List.getElem?_eq_getElem (by rw [hp.1, I.len]; exact hlt)⟩
    obtain ⟨S', h3, _, h4⟩ := at_ to us hus
    have fin : ∀ u o, has Ss i u → some o ∈ allB r row u → o ∈ us := fun u o hu ho => by
      rcases I.cl i u hu with c | c | c
      · cases c
      · cases c
      · obtain ⟨S'', h5, h6⟩ := c row hr (some o) ho to hto
        rw [h3] at h5
        cases h5
        exact (h4 o).mpr h6
    have hil : i < code.length := (List.getElem?_eq_some_iff.mp hr).1
    have hN := I.reach wf i hil
    have inTs : ∀ u ∈ ts, has Ss i (some u) := fun u hu => ⟨S, h1, (h2 u).mp hu⟩
    refine ⟨us, hus, fun t ht => ?_, fun u hu t hb => ?_⟩
    · unfold begun at ht
      rcases List.mem_append.mp ht with ht | ht
      · refine fin none t hN (List.mem_cons_of_mem _ (List.mem_map.mpr ⟨t, ?_, rfl⟩))
        unfold begun
        exact List.mem_append_left _ ht
      · obtain ⟨u, hu, h⟩ := List.mem_flatMap.mp ht
        refine fin (some u) t (inTs u hu) (List.mem_append_left _ (List.mem_map.mpr ⟨t, ?_, rfl⟩))
        unfold begun
        refine List.mem_append_right _ (List.mem_flatMap.mpr ⟨u, List.mem_cons_self, h⟩)
    · refine fin (some u) t (inTs u hu) (List.mem_append_right _ ?_)
      rw [hb]
      exact List.mem_cons_self
theorem start_ok (hn : code ≠ []) : PIv L r code ((code.map fun _ => ([] : List (Option Tok))).set 0 [none]) [(0, none)] none := by
  have hl : 0 < code.length := List.length_pos_iff.mpr hn
  have h0 : ((code.map fun _ => ([] : List (Option Tok))).set 0 [none])[0]? = some [none] := by
    rw [List.getElem?_set_self (by rw [List.length_map]; exact hl)]
  have mem : ∀ A ∈ (code.map fun _ => ([] : List (Option Tok))).set 0 [none], A = [none] ∨ A = [] := fun A hA => by
    rcases mem_set_sub hA with e | hA
    · exact .inl e
    · obtain ⟨_, _, e⟩ := List.mem_map.mp hA
      exact .inr e.symm
  refine ⟨by rw [List.length_set, List.length_map], fun A hA => ?_, fun A hA u hu => ?_, fun p hp => ?_, fun i t ht => ?_, ⟨_, h0, List.mem_cons_self⟩⟩
  · rcases mem A hA with e | e <;> subst e
    · exact List.nodup_cons.mpr ⟨fun h => (by cases h), List.nodup_nil⟩
    · exact List.nodup_nil
  · rcases mem A hA with e | e <;> subst e
    · cases (List.mem_singleton.mp hu)
    · cases hu
  · rw [List.mem_singleton.mp hp]
    exact ⟨_, h0, List.mem_cons_self⟩
  · obtain ⟨S, h1, h2⟩ := ht
    by_cases e : i = 0
    · subst e
      rw [h0] at h1
      cases h1
      rw [List.mem_singleton.mp h2]
      exact .inl List.mem_cons_self
    · rw [List.getElem?_set_ne (fun z => e z.symm), List.getElem?_map] at h1
      cases q : code[i]? with
      | none =>
        rw [q] at h1
        cases h1
      | some x =>
        rw [q] at h1
        cases h1
        cases h2
end
end Uw
/-! text T14 -/
namespace Uw
open PySem PySem.Spec PyProof.Rows L2
/-! paper_of -/
def encW (p : Pt) : PyData := .tuple [.int p.1, encT p.2]
theorem encW_nol (W : List Pt) : nolAll (W.map encW) = true := nolAll_of fun d hd => by
  obtain ⟨⟨i, t⟩, _, rfl⟩ := List.mem_map.mp hd
  cases t with
  | none => rfl
  | some t => cases t <;> rfl
theorem encT_nol (t : Option Tok) : nol (encT t) = true := by
  cases t with
  | none => rfl
  | some t => cases t <;> rfl
theorem canW : ∀ W : List Pt, PyData.canLayAll0 (W.map encW) = true
  | [] => rfl
  | (i, t) :: W => by
    show (PyData.canLay0 (encW (i, t)) && PyData.canLayAll0 (W.map encW)) = true
    rw [canW W]
    cases t with
    | none => rfl
    | some t => cases t <;> rfl
theorem depW : ∀ W : List Pt, PyData.depthAll (W.map encW) ≤ 2
  | [] => Nat.zero_le _
  | (i, t) :: W => by
    have z := depW W
    show max (PyData.depth (encW (i, t))) (PyData.depthAll (W.map encW)) ≤ 2
    have z2 : PyData.depth (encW (i, t)) ≤ 2 := by
      cases t with
      | none => exact Nat.le_of_ble_eq_true rfl
      | some t => cases t <;> exact Nat.le_of_ble_eq_true rfl
    omega
theorem shapedW (W : List Pt) : SeqAt.shaped (.list (W.map encW)) = true := by
  unfold SeqAt.shaped
  rw [Bool.and_eq_true]
  refine ⟨canW W, decide_eq_true ?_⟩
  have z := depW W
  rw [PyData.depth]
  omega
theorem eqvW (W : List Pt) : PyData.eqv (.list (W.map encW)) (.list []) = W.isEmpty := by
  cases W with
  | nil => rfl
  | cons p W => rfl
theorem map_inj' {α β : Type} {f : α → β} (hf : ∀ a b, f a = f b → a = b) : ∀ x y : List α, x.map f = y.map f → x = y
  | [], [], _ => rfl
  | [], _ :: _, h => by cases h
  | _ :: _, [], h => by cases h
  | a :: x, b :: y, h => by
    rw [List.map_cons, List.map_cons] at h
    injection h with h1 h2
    rw [hf a b h1, map_inj' hf x y h2]
structure PH (K : PySem.W.Frag) (P : Program) (w : World) (H0 H : Hp) (a wq : Addr) (ps : List Addr) (Ss : List (List (Option Tok))) (W : List Pt) : Prop where
  same : Same H0 H
  na : H0 a = none
  nw : H0 wq = none
  np : ∀ p ∈ ps, H0 p = none
  aw : a ≠ wq
  nd : ps.Nodup
  len : ps.length = Ss.length
  ha : H a = some (.lst (ps.map V.ref))
  kd : ∀ (i : Nat) (p : Addr) (S : List (Option Tok)), ps[i]? = some p → Ss[i]? = some S → KD K P w H p S
  hw : ∃ xs, H wq = some (.lst xs) ∧ DpAll K H xs (W.map encW)
section
variable {K : PySem.W.Frag} {P : Program} {w : World} {H0 H H' : Hp} {a wq : Addr} {ps : List Addr} {Ss : List (List (Option Tok))} {W : List Pt} {L : Lim} {r : Rule} {code : List Row} {exc : Option Pt}
theorem PH.mono (h : PH K P w H0 H a wq ps Ss W) (s : Same H H') : PH K P w H0 H' a wq ps Ss W where
  same := h.same.trans s
  na := h.na
  nw := h.nw
  np := h.np
  aw := h.aw
  nd := h.nd
  len := h.len
  ha := s _ _ h.ha
  kd := fun i p S h1 h2 => (h.kd i p S h1 h2).mono s
  hw := by
    obtain ⟨xs, h1, h2⟩ := h.hw
    exact ⟨xs, s _ _ h1, dps_mono s h2⟩
theorem kd_ext {p : Addr} {S : List (Option Tok)} (h : KD K P w H p S) {xs : List V} (q : H p = some (.lst xs)) : False := by
  obtain ⟨ks, ep, a, _⟩ := h
  rw [q] at a
  cases a
/-- the turn of the innermost loop -/
theorem turn_push {σ : L2.St} {D : Ends} {v : V} {o : Option Tok} {to : Nat} (sm : Small L) (ph : PH K P w H0 H a wq ps Ss W) (I : PIv L r code Ss W exc) (hmu : mu code.length Ss W ≤ 700000) (hto : to < code.length) (ho : ∀ u, o = some u → u.Ok L)
    (h2 : σ[2]? = some (some (.ref a))) (h4 : σ[4]? = some (some (.ref wq))) (h7 : σ[7]? = some (some v)) (dv : Dp K H v (encT o)) (h8 : σ[8]? = some (some (.int to)))
    (k : ∀ H' Ss' W', SameT H H' → PH K P w H0 H' a wq ps Ss' W' → PIv L r code Ss' W' exc → (∀ i t, has Ss i t → has Ss' i t) → has Ss' to o → mu code.length Ss' W' ≤ mu code.length Ss W → (∀ b xs, H b = some (.lst xs) → b ≠ wq → H' b = some (.lst xs)) → D.nx σ H') :
    tIfS (tTest (tOp (rNotInM K P w) (tVar 7) (tOp (rIx K) (tVar 2) (tVar 8)))) (tSeq (tAsg (tC (.bl true)) (gSub (tOp (rIx K) (tVar 2) (tVar 8)) (tVar 7) (rSetM K P w))) (tDrop (tBM K "list" rAppend (tVar 4) (tCons (tTup (tCons (tVar 8) (tCons (tVar 7) tNil))) tNil)))) tNext D σ H := by
  have hlS : to < Ss.length := by rw [I.len]; exact hto
  have hlp : to < ps.length := by rw [ph.len]; exact hlS
  obtain ⟨S, hS⟩ : ∃ S, Ss[to]? = some S := ⟨_, List.getElem?_eq_getElem hlS⟩
  obtain ⟨p, hp⟩ : ∃ p, ps[to]? = some p := ⟨_, List.getElem?_eq_getElem hlp⟩
  have kd := ph.kd to p S hp hS
  have hx : (ps.map V.ref)[to]? = some (.ref p) := by rw [List.getElem?_map, hp]; rfl
  refine l_if (gt_notKn h7 dv h2 (SqL.of ph.ha) h8 hx kd) (fun c H1 s1 => ?_) fun c H1 s1 => ?_
  · have hn : o ∉ S := by
      rw [Bool.not_eq_true'] at c
      exact of_decide_eq_false c
    have ea : addT S o = S ++ [o] := if_neg hn
    have ph1 := ph.mono s1
    have kd1 := ph1.kd to p S hp hS
    have z601 := I.len1 sm (List.mem_of_getElem? hS)
    refine q_seq (l_setM (K := K) (t := o) (p := p) (v := v) (fun Q q => rs_ixl (rs_var h2) (rs_var h8) (SqL.of ph1.ha) hx Q q) (fun Q q => ⟨_, h7, q⟩) (dp_mono s1 dv) kd1 (by omega) fun ob sT kd2 => ?_)
    rw [ea] at kd2
    obtain ⟨xs, hw1, hw2⟩ := ph1.hw
    have nwp : wq ≠ p := fun e => kd_ext kd1 (e ▸ hw1)
    have nap : a ≠ p := fun e => kd_ext kd1 (e ▸ ph1.ha)
    have hw3 : upd H1 p ob wq = some (.lst xs) := (upd_ne nwp).trans hw1
    have lw : W.length ≤ 700000 := by
      unfold mu at hmu
      omega
    refine gd_append (K := K) (d := encW (to, o)) h4 (gd_tup (ga_cons (gd_var h8 (.int _)) (ga_cons (gd_var h7 (dp_keepT sT (encT_nol o) (dp_mono s1 dv))) ga_nil)) (Nat.le_of_ble_eq_true rfl)) (by rw [dps_len hw2, List.length_map]; omega) hw3 fun v2 H2 s2 d2 => ?_
    have sT2 : SameT H1 (upd H2 wq (.lst (xs ++ [v2]))) := (sT.trans (SameT.of s2)).trans (SameT.upd (s2 _ _ hw3) rfl)
    have I' := I.push hS hn ho
    have hob : upd H1 p ob p = some ob := upd_same
    have oth : ∀ b, b ≠ p → b ≠ wq → ∀ u, H1 b = some u → upd H2 wq (.lst (xs ++ [v2])) b = some u := fun b e1 e2 u hu => (upd_ne e2).trans (s2 _ _ ((upd_ne e1).trans hu))
    refine k _ _ _ ((SameT.of s1).trans sT2) ⟨?_, ph.na, ph.nw, ph.np, ph.aw, ph.nd, by rw [List.length_set]; exact ph.len, oth a nap ph.aw _ ph1.ha, fun i q A hq hA => ?_, ?_⟩ I' (fun i t h => has_set hS h) (has_new hS) (Nat.le_of_succ_le (mu_push sm I hS I')) fun b ys hb hbw => ?_
    · exact same_mut ((same_mut ph1.same (ph.np p (List.mem_of_getElem? hp))).trans s2) ph.nw
    · by_cases e : i = to
      · subst e
        rw [List.getElem?_set_self hlS] at hA
        cases hA
        rw [hp] at hq
        cases hq
        exact (kd2.mono s2).keep (SameT.upd (s2 _ _ hw3) rfl) (upd_ne (Ne.symm nwp))
      · rw [List.getElem?_set_ne (fun z => e z.symm)] at hA
        have kq := ph1.kd i q A hq hA
        have npq : q ≠ p := fun z => e ((List.getElem?_inj (List.getElem?_eq_some_iff.mp hq).1 ph.nd).mp (hq.trans (by rw [z, hp])))
        have nwq : q ≠ wq := fun z => kd_ext kq (z ▸ hw1)
        refine kq.keep sT2 ?_
        obtain ⟨ks, ep, q1, _⟩ := kq
        rw [oth q npq nwq _ q1, q1]
    · refine ⟨xs ++ [v2], upd_same, ?_⟩
      rw [List.map_append]
      exact dps_keepT (SameT.upd (s2 _ _ hw3) rfl) (by have z := encW_nol (W ++ [(to, o)]); rw [List.map_append] at z; exact z) (dps_append (dps_mono s2 (dps_keepT sT (encW_nol W) hw2)) (.cons d2 .nil))
    · have hb1 : H1 b = some (.lst ys) := s1 _ _ hb
      exact oth b (fun e => kd_ext kd1 (e ▸ hb1)) hbw _ hb1
  · have hin : o ∈ S := by
      rw [Bool.not_eq_false'] at c
      exact of_decide_eq_true c
    exact k H1 Ss W (SameT.of s1) (ph.mono s1) I (fun i t h => h) ⟨S, hS, hin⟩ (Nat.le_refl _) fun b xs hb _ => s1 _ _ hb
/-- [token for token in tokens if token is not None], tokens a dict -/
theorem gd_fm {σ : L2.St} {n j : Nat} {vs : List Nat} {p : Addr} {S : List (Option Tok)} (hv : σ[n]? = some (some (.ref p))) (kd : KD K P w H p S) (hz : S.length ≤ 700) (hw : ∀ v, wipe ((wipe σ vs).set j (some v)) vs = wipe σ vs) (hj : ∀ v, ((wipe σ vs).set j (some v))[j]? = some (some v)) :
    Gd K (tLc (iDM P w (tVar n)) (gName j) (tTest (tOp rNotNon (tVar j) (tC .non))) (tVar j) vs) σ H (.list ((S.filterMap id).map Tok.enc)) := fun H1 s Q q => by
  obtain ⟨ks, ep, h1, h2, h3, h4, h5⟩ := (kd.mono s).len
  refine ⟨_, hv, p, ks, ep, rfl, h1, fun Dd hD => lc_dM (fun i H' => Same H1 H' ∧ ∃ acc, H' Dd = some (.lst acc) ∧ DpAll K H' acc (((S.take i).filterMap id).map Tok.enc)) ⟨same_new hD, [], upd_same, .nil⟩ (fun i H' _ h => h.1 _ _ h1) (fun i k H' hk ⟨s1, acc, e1, e2⟩ => ?_) fun H' ⟨s1, acc, e1, e2⟩ => ?_⟩
  · obtain ⟨t, ht, et⟩ : ∃ t, S[i]? = some t ∧ k.key = tkey t := by
      have z : (ks.map MK.key)[i]? = some k.key := by rw [List.getElem?_map, hk]; rfl
      rw [h3, List.getElem?_map] at z
      cases q : S[i]? with
      | none =>
        rw [q] at z
        cases z
      | some t =>
        rw [q] at z
        exact ⟨t, rfl, (Option.some.inj z).symm⟩
    have tk : (S.take (i + 1)).filterMap id = (S.take i).filterMap id ++ [t].filterMap id := by
      rw [List.take_add_one, ht, List.filterMap_append]
      rfl
    refine ⟨hw _, ?_⟩
    rcases k with _ | ⟨ns, b⟩
    · have e : t = none := by
        cases t with
        | none => rfl
        | some u => cases et
      subst e
      refine gt_test (K := K) (gd_op (gd_var (hj _) .non) gd_non (r2_notN (a := false) rfl)) H' (Same.refl _) _ fun H3 s3 => ?_
      show Same H1 H3 ∧ _
      refine ⟨s1.trans s3, acc, s3 _ _ e1, ?_⟩
      rw [tk]
      rw [show ([none] : List (Option Tok)).filterMap id = [] from rfl, List.append_nil]
      exact dps_mono s3 e2
    · obtain ⟨u, rfl⟩ : ∃ u, t = some u := by
        cases t with
        | none => cases et
        | some u => exact ⟨u, rfl⟩
      have en : ns = u.is := Option.some.inj et
      have mk := h2 _ (List.mem_of_getElem? hk)
      have du : Dp K H' (.ref b) u.enc := by
        rw [enc_is, ← en]
        exact .tup (same_sqT s1 mk) (dps_ints ns)
      have du' : Dp K H' (.ref b) (.tuple (u.ns.map natD)) := du
      refine gt_test (K := K) (gd_op (gd_var (hj _) du') gd_non (r2_notN (a := true) rfl)) H' (Same.refl _) _ fun H3 s3 => ?_
      rw [if_pos rfl]
      have la := dps_len e2
      rw [List.length_map] at la
      have lf : ((S.take i).filterMap id).length ≤ 700 := Nat.le_trans (List.length_filterMap_le _ _) (by rw [List.length_take]; omega)
      obtain ⟨t1, t2, t3⟩ := lc_turn (K := K) hD (s1.trans s3) (s3 _ _ e1) (dps_mono s3 e2) (toks_nol _) (dp_mono s3 du) (by cases u <;> rfl)
      refine ⟨_, hj _, acc, s3 _ _ e1, small_lt (by omega), t1, _, t2, ?_⟩
      rw [tk, List.map_append]
      exact t3
  · rw [h5, List.take_length] at e2
    exact q _ _ s1 (.lst (SqL.of e1) e2)
/-- the lists of the paper -/
def LL (K : PySem.W.Frag) (H : Hp) (D : Addr) (qs : List Addr) (tss : List (List Tok)) : Prop := qs.length = tss.length ∧ ∀ (i : Nat) (q : Addr) (ts : List Tok), qs[i]? = some q → tss[i]? = some ts → q ≠ D ∧ ∃ ys, H q = some (.lst ys) ∧ DpAll K H ys (ts.map Tok.enc)
theorem LL.dps {D : Addr} : ∀ {qs : List Addr} {tss : List (List Tok)}, LL K H D qs tss → DpAll K H (qs.map V.ref) (tss.map tokL)
  | [], [], _ => .nil
  | [], _ :: _, h => by cases h.1
  | _ :: _, [], h => by cases h.1
  | q :: qs, ts :: tss, h => by
    obtain ⟨_, ys, h1, h2⟩ := h.2 0 q ts rfl rfl
    exact .cons (.lst (SqL.of h1) h2) (LL.dps (qs := qs) (tss := tss) ⟨Nat.succ.inj h.1, fun i q ts a b => h.2 (i + 1) q ts a b⟩)
theorem lc_paper {σ : L2.St} {n j j2 : Nat} {vs vs2 : List Nat} {Q : VK} (sm : Small L) (I : PIv L r code Ss W exc) (hlen : code.length ≤ 1000) (hv : σ[n]? = some (some (.ref a))) (ha : SqL K H a (ps.map V.ref)) (hl : ps.length = Ss.length)
    (kds : ∀ (i : Nat) (p : Addr) (S : List (Option Tok)), ps[i]? = some p → Ss[i]? = some S → KD K P w H p S) (hw : ∀ v, wipe ((wipe σ vs).set j (some v)) vs = wipe σ vs) (hj : ∀ v, ((wipe σ vs).set j (some v))[j]? = some (some v))
    (hw2 : ∀ v v2, wipe ((wipe ((wipe σ vs).set j (some v)) vs2).set j2 (some v2)) vs2 = wipe ((wipe σ vs).set j (some v)) vs2) (hj2 : ∀ v v2, ((wipe ((wipe σ vs).set j (some v)) vs2).set j2 (some v2))[j2]? = some (some v2))
    (q : ∀ v H' paper, Same H H' → Dp K H' v (encPaper paper) → PaperOf Ss paper → Q v H') :
    tLc (iList K (tVar n)) (gName j) tYes (tCB (rSo K P w) (tCons (tLc (iDM P w (tVar j)) (gName j2) (tTest (tOp rNotNon (tVar j2) (tC .non))) (tVar j2) vs2) tNil)) vs σ H Q := by
  refine ⟨_, hv, a, rfl, ⟨_, ha⟩, fun Dd hD => lc_list (K := K) (a := a) (xs := ps.map V.ref) (fun i H' => Same H H' ∧ i ≤ ps.length ∧ ∃ qs tss, H' Dd = some (.lst (qs.map V.ref)) ∧ tss.length = i ∧ LL K H' Dd qs tss ∧ ∀ (k : Nat) (S : List (Option Tok)) (ts : List Tok), Ss[k]? = some S → tss[k]? = some ts → ts.Nodup ∧ ∀ u, u ∈ ts ↔ some u ∈ S)
    ⟨same_new hD, Nat.zero_le _, [], [], upd_same, rfl, ⟨rfl, fun i q ts h => by simp at h⟩, fun k S ts _ h => by simp at h⟩ (fun i H' _ h => h.1.seq ha) (fun i x H' hx ⟨s1, hi, qs, tss, e1, e2, ll, pm⟩ => ?_) fun H' ⟨s1, _, qs, tss, e1, e2, ll, pm⟩ => ?_⟩
  · obtain ⟨p, hp, rfl⟩ : ∃ p, ps[i]? = some p ∧ x = V.ref p := by
      rw [List.getElem?_map] at hx
      cases z : ps[i]? with
      | none =>
        rw [z] at hx
        cases hx
      | some p =>
        rw [z] at hx
        exact ⟨p, rfl, (Option.some.inj hx).symm⟩
    have hip : i < ps.length := (List.getElem?_eq_some_iff.mp hp).1
    obtain ⟨S, hS⟩ : ∃ S, Ss[i]? = some S := ⟨_, List.getElem?_eq_getElem (by rw [← hl]; exact hip)⟩
    have kd := (kds i p S hp hS).mono s1
    have hSm := List.mem_of_getElem? hS
    have z601 := I.len1 sm hSm
    refine ⟨hw _, iteT (B := False) ?_⟩
    have gd := gd_fm (K := K) (P := P) (w := w) (H := H') (hj _) kd (by omega) (hw2 (.ref p)) (hj2 (.ref p))
    rw [encs_is] at gd
    refine gf_soL gd (fun ns hns => ?_) H' (Same.refl _) _ fun u H4 xs es z s4 n4 l4 d4 => ?_
    · obtain ⟨t, _, rfl⟩ := List.mem_map.mp hns
      exact is_ne t
    obtain ⟨M, rfl, pmM⟩ := z
    obtain ⟨ts, ets, mts, _⟩ := toks_of (L := M) (ts := S.filterMap id) fun j => pmM.mem_iff
    have eM : M = ts.map Tok.is := by
      refine map_inj' (f := intsT) (fun x y e => map_inj' (f := PyData.int) (fun i j e => by injection e) _ _ (by injection e)) _ _ (by rw [ets, encs_is])
    have ndt : ts.Nodup := by
      have z : (ts.map Tok.is).Nodup := by
        rw [← eM]
        refine pmM.nodup_iff.mpr (List.pairwise_map.mpr (List.Pairwise.imp (fun {x y} hne e => hne (is_inj e)) (nodup_fm (I.nd S hSm))))
      exact nodup_of_map z
    rw [ets] at d4
    have e4 := s4 _ _ e1
    have nuD : u ≠ Dd := fun e => by
      rw [e] at n4
      rw [e1] at n4
      cases n4
    have sT : SameT H4 (upd H4 Dd (.lst (qs.map V.ref ++ [.ref u]))) := SameT.upd e4 rfl
    refine ⟨_, e4, small_lt (by rw [List.length_map, ll.1, e2]; have := I.len; omega), same_mut (s1.trans s4) hD, hip, qs ++ [u], tss ++ [ts], by rw [List.map_append]; exact upd_same, by rw [List.length_append, e2]; rfl, ⟨by rw [List.length_append, List.length_append, ll.1]; rfl, fun k q' us hq hus => ?_⟩, fun k A us hA hus => ?_⟩
    · rcases Nat.lt_or_ge k i with hk | hk
      · rw [List.getElem?_append_left (by rw [ll.1, e2]; exact hk)] at hq
        rw [List.getElem?_append_left (by rw [e2]; exact hk)] at hus
        obtain ⟨hne, ys, h6, h7⟩ := ll.2 k q' us hq hus
        exact ⟨hne, ys, (upd_ne hne).trans (s4 _ _ h6), dps_keepT sT (toks_nol us) (dps_mono s4 h7)⟩
      · have hk2 : k = i := by
          have := (List.getElem?_eq_some_iff.mp hus).1
          rw [List.length_append, e2] at this
          have : k < i + 1 := this
          omega
        subst hk2
        rw [List.getElem?_append_right (by rw [ll.1, e2]; exact Nat.le_refl _), ll.1, e2, Nat.sub_self] at hq
        rw [List.getElem?_append_right (by rw [e2]; exact Nat.le_refl _), e2, Nat.sub_self] at hus
        cases hq
        cases hus
        exact ⟨nuD, xs, (upd_ne nuD).trans l4, dps_keepT sT (toks_nol ts) d4⟩
    · rcases Nat.lt_or_ge k i with hk | hk
      · rw [List.getElem?_append_left (by rw [e2]; exact hk)] at hus
        exact pm k A us hA hus
      · have hk2 : k = i := by
          have := (List.getElem?_eq_some_iff.mp hus).1
          rw [List.length_append, e2] at this
          have : k < i + 1 := this
          omega
        subst hk2
        rw [List.getElem?_append_right (by rw [e2]; exact Nat.le_refl _), e2, Nat.sub_self] at hus
        cases hus
        rw [hS] at hA
        cases hA
        exact ⟨ndt, fun u => (mts u).trans mem_fm⟩
  · rw [List.length_map] at e2
    exact q _ H' tss s1 (.lst (SqL.of e1) ll.dps) ⟨e2.trans hl, pm⟩
end
end Uw
/-! text T15 -/
namespace Uw
open PySem PySem.Spec PyProof.Rows L2
/-! paper_of: the walk -/
section
variable {K : PySem.W.Frag} {P : Program} {w : World} {H0 H H' : Hp} {a wq : Addr} {ps : List Addr} {Ss : List (List (Option Tok))} {W : List Pt} {L : Lim} {r : Rule} {code : List Row} {exc : Option Pt}
theorem lc_empty {σ : L2.St} {n j : Nat} {vs : List Nat} {v : V} {ds : List PyData} {Q : VK} (hv : σ[n]? = some (some v)) (hd : Dp K H v (.list ds)) (hl : ds.length ≤ 10000) (hw : ∀ v, wipe ((wipe σ vs).set j (some v)) vs = wipe σ vs)
    (q : ∀ (a : Addr) (ps : List Addr) (H' : Hp), Same H H' → H a = none → H' a = some (.lst (ps.map V.ref)) → ps.length = ds.length → ps.Nodup → (∀ p ∈ ps, H p = none ∧ p ≠ a ∧ KD K P w H' p []) → Q (.ref a) H') :
    tLc (iList K (tVar n)) (gName j) tYes (tDNewM P w) vs σ H Q := by
  obtain ⟨b, xs, rfl, h1, h2⟩ := dp_list hd
  have l2 := dps_len h2
  refine ⟨_, hv, b, rfl, ⟨xs, h1⟩, fun Dd hD => lc_list (K := K) (a := b) (xs := xs) (fun i H' => Same H H' ∧ i ≤ xs.length ∧ ∃ ps : List Addr, H' Dd = some (.lst (ps.map V.ref)) ∧ ps.length = i ∧ ps.Nodup ∧ ∀ p ∈ ps, H p = none ∧ p ≠ Dd ∧ KD K P w H' p []) ⟨same_new hD, Nat.zero_le _, [], upd_same, rfl, List.nodup_nil, fun p hp => by cases hp⟩
      (fun i H' _ h => h.1.seq h1) (fun i x H' hx ⟨s1, hi, ps, e1, e2, nd, hp⟩ => ?_) fun H' ⟨s1, _, ps, e1, e2, nd, hp⟩ => ?_⟩
  · have hlt : i < xs.length := (List.getElem?_eq_some_iff.mp hx).1
    refine ⟨hw x, iteT (B := False) fun p np => ?_⟩
    have npD : p ≠ Dd := fun e => by
      rw [e, e1] at np
      cases np
    have s4 : Same H' (upd H' p (DM P w p [] 0)) := same_new np
    have e4 := s4 _ _ e1
    have sT : SameT (upd H' p (DM P w p [] 0)) (upd (upd H' p (DM P w p [] 0)) Dd (.lst (ps.map V.ref ++ [.ref p]))) := SameT.upd e4 rfl
    have kd0 : KD K P w (upd H' p (DM P w p [] 0)) p [] := ⟨[], 0, upd_same, fun k hk => (by cases hk), rfl, List.nodup_nil⟩
    refine ⟨_, e4, small_lt (by rw [List.length_map]; omega), same_mut (s1.trans s4) hD, hlt, ps ++ [p], by rw [List.map_append]; exact upd_same, by rw [List.length_append, e2]; rfl, nd_snoc nd fun m => ?_, fun q' hq => ?_⟩
    · obtain ⟨_, _, ks, ep, h6, _⟩ := hp p m
      rw [np] at h6
      cases h6
    · rcases List.mem_append.mp hq with hq | hq
      · obtain ⟨h6, h7, h8⟩ := hp q' hq
        exact ⟨h6, h7, (h8.mono s4).keep sT (upd_ne h7)⟩
      · rw [List.mem_singleton.mp hq]
        exact ⟨s1.free np, npD, kd0.keep sT (upd_ne npD)⟩
  · exact q Dd ps H' s1 hD e1 (e2.trans l2) nd hp
end
theorem l_retR {σ : L2.St} {H : Hp} {te : TE} {D : Ends} (h : te σ H D.rt) : tRet te D σ H := h
theorem dps_unsnoc {K : PySem.W.Frag} {H : Hp} {d : PyData} : ∀ {ds : List PyData} {xs : List V}, DpAll K H xs (ds ++ [d]) → ∃ xs' y, xs = xs' ++ [y] ∧ DpAll K H xs' ds ∧ Dp K H y d
  | [], _, .cons h .nil => ⟨[], _, rfl, .nil, h⟩
  | _ :: _, _, .cons h t => by
    obtain ⟨xs', y, e, a, b⟩ := dps_unsnoc t
    exact ⟨_ :: xs', y, by rw [e]; rfl, .cons h a, b⟩
theorem sqT_keep {K : PySem.W.Frag} {H H' : Hp} {a : Addr} {xs : List V} (s : SameT H H') (h : SqT K H a xs) : SqT K H' a xs := by
  rcases h with h | h
  · exact .inl (s _ _ h)
  · exact .inr h
section
variable {P : Program} {w : World} {K : PySem.W.Frag} {mg : Str → Option Value} {base : Heap}
def R_paper_of (ds : List PyData) (Z : PyData → Prop) : Prop := ∃ (L : Lim) (r : Rule) (code : List Row), Fit L r code ∧ Small L ∧ Wf code ∧ code.length ≤ 500 ∧
  ds = [encCode code, r.enc] ∧ Z = fun d => ∃ paper, d = encPaper paper ∧ PFit L code paper ∧ Closed r code paper
theorem sc_paper_of : FnScope ["code", "rule", "known", "row", "waiting", "at", "token", "there", "to", "tokens"] ["code", "rule"] (defScope (top 40)) := ⟨rfl, rfl, rfl, by decide +kernel, rfl, by decide +kernel, by decide +kernel⟩
theorem kn_paper_of (T : Tx K mg) : Kn P w K mg base 8 "paper_of" ["code", "rule"] (spN K R_paper_of) := by
  have Kall_behind := kn_all_behind (P := P) (w := w) (base := base) T
  have Krows_behind := kn_rows_behind (P := P) (w := w) (base := base) T
  refine kn_N (T.fn2 (("paper_of" : Str), 40) (by decide +kernel)) sc_paper_of (fun _ _ _ _ _ _ us hl => match us, hl with | [_, _], _ => rfl) (fun ds d h => ?_) (fun f cdv A outer s0 H vs E ds Z hr hv h => ?_)
  · obtain ⟨_, _, _, _, _, _, _, rfl, _⟩ := h
    rfl
  obtain ⟨L, r, code, fit, sm, wf, clen, rfl, rfl⟩ := h
  obtain _ | ⟨h1, _ | ⟨h2, _ | _⟩⟩ := hv
  rename_i v1 v2
  have h1' : Dp K H v1 (.list (code.map Row.enc)) := h1
  have cpos : 0 < code.length := List.length_pos_iff.mpr wf.ne
  refine ⟨_, (pss_cons (ps_setLc (i := 2) (own := [("row", 3)]) rfl sc_paper_of.nd rfl rfl (sw_true rfl rfl rfl (by decide +kernel)) (pi_list (pv 0)) (blkOk_by (N := ["code", "rule", "known", "row", "waiting", "at", "token", "there", "to", "tokens"]) (sc := defScope (top 40)) (by decide +kernel)) (fun _ _ _ _ _ => pg_name (i := 3) sc_paper_of.nd rfl (Or.inl rfl)) (fun _ _ _ _ _ => pts_nil) (fun _ _ _ _ _ => (show PE _ _ (tDNewM P w) from pe_dnewM))) (pss_cons (ps_asg (pe_bl) (pg_sub ((pe_ix ix_seq (pv 2) (pe_int) (fun _ _ => rfl))) ((pe_non)) (set_dM hr.units))) (pss_cons (ps_set (i := 4) sc_paper_of.nd rfl (Or.inl rfl) (pe_lst (pa_cons (pe_tup (pa_cons (pe_int) (pa_cons (pe_non) (pa_nil)))) (pa_nil)))) (pss_cons (ps_while PassesOwn.never (pt_cmpR (op_neD hr.units) (pv 4) (pe_lst (pa_nil)) (nomark _)) (pss_cons (ps_asg (pe_bm0 PySem.F.plainAttrs_list PySem.F.slot_list_pop PySem.F.type_list_pop mt_pop (pv 4)) (pg_tup rfl (pgs_cons (pg_name (i := 5) sc_paper_of.nd rfl (.inl rfl)) (pgs_cons (pg_name (i := 6) sc_paper_of.nd rfl (.inl rfl)) (pgs_nil))))) (pss_one (ps_for PassesOwn.never rfl (pi_list (pe_kn Kall_behind (hr.mono (by decide)) rfl (pa_cons (pv 0) (pa_cons (pv 1) (pa_cons (pv 5) (pa_cons (pv 6) (pa_nil))))))) (pg_name (i := 7) sc_paper_of.nd rfl (.inl rfl)) (pss_one (ps_for PassesOwn.never rfl (pi_list (pe_kn Krows_behind (hr.mono (by decide)) rfl (pa_cons (pv 0) (pa_cons (pv 5) (pa_nil))))) (pg_name (i := 8) sc_paper_of.nd rfl (.inl rfl)) (pss_one (ps_if (pt_cmpR (op_notInM hr.units) (pv 7) (pe_ix ix_seq (pv 2) (pv 8) (fun _ _ => rfl)) (by rfl)) (pss_cons (ps_asg (pe_bl) (pg_sub ((pe_ix ix_seq (pv 2) (pv 8) (fun _ _ => rfl))) ((pv 7)) (set_dM hr.units))) (pss_one (ps_expr (pe_bm PySem.F.plainAttrs_list PySem.F.slot_list_append PySem.F.type_list_append mt_append (pv 4) (pa_cons (pe_tup (pa_cons (pv 8) (pa_cons (pv 7) (pa_nil)))) (pa_nil)))))) (pss_nil))))))))) (pss_one (ps_ret (pe_lc (own := [("tokens", 9)]) rfl sc_paper_of.nd (pi_list (pv 2)) (blkOk_by (N := ["code", "rule", "known", "row", "waiting", "at", "token", "there", "to", "tokens"]) (sc := defScope (top 40)) (by decide +kernel)) (fun _ _ _ _ _ => pg_name (i := 9) sc_paper_of.nd rfl (Or.inl rfl)) (fun _ _ _ _ _ => pts_nil) (fun _ _ _ _ _ => pe_callB (show CallR _ (.builtin "sorted") (rSo K P w) from cr_so rfl hr.units) (by rfl) (T.free "sorted" (by decide)) (by decide +kernel) (pa_cons (pe_lc (own := [("token", 6)]) rfl sc_paper_of.nd ((show PI _ _ _ (iDM P w (tVar 9)) from pi_dM ((pv 9)))) (show BlkOk _ _ _ _ from blkOk_by (N := ["code", "rule", "known", "row", "waiting", "at", "token", "there", "to", "tokens"]) (sc := { kind := .function, names := [(".0", .local), ("tokens", .local), ("sorted", .globalImplicit)], isGenerator := false, isCoroutine := false }) (by decide +kernel)) (fun _ _ _ _ _ => pg_name (i := 6) sc_paper_of.nd rfl (Or.inl rfl)) (fun _ _ _ _ _ => pts_one (pt_cmpR op_notNon (pv 6) (pe_non) (nomark _))) (fun _ _ _ _ _ => pv 6)) (pa_nil)))))))))), fun Q q => ?_⟩
  refine q_asgR (lc_empty (K := K) (P := P) (w := w) (v := v1) rfl h1' (by rw [List.length_map]; omega) (fun _ => rfl) fun a ps H1 s1 na ha lps ndp hp => ?_)
  rw [List.length_map] at lps
  obtain ⟨p0, hp0⟩ : ∃ p, ps[0]? = some p := ⟨_, List.getElem?_eq_getElem (by omega)⟩
  have hp0m := List.mem_of_getElem? hp0
  refine q_seq (l_setM (K := K) (t := none) (p := p0) (v := .non) (fun Q q => rs_ixl (m := 0) (rs_var rfl) rs_int (SqL.of ha) (by rw [List.getElem?_map, hp0]; rfl) Q q) (fun Q q => q) .non (hp p0 hp0m).2.2 (Nat.zero_le _) fun ob sT kd0 => ?_)
  have kd0 : KD K P w (upd H1 p0 ob) p0 [none] := kd0
  have sH : Same H (upd H1 p0 ob) := same_mut s1 (hp p0 hp0m).1
  refine q_asgF (K := K) (gf_lst (Z := fun es => es = [encW (0, none)]) (ga_cons (gd_tup (ga_cons gd_int (ga_cons gd_non ga_nil)) (Nat.le_of_ble_eq_true rfl)) ga_nil) (Nat.le_of_ble_eq_true rfl) rfl) fun wq H2 xs es z s2 n2 l2 d2 => ?_
  subst z
  have ha1 : upd H1 p0 ob a = some (.lst (ps.map V.ref)) := (upd_ne fun e => (hp p0 hp0m).2.1 e.symm).trans ha
  have ph0 : PH K P w H H2 a wq ps ((code.map fun _ => ([] : List (Option Tok))).set 0 [none]) [(0, none)] := by
    refine ⟨sH.trans s2, na, sH.free n2, fun p hpm => (hp p hpm).1, fun e => ?_, ndp, by rw [List.length_set, List.length_map]; exact lps, s2 _ _ ha1, fun i p S hip hiS => ?_, ⟨xs, l2, d2⟩⟩
    · rw [← e, ha1] at n2
      cases n2
    · by_cases e : i = 0
      · subst e
        rw [hp0] at hip
        cases hip
        rw [List.getElem?_set_self (by rw [List.length_map]; exact cpos)] at hiS
        cases hiS
        exact kd0.mono s2
      · rw [List.getElem?_set_ne (fun z => e z.symm), List.getElem?_map] at hiS
        have hS : S = [] := by
          cases q : code[i]? with
          | none =>
            rw [q] at hiS
            cases hiS
          | some x =>
            rw [q] at hiS
            cases hiS
            rfl
        subst hS
        have hpm := hp p (List.mem_of_getElem? hip)
        have ne : p ≠ p0 := fun z => e ((List.getElem?_inj (List.getElem?_eq_some_iff.mp hip).1 ndp).mp (hip.trans (by rw [z, hp0])))
        exact (hpm.2.2.keep sT (upd_ne ne)).mono s2
  have I0 : PIv L r code ((code.map fun _ => ([] : List (Option Tok))).set 0 [none]) [(0, none)] none := start_ok wf.ne
  have mu0 : mu code.length ((code.map fun _ => ([] : List (Option Tok))).set 0 [none]) [(0, none)] ≤ 700000 := by
    unfold mu
    have : 2 * (code.length * 601 - tot ((code.map fun _ => ([] : List (Option Tok))).set 0 [none])) ≤ 2 * (500 * 601) := Nat.mul_le_mul_left _ (Nat.le_trans (Nat.sub_le _ _) (Nat.mul_le_mul_right _ clen))
    show _ + 1 ≤ _
    omega
  refine q_seq ?_
  refine ⟨fun m σ H' => ∃ Ss W, m = mu code.length Ss W ∧ mu code.length Ss W ≤ 700000 ∧ (∃ o5 o6 o7 o8, σ = [some v1, some v2, some (.ref a), none, some (.ref wq), o5, o6, o7, o8, none]) ∧ PH K P w H H' a wq ps Ss W ∧ PIv L r code Ss W none, ⟨_, _, _, rfl, mu0, ⟨_, _, _, _, rfl⟩, ph0, I0⟩, ?_⟩
  rintro m σ H3 ⟨Ss, W, rfl, hmu, ⟨o5, o6, o7, o8, rfl⟩, ph, I⟩
  obtain ⟨xw, hw1, hw2⟩ := ph.hw
  have ltest : Gt (tTest (tOp (rNeD K) (tVar 4) (tLst tNil))) [some v1, some v2, some (.ref a), none, some (.ref wq), o5, o6, o7, o8, none] H3 (!W.isEmpty) := fun H4 s4 Q' q' => by
    refine ⟨_, rfl, Nat.zero_le _, fun p hp => ⟨_, _, .lst (SqL.of ((s4.trans (same_new hp)) _ _ hw1)) (dps_mono (s4.trans (same_new hp)) hw2), .lst (ds := []) (SqL.of upd_same) .nil, shapedW W, rfl, ?_⟩⟩
    rw [eqvW]
    exact ⟨_, rfl, q' _ (same_new hp)⟩
  refine ltest H3 (Same.refl _) _ fun H4 s4 => ?_
  have ph4 := ph.mono s4
  clear hw1 hw2 ltest
  rcases List.eq_nil_or_concat W with e | ⟨W', ⟨i, t⟩, e⟩
  · subst e
    rw [show (!([] : List Pt).isEmpty) = false from rfl, if_neg (by decide)]
    dsimp only
    refine l_retR (lc_paper (K := K) (P := P) (w := w) (a := a) (ps := ps) sm I (by omega) rfl (SqL.of ph4.ha) ph4.len ph4.kd (fun _ => rfl) (fun _ => rfl) (fun _ _ => rfl) (fun _ _ => rfl) fun v H5 paper s5 d5 pof => ?_)
    obtain ⟨pf, cl⟩ := paper_ok fit sm wf I pof
    exact q v H5 _ ⟨paper, rfl, pf, cl⟩ (ph4.same.trans s5) d5
  · rw [List.concat_eq_append] at e
    subst e
    rw [show (!(W' ++ [(i, t)]).isEmpty) = true by simp, if_pos rfl]
    refine ⟨fun σ' H' => ∃ Ss1 W1, mu code.length Ss1 W1 < mu code.length Ss (W' ++ [(i, t)]) ∧ (∃ o5 o6 o7 o8, σ' = [some v1, some v2, some (.ref a), none, some (.ref wq), o5, o6, o7, o8, none]) ∧ PH K P w H H' a wq ps Ss1 W1 ∧ PIv L r code Ss1 W1 none,
      fun σ' H' ⟨Ss1, W1, h1, h2, h3, h4⟩ => ⟨_, h1, Ss1, W1, rfl, by omega, h2, h3, h4⟩, ?_⟩
    obtain ⟨xs, hw1, hw2⟩ := ph4.hw
    rw [List.map_append] at hw2
    obtain ⟨xs', y, rfl, dx, dy⟩ := dps_unsnoc hw2
    obtain ⟨b, ys, rfl, hb, dys⟩ := dp_tup (ds := [.int i, encT t]) dy
    obtain _ | ⟨g1, _ | ⟨g2, _ | _⟩⟩ := dys
    have eg := dp_int g1
    subst eg
    rename_i vt
    have emu : mu code.length Ss (W' ++ [(i, t)]) = mu code.length Ss W' + 1 := by
      unfold mu
      rw [List.length_append]
      rfl
    refine q_seq ⟨_, rfl, .inl ⟨rfl, _, SqL.of hw1⟩, wq, xs' ++ [.ref b], .ref b, rfl, rfl, hw1, by rw [List.length_append, List.getElem?_append_right (by simp)]; simp, ?_⟩
    rw [List.dropLast_concat]
    have sT5 : SameT H4 (upd H4 wq (.lst xs')) := SameT.upd hw1 rfl
    refine ⟨b, _, rfl, sqT_keep sT5 hb, rfl, _, _, rfl, _, _, rfl, rfl, ?_⟩
    have ph5 : PH K P w H (upd H4 wq (.lst xs')) a wq ps Ss W' := by
      refine ⟨same_mut ph4.same ph4.nw, ph4.na, ph4.nw, ph4.np, ph4.aw, ph4.nd, ph4.len, (upd_ne ph4.aw).trans ph4.ha, fun k p S h1 h2 => ?_, ⟨xs', upd_same, dps_keepT sT5 (encW_nol W') dx⟩⟩
      have kd := ph4.kd k p S h1 h2
      exact kd.keep sT5 (upd_ne fun e => kd_ext kd (e ▸ hw1))
    have I5 := I.pop
    obtain ⟨S0, hS0, htS0⟩ := I.w (i, t) (List.mem_append_right _ List.mem_cons_self)
    have hil : i < code.length := by
      rw [← I.len]
      exact (List.getElem?_eq_some_iff.mp hS0).1
    obtain ⟨row, hrow⟩ : ∃ row, code[i]? = some row := ⟨_, List.getElem?_eq_getElem hil⟩
    have tok : ∀ u, t = some u → u.Ok L := fun u e => I.ok S0 (List.mem_of_getElem? hS0) u (e ▸ htS0)
    have dt5 : Dp K (upd H4 wq (.lst xs')) vt (encT t) := dp_keepT sT5 (encT_nol t) g2
    have rok := fit.rows row (List.mem_of_getElem? hrow)
    generalize hH5 : upd H4 wq (.lst xs') = H5 at ph5 dt5
    dsimp only
    refine l_forF (K := K) (gf_call (ds := [encCode code, r.enc, .int i, encT t]) (ga_cons (gd_var rfl (dp_mono ph5.same h1)) (ga_cons (gd_var rfl (dp_mono ph5.same h2)) (ga_cons (gd_var rfl (.int _)) (ga_cons (gd_var rfl dt5) ga_nil)))) ⟨L, r, code, i, row, t, fit, hrow, tok, rfl, rfl⟩) fun p1 xs1 es1 H6 z1 s6 n6 l6 d6 => ?_
    obtain ⟨us, rfl, hus, _⟩ := z1
    have np1 : p1 ≠ wq := fun e => by
      obtain ⟨_, hw, _⟩ := ph5.hw
      rw [e, hw] at n6
      cases n6
    refine ⟨fun j σ' H' => ∃ Ss1 W1, SameT H6 H' ∧ H' p1 = some (.lst xs1) ∧ (∃ o7 o8, σ' = [some v1, some v2, some (.ref a), none, some (.ref wq), some (.int i), some vt, o7, o8, none]) ∧ PH K P w H H' a wq ps Ss1 W1 ∧ PIv L r code Ss1 W1 (some (i, t)) ∧ mu code.length Ss1 W1 ≤ mu code.length Ss W' ∧
      ∀ (k : Nat) (o : Option Tok), k < j → us[k]? = some o → ∀ to ∈ after i row, has Ss1 to o, ⟨Ss, W', SameT.of (Same.refl _), l6, ⟨_, _, rfl⟩, ph5.mono s6, I5, Nat.le_refl _, fun k o h => absurd h (Nat.not_lt_zero _)⟩, fun j σ' H' ⟨_, _, _, h, _⟩ => h, fun j d v σ' H' hd hx hdv ⟨Ss1, W1, sT6, hp1, ⟨o7, o8, hσ⟩, ph6, I6, hmu6, hdone⟩ => ?_, fun σ' H' ⟨Ss1, W1, sT6, hp1, ⟨o7, o8, hσ⟩, ph6, I6, hmu6, hdone⟩ => ?_⟩
    · subst hσ
      obtain ⟨o, ho, rfl⟩ := dps_of hd
      have dv := dp_keepT sT6 (encT_nol o) hdv
      have oin : o ∈ allB r row t := (hus o).mp (List.mem_of_getElem? ho)
      have ook := allB_ok fit.ok fit.sides rok tok oin
      refine l_forF (K := K) (gf_call (ds := [encCode code, .int i]) (ga_cons (gd_var rfl (dp_mono ph6.same h1)) (ga_cons (gd_var rfl (.int _)) ga_nil)) ⟨code, i, row, hrow, rfl, rfl⟩) fun p2 xs2 es2 H7 z2 s7 n7 l7 d7 => ?_
      obtain ⟨M, rfl, hM⟩ := z2
      have np2 : p2 ≠ wq := fun e => by
        obtain ⟨_, hw, _⟩ := ph6.hw
        rw [e, hw] at n7
        cases n7
      refine ⟨fun k σ' H' => ∃ Ss2 W2, SameT H7 H' ∧ H' p2 = some (.lst xs2) ∧ H' p1 = some (.lst xs1) ∧ (∃ o8, σ' = [some v1, some v2, some (.ref a), none, some (.ref wq), some (.int i), some vt, some v, o8, none]) ∧ PH K P w H H' a wq ps Ss2 W2 ∧ PIv L r code Ss2 W2 (some (i, t)) ∧ mu code.length Ss2 W2 ≤ mu code.length Ss W' ∧
        (∀ i t, has Ss1 i t → has Ss2 i t) ∧ ∀ (l : Nat) (to : Nat), l < k → M[l]? = some to → has Ss2 to o, ⟨Ss1, W1, SameT.of (Same.refl _), l7, s7 _ _ hp1, ⟨_, rfl⟩, ph6.mono s7, I6, hmu6, fun i t h => h, fun l to h => absurd h (Nat.not_lt_zero _)⟩, fun j σ' H' ⟨_, _, _, h, _⟩ => h, fun k d v' σ' H' hd hx hdv ⟨Ss2, W2, sT7, hp2, hp1, ⟨o8, hσ⟩, ph7, I7, hmu7, hmono, hdone2⟩ => ?_, fun σ' H' ⟨Ss2, W2, sT7, hp2, hp1, ⟨o8, hσ⟩, ph7, I7, hmu7, hmono, hdone2⟩ => ?_⟩
      · subst hσ
        obtain ⟨to, hto, rfl⟩ := dps_of hd
        have eto := dp_int hdv
        subst eto
        have htl := wf.to i row hrow to ((hM to).mp (List.mem_of_getElem? hto))
        refine turn_push (v := v) (o := o) (to := to) sm ph7 I7 (by omega) htl ook rfl rfl rfl (dp_keepT sT7 (encT_nol o) (dp_mono s7 dv)) rfl fun H8 Ss3 W3 sT8 ph8 I8 hm8 hn8 hmu8 fr8 => ?_
        refine ⟨Ss3, W3, fun b xs h => sT8 b xs (sT7 b xs h), fr8 _ _ hp2 np2, fr8 _ _ hp1 np1, ⟨_, rfl⟩, ph8, I8, Nat.le_trans hmu8 hmu7, fun i t h => hm8 i t (hmono i t h), fun l to' hl hto' => ?_⟩
        rcases Nat.lt_or_ge l k with h | h
        · exact hm8 _ _ (hdone2 l to' h hto')
        · have e : l = k := by omega
          subst e
          rw [hto] at hto'
          cases hto'
          exact hn8
      · subst hσ
        refine ⟨Ss2, W2, fun b xs h => sT7 b xs (SameT.of s7 b xs (sT6 b xs h)), hp1, ⟨_, _, rfl⟩, ph7, I7, hmu7, fun k o' hk ho' to hto => ?_⟩
        rcases Nat.lt_or_ge k j with h | h
        · exact hmono _ _ (hdone k o' h ho' to hto)
        · have e : k = j := by omega
          subst e
          rw [ho] at ho'
          cases ho'
          obtain ⟨l, hl⟩ := List.mem_iff_getElem?.mp ((hM to).mpr hto)
          refine hdone2 l to ?_ hl
          rw [List.length_map]
          exact (List.getElem?_eq_some_iff.mp hl).1
    · subst hσ
      refine ⟨Ss1, W1, by omega, ⟨_, _, _, _, rfl⟩, ph6, I6.fin fun row' hr' o ho to hto => ?_⟩
      rw [hrow] at hr'
      cases hr'
      obtain ⟨l, hl⟩ := List.mem_iff_getElem?.mp ((hus o).mpr ho)
      exact hdone l o (by rw [List.length_map]; exact (List.getElem?_eq_some_iff.mp hl).1) hl to hto
end
end Uw
/-! text M1 -/
/-! Programs: as data and as plain Lean; their lines, their names. -/
namespace Uw
open PySem
inductive Stp where
  | opn (x : Str)
  | act (w x : Str)
  | cpy (x y : Str)
  | drp (x : Str)
  | tie (x y : Str)
  | lend (x y : Str) (b : List Stp)
  | ite (n : Int) (a b : List Stp)
  | whl (n : Int) (b : List Stp)
mutual
def Stp.enc : Stp → PyData
  | .opn x => .tuple [.str "open", .str x]
  | .act w x => .tuple [.str "do", .str w, .str x]
  | .cpy x y => .tuple [.str "copy", .str x, .str y]
  | .drp x => .tuple [.str "drop", .str x]
  | .tie x y => .tuple [.str "tie", .str x, .str y]
  | .lend x y b => .tuple [.str "lend", .str x, .str y, .list (encs b)]
  | .ite n a b => .tuple [.str "if", .int n, .list (encs a), .list (encs b)]
  | .whl n b => .tuple [.str "while", .int n, .list (encs b)]
def encs : List Stp → List PyData
  | [] => []
  | s :: r => s.enc :: encs r
end
/-! how deep blocks stand in blocks -/
mutual
def Stp.dep : Stp → Nat
  | .lend _ _ b => deps b + 1
  | .ite _ a b => max (deps a) (deps b) + 1
  | .whl _ b => deps b + 1
  | _ => 0
def deps : List Stp → Nat
  | [] => 0
  | s :: r => max s.dep (deps r)
end
/-! how many steps -/
mutual
def Stp.sz : Stp → Nat
  | .lend _ _ b => szs b + 1
  | .ite _ a b => szs a + szs b + 1
  | .whl _ b => szs b + 1
  | _ => 1
def szs : List Stp → Nat
  | [] => 0
  | s :: r => s.sz + szs r
end
/-! how many rows at most -/
mutual
def Stp.wt : Stp → Nat
  | .lend _ _ b => wts b + 6
  | .ite _ a b => wts a + wts b + 2
  | .whl _ b => 2 * wts b + 3
  | _ => 1
def wts : List Stp → Nat
  | [] => 0
  | s :: r => s.wt + wts r
end
/-! how many loans -/
mutual
def Stp.lends : Stp → Nat
  | .lend _ _ b => lendsL b + 1
  | .ite _ a b => lendsL a + lendsL b
  | .whl _ b => lendsL b
  | _ => 0
def lendsL : List Stp → Nat
  | [] => 0
  | s :: r => s.lends + lendsL r
end
/-! the names -/
mutual
def Stp.names : Stp → List Str
  | .opn x => [x]
  | .act _ x => [x]
  | .cpy x y => [x, y]
  | .drp x => [x]
  | .tie x y => [x, y]
  | .lend x y b => [x, y] ++ namesL b
  | .ite _ a b => namesL a ++ namesL b
  | .whl _ b => namesL b
def namesL : List Stp → List Str
  | [] => []
  | s :: r => s.names ++ namesL r
end
/-- no blank, short -/
def Wd (x : Str) : Prop := 32 ∉ TL.tl x ∧ x.length ≤ 100
mutual
def Stp.Good : Stp → Prop
  | .opn x => Wd x
  | .act w x => Wd w ∧ Wd x
  | .cpy x y => Wd x ∧ Wd y
  | .drp x => Wd x
  | .tie x y => Wd x ∧ Wd y
  | .lend x y b => Wd x ∧ Wd y ∧ Goods b
  | .ite n a b => n.natAbs < 10 ^ 100 ∧ Goods a ∧ Goods b
  | .whl n b => n.natAbs < 10 ^ 100 ∧ Goods b
def Goods : List Stp → Prop
  | [] => True
  | s :: r => s.Good ∧ Goods r
end
/-! ### lines -/
abbrev sp1 : Str := " "
mutual
def Stp.lines : Stp → List Str
  | .opn x => [Txt.join " " ["open", x]]
  | .act w x => [Txt.join " " ["do", w, x]]
  | .cpy x y => [Txt.join " " ["copy", x, y]]
  | .drp x => [Txt.join " " ["drop", x]]
  | .tie x y => [Txt.join " " ["tie", x, y]]
  | .lend x y b => [("lend " : Str) ++ x ++ " " ++ y] ++ linesL b ++ [("back" : Str)]
  | .ite n a b => [("if " : Str) ++ Str.ofString (toString n)] ++ linesL a ++ [("else" : Str)] ++ linesL b ++ [("fi" : Str)]
  | .whl n b => [("while " : Str) ++ Str.ofString (toString n)] ++ linesL b ++ [("done" : Str)]
def linesL : List Stp → List Str
  | [] => []
  | s :: r => s.lines ++ linesL r
end
/-- the names in a line -/
def namesIn (line : Str) : List Str := match Txt.split line " " with
  | [] => []
  | a :: r => if a = "if" ∨ a = "while" then [] else if a = "do" then r.drop 1 else r
theorem tl_sp : TL.tl (" " : Str) = [32] := by decide +kernel
theorem sp_kind (x : Str) : ¬ Builtin.Str.strKind x < Builtin.Str.strKind (" " : Str) := by
  exact TL.kind_ok (by decide +kernel)
theorem split_map (x : Str) : (Txt.split x " ").map TL.tl = TL.spl [32] 0 [] (TL.tl x) := by
  have z := TL.split_spl x " " (by rw [tl_sp]; decide) (sp_kind x)
  rw [tl_sp] at z
  exact z
theorem split_one {a : Str} (h : 32 ∉ TL.tl a) : Txt.split a " " = [a] := by
  refine TL.map_tl_inj ?_
  rw [split_map, TL.spl_last1 h]
  rfl
theorem split_cons {a b : Str} (h : 32 ∉ TL.tl a) : Txt.split (a ++ " " ++ b) " " = a :: Txt.split b " " := by
  refine TL.map_tl_inj ?_
  rw [split_map, TL.tl_append, TL.tl_append, List.append_assoc, tl_sp, TL.spl_part1 h, List.map_cons, split_map]
  rfl
theorem join2 (a b : Str) : Txt.join " " [a, b] = a ++ " " ++ b := TL.join_eq _ _
theorem join3 (a b c : Str) : Txt.join " " [a, b, c] = a ++ " " ++ (b ++ " " ++ c) := TL.join_eq _ _
theorem namesIn_cons {a : Str} (h : 32 ∉ TL.tl a) (b : Str) : namesIn (a ++ " " ++ b) = if a = "if" ∨ a = "while" then [] else if a = "do" then (Txt.split b " ").drop 1 else Txt.split b " " := by
  unfold namesIn
  rw [split_cons h]
theorem lit_app (a b : Str) (h : a ++ " " = b) (c : Str) : b ++ c = a ++ " " ++ c := by rw [← h]
mutual
theorem names_lines : ∀ s : Stp, s.Good → (s.lines.flatMap namesIn) = s.names
  | .opn x, h => by
    show namesIn (Txt.join " " ["open", x]) ++ [] = _
    rw [List.append_nil, join2, namesIn_cons (by decide +kernel), if_neg (by decide +kernel), if_neg (by decide +kernel), split_one h.1]
    rfl
  | .act w x, h => by
    show namesIn (Txt.join " " ["do", w, x]) ++ [] = _
    rw [List.append_nil, join3, namesIn_cons (by decide +kernel), if_neg (by decide +kernel), if_pos rfl, split_cons h.1.1, split_one h.2.1]
    rfl
  | .cpy x y, h => by
    show namesIn (Txt.join " " ["copy", x, y]) ++ [] = _
    rw [List.append_nil, join3, namesIn_cons (by decide +kernel), if_neg (by decide +kernel), if_neg (by decide +kernel), split_cons h.1.1, split_one h.2.1]
    rfl
  | .drp x, h => by
    show namesIn (Txt.join " " ["drop", x]) ++ [] = _
    rw [List.append_nil, join2, namesIn_cons (by decide +kernel), if_neg (by decide +kernel), if_neg (by decide +kernel), split_one h.1]
    rfl
  | .tie x y, h => by
    show namesIn (Txt.join " " ["tie", x, y]) ++ [] = _
    rw [List.append_nil, join3, namesIn_cons (by decide +kernel), if_neg (by decide +kernel), if_neg (by decide +kernel), split_cons h.1.1, split_one h.2.1]
    rfl
  | .lend x y b, h => by
    have e1 : namesIn (("lend " : Str) ++ x ++ " " ++ y) = [x, y] := by
      rw [lit_app "lend" "lend " (by decide +kernel) x, Str.append_assoc, Str.append_assoc, ← Str.append_assoc x, namesIn_cons (by decide +kernel), if_neg (by decide +kernel), if_neg (by decide +kernel), split_cons h.1.1, split_one h.2.1.1]
    have e2 : namesIn ("back" : Str) = [] := by decide +kernel
    show ([("lend " : Str) ++ x ++ " " ++ y] ++ linesL b ++ [("back" : Str)]).flatMap namesIn = [x, y] ++ namesL b
    rw [List.flatMap_append, List.flatMap_append, names_linesL b h.2.2]
    show (namesIn (("lend " : Str) ++ x ++ " " ++ y) ++ []) ++ namesL b ++ (namesIn ("back" : Str) ++ []) = _
    rw [e1, e2]
    simp
  | .ite n a b, h => by
    have e1 : namesIn (("if " : Str) ++ Str.ofString (toString n)) = [] := by
      rw [lit_app "if" "if " (by decide +kernel), namesIn_cons (by decide +kernel), if_pos (.inl rfl)]
    have e2 : namesIn ("else" : Str) = [] := by decide +kernel
    have e3 : namesIn ("fi" : Str) = [] := by decide +kernel
    show ([("if " : Str) ++ Str.ofString (toString n)] ++ linesL a ++ [("else" : Str)] ++ linesL b ++ [("fi" : Str)]).flatMap namesIn = namesL a ++ namesL b
    rw [List.flatMap_append, List.flatMap_append, List.flatMap_append, List.flatMap_append, names_linesL a h.2.1, names_linesL b h.2.2]
    show (namesIn (("if " : Str) ++ Str.ofString (toString n)) ++ []) ++ namesL a ++ (namesIn ("else" : Str) ++ []) ++ namesL b ++ (namesIn ("fi" : Str) ++ []) = _
    rw [e1, e2, e3]
    simp
  | .whl n b, h => by
    have e1 : namesIn (("while " : Str) ++ Str.ofString (toString n)) = [] := by
      rw [lit_app "while" "while " (by decide +kernel), namesIn_cons (by decide +kernel), if_pos (.inr rfl)]
    have e2 : namesIn ("done" : Str) = [] := by decide +kernel
    show ([("while " : Str) ++ Str.ofString (toString n)] ++ linesL b ++ [("done" : Str)]).flatMap namesIn = namesL b
    rw [List.flatMap_append, List.flatMap_append, names_linesL b h.2]
    show (namesIn (("while " : Str) ++ Str.ofString (toString n)) ++ []) ++ namesL b ++ (namesIn ("done" : Str) ++ []) = _
    rw [e1, e2]
    simp
theorem names_linesL : ∀ p : List Stp, Goods p → (linesL p).flatMap namesIn = namesL p
  | [], _ => rfl
  | s :: r, h => by
    show (s.lines ++ linesL r).flatMap namesIn = s.names ++ namesL r
    rw [List.flatMap_append, names_lines s h.1, names_linesL r h.2]
end
end Uw
/-! text T16 -/
namespace Uw
open PySem PySem.Spec PyProof.Rows L2
/-! names_in, lines_of_step, lines_of -/
section
variable {K : PySem.W.Frag} {σ : L2.St} {H : Hp} {te to ta tb : TE} {ds es : List PyData} {n : Int}
theorem gd_split {a b : Str} (h1 : Gd K to σ H (.str a)) (h2 : Gd K te σ H (.str b)) (hb : (b.length == 0) = false) (hl : a.length ≤ 1000) :
    Gd K (tM1 (fun x xs H Q => ∃ a b, x = .str a ∧ xs = [.str b] ∧ (b.length == 0) = false ∧ a.length + 2 ≤ sizeLine ∧ rNewStrs (Txt.split a b) H Q) to te) σ H (.list ((Txt.split a b).map PyData.str)) := fun H1 s Q q =>
  h1 H1 s _ fun x H2 s2 dx => ⟨⟨a, dp_str dx⟩, h2 H2 (s.trans s2) _ fun y H3 s3 dy => ⟨a, b, dp_str dx, by rw [dp_str dy], hb, small_le (by omega), fun p hp => q _ _ ((s2.trans s3).trans (same_new hp)) (.lst (SqL.of upd_same) (dps_strs _))⟩⟩
theorem gd_join {a : Str} {ys : List Str} (h1 : Gd K to σ H (.str a)) (h2 : Gd K te σ H (.tuple (ys.map PyData.str))) (hl : (ys.map (·.length)).sum + ys.length * a.length ≤ 16777216) :
    Gd K (tM1 (fun x xs H Q => ∃ a p, ∃ ys : List Str, x = .str a ∧ xs = [.ref p] ∧ (SqL K H p (ys.map V.str) ∨ SqT K H p (ys.map V.str)) ∧ (ys.map (·.length)).sum + ys.length * a.length ≤ 16777216 ∧ Q (.str (Txt.join a ys)) H) to te) σ H (.str (Txt.join a ys)) := fun H1 s Q q =>
  h1 H1 s _ fun x H2 s2 dx => ⟨⟨a, dp_str dx⟩, h2 H2 (s.trans s2) _ fun y H3 s3 dy => by
    obtain ⟨p, xs, rfl, h3, h4⟩ := dp_tup dy
    rw [dps_strs_eq h4] at h3
    exact ⟨a, p, ys, dp_str dx, rfl, .inr h3, hl, q _ H3 (s2.trans s3) (.str _)⟩⟩
theorem gd_joinL {a : Str} {ys : List Str} (h1 : Gd K to σ H (.str a)) (h2 : Gd K te σ H (.list (ys.map PyData.str))) (hl : (ys.map (·.length)).sum + ys.length * a.length ≤ 16777216) :
    Gd K (tM1 (fun x xs H Q => ∃ a p, ∃ ys : List Str, x = .str a ∧ xs = [.ref p] ∧ (SqL K H p (ys.map V.str) ∨ SqT K H p (ys.map V.str)) ∧ (ys.map (·.length)).sum + ys.length * a.length ≤ 16777216 ∧ Q (.str (Txt.join a ys)) H) to te) σ H (.str (Txt.join a ys)) := fun H1 s Q q =>
  h1 H1 s _ fun x H2 s2 dx => ⟨⟨a, dp_str dx⟩, h2 H2 (s.trans s2) _ fun y H3 s3 dy => by
    obtain ⟨p, xs, rfl, h3, h4⟩ := dp_list dy
    rw [dps_strs_eq h4] at h3
    exact ⟨a, p, ys, dp_str dx, rfl, .inl h3, hl, q _ H3 (s2.trans s3) (.str _)⟩⟩
theorem gf_catD (h1 : Gd K ta σ H (.list ds)) (h2 : Gd K tb σ H (.list es)) (hl : ds.length + es.length ≤ 1000000) : Gf K (tOp (rAddU K) ta tb) σ H (fun xs => xs = ds ++ es) := fun H1 s Q q =>
  h1 H1 s _ fun x H2 s2 dx => h2 H2 (s.trans s2) _ fun y H3 s3 dy => by
    obtain ⟨a, ys, rfl, h3, h4⟩ := dp_list (dp_mono s3 dx)
    obtain ⟨b, zs, rfl, h5, h6⟩ := dp_list dy
    refine .inr (.inr (.inl ⟨a, b, ys, zs, rfl, rfl, h3, h5, small_le (by rw [dps_len h4, dps_len h6]; exact hl), fun u hu => ?_⟩))
    exact q u _ _ _ rfl ((s2.trans s3).trans (same_new hu)) ((s2.trans s3).free hu) upd_same (dps_append (dps_mono (same_new hu) h4) (dps_mono (same_new hu) h6))
theorem rc_str (hn : n.natAbs < 10 ^ 100) : RdC K (fun xs H Q => ∃ i, xs = [.int i] ∧ i.natAbs.log2 < 1920 ∧ Q (.str (toString i)) H) [.int n] H (.str (Str.ofString (toString n))) := fun H1 _ vs dv Q q => by
  obtain _ | ⟨h, _ | _⟩ := dv
  have e := dp_int h
  subst e
  refine ⟨n, rfl, ?_, q _ H1 (Same.refl _) (.str _)⟩
  by_cases z : n.natAbs = 0
  · rw [z]
    decide
  · exact Nat.lt_trans ((Nat.log2_lt z).mpr (Nat.lt_of_lt_of_le hn (show 10 ^ 100 ≤ 2 ^ 1000 by decide +kernel))) (by decide)
end
theorem spl_ex (S : List Nat) : ∀ (L : List Nat) (k : Nat) (acc : List Nat), ∃ a r, TL.spl S k acc L = a :: r
  | [], k, acc => ⟨acc, [], by cases k <;> rfl⟩
  | c :: L, 0, acc => by
    unfold TL.spl
    split
    · exact ⟨_, _, rfl⟩
    · exact spl_ex S L 0 _
  | c :: L, k + 1, acc => by
    unfold TL.spl
    exact spl_ex S L k acc
theorem split_ex (x : Str) : ∃ a r, Txt.split x " " = a :: r := by
  obtain ⟨a, r, e⟩ := spl_ex [32] (TL.tl x) 0 []
  rw [← split_map] at e
  cases q : Txt.split x " " with
  | nil =>
    rw [q] at e
    cases e
  | cons a r => exact ⟨a, r, rfl⟩
section
variable {P : Program} {w : World} {K : PySem.W.Frag} {mg : Str → Option Value} {base : Heap}
def R_names_in (ds : List PyData) (d : PyData) : Prop := ∃ line : Str, line.length ≤ 1000 ∧ ds = [.str line] ∧ d = .list ((namesIn line).map PyData.str)
theorem sc_names_in : FnScope ["line", "words"] ["line"] (defScope (top 27)) := ⟨rfl, rfl, rfl, by decide +kernel, rfl, by decide +kernel, by decide +kernel⟩
theorem kn_names_in (T : Tx K mg) : Kn P w K mg base 1 "names_in" ["line"] (spD K R_names_in) := by
  refine kn_D (T.fn (("names_in" : Str), 27) (by decide +kernel)) sc_names_in (fun _ _ _ _ _ _ us hl => match us, hl with | [_], _ => rfl) (fun ds d h => ?_) (fun f cdv A outer s0 H vs E ds d hr hv h => ?_)
  · obtain ⟨_, _, rfl, rfl⟩ := h
    rfl
  obtain ⟨line, hl, rfl, rfl⟩ := h
  obtain _ | ⟨h1, _ | _⟩ := hv
  rename_i v1
  refine ⟨_, (pss_cons (ps_set (i := 1) sc_names_in.nd rfl (Or.inl rfl) (pe_split (pv 0) (pe_str))) (pss_cons (ps_if (pt_cmpR op_in_seq (pe_ix ix_seq (pv 1) (pe_int) (fun _ _ => rfl)) (pe_tup (pa_cons (pe_str) (pa_cons (pe_str) (pa_nil)))) (by rfl)) (pss_one (ps_ret (pe_lst (pa_nil)))) (pss_nil)) (pss_cons (ps_if (pt_cmpR op_eq (pe_ix ix_seq (pv 1) (pe_int) (fun _ _ => rfl)) (pe_str) (nomark _)) (pss_one (ps_ret (pe_slice sl_U (pv 1) (po_some (pe_int)) po_none))) (pss_nil)) (pss_one (ps_ret (pe_slice sl_U (pv 1) (po_some (pe_int)) po_none)))))), fun Q q => ?_⟩
  obtain ⟨a, r, hs⟩ := split_ex line
  refine q_asg (K := K) (gd_split (by walk_at "gd") gd_str (by decide +kernel) hl) fun v2 H1 s1 d2 => ?_
  rw [hs] at d2
  have d2' : Dp K H1 v2 (.list (.str a :: r.map PyData.str)) := d2
  have en : namesIn line = if a = "if" ∨ a = "while" then [] else if a = "do" then r.drop 1 else r := by
    unfold namesIn
    rw [hs]
  have ga : ∀ {H' : Hp}, Same H1 H' → Gd K (tOp (rIx K) (tVar 1) (tC (.int 0))) [some v1, some v2] H' (.str a) := fun s => gd_op (gd_var rfl (dp_mono s d2')) gd_int (r2_ixl (n := ((0 : Nat) : Int)) (atI_nat rfl))
  refine q_if0 (a := decide (a = "if" ∨ a = "while")) (gt_test (K := K) (gd_op (ga (Same.refl _)) (gd_tup (ga_cons gd_str (ga_cons gd_str ga_nil)) (Nat.le_of_ble_eq_true rfl)) (r2_int rfl rfl ?_))) (fun c H2 s2 => ?_) fun c H2 s2 => ?_
  · show (("if" : Str) == a || (("while" : Str) == a || false)) = _
    rw [Bool.or_false]
    by_cases h1 : a = "if"
    · subst h1
      rfl
    · by_cases h2 : a = "while"
      · subst h2
        rfl
      · rw [decide_eq_false (fun z => z.elim h1 h2), beq_eq_false_iff_ne.mpr (Ne.symm h1), beq_eq_false_iff_ne.mpr (Ne.symm h2)]
        rfl
  · rw [en, if_pos (of_decide_eq_true c)] at q
    exact l_ret (K := K) (gd_lst ga_nil (Nat.zero_le _)) fun v H3 s3 d3 => q v H3 (by walk_at "same") d3
  · rw [en, if_neg (of_decide_eq_false c)] at q
    refine q_if0 (gt_test (K := K) (gd_op (ga s2) gd_str (r2_eq rfl rfl rfl rfl))) (fun c H3 s3 => ?_) fun c H3 s3 => ?_
    · have e : a = "do" := by
        have z : decide (V.str a = V.str "do") = true := c
        have z := of_decide_eq_true z
        injection z
      rw [if_pos e] at q
      refine l_ret (K := K) (gd_is (gd_slL (ds := .str a :: r.map PyData.str) (by walk_at "gd") (go_some (K := K) (n := ((2 : Nat) : Int)) gd_int) go_none) ?_) fun v H4 s4 d4 => q v H4 (by walk_at "same") d4
      rw [cutL_drop, List.map_drop]
      rfl
    · have e : ¬ a = "do" := fun e => by
        have z : decide (V.str a = V.str "do") = false := c
        exact of_decide_eq_false z (by rw [e])
      rw [if_neg e] at q
      refine l_ret (K := K) (gd_is (gd_slL (ds := .str a :: r.map PyData.str) (by walk_at "gd") (go_some (K := K) (n := ((1 : Nat) : Int)) gd_int) go_none) ?_) fun v H4 s4 d4 => q v H4 (by walk_at "same") d4
      rw [cutL_drop]
      rfl
end
end Uw
/-! text T17 -/
namespace Uw
open PySem PySem.Spec PyProof.Rows L2
/-! lines_of_step, lines_of -/
theorem encs_map : ∀ p : List Stp, encs p = p.map Stp.enc
  | [] => rfl
  | s :: r => by
    show s.enc :: encs r = _
    rw [encs_map r]
    rfl
theorem linesL_app : ∀ p r : List Stp, linesL (p ++ r) = linesL p ++ linesL r
  | [], _ => rfl
  | s :: p, r => by
    show s.lines ++ linesL (p ++ r) = s.lines ++ linesL p ++ linesL r
    rw [linesL_app p r, List.append_assoc]
mutual
theorem lines_len : ∀ s : Stp, s.lines.length ≤ 3 * s.sz
  | .opn _ => by show 1 ≤ 3 * 1; decide
  | .act _ _ => by show 1 ≤ 3 * 1; decide
  | .cpy _ _ => by show 1 ≤ 3 * 1; decide
  | .drp _ => by show 1 ≤ 3 * 1; decide
  | .tie _ _ => by show 1 ≤ 3 * 1; decide
  | .lend x y b => by
    have z := linesL_len b
    show ([("lend " : Str) ++ x ++ " " ++ y] ++ linesL b ++ [("back" : Str)]).length ≤ 3 * (szs b + 1)
    simp only [List.length_append, List.length_cons, List.length_nil]
    omega
  | .ite n a b => by
    have z := linesL_len a
    have z2 := linesL_len b
    show ([("if " : Str) ++ Str.ofString (toString n)] ++ linesL a ++ [("else" : Str)] ++ linesL b ++ [("fi" : Str)]).length ≤ 3 * (szs a + szs b + 1)
    simp only [List.length_append, List.length_cons, List.length_nil]
    omega
  | .whl n b => by
    have z := linesL_len b
    show ([("while " : Str) ++ Str.ofString (toString n)] ++ linesL b ++ [("done" : Str)]).length ≤ 3 * (szs b + 1)
    simp only [List.length_append, List.length_cons, List.length_nil]
    omega
theorem linesL_len : ∀ p : List Stp, (linesL p).length ≤ 3 * szs p
  | [] => Nat.zero_le _
  | s :: r => by
    have z := lines_len s
    have z2 := linesL_len r
    show (s.lines ++ linesL r).length ≤ 3 * (s.sz + szs r)
    rw [List.length_append]
    omega
end
theorem szs_app : ∀ p r : List Stp, szs (p ++ r) = szs p + szs r
  | [], _ => by show szs _ = 0 + _; rw [Nat.zero_add]; rfl
  | s :: p, r => by
    show s.sz + szs (p ++ r) = s.sz + szs p + szs r
    rw [szs_app p r, Nat.add_assoc]
theorem szs_take (p : List Stp) (i : Nat) : szs (p.take i) ≤ szs p := by
  have z := szs_app (p.take i) (p.drop i)
  rw [List.take_append_drop] at z
  omega
theorem mem_good : ∀ {p : List Stp} {s : Stp}, Goods p → s ∈ p → s.Good
  | _ :: _, s, h, m => by
    rcases List.mem_cons.mp m with e | m
    · subst e
      exact h.1
    · exact mem_good h.2 m
theorem mem_dep : ∀ {p : List Stp} {s : Stp}, s ∈ p → s.dep ≤ deps p
  | x :: p, s, m => by
    show _ ≤ max x.dep (deps p)
    rcases List.mem_cons.mp m with e | m
    · subst e
      omega
    · have z := mem_dep m
      omega
theorem mem_sz : ∀ {p : List Stp} {s : Stp}, s ∈ p → s.sz ≤ szs p
  | x :: p, s, m => by
    show _ ≤ x.sz + szs p
    rcases List.mem_cons.mp m with e | m
    · subst e
      omega
    · have z := mem_sz m
      omega
theorem str_len (n : Int) : (Str.ofString (toString n)).length = (toString n).length := PySem.ofString_length _
theorem join_room {ys : List Str} (h : ys.length ≤ 3) (hy : ∀ y ∈ ys, y.length ≤ 100) : (ys.map (·.length)).sum + ys.length * ((" " : Str)).length ≤ 16777216 := by
  have e : ((" " : Str)).length = 1 := by decide +kernel
  rw [e]
  have z : ∀ l : List Str, (∀ y ∈ l, y.length ≤ 100) → (l.map (·.length)).sum ≤ l.length * 100 := by
    intro l
    induction l with
    | nil => intro _; exact Nat.le_refl _
    | cons a l ih =>
      intro h
      have h1 := h a List.mem_cons_self
      have h2 := ih fun y hy => h y (List.mem_cons_of_mem _ hy)
      simp only [List.map_cons, List.sum_cons, List.length_cons]
      omega
  have z1 := z ys hy
  omega
theorem wd_one {x : Str} (h : Wd x) : ∀ y ∈ [x], y.length ≤ 100 := fun y hy => by
  rw [List.mem_singleton.mp hy]
  exact h.2
theorem wd_two {x y : Str} (h : Wd x ∧ Wd y) : ∀ z ∈ [x, y], z.length ≤ 100 := fun z hz => by
  rcases List.mem_cons.mp hz with e | hz
  · rw [e]
    exact h.1.2
  · rw [List.mem_singleton.mp hz]
    exact h.2.2
theorem wd_all {t : Str} {l : List Str} (ht : t.length ≤ 100) (h : ∀ y ∈ l, y.length ≤ 100) : ∀ y ∈ t :: l, y.length ≤ 100 := fun y hy => by
  rcases List.mem_cons.mp hy with e | hy
  · rw [e]
    exact ht
  · exact h y hy
def strsZ (L : List Str) (es : List PyData) : Prop := es = L.map PyData.str
theorem gd_fz {K : PySem.W.Frag} {te : TE} {σ : L2.St} {H : Hp} {L : List Str} (h : Gf K te σ H (strsZ L)) : Gd K te σ H (.list (L.map PyData.str)) := fun H1 s Q q => h H1 s Q fun p H2 xs es z s2 _ l2 d2 => by
  have z : es = L.map PyData.str := z
  subst z
  exact q _ H2 s2 (.lst (SqL.of l2) d2)
def R_los (n : Nat) (ds : List PyData) (Z : List PyData → Prop) : Prop := ∃ s : Stp, s.Good ∧ s.dep < n ∧ s.sz ≤ 1000 ∧ ds = [s.enc] ∧ Z = strsZ s.lines
def R_lo (n : Nat) (ds : List PyData) (Z : List PyData → Prop) : Prop := ∃ p : List Stp, Goods p ∧ deps p < n ∧ szs p ≤ 1000 ∧ ds = [.list (encs p)] ∧ Z = strsZ (linesL p)
section
variable {P : Program} {w : World} {K : PySem.W.Frag} {mg : Str → Option Value} {base : Heap}
theorem sc_lines_of : FnScope ["program", "lines", "step"] ["program"] (defScope (top 26)) := ⟨rfl, rfl, rfl, by decide +kernel, rfl, by decide +kernel, by decide +kernel⟩
theorem kn_lo (T : Tx K mg) (n : Nat) (Klines_of_step : Kn P w K mg base (2 * n + 1) "lines_of_step" ["step"] (spF K (R_los n))) : Kn P w K mg base (2 * n + 2) "lines_of" ["program"] (spF K (R_lo n)) := by
  refine kn_F (T.fn (("lines_of" : Str), 26) (by decide +kernel)) sc_lines_of (fun _ _ _ _ _ _ us hl => match us, hl with | [_], _ => rfl) (fun ds d h => ?_) (fun f cdv A outer s0 H vs E ds Z hr hv h => ?_)
  · obtain ⟨_, _, _, _, rfl, _⟩ := h
    rfl
  obtain ⟨p, hg, hd, hz, rfl, rfl⟩ := h
  obtain _ | ⟨h1, _ | _⟩ := hv
  rename_i v1
  rw [encs_map] at h1
  refine ⟨_, (pss_cons (ps_set (i := 1) sc_lines_of.nd rfl (Or.inl rfl) (pe_lst (pa_nil))) (pss_cons (ps_for PassesOwn.never rfl (pi_list (pv 0)) (pg_name (i := 2) sc_lines_of.nd rfl (.inl rfl)) (pss_one (ps_expr (pe_bm PySem.F.plainAttrs_list PySem.F.slot_list_extend PySem.F.type_list_extend mt_extend (pv 1) (pa_cons (pe_kn Klines_of_step hr rfl (pa_cons (pv 2) (pa_nil))) (pa_nil)))))) (pss_one (ps_ret (pv 1))))), fun Q q => ?_⟩
  refine q_asgF (K := K) (gf_lst (Z := fun es => es = []) ga_nil (Nat.zero_le _) rfl) fun l H3 xs es z s3 n3 l3 d3 => ?_
  subst z
  cases d3
  refine q_forV (K := K) (H0 := H) (ds := p.map Stp.enc) (v := v1) (fun i σ' H' => Same H H' ∧ (∃ o, σ' = [some v1, some (.ref l), o]) ∧ H' l = some (.lst ((linesL (p.take i)).map V.str))) rfl h1 s3 ⟨s3, ⟨none, rfl⟩, l3⟩ (fun i σ' H' p => p.1) (fun i d v σ' H' hd' hP dv => ?_) fun σ' H' hP => ?_
  · obtain ⟨s, hs, rfl⟩ := dps_of hd'
    obtain ⟨sm, ⟨o, rfl⟩, hl⟩ := hP
    have hm := List.mem_of_getElem? hs
    have z1 := mem_dep hm
    have z2 := mem_sz hm
    refine ⟨_, rfl, .inl ⟨rfl, _, SqL.of hl⟩, ?_⟩
    refine gf_call (K := K) (ds := [s.enc]) (ga_cons (gd_var rfl dv) ga_nil) ⟨s, mem_good hg hm, by omega, by omega, rfl, rfl⟩ H' (Same.refl _) _ fun b H4 zs es z s4 n4 l4 d4 => ?_
    have z : es = s.lines.map PyData.str := z
    subst z
    have ez := dps_strs_eq d4
    subst ez
    have e : linesL (p.take (i + 1)) = linesL (p.take i) ++ s.lines := by
      rw [List.take_add_one, hs, linesL_app]
      show _ ++ (s.lines ++ []) = _
      rw [List.append_nil]
    have y1 := linesL_len (p.take i)
    have y2 := szs_take p i
    have y3 := lines_len s
    refine ⟨l, b, _, _, rfl, rfl, s4 _ _ hl, l4, small_le (by rw [List.length_map, List.length_map]; omega), ?_⟩
    refine ⟨same_mut (sm.trans s4) n3, ⟨_, rfl⟩, ?_⟩
    rw [e, List.map_append]
    exact upd_same
  · obtain ⟨sm, ⟨o, rfl⟩, hl⟩ := hP
    rw [List.length_map, List.take_length] at hl
    exact ⟨_, rfl, q l H' _ _ rfl sm n3 hl (dps_strs _)⟩
theorem sc_lines_of_step : FnScope ["step"] ["step"] (defScope (top 25)) := ⟨rfl, rfl, rfl, by decide +kernel, rfl, by decide +kernel, by decide +kernel⟩
theorem kn_los (T : Tx K mg) (n : Nat) (Klines_of : Kn P w K mg base (2 * n + 2) "lines_of" ["program"] (spF K (R_lo n))) : Kn P w K mg base (2 * n + 3) "lines_of_step" ["step"] (spF K (R_los (n + 1))) := by
  refine kn_F (T.fn (("lines_of_step" : Str), 25) (by decide +kernel)) sc_lines_of_step (fun _ _ _ _ _ _ us hl => match us, hl with | [_], _ => rfl) (fun ds d h => ?_) (fun f cdv A outer s0 H vs E ds Z hr hv h => ?_)
  · obtain ⟨_, _, _, _, rfl, _⟩ := h
    rfl
  obtain ⟨s, hg, hd, hz, rfl, rfl⟩ := h
  obtain _ | ⟨h1, _ | _⟩ := hv
  rename_i v1
  refine ⟨_, (pss_cons (ps_if (pt_cmpR op_eq (pe_ix ix_seq (pv 0) (pe_int) (fun _ _ => rfl)) (pe_str) (nomark _)) (pss_one (ps_ret (pe_op op_addU (pe_op op_addU (pe_lst (pa_cons (pe_op op_addU (pe_op op_addU (pe_op op_addU (pe_str) (pe_ix ix_seq (pv 0) (pe_int) (fun _ _ => rfl))) (pe_str)) (pe_ix ix_seq (pv 0) (pe_int) (fun _ _ => rfl))) (pa_nil))) (pe_kn Klines_of hr rfl (pa_cons (pe_ix ix_seq (pv 0) (pe_int) (fun _ _ => rfl)) (pa_nil)))) (pe_lst (pa_cons (pe_str) (pa_nil)))))) (pss_nil)) (pss_cons (ps_if (pt_cmpR op_eq (pe_ix ix_seq (pv 0) (pe_int) (fun _ _ => rfl)) (pe_str) (nomark _)) (pss_one (ps_ret (pe_op op_addU (pe_op op_addU (pe_op op_addU (pe_op op_addU (pe_lst (pa_cons (pe_op op_addU (pe_str) (pe_callTy call_str_int (by rfl) (T.free "str" (by decide)) (by decide +kernel) (pa_cons (pe_ix ix_seq (pv 0) (pe_int) (fun _ _ => rfl)) (pa_nil)))) (pa_nil))) (pe_kn Klines_of hr rfl (pa_cons (pe_ix ix_seq (pv 0) (pe_int) (fun _ _ => rfl)) (pa_nil)))) (pe_lst (pa_cons (pe_str) (pa_nil)))) (pe_kn Klines_of hr rfl (pa_cons (pe_ix ix_seq (pv 0) (pe_int) (fun _ _ => rfl)) (pa_nil)))) (pe_lst (pa_cons (pe_str) (pa_nil)))))) (pss_nil)) (pss_cons (ps_if (pt_cmpR op_eq (pe_ix ix_seq (pv 0) (pe_int) (fun _ _ => rfl)) (pe_str) (nomark _)) (pss_one (ps_ret (pe_op op_addU (pe_op op_addU (pe_lst (pa_cons (pe_op op_addU (pe_str) (pe_callTy call_str_int (by rfl) (T.free "str" (by decide)) (by decide +kernel) (pa_cons (pe_ix ix_seq (pv 0) (pe_int) (fun _ _ => rfl)) (pa_nil)))) (pa_nil))) (pe_kn Klines_of hr rfl (pa_cons (pe_ix ix_seq (pv 0) (pe_int) (fun _ _ => rfl)) (pa_nil)))) (pe_lst (pa_cons (pe_str) (pa_nil)))))) (pss_nil)) (pss_one (ps_ret (pe_lst (pa_cons (pe_join (pe_str) (pv 0)) (pa_nil)))))))), fun Q q => ?_⟩
  have ret : ∀ {te : TE} {D : Ends} {σ : L2.St} {H' : Hp}, Same H H' → D.rt = Q → Gf K te σ H' (strsZ s.lines) → tRet te D σ H' := fun s' e g => l_retF g fun p H2 xs es z s2 n2 l2 d2 => by
    rw [e]
    exact q p H2 xs es z (s'.trans s2) (s'.free n2) l2 d2
  cases s with
  | opn x =>
    have h1' : Dp K H v1 (.tuple [.str "open", .str x]) := h1
    refine q_no (by walk_at "tagF") fun H2 s2 => q_no (by walk_at "tagF") fun H3 s3 => q_no (by walk_at "tagF") fun H4 s4 => ret (by walk_at "same") rfl ?_
    exact gf_lst (ga_cons (gd_join (ys := ["open", x]) gd_str (by walk_at "gd") (join_room (Nat.le_of_ble_eq_true rfl) (by exact fun y hy => wd_all (by decide +kernel) (wd_one hg) y hy))) ga_nil) (Nat.le_of_ble_eq_true rfl) rfl
  | act w x =>
    have h1' : Dp K H v1 (.tuple [.str "do", .str w, .str x]) := h1
    refine q_no (by walk_at "tagF") fun H2 s2 => q_no (by walk_at "tagF") fun H3 s3 => q_no (by walk_at "tagF") fun H4 s4 => ret (by walk_at "same") rfl ?_
    exact gf_lst (ga_cons (gd_join (ys := ["do", w, x]) gd_str (by walk_at "gd") (join_room (Nat.le_of_ble_eq_true rfl) (by exact fun y hy => wd_all (by decide +kernel) (wd_two hg) y hy))) ga_nil) (Nat.le_of_ble_eq_true rfl) rfl
  | cpy x y =>
    have h1' : Dp K H v1 (.tuple [.str "copy", .str x, .str y]) := h1
    refine q_no (by walk_at "tagF") fun H2 s2 => q_no (by walk_at "tagF") fun H3 s3 => q_no (by walk_at "tagF") fun H4 s4 => ret (by walk_at "same") rfl ?_
    exact gf_lst (ga_cons (gd_join (ys := ["copy", x, y]) gd_str (by walk_at "gd") (join_room (Nat.le_of_ble_eq_true rfl) (by exact fun z hz => wd_all (by decide +kernel) (wd_two hg) z hz))) ga_nil) (Nat.le_of_ble_eq_true rfl) rfl
  | drp x =>
    have h1' : Dp K H v1 (.tuple [.str "drop", .str x]) := h1
    refine q_no (by walk_at "tagF") fun H2 s2 => q_no (by walk_at "tagF") fun H3 s3 => q_no (by walk_at "tagF") fun H4 s4 => ret (by walk_at "same") rfl ?_
    exact gf_lst (ga_cons (gd_join (ys := ["drop", x]) gd_str (by walk_at "gd") (join_room (Nat.le_of_ble_eq_true rfl) (by exact fun y hy => wd_all (by decide +kernel) (wd_one hg) y hy))) ga_nil) (Nat.le_of_ble_eq_true rfl) rfl
  | tie x y =>
    have h1' : Dp K H v1 (.tuple [.str "tie", .str x, .str y]) := h1
    refine q_no (by walk_at "tagF") fun H2 s2 => q_no (by walk_at "tagF") fun H3 s3 => q_no (by walk_at "tagF") fun H4 s4 => ret (by walk_at "same") rfl ?_
    exact gf_lst (ga_cons (gd_join (ys := ["tie", x, y]) gd_str (by walk_at "gd") (join_room (Nat.le_of_ble_eq_true rfl) (by exact fun z hz => wd_all (by decide +kernel) (wd_two hg) z hz))) ga_nil) (Nat.le_of_ble_eq_true rfl) rfl
  | lend x y b =>
    have h1' : Dp K H v1 (.tuple [.str "lend", .str x, .str y, .list (encs b)]) := h1
    refine q_yes (by walk_at "tagT") fun H2 s2 => ret (by walk_at "same") rfl ?_
    have lx := hg.1.2
    have ly := hg.2.1.2
    have hdb : deps b + 1 < n + 1 := hd
    have hzb : szs b + 1 ≤ 1000 := hz
    have yl := linesL_len b
    refine gf_imp (gf_catD (ds := [PyData.str (("lend " : Str) ++ x ++ " " ++ y)] ++ (linesL b).map PyData.str) (es := [.str "back"]) (gd_op (gd_lst (ga_cons (gd_op (gd_op (gd_op gd_str (by walk_at "gd") (r2_addT ?_)) gd_str (r2_addT ?_)) (by walk_at "gd") (r2_addT ?_)) ga_nil) (Nat.le_of_ble_eq_true rfl))
      (gd_fz (gf_call (ds := [.list (encs b)]) (by walk_at "ga") ⟨b, hg.2.2, by omega, by omega, rfl, rfl⟩)) (r2_addL ?_)) (gd_lst (ga_cons gd_str ga_nil) (Nat.le_of_ble_eq_true rfl)) ?_) fun es e => ?_
    · rw [show (("lend " : Str)).length = 5 by decide +kernel]
      omega
    · rw [Str.length_append, show (("lend " : Str)).length = 5 by decide +kernel, show ((" " : Str)).length = 1 by decide +kernel]
      omega
    · rw [Str.length_append, Str.length_append, show (("lend " : Str)).length = 5 by decide +kernel, show ((" " : Str)).length = 1 by decide +kernel]
      omega
    · rw [List.length_map]
      show 1 + _ ≤ _
      omega
    · rw [List.length_append, List.length_map]
      show 1 + _ + 1 ≤ _
      omega
    · show es = ([("lend " : Str) ++ x ++ " " ++ y] ++ linesL b ++ [("back" : Str)]).map PyData.str
      rw [e, List.map_append, List.map_append]
      rfl
  | ite m a b =>
    have h1' : Dp K H v1 (.tuple [.str "if", .int m, .list (encs a), .list (encs b)]) := h1
    refine q_no (by walk_at "tagF") fun H2 s2 => q_yes (by walk_at "tagT") fun H3 s3 => ret (by walk_at "same") rfl ?_
    have hda : max (deps a) (deps b) + 1 < n + 1 := hd
    have hza : szs a + szs b + 1 ≤ 1000 := hz
    have ya := linesL_len a
    have yb := linesL_len b
    have lm := int_text_length_le10 (a := m) (k := 100) (by decide) hg.1
    refine gf_imp (gf_catD (ds := [PyData.str (("if " : Str) ++ Str.ofString (toString m))] ++ (linesL a).map PyData.str ++ [.str "else"] ++ (linesL b).map PyData.str) (es := [.str "fi"]) (gd_op (gd_op (gd_op (gd_lst (ga_cons (gd_op gd_str (gd_cb (ga_cons (by walk_at "gd") ga_nil) (rc_str hg.1)) (r2_addT ?_)) ga_nil) (Nat.le_of_ble_eq_true rfl))
      (gd_fz (gf_call (ds := [.list (encs a)]) (by walk_at "ga") ⟨a, hg.2.1, by omega, by omega, rfl, rfl⟩)) (r2_addL ?_)) (gd_lst (ga_cons gd_str ga_nil) (Nat.le_of_ble_eq_true rfl)) (r2_addL ?_)) (gd_fz (gf_call (ds := [.list (encs b)]) (by walk_at "ga") ⟨b, hg.2.2, by omega, by omega, rfl, rfl⟩)) (r2_addL ?_)) (gd_lst (ga_cons gd_str ga_nil) (Nat.le_of_ble_eq_true rfl)) ?_) fun es e => ?_
    · rw [show (("if " : Str)).length = 3 by decide +kernel, str_len]
      omega
    · simp only [List.length_map, List.length_append, List.length_cons, List.length_nil]
      omega
    · simp only [List.length_map, List.length_append, List.length_cons, List.length_nil]
      omega
    · simp only [List.length_map, List.length_append, List.length_cons, List.length_nil]
      omega
    · simp only [List.length_map, List.length_append, List.length_cons, List.length_nil]
      omega
    · show es = ([("if " : Str) ++ Str.ofString (toString m)] ++ linesL a ++ [("else" : Str)] ++ linesL b ++ [("fi" : Str)]).map PyData.str
      rw [e, List.map_append, List.map_append, List.map_append, List.map_append]
      rfl
  | whl m b =>
    have h1' : Dp K H v1 (.tuple [.str "while", .int m, .list (encs b)]) := h1
    refine q_no (by walk_at "tagF") fun H2 s2 => q_no (by walk_at "tagF") fun H3 s3 => q_yes (by walk_at "tagT") fun H4 s4 => ret (by walk_at "same") rfl ?_
    have hda : deps b + 1 < n + 1 := hd
    have hza : szs b + 1 ≤ 1000 := hz
    have yb := linesL_len b
    have lm := int_text_length_le10 (a := m) (k := 100) (by decide) hg.1
    refine gf_imp (gf_catD (ds := [PyData.str (("while " : Str) ++ Str.ofString (toString m))] ++ (linesL b).map PyData.str) (es := [.str "done"]) (gd_op (gd_lst (ga_cons (gd_op gd_str (gd_cb (ga_cons (by walk_at "gd") ga_nil) (rc_str hg.1)) (r2_addT ?_)) ga_nil) (Nat.le_of_ble_eq_true rfl))
      (gd_fz (gf_call (ds := [.list (encs b)]) (by walk_at "ga") ⟨b, hg.2, by omega, by omega, rfl, rfl⟩)) (r2_addL ?_)) (gd_lst (ga_cons gd_str ga_nil) (Nat.le_of_ble_eq_true rfl)) ?_) fun es e => ?_
    · rw [show (("while " : Str)).length = 6 by decide +kernel, str_len]
      omega
    · simp only [List.length_map, List.length_append, List.length_cons, List.length_nil]
      omega
    · simp only [List.length_map, List.length_append, List.length_cons, List.length_nil]
      omega
    · show es = ([("while " : Str) ++ Str.ofString (toString m)] ++ linesL b ++ [("done" : Str)]).map PyData.str
      rw [e, List.map_append, List.map_append]
      rfl
/-- both, n blocks deep -/
theorem kn_lines (T : Tx K mg) : ∀ n, Kn P w K mg base (2 * n + 1) "lines_of_step" ["step"] (spF K (R_los n)) ∧ Kn P w K mg base (2 * n + 2) "lines_of" ["program"] (spF K (R_lo n))
  | 0 => by
    have z : Kn P w K mg base 1 "lines_of_step" ["step"] (spF K (R_los 0)) := kn_F (T.fn (("lines_of_step" : Str), 25) (by decide +kernel)) sc_lines_of_step (fun _ _ _ _ _ _ us hl => match us, hl with | [_], _ => rfl) (fun ds d h => by
      obtain ⟨_, _, h, _⟩ := h
      exact absurd h (Nat.not_lt_zero _)) (fun f cdv A outer s0 H vs E ds Z hr hv h => by
      obtain ⟨_, _, h, _⟩ := h
      exact absurd h (Nat.not_lt_zero _))
    exact ⟨z, kn_lo T 0 z⟩
  | n + 1 => by
    have z := kn_los T n (kn_lines T n).2
    exact ⟨z, kn_lo T (n + 1) z⟩
end
end Uw
/-! text T18 -/
namespace Uw
open PySem PySem.Spec PyProof.Rows L2
/-! names_of -/
theorem len_sp : ((" " : Str)).length = 1 := by decide +kernel
mutual
theorem lines_short : ∀ s : Stp, s.Good → ∀ l ∈ s.lines, l.length ≤ 1000
  | .opn x, h, l, hl => by
    rw [List.mem_singleton.mp hl, join2, Str.length_append, Str.length_append, len_sp, show ("open" : Str).length = 4 by decide +kernel]
    have := h.2
    omega
  | .act w x, h, l, hl => by
    rw [List.mem_singleton.mp hl, join3, Str.length_append, Str.length_append, Str.length_append, Str.length_append, len_sp, show ("do" : Str).length = 2 by decide +kernel]
    have := h.1.2
    have := h.2.2
    omega
  | .cpy x y, h, l, hl => by
    rw [List.mem_singleton.mp hl, join3, Str.length_append, Str.length_append, Str.length_append, Str.length_append, len_sp, show ("copy" : Str).length = 4 by decide +kernel]
    have := h.1.2
    have := h.2.2
    omega
  | .drp x, h, l, hl => by
    rw [List.mem_singleton.mp hl, join2, Str.length_append, Str.length_append, len_sp, show ("drop" : Str).length = 4 by decide +kernel]
    have := h.2
    omega
  | .tie x y, h, l, hl => by
    rw [List.mem_singleton.mp hl, join3, Str.length_append, Str.length_append, Str.length_append, Str.length_append, len_sp, show ("tie" : Str).length = 3 by decide +kernel]
    have := h.1.2
    have := h.2.2
    omega
  | .lend x y b, h, l, hl => by
    have hl : l ∈ [("lend " : Str) ++ x ++ " " ++ y] ++ linesL b ++ [("back" : Str)] := hl
    rcases List.mem_append.mp hl with hl | hl
    · rcases List.mem_append.mp hl with hl | hl
      · rw [List.mem_singleton.mp hl, Str.length_append, Str.length_append, Str.length_append, len_sp, show ("lend " : Str).length = 5 by decide +kernel]
        have := h.1.2
        have := h.2.1.2
        omega
      · exact linesL_short b h.2.2 l hl
    · rw [List.mem_singleton.mp hl]
      decide +kernel
  | .ite n a b, h, l, hl => by
    have hl : l ∈ [("if " : Str) ++ Str.ofString (toString n)] ++ linesL a ++ [("else" : Str)] ++ linesL b ++ [("fi" : Str)] := hl
    rcases List.mem_append.mp hl with hl | hl
    · rcases List.mem_append.mp hl with hl | hl
      · rcases List.mem_append.mp hl with hl | hl
        · rcases List.mem_append.mp hl with hl | hl
          · have lm := int_text_length_le10 (a := n) (k := 100) (by decide) h.1
            rw [List.mem_singleton.mp hl, Str.length_append, str_len, show ("if " : Str).length = 3 by decide +kernel]
            omega
          · exact linesL_short a h.2.1 l hl
        · rw [List.mem_singleton.mp hl]
          decide +kernel
      · exact linesL_short b h.2.2 l hl
    · rw [List.mem_singleton.mp hl]
      decide +kernel
  | .whl n b, h, l, hl => by
    have hl : l ∈ [("while " : Str) ++ Str.ofString (toString n)] ++ linesL b ++ [("done" : Str)] := hl
    rcases List.mem_append.mp hl with hl | hl
    · rcases List.mem_append.mp hl with hl | hl
      · have lm := int_text_length_le10 (a := n) (k := 100) (by decide) h.1
        rw [List.mem_singleton.mp hl, Str.length_append, str_len, show ("while " : Str).length = 6 by decide +kernel]
        omega
      · exact linesL_short b h.2 l hl
    · rw [List.mem_singleton.mp hl]
      decide +kernel
theorem linesL_short : ∀ p : List Stp, Goods p → ∀ l ∈ linesL p, l.length ≤ 1000
  | [], _, l, hl => by cases hl
  | s :: r, h, l, hl => by
    have hl : l ∈ s.lines ++ linesL r := hl
    rcases List.mem_append.mp hl with hl | hl
    · exact lines_short s h.1 l hl
    · exact linesL_short r h.2 l hl
end
mutual
theorem names_len : ∀ s : Stp, s.names.length ≤ 2 * s.sz
  | .opn _ => by show 1 ≤ 2; decide
  | .act _ _ => by show 1 ≤ 2; decide
  | .cpy _ _ => by show 2 ≤ 2; decide
  | .drp _ => by show 1 ≤ 2; decide
  | .tie _ _ => by show 2 ≤ 2; decide
  | .lend x y b => by
    have z := namesL_len b
    show ([x, y] ++ namesL b).length ≤ 2 * (szs b + 1)
    rw [List.length_append]
    show 2 + _ ≤ _
    omega
  | .ite n a b => by
    have z := namesL_len a
    have z2 := namesL_len b
    show (namesL a ++ namesL b).length ≤ 2 * (szs a + szs b + 1)
    rw [List.length_append]
    omega
  | .whl n b => by
    have z := namesL_len b
    show (namesL b).length ≤ 2 * (szs b + 1)
    omega
theorem namesL_len : ∀ p : List Stp, (namesL p).length ≤ 2 * szs p
  | [] => Nat.zero_le _
  | s :: r => by
    have z := names_len s
    have z2 := namesL_len r
    show (s.names ++ namesL r).length ≤ 2 * (s.sz + szs r)
    rw [List.length_append]
    omega
end
def addN (S : List Str) (x : Str) : List Str := if x ∈ S then S else S ++ [x]
theorem mem_addN {S : List Str} {x y : Str} : y ∈ addN S x ↔ y = x ∨ y ∈ S := by
  unfold addN
  by_cases c : x ∈ S
  · rw [if_pos c]
    exact ⟨.inr, fun z => z.elim (fun e => e ▸ c) id⟩
  · rw [if_neg c, List.mem_append, List.mem_singleton, or_comm]
theorem nodup_addN {S : List Str} {x : Str} (h : S.Nodup) : (addN S x).Nodup := by
  unfold addN
  by_cases c : x ∈ S
  · rw [if_pos c]
    exact h
  · rw [if_neg c]
    exact nd_snoc h c
theorem put_keys {kvs : List (Key × V)} {S : List Str} {x : Str} {v : V} (h : kvs.map (·.1) = S.map Sum.inr) : (putK kvs (Sum.inr x) v).map (·.1) = (addN S x).map Sum.inr := by
  have hin : (kvs.any fun kv => decide (kv.1 = Sum.inr x)) = decide (x ∈ S) := by
    have e : (kvs.any fun kv => decide (kv.1 = Sum.inr x)) = (kvs.map (·.1)).any fun k => decide (k = Sum.inr x) := by
      rw [List.any_map]
      rfl
    rw [e, h, List.any_map]
    rw [Bool.eq_iff_iff, List.any_eq_true, decide_eq_true_eq]
    constructor
    · rintro ⟨y, hy, z⟩
      have z := of_decide_eq_true z
      injection z with z
      rw [← z]
      exact hy
    · intro m
      exact ⟨x, m, decide_eq_true rfl⟩
  unfold putK addN
  rw [hin]
  by_cases c : x ∈ S
  · rw [if_pos (decide_eq_true c), if_pos c, List.map_map, ← h]
    refine List.map_congr_left fun kv _ => ?_
    show (if kv.1 = Sum.inr x then (kv.1, v) else kv).1 = kv.1
    split <;> rfl
  · rw [if_neg (by rw [decide_eq_false c]; decide), if_neg c, List.map_append, List.map_append, h]
    rfl
theorem sqL_dk {K : PySem.W.Frag} {H : Hp} {a p : Addr} {xs : List V} {kvs : List (Key × V)} {o : HO} (h : SqL K H a xs) (hp : H p = some (.dK kvs)) : SqL K (upd H p o) a xs := by
  rcases h with (h | ⟨u, h⟩) | h
  · exact .inl (.inl ((upd_ne fun e => by rw [e, hp] at h; cases h).trans h))
  · exact .inl (.inr ⟨u, (upd_ne fun e => by rw [e, hp] at h; cases h).trans h⟩)
  · exact .inr h
section
variable {P : Program} {w : World} {K : PySem.W.Frag} {mg : Str → Option Value} {base : Heap}
def R_names_of (ds : List PyData) (Z : PyData → Prop) : Prop := ∃ p : List Stp, Goods p ∧ deps p < 3 ∧ szs p ≤ 1000 ∧ ds = [.list (encs p)] ∧ Z = fun d => ∃ ns : List Str, d = .list (ns.map PyData.str) ∧ ns.Nodup ∧ ∀ x, x ∈ ns ↔ x ∈ namesL p
theorem sc_names_of : FnScope ["program", "names", "line", "name"] ["program"] (defScope (top 28)) := ⟨rfl, rfl, rfl, by decide +kernel, rfl, by decide +kernel, by decide +kernel⟩
theorem kn_names_of (T : Tx K mg) : Kn P w K mg base 9 "names_of" ["program"] (spN K R_names_of) := by
  have Klines_of := (kn_lines (P := P) (w := w) (base := base) T 3).2
  have Knames_in := kn_names_in (P := P) (w := w) (base := base) T
  refine kn_N (T.fn (("names_of" : Str), 28) (by decide +kernel)) sc_names_of (fun _ _ _ _ _ _ us hl => match us, hl with | [_], _ => rfl) (fun ds d h => ?_) (fun f cdv A outer s0 H vs E ds Z hr hv h => ?_)
  · obtain ⟨_, _, _, _, rfl, _⟩ := h
    rfl
  obtain ⟨p, hg, hd, hz, rfl, rfl⟩ := h
  obtain _ | ⟨h1, _ | _⟩ := hv
  rename_i v1
  have nlen := namesL_len p
  have nl := names_linesL p hg
  refine ⟨_, (pss_cons (ps_set (i := 1) sc_names_of.nd rfl (Or.inl rfl) (pe_dnewK)) (pss_cons (ps_for PassesOwn.never rfl (pi_list (pe_kn Klines_of (hr.mono (by decide)) rfl (pa_cons (pv 0) (pa_nil)))) (pg_name (i := 2) sc_names_of.nd rfl (.inl rfl)) (pss_one (ps_for PassesOwn.never rfl (pi_list (pe_kn Knames_in (hr.mono (by decide)) rfl (pa_cons (pv 2) (pa_nil)))) (pg_name (i := 3) sc_names_of.nd rfl (.inl rfl)) (pss_one (ps_asg (pe_bl) (pg_sub ((pv 1)) ((pv 3)) (set_dict (hu_of hr)))))))) (pss_one (ps_ret (pe_callTy (call_list_dK rfl) (by rfl) (T.free "list" (by decide)) (by decide +kernel) (pa_cons (pv 1) (pa_nil))))))), fun Q q => ?_⟩
  refine q_seq fun d hd0 => ?_
  have sd : Same H (upd H d (.dK [])) := same_new hd0
  refine q_forF (K := K) (gf_call (ds := [.list (encs p)]) (ga_cons (gd_var rfl (dp_mono sd h1)) ga_nil) ⟨p, hg, hd, hz, rfl, rfl⟩) fun l xs es H1 z s1 n1 l1 d1 => ?_
  have z : es = (linesL p).map PyData.str := z
  subst z
  have nld : l ≠ d := fun e => by
    rw [e, upd_same] at n1
    cases n1
  refine ⟨fun i σ' H' => Same H H' ∧ H' l = some (.lst xs) ∧ (∃ o1 o2, σ' = [some v1, some (.ref d), o1, o2]) ∧ ∃ kvs S, H' d = some (.dK kvs) ∧ kvs.map (·.1) = S.map Sum.inr ∧ S.Nodup ∧ ∀ x, x ∈ S ↔ x ∈ ((linesL p).take i).flatMap namesIn,
    ⟨sd.trans s1, l1, ⟨_, _, rfl⟩, [], [], s1 _ _ upd_same, rfl, List.nodup_nil, fun x => by rw [List.take_zero]; exact Iff.rfl⟩, fun i σ' H' h => h.2.1, fun i dd v σ' H' hdd hx hdv ⟨sm, hl, ⟨o1, o2, hσ⟩, kvs, S, hk, hks, hnd, hm⟩ => ?_, fun σ' H' ⟨sm, hl, ⟨o1, o2, hσ⟩, kvs, S, hk, hks, hnd, hm⟩ => ?_⟩
  · subst hσ
    obtain ⟨line, hline, rfl⟩ := dps_of hdd
    have ev := dp_str hdv
    subst ev
    have hlm := List.mem_of_getElem? hline
    have tk : ((linesL p).take (i + 1)).flatMap namesIn = ((linesL p).take i).flatMap namesIn ++ namesIn line := take_fm hline
    have sub : ∀ x, x ∈ ((linesL p).take (i + 1)).flatMap namesIn → x ∈ namesL p := fun x hx => by
      rw [← nl]
      obtain ⟨y, hy, hy2⟩ := List.mem_flatMap.mp hx
      exact List.mem_flatMap.mpr ⟨y, List.mem_of_mem_take hy, hy2⟩
    refine (gd_call (K := K) (ds := [.str line]) (ga_cons (gd_var rfl (.str _)) ga_nil) ⟨line, linesL_short p hg line hlm, rfl, rfl⟩) H' (Same.refl _) _ fun u H2 s2 du => ?_
    obtain ⟨b, ys, rfl, hb, dys⟩ := dp_list du
    have eys := dps_strs_eq dys
    subst eys
    refine ⟨b, rfl, ⟨_, hb⟩, for_list (K := K) (a := b) (xs := (namesIn line).map V.str) (fun j σ' H' => Same H H' ∧ H' l = some (.lst xs) ∧ SqL K H' b ((namesIn line).map V.str) ∧ (∃ o2, σ' = [some v1, some (.ref d), some (.str line), o2]) ∧ ∃ kvs S, H' d = some (.dK kvs) ∧ kvs.map (·.1) = S.map Sum.inr ∧ S.Nodup ∧ ∀ x, x ∈ S ↔ x ∈ ((linesL p).take i).flatMap namesIn ++ (namesIn line).take j)
      ⟨sm.trans s2, s2 _ _ hl, hb, ⟨_, rfl⟩, kvs, S, s2 _ _ hk, hks, hnd, fun x => by rw [List.take_zero, List.append_nil]; exact hm x⟩ (fun j σ' H' _ h => h.2.2.1) (fun j x σ' H' hx ⟨sm, hl, hb, ⟨o2, hσ⟩, kvs, S, hk, hks, hnd, hm⟩ => ?_) fun σ' H' ⟨sm, hl, hb, ⟨o2, hσ⟩, kvs, S, hk, hks, hnd, hm⟩ => ?_⟩
    · subst hσ
      obtain ⟨nm, hnm, rfl⟩ : ∃ nm, (namesIn line)[j]? = some nm ∧ x = V.str nm := by
        rw [List.getElem?_map] at hx
        cases q : (namesIn line)[j]? with
        | none =>
          rw [q] at hx
          cases hx
        | some y =>
          rw [q] at hx
          exact ⟨y, rfl, (Option.some.inj hx).symm⟩
      have lS : S.length ≤ 2000 := by
        refine Nat.le_trans (nodup_len S (namesL p) hnd fun x hx => sub x ?_) (by omega)
        rw [tk]
        rcases List.mem_append.mp ((hm x).mp hx) with h | h
        · exact List.mem_append_left _ h
        · exact List.mem_append_right _ (List.mem_of_mem_take h)
      have lk : kvs.length = S.length := by
        have e := congrArg List.length hks
        rw [List.length_map, List.length_map] at e
        exact e
      refine ⟨_, rfl, _, rfl, d, _, rfl, DPut.k (k := Sum.inr nm) hk (small_lt (by omega)), ?_⟩
      refine ⟨same_mut sm hd0, (upd_ne nld).trans hl, sqL_dk hb hk, ⟨_, rfl⟩, _, addN S nm, upd_same, put_keys hks, nodup_addN hnd, fun x => ?_⟩
      rw [mem_addN, hm x, List.take_add_one, hnm, List.mem_append, List.mem_append, List.mem_append]
      simp only [Option.toList_some, List.mem_singleton]
      constructor
      · rintro (h | h | h)
        · exact .inr (.inr h)
        · exact .inl h
        · exact .inr (.inl h)
      · rintro (h | h | h)
        · exact .inr (.inl h)
        · exact .inr (.inr h)
        · exact .inl h
    · subst hσ
      rw [List.length_map, List.take_length] at hm
      exact ⟨sm, hl, ⟨_, _, rfl⟩, kvs, S, hk, hks, hnd, fun x => by rw [tk]; exact hm x⟩
  · subst hσ
    rw [List.length_map, List.take_length, nl] at hm
    refine ⟨_, rfl, d, kvs, rfl, hk, fun u hu => ?_⟩
    have e : (kvs.map fun kv => kV kv.1) = S.map V.str := by
      have e1 : (kvs.map fun kv => kV kv.1) = (kvs.map (·.1)).map kV := by
        rw [List.map_map]
        rfl
      rw [e1, hks, List.map_map]
      rfl
    rw [e]
    exact q _ _ _ ⟨S, rfl, hnd, hm⟩ (sm.trans (same_new hu)) (.lst (SqL.of upd_same) (dps_strs S))
end
end Uw
/-! text U8 -/
/-! Methods by promise; data that avoids things. -/
namespace Uw
open PySem PySem.Spec PyProof.Rows L2
/-! ### methods -/
structure DnM (K : PySem.W.Frag) (C : Addr) (m q : Str) (st : Stmt) : Prop where
  ex : ∃ f fd, Meth K C m f ∧ FunD K m q (defArgs st) (defBody st) (defScope st) [] [] f fd
structure DnI (K : PySem.W.Frag) (C : Addr) (q : Str) (st : Stmt) : Prop where
  ex : ∃ f fd, Mk K C f ∧ FunD K "__init__" q (defArgs st) (defBody st) (defScope st) [] [] f fd
structure KnM (P : Program) (w : World) (K : PySem.W.Frag) (mg : Str → Option Value) (base : Heap) (k : Nat) (C : Addr) (m : Str) (ps : List Str) (sp : Sp) : Prop where
  ex : ∃ f fd, Meth K C m f ∧ Binds K fd ps [] ∧ FnOk P w K mg base CX0 k f fd ps sp
structure KnI (P : Program) (w : World) (K : PySem.W.Frag) (mg : Str → Option Value) (base : Heap) (k : Nat) (C : Addr) (ps : List Str) (sp : Sp) : Prop where
  ex : ∃ f fd, Mk K C f ∧ Binds K fd ps [] ∧ FnOk P w K mg base CX0 k f fd ps sp
section
variable {P : Program} {w : World} {K : PySem.W.Frag} {mg : Str → Option Value} {base : Heap} {C : Addr} {m q : Str} {st : Stmt} {N ps : List Str} {k : Nat} {sp : Sp}
theorem knM_mk (D : DnM K C m q st) (S : FnScope N ps (defScope st))
    (hb : ∀ (kV doc pm : Value) (an : Option Addr) (cdv ct : Value) (us : List Value), us.length = ps.length → bindArgs (PySem.W.fnOf m q (defArgs st) (defBody st) (defScope st) .none kV doc pm an cdv ct) ⟨us, []⟩ = pure (ps.zip us))
    (len : ∀ vs H Q E, sp vs H Q E → vs.length = ps.length)
    (hbody : ∀ (f : Addr) (cdv : Value) (A : Around) (outer : List Env) (s : Shared) (H : Hp) (vs : List V) (Q : VK) (E : XK), Room k (A.deeper (envOfC q (defScope st) s.heap.objs.size f cdv)) → sp vs H Q E →
      ∃ t, PSs (cxOf CX0 P w K mg base N q (defScope st) f cdv A outer s H E).nox (defBody st) t ∧ t { nx := fun _ H' => Q .non H', rt := Q } (start N vs) H) : KnM P w K mg base (k + 1) C m ps sp := by
  obtain ⟨f, fd, hm, F⟩ := D.ex
  refine ⟨f, fd, hm, F.bindsN hb, F.ok S len fun cdv A outer s H vs Q E hr h => ?_⟩
  obtain ⟨t, h1, h2⟩ := hbody f cdv A outer s H vs Q E hr h
  exact ⟨t, h1.nox, h2⟩
theorem knI_mk (D : DnI K C q st) (S : FnScope N ps (defScope st))
    (hb : ∀ (kV doc pm : Value) (an : Option Addr) (cdv ct : Value) (us : List Value), us.length = ps.length → bindArgs (PySem.W.fnOf "__init__" q (defArgs st) (defBody st) (defScope st) .none kV doc pm an cdv ct) ⟨us, []⟩ = pure (ps.zip us))
    (len : ∀ vs H Q E, sp vs H Q E → vs.length = ps.length)
    (hbody : ∀ (f : Addr) (cdv : Value) (A : Around) (outer : List Env) (s : Shared) (H : Hp) (vs : List V) (Q : VK) (E : XK), Room k (A.deeper (envOfC q (defScope st) s.heap.objs.size f cdv)) → sp vs H Q E →
      ∃ t, PSs (cxOf CX0 P w K mg base N q (defScope st) f cdv A outer s H E).nox (defBody st) t ∧ t { nx := fun _ H' => Q .non H', rt := Q } (start N vs) H) : KnI P w K mg base (k + 1) C ps sp := by
  obtain ⟨f, fd, hm, F⟩ := D.ex
  refine ⟨f, fd, hm, F.bindsN hb, F.ok S len fun cdv A outer s H vs Q E hr h => ?_⟩
  obtain ⟨t, h1, h2⟩ := hbody f cdv A outer s H vs Q E hr h
  exact ⟨t, h1.nox, h2⟩
end
section
variable {X : Cx} {k : Nat} {C : Addr} {m x : Str} {ps : List Str} {sp : Sp} {o e : Expr} {es : List Expr} {p pos apos : Pos} {ta : TE} {t : TA}
theorem pe_knM {pl : Sem Bool} (O : KnM X.prog X.w X.K X.mg X.base k C m ps sp) (hr : Room k X.A) (c : Cls X.K C) (he : PE X o ta) (ha : PA X (e :: es) t)
    (hst : starEach (e :: es) X.env = (false, eval e X.env) :: starEach es X.env := by rfl) (hpl : (backTo pos (starEach es X.env)).any (·.1) = false := by rfl)
    (ht : eval (.Call (.Attribute o m apos) (e :: es) [] pos) X.env = (do
      let ov ← eval o X.env
      standAt apos.atName
      let (f, first) ← holding [ov] (getMethod ov m pl)
      callWith pos f first (backTo pos (starEach (e :: es) X.env)) (backToKw pos (keywordEach [] X.env))) := by rfl) : PE X (.Call (.Attribute o m apos) (e :: es) [] pos) (tMeth C m sp [] E0 ta t) := by
  obtain ⟨f, fd, hm, hb, F⟩ := O.ex
  exact pe_meth he c hm F hr hb .nil pass0 ha hst hpl ht
theorem pe_knM0 {pl : Sem Bool} (O : KnM X.prog X.w X.K X.mg X.base k C m ps sp) (hr : Room k X.A) (c : Cls X.K C) (he : PE X o ta)
    (ht : eval (.Call (.Attribute o m apos) [] [] pos) X.env = (do
      let ov ← eval o X.env
      standAt apos.atName
      let (f, first) ← holding [ov] (getMethod ov m pl)
      callWith pos f first (backTo pos (starEach [] X.env)) (backToKw pos (keywordEach [] X.env))) := by rfl) : PE X (.Call (.Attribute o m apos) [] [] pos) (tMeth C m sp [] E0 ta tNil) := by
  obtain ⟨f, fd, hm, hb, F⟩ := O.ex
  exact pe_meth0 he c hm F hr hb .nil pass0 ht
theorem pe_knI (O : KnI X.prog X.w X.K X.mg X.base k C ps sp) (hr : Room (k + 1) X.A) (hg : Gl X x) (hm : X.mg x = some (.ref C)) (ha : PA X (e :: es) t) (hdb : (x == ("__debug__" : Str)) = false := by decide)
    (he : starEach (e :: es) X.env = (false, eval e X.env) :: starEach es X.env := by rfl) (hpl : (backTo pos (starEach es X.env)).any (·.1) = false := by rfl) : PE X (.Call (.Name x p) (e :: es) [] pos) (tMake C sp [] E0 t) := by
  obtain ⟨f, fd, M, hb, F⟩ := O.ex
  exact pe_make M F hr hg hm hb .nil pass0 ha hdb he hpl
end
/-! ### what is new; what is not at r -/
def diff (H0 H : Hp) : Hp := fun b => if (H0 b).isSome then none else H b
def off (r : Addr) (H : Hp) : Hp := fun b => if b = r then none else H b
theorem diff_some {H0 H : Hp} {b : Addr} {o : HO} : diff H0 H b = some o ↔ H0 b = none ∧ H b = some o := by
  unfold diff
  cases H0 b with
  | none => simp
  | some x => simp
theorem off_some {H : Hp} {r b : Addr} {o : HO} : off r H b = some o ↔ b ≠ r ∧ H b = some o := by
  unfold off
  by_cases e : b = r
  · simp [e]
  · simp [e]
theorem diff_le {H0 H : Hp} : Same (diff H0 H) H := fun b o h => (diff_some.mp h).2
theorem off_le {H : Hp} {r : Addr} : Same (off r H) H := fun b o h => (off_some.mp h).2
/-- all but the thing at x stays -/
def SX (x : Addr) (H H' : Hp) : Prop := ∀ b o, H b = some o → b ≠ x → H' b = some o
theorem SX.refl (x : Addr) (H : Hp) : SX x H H := fun _ _ h _ => h
theorem SX.trans {x : Addr} {H H1 H2 : Hp} (a : SX x H H1) (b : SX x H1 H2) : SX x H H2 := fun c o h n => b c o (a c o h n) n
theorem SX.of {x : Addr} {H H' : Hp} (s : Same H H') : SX x H H' := fun b o h _ => s b o h
theorem SX.upd {x : Addr} {H : Hp} {o : HO} : SX x H (upd H x o) := fun b u h n => (upd_ne n).trans h
theorem SX.off {x : Addr} {H H' : Hp} (s : SX x H H') : Same (off x H) (off x H') := fun b o h => off_some.mpr ⟨(off_some.mp h).1, s b o (off_some.mp h).2 (off_some.mp h).1⟩
/-- a free place was free before -/
theorem SX.free {x : Addr} {H H' : Hp} (s : SX x H H') {p : Addr} (h : H' p = none) (n : p ≠ x) : H p = none := by
  cases q : H p with
  | none => rfl
  | some o =>
    rw [s p o q n] at h
    cases h
/-- no data stands at an instance -/
def Sq2 (K : PySem.W.Frag) (H H' : Hp) : Prop := (∀ a xs, SqL K H a xs → SqL K H' a xs) ∧ ∀ a xs, SqT K H a xs → SqT K H' a xs
mutual
theorem dp_sq {K : PySem.W.Frag} {H H' : Hp} (s : Sq2 K H H') : ∀ {v : V} {d : PyData}, Dp K H v d → Dp K H' v d
  | _, _, .non => .non
  | _, _, .bl b => .bl b
  | _, _, .int i => .int i
  | _, _, .str x => .str x
  | _, _, .lst h t => .lst (s.1 _ _ h) (dps_sq s t)
  | _, _, .tup h t => .tup (s.2 _ _ h) (dps_sq s t)
theorem dps_sq {K : PySem.W.Frag} {H H' : Hp} (s : Sq2 K H H') : ∀ {vs : List V} {ds : List PyData}, DpAll K H vs ds → DpAll K H' vs ds
  | _, _, .nil => .nil
  | _, _, .cons h t => .cons (dp_sq s h) (dps_sq s t)
end
theorem sx_sq {K : PySem.W.Frag} {H H' : Hp} {x : Addr} {C dx : Addr} {fs : List (Str × V)} (s : SX x H H') (hx : H x = some (.ins C dx fs)) : Sq2 K H H' := by
  refine ⟨fun a xs h => ?_, fun a xs h => ?_⟩
  · rcases h with (h | ⟨o, h⟩) | h
    · exact .inl (.inl (s _ _ h fun e => by rw [e, hx] at h; cases h))
    · exact .inl (.inr ⟨o, s _ _ h fun e => by rw [e, hx] at h; cases h⟩)
    · exact .inr h
  · rcases h with (h | ⟨o, h⟩) | h
    · exact .inl (.inl (s _ _ h fun e => by rw [e, hx] at h; cases h))
    · exact .inl (.inr ⟨o, s _ _ h fun e => by rw [e, hx] at h; cases h⟩)
    · exact .inr h
theorem dp_sx {K : PySem.W.Frag} {H H' : Hp} {x : Addr} {C dx : Addr} {fs : List (Str × V)} {v : V} {d : PyData} (s : SX x H H') (hx : H x = some (.ins C dx fs)) (h : Dp K H v d) : Dp K H' v d := dp_sq (sx_sq s hx) h
end Uw
/-! text M2 -/
/-! Marked blocks. -/
namespace Uw
open PySem
inductive Blk where
  | row (r : Row)
  | lend (l : Int) (a b c : Nat) (body : List Blk) (l2 : Int)
  | ite (l n : Int) (x : List Blk) (m : Int) (y : List Blk)
  | whl (l n : Int) (x : List Blk) (l2 : Int)
mutual
def Blk.enc : Blk → PyData
  | .row r => r.enc
  | .lend l a b c body l2 => .tuple [.str "lend", .int l, .tuple [.int a, .int b, .int c], .list (bencs body), .int l2]
  | .ite l n x m y => .tuple [.str "if", .int l, .int n, .list (bencs x), .int m, .list (bencs y)]
  | .whl l n x l2 => .tuple [.str "while", .int l, .int n, .list (bencs x), .int l2]
def bencs : List Blk → List PyData
  | [] => []
  | s :: r => s.enc :: bencs r
end
/-! a row that stands for itself -/
def Row.flat : Row → Bool
  | .opn _ _ => true
  | .act _ _ _ => true
  | .cpy _ _ _ => true
  | .drp _ _ => true
  | .tie _ _ _ => true
  | _ => false
mutual
def Blk.Ok (S : Nat) : Blk → Prop
  | .row r => r.Ok S ∧ r.flat = true
  | .lend _ a b c body _ => a < S ∧ b < S ∧ c < S ∧ BOks S body
  | .ite _ _ x _ y => BOks S x ∧ BOks S y
  | .whl _ _ x _ => BOks S x
def BOks (S : Nat) : List Blk → Prop
  | [] => True
  | s :: r => s.Ok S ∧ BOks S r
end
mutual
def Blk.wt : Blk → Nat
  | .row _ => 1
  | .lend _ _ _ _ b _ => bwts b + 6
  | .ite _ _ a _ b => bwts a + bwts b + 2
  | .whl _ _ b _ => 2 * bwts b + 3
def bwts : List Blk → Nat
  | [] => 0
  | s :: r => s.wt + bwts r
end
mutual
def Blk.dep : Blk → Nat
  | .row _ => 0
  | .lend _ _ _ _ b _ => bdeps b + 1
  | .ite _ _ a _ b => max (bdeps a) (bdeps b) + 1
  | .whl _ _ b _ => bdeps b + 1
def bdeps : List Blk → Nat
  | [] => 0
  | s :: r => max s.dep (bdeps r)
end
theorem Row.Ok.mono {S S' : Nat} (h : S ≤ S') : ∀ {r : Row}, r.Ok S → r.Ok S'
  | .opn _ _, q => Nat.lt_of_lt_of_le q h
  | .act _ _ _, q => ⟨Nat.lt_of_lt_of_le q.1 h, q.2⟩
  | .cpy _ _ _, q => ⟨Nat.lt_of_lt_of_le q.1 h, Nat.lt_of_lt_of_le q.2 h⟩
  | .drp _ _, q => Nat.lt_of_lt_of_le q h
  | .tie _ _ _, q => ⟨Nat.lt_of_lt_of_le q.1 h, Nat.lt_of_lt_of_le q.2 h⟩
  | .tst _ _ _, _ => trivial
  | .jmp _ _, _ => trivial
  | .fin _, _ => trivial
mutual
theorem Blk.Ok.mono {S S' : Nat} (h : S ≤ S') : ∀ {b : Blk}, b.Ok S → b.Ok S'
  | .row _, q => ⟨q.1.mono h, q.2⟩
  | .lend _ _ _ _ _ _, q => ⟨Nat.lt_of_lt_of_le q.1 h, Nat.lt_of_lt_of_le q.2.1 h, Nat.lt_of_lt_of_le q.2.2.1 h, BOks.mono h q.2.2.2⟩
  | .ite _ _ _ _ _, q => ⟨BOks.mono h q.1, BOks.mono h q.2⟩
  | .whl _ _ _ _, q => BOks.mono (S := S) h q
theorem BOks.mono {S S' : Nat} (h : S ≤ S') : ∀ {bs : List Blk}, BOks S bs → BOks S' bs
  | [], _ => trivial
  | _ :: _, q => ⟨Blk.Ok.mono h q.1, BOks.mono h q.2⟩
end
theorem bencs_map : ∀ p : List Blk, bencs p = p.map Blk.enc
  | [] => rfl
  | s :: r => by
    show s.enc :: bencs r = _
    rw [bencs_map r]
    rfl
theorem BOks_app {S : Nat} : ∀ {p q : List Blk}, BOks S p → BOks S q → BOks S (p ++ q)
  | [], _, _, h => h
  | _ :: _, _, g, h => ⟨g.1, BOks_app g.2 h⟩
theorem bwts_app : ∀ p q : List Blk, bwts (p ++ q) = bwts p + bwts q
  | [], q => by show bwts q = 0 + _; rw [Nat.zero_add]
  | s :: p, q => by
    show s.wt + bwts (p ++ q) = s.wt + bwts p + bwts q
    rw [bwts_app p q, Nat.add_assoc]
theorem bdeps_app : ∀ p q : List Blk, bdeps (p ++ q) = max (bdeps p) (bdeps q)
  | [], q => by show bdeps q = max 0 _; omega
  | s :: p, q => by
    show max s.dep (bdeps (p ++ q)) = max (max s.dep (bdeps p)) (bdeps q)
    rw [bdeps_app p q]
    omega
theorem wts_app : ∀ p q : List Stp, wts (p ++ q) = wts p + wts q
  | [], q => by show wts q = 0 + _; rw [Nat.zero_add]
  | s :: p, q => by
    show s.wt + wts (p ++ q) = s.wt + wts p + wts q
    rw [wts_app p q, Nat.add_assoc]
theorem lends_app : ∀ p q : List Stp, lendsL (p ++ q) = lendsL p + lendsL q
  | [], q => by show lendsL q = 0 + _; rw [Nat.zero_add]
  | s :: p, q => by
    show s.lends + lendsL (p ++ q) = s.lends + lendsL p + lendsL q
    rw [lends_app p q, Nat.add_assoc]
end Uw
/-! text T19 -/
namespace Uw
open PySem PySem.Spec PyProof.Rows L2
/-! Marker: __init__, next_line -/
structure TM (K : PySem.W.Frag) (mg : Str → Option Value) (C : Addr) : Prop where
  cl : Cls K C
  nS : NoAttr K C "slots"
  nL : NoAttr K C "line"
  nE : NoAttr K C "lent"
  mgC : mg "Marker" = some (.ref C)
  dI : DnI K C "Marker.__init__" (inClass (top 30) 0)
  dN : DnM K C "next_line" "Marker.next_line" (inClass (top 30) 1)
  dM : DnM K C "marked" "Marker.marked" (inClass (top 30) 2)
  dS : DnM K C "marked_step" "Marker.marked_step" (inClass (top 30) 3)
def fl (d : Addr) (l e : Nat) : List (Str × V) := [("slots", .ref d), ("line", .int l), ("lent", .int e)]
theorem b1 : (("line" : Str) == ("slots" : Str)) = false := by decide +kernel
theorem b2 : (("lent" : Str) == ("slots" : Str)) = false := by decide +kernel
theorem b3 : (("lent" : Str) == ("line" : Str)) = false := by decide +kernel
theorem n1 : ¬ (("slots" : Str) = "line") := by decide +kernel
theorem n2 : ¬ (("slots" : Str) = "lent") := by decide +kernel
theorem n3 : ¬ (("line" : Str) = "lent") := by decide +kernel
theorem fl_slots (d : Addr) (l e : Nat) : (fl d l e).lookup ("slots" : Str) = some (.ref d) := by
  simp only [fl, List.lookup, beq_self_eq_true]
theorem fl_line (d : Addr) (l e : Nat) : (fl d l e).lookup ("line" : Str) = some (.int l) := by
  simp only [fl, List.lookup, b1, beq_self_eq_true]
theorem fl_lent (d : Addr) (l e : Nat) : (fl d l e).lookup ("lent" : Str) = some (.int e) := by
  simp only [fl, List.lookup, b2, b3, beq_self_eq_true]
theorem fl_none {m : Str} (h1 : (m == "slots") = false) (h2 : (m == "line") = false) (h3 : (m == "lent") = false) (d : Addr) (l e : Nat) : (fl d l e).lookup m = none := by
  simp only [fl, List.lookup, h1, h2, h3]
theorem fl_mk (d : Addr) (l e : Nat) : putF "lent" (V.int e) (putF "line" (.int l) (putF "slots" (.ref d) [])) = fl d l e := by
  have e1 : putF "line" (.int l) (putF "slots" (.ref d) []) = [(("slots" : Str), V.ref d), ("line", .int l)] := by
    show (if ("slots" : Str) = "line" then _ else (("slots" : Str), V.ref d) :: putF "line" (V.int l) []) = _
    rw [if_neg n1]
    rfl
  rw [e1]
  show (if ("slots" : Str) = "lent" then _ else (("slots" : Str), V.ref d) :: (if ("line" : Str) = "lent" then _ else _ :: putF "lent" (V.int e) [])) = _
  rw [if_neg n2, if_neg n3]
  rfl
theorem fl_putL (d : Addr) (l e l' : Nat) : putF "line" (V.int l') (fl d l e) = fl d l' e := by
  show (if ("slots" : Str) = "line" then _ else (("slots" : Str), V.ref d) :: (if ("line" : Str) = "line" then _ else _)) = _
  rw [if_neg n1, if_pos rfl]
  rfl
theorem fl_putE (d : Addr) (l e e' : Nat) : putF "lent" (V.int e') (fl d l e) = fl d l e' := by
  show (if ("slots" : Str) = "lent" then _ else (("slots" : Str), V.ref d) :: (if ("line" : Str) = "lent" then _ else _ :: (if ("lent" : Str) = "lent" then _ else _))) = _
  rw [if_neg n2, if_neg n3, if_pos rfl]
  rfl
/-- a Marker at x: its names' slots, lines and loans so far -/
structure MAt (C : Addr) (H : Hp) (x d : Addr) (ns : List Str) (l e : Nat) : Prop where
  ob : ∃ dx, H x = some (.ins C dx (fl d l e))
  dc : ∃ kvs, H d = some (.dK kvs) ∧ ∀ n ∈ ns, ∃ i : Nat, i < ns.length ∧ valV kvs (Sum.inr n : Key) = some (.int i)
theorem MAt.ne {C : Addr} {H : Hp} {x d : Addr} {ns : List Str} {l e : Nat} (M : MAt C H x d ns l e) : x ≠ d := by
  obtain ⟨dx, h1⟩ := M.ob
  obtain ⟨kvs, h2, _⟩ := M.dc
  intro z
  rw [← z, h1] at h2
  cases h2
theorem MAt.mono {C : Addr} {H H' : Hp} {x d : Addr} {ns : List Str} {l e : Nat} (M : MAt C H x d ns l e) (s : Same H H') : MAt C H' x d ns l e := by
  obtain ⟨dx, h1⟩ := M.ob
  obtain ⟨kvs, h2, h3⟩ := M.dc
  exact ⟨⟨dx, s _ _ h1⟩, kvs, s _ _ h2, h3⟩
theorem off_sq {K : PySem.W.Frag} {H : Hp} {x C dx : Addr} {fs : List (Str × V)} (hx : H x = some (.ins C dx fs)) : Sq2 K H (off x H) := by
  refine ⟨fun a xs h => ?_, fun a xs h => ?_⟩
  · rcases h with (h | ⟨o, h⟩) | h
    · exact .inl (.inl (off_some.mpr ⟨fun e => (by rw [e, hx] at h; cases h), h⟩))
    · exact .inl (.inr ⟨o, off_some.mpr ⟨fun e => (by rw [e, hx] at h; cases h), h⟩⟩)
    · exact .inr h
  · rcases h with (h | ⟨o, h⟩) | h
    · exact .inl (.inl (off_some.mpr ⟨fun e => (by rw [e, hx] at h; cases h), h⟩))
    · exact .inl (.inr ⟨o, off_some.mpr ⟨fun e => (by rw [e, hx] at h; cases h), h⟩⟩)
    · exact .inr h
section
variable {P : Program} {w : World} {K : PySem.W.Frag} {mg : Str → Option Value} {base : Heap} {C : Addr}
def spNext (C : Addr) : Sp := fun vs H Q _ => ∃ x d ns l e, vs = [.ref x] ∧ MAt C H x d ns l e ∧ ∀ H', MAt C H' x d ns (l + 1) e → SX x H H' → H' x ≠ none → Q (.int (l : Nat)) H'
theorem sc_Marker_next_line : FnScope ["self"] ["self"] (defScope (inClass (top 30) 1)) := ⟨rfl, rfl, rfl, by decide +kernel, rfl, by decide +kernel, by decide +kernel⟩
theorem kn_next (TMk : TM K mg C) : KnM P w K mg base 1 C "next_line" ["self"] (spNext C) := by
  refine knM_mk TMk.dN sc_Marker_next_line (fun _ _ _ _ _ _ us hl => match us, hl with | [_], _ => rfl) (fun vs H Q E h => ?_) (fun f cdv A outer s0 H vs Q E hr h => ?_)
  · obtain ⟨_, _, _, _, _, rfl, _⟩ := h
    rfl
  obtain ⟨x, d, ns, l, e, rfl, M, q⟩ := h
  obtain ⟨dx, h1⟩ := M.ob
  obtain ⟨kvs, h2, h3⟩ := M.dc
  refine ⟨_, (pss_cons (ps_fldaug (pv 0) (pe_int) in_add) (pss_one (ps_ret (pe_op op_sub (pe_fld (pv 0) rfl) (pe_int))))), ?_⟩
  refine ⟨_, rfl, x, C, dx, _, _, rfl, h1, TMk.cl, TMk.nL, fl_line d l e, l, 1, rfl, rfl, dx, _, h1, (by show 3 < 1000; decide), ?_⟩
  have e1 : putF "line" (V.int ((l : Int) + 1)) (fl d l e) = fl d (l + 1) e := fl_putL d l e (l + 1)
  rw [e1]
  refine ⟨_, rfl, x, C, dx, _, _, rfl, upd_same, TMk.cl, TMk.nL, fl_line d (l + 1) e, _, _, rfl, rfl, ?_⟩
  have e2 : (((l + 1 : Nat) : Int) - 1) = (l : Int) := by omega
  show Q (V.int (((l + 1 : Nat) : Int) - 1)) _
  rw [e2]
  exact q _ ⟨⟨dx, upd_same⟩, kvs, (upd_ne fun z => M.ne z.symm).trans h2, h3⟩ SX.upd (by rw [upd_same]; exact fun z => by cases z)
/-- __init__ -/
def spInit (C : Addr) (K : PySem.W.Frag) : Sp := fun vs H Q _ => ∃ (x dx : Addr) (v : V) (ns : List Str), vs = [.ref x, v] ∧ H x = some (.ins C dx []) ∧ Dp K H v (.list (ns.map PyData.str)) ∧ ns.Nodup ∧ ns.length ≤ 1000 ∧
  ∀ d H', H d = none → MAt C H' x d ns 0 ns.length → SX x H H' → Q .non H'
theorem sc_Marker___init__ : FnScope ["self", "names", "name"] ["self", "names"] (defScope (inClass (top 30) 0)) := ⟨rfl, rfl, rfl, by decide +kernel, rfl, by decide +kernel, by decide +kernel⟩
theorem kn_init (T : Tx K mg) (TMk : TM K mg C) : KnI P w K mg base 1 C ["self", "names"] (spInit C K) := by
  refine knI_mk TMk.dI sc_Marker___init__ (fun _ _ _ _ _ _ us hl => match us, hl with | [_, _], _ => rfl) (fun vs H Q E h => ?_) (fun f cdv A outer s0 H vs Q E hr h => ?_)
  · obtain ⟨_, _, _, _, rfl, _⟩ := h
    rfl
  obtain ⟨x, dx, v, ns, rfl, hx, dv, nd, nl, q⟩ := h
  refine ⟨_, (pss_cons (ps_fld (pv 0) (pe_dnewK) rfl) (pss_cons (ps_for PassesOwn.never rfl (pi_list (pv 1)) (pg_name (i := 2) sc_Marker___init__.nd rfl (.inl rfl)) (pss_one (ps_asg (pe_callB call_lenD (by rfl) (T.free "len" (by decide)) PySem.boot_len (pa_cons (pe_fld (pv 0) rfl) (pa_nil))) (pg_sub ((pe_fld (pv 0) rfl)) ((pv 2)) (set_dict (hu_of hr)))))) (pss_cons (ps_fld (pv 0) (pe_int) rfl) (pss_one (ps_fld (pv 0) (pe_callB call_ln (by rfl) (T.free "len" (by decide)) PySem.boot_len (pa_cons (pv 1) (pa_nil))) rfl))))), ?_⟩
  intro d hd
  have nxd : x ≠ d := fun z => by
    rw [z, hd] at hx
    cases hx
  have fs1 : putF "slots" (V.ref d) [] = [(("slots" : Str), V.ref d)] := rfl
  refine ⟨_, rfl, x, C, dx, [], rfl, (upd_ne nxd).trans hx, TMk.cl, TMk.nS, by show 0 < 1000; decide, ?_⟩
  rw [fs1]
  have lk : ([(("slots" : Str), V.ref d)] : List (Str × V)).lookup ("slots" : Str) = some (.ref d) := by simp only [List.lookup, beq_self_eq_true]
  have hxo : Dp K (off x H) v (.list (ns.map PyData.str)) := dp_sq (off_sq hx) dv
  have sx0 : SX x H (upd (upd H d (.dK [])) x (.ins C dx [(("slots" : Str), V.ref d)])) := (SX.of (same_new hd)).trans SX.upd
  have so : ∀ {H'}, SX x H H' → Same (off x H) H' := fun s b o h => s b o (off_some.mp h).2 (off_some.mp h).1
  refine q_forV (K := K) (H0 := off x H) (ds := ns.map PyData.str) (v := v) (fun i σ' H' => Same (off x H) H' ∧ SX x H H' ∧ (∃ o, σ' = [some (.ref x), some v, o]) ∧ H' x = some (.ins C dx [(("slots" : Str), V.ref d)]) ∧ ∃ kvs, H' d = some (.dK kvs) ∧ kvs.map (·.1) = (ns.take i).map Sum.inr ∧ ∀ n ∈ ns.take i, ∃ j : Nat, j < i ∧ valV kvs (Sum.inr n : Key) = some (.int j))
    rfl hxo (so sx0) ⟨so sx0, sx0, ⟨_, rfl⟩, upd_same, [], (upd_ne (Ne.symm nxd)).trans upd_same, by rw [List.take_zero]; rfl, fun n h => by rw [List.take_zero] at h; cases h⟩ (fun i σ' H' p => p.1) (fun i dd y σ' H' hdd hP dy => ?_) fun σ' H' hP => ?_
  · obtain ⟨n, hn, rfl⟩ := dps_of hdd
    obtain ⟨so', sx, ⟨o, rfl⟩, h1, kvs, h2, h3, h4⟩ := hP
    have ey := dp_str dy
    subst ey
    have hi : i < ns.length := (List.getElem?_eq_some_iff.mp hn).1
    have lk2 : kvs.length = i := by
      have e := congrArg List.length h3
      rw [List.length_map, List.length_map, List.length_take] at e
      omega
    have tk : ns.take (i + 1) = ns.take i ++ [n] := by rw [List.take_add_one, hn]; rfl
    have hnew : n ∉ ns.take i := fun m => by
      have z : (ns.take (i + 1)).Nodup := nd.sublist (List.take_sublist _ _)
      rw [tk, List.nodup_append] at z
      exact z.2.2 n m n List.mem_cons_self rfl
    refine ⟨_, rfl, x, C, dx, _, _, rfl, h1, TMk.cl, TMk.nS, lk, d, kvs, rfl, h2, ?_⟩
    refine ⟨_, rfl, x, C, dx, _, _, rfl, h1, TMk.cl, TMk.nS, lk, _, rfl, d, _, rfl, DPut.k (k := Sum.inr n) h2 (small_lt (by omega)), ?_⟩
    have sx' : SX x H (upd H' d (.dK (putK kvs (Sum.inr n) (.int kvs.length)))) := fun b o h hb => (upd_ne fun e => by rw [e, hd] at h; cases h).trans (sx b o h hb)
    refine ⟨so sx', sx', ⟨_, rfl⟩, (upd_ne nxd).trans h1, _, upd_same, ?_, fun m hm => ?_⟩
    · rw [put_keys h3, tk]
      unfold addN
      rw [if_neg hnew]
    · rw [tk] at hm
      rw [lk2]
      rcases List.mem_append.mp hm with hm | hm
      · obtain ⟨j, hj, e⟩ := h4 m hm
        refine ⟨j, by omega, ?_⟩
        rw [valV_put, if_neg fun z => hnew (by injection z with z; rw [← z]; exact hm)]
        exact e
      · rw [List.mem_singleton.mp hm]
        exact ⟨i, by omega, by rw [valV_put, if_pos rfl]⟩
  · obtain ⟨so', sx, ⟨o, rfl⟩, h1, kvs, h2, h3, h4⟩ := hP
    rw [List.length_map, List.take_length] at h3 h4
    refine ⟨_, rfl, x, C, dx, _, rfl, h1, TMk.cl, TMk.nL, by show 1 < 1000; decide, ?_⟩
    obtain ⟨av, xs, rfl, hl1, hl2⟩ := dp_list hxo
    have hlx : SqL K (upd H' x (.ins C dx (putF "line" (.int (0 : Nat)) [(("slots" : Str), V.ref d)]))) av xs := Same.seq (so (sx.trans SX.upd)) hl1
    refine ⟨_, rfl, av, xs, rfl, .inl hlx, ?_⟩
    refine ⟨_, rfl, x, C, dx, _, rfl, upd_same, TMk.cl, TMk.nE, by show 2 < 1000; decide, ?_⟩
    have e := fl_mk d 0 ns.length
    have lx : xs.length = ns.length := by rw [dps_len hl2, List.length_map]
    rw [lx]
    refine q d _ hd ⟨⟨dx, ?_⟩, kvs, ?_, h4⟩ ?_
    · rw [← e]
      exact upd_same
    · exact (upd_ne (Ne.symm nxd)).trans ((upd_ne (Ne.symm nxd)).trans h2)
    · exact (sx.trans SX.upd).trans SX.upd
end
end Uw
/-! text T20 -/
namespace Uw
open PySem PySem.Spec PyProof.Rows L2
/-! Marker: marked, marked_step -/
theorem dsx {x : Addr} {A A' B B' : Hp} (s1 : SX x A' A) (hx : A x ≠ none) (s2 : SX x B B') : Same (diff A B) (diff A' B') := fun b o h => by
  obtain ⟨h1, h2⟩ := diff_some.mp h
  have nb : b ≠ x := fun e => hx (e ▸ h1)
  exact diff_some.mpr ⟨s1.free h1 nb, s2 b o h2 nb⟩
def spMd (K : PySem.W.Frag) (C : Addr) (n : Nat) : Sp := fun vs H Q _ => ∃ x d ns l e v p, vs = [.ref x, v] ∧ MAt C H x d ns l e ∧ Dp K H v (.list (encs p)) ∧ Goods p ∧ deps p < n ∧ szs p ≤ 1000 ∧ (∀ y ∈ namesL p, y ∈ ns) ∧ ns.length ≤ e ∧
  ∀ H' v' bs l', MAt C H' x d ns l' (e + lendsL p) → SX x H H' → Dp K (diff H H') v' (.list (bencs bs)) → BOks (e + lendsL p) bs → bwts bs ≤ wts p → bdeps bs ≤ deps p → Q v' H'
def spMs (K : PySem.W.Frag) (C : Addr) (n : Nat) : Sp := fun vs H Q _ => ∃ x d ns l e v s, vs = [.ref x, v] ∧ MAt C H x d ns l e ∧ Dp K H v (Stp.enc s) ∧ s.Good ∧ s.dep < n ∧ s.sz ≤ 1000 ∧ (∀ y ∈ s.names, y ∈ ns) ∧ ns.length ≤ e ∧
  ∀ H' v' b l', MAt C H' x d ns l' (e + s.lends) → SX x H H' → Dp K (diff H H') v' (Blk.enc b) → b.Ok (e + s.lends) → b.wt ≤ s.wt → b.dep ≤ s.dep → Q v' H'
theorem namesL_app : ∀ p q : List Stp, namesL (p ++ q) = namesL p ++ namesL q
  | [], _ => rfl
  | s :: p, q => by
    show s.names ++ namesL (p ++ q) = s.names ++ namesL p ++ namesL q
    rw [namesL_app p q, List.append_assoc]
theorem mem_names : ∀ {p : List Stp} {s : Stp} {y : Str}, s ∈ p → y ∈ s.names → y ∈ namesL p
  | a :: p, s, y, m, h => by
    show y ∈ a.names ++ namesL p
    rcases List.mem_cons.mp m with e | m
    · subst e
      exact List.mem_append_left _ h
    · exact List.mem_append_right _ (mem_names m h)
theorem lends_take (p : List Stp) (i : Nat) : lendsL (p.take i) ≤ lendsL p := by
  have z := lends_app (p.take i) (p.drop i)
  rw [List.take_append_drop] at z
  omega
theorem wts_take (p : List Stp) (i : Nat) : wts (p.take i) ≤ wts p := by
  have z := wts_app (p.take i) (p.drop i)
  rw [List.take_append_drop] at z
  omega
section
variable {P : Program} {w : World} {K : PySem.W.Frag} {mg : Str → Option Value} {base : Heap} {C : Addr}
theorem sc_Marker_marked : FnScope ["self", "steps", "found", "step"] ["self", "steps"] (defScope (inClass (top 30) 2)) := ⟨rfl, rfl, rfl, by decide +kernel, rfl, by decide +kernel, by decide +kernel⟩
theorem kn_md (TMk : TM K mg C) (n : Nat) (KMmarked_step : KnM P w K mg base (2 * n + 2) C "marked_step" ["self", "step"] (spMs K C n)) : KnM P w K mg base (2 * n + 3) C "marked" ["self", "steps"] (spMd K C n) := by
  refine knM_mk TMk.dM sc_Marker_marked (fun _ _ _ _ _ _ us hl => match us, hl with | [_, _], _ => rfl) (fun vs H Q E h => ?_) (fun f cdv A outer s0 H vs Q E hr h => ?_)
  · obtain ⟨_, _, _, _, _, _, _, rfl, _⟩ := h
    rfl
  obtain ⟨x, d, ns, l, e, v, p, rfl, M, dv, hg, hd, hz, hns, hne, q⟩ := h
  obtain ⟨dx, hx⟩ := M.ob
  have hx0 : H x ≠ none := by rw [hx]; exact fun z => by cases z
  refine ⟨_, (pss_cons (ps_set (i := 2) sc_Marker_marked.nd rfl (Or.inl rfl) (pe_lst (pa_nil))) (pss_cons (ps_for PassesOwn.never rfl (pi_list (pv 1)) (pg_name (i := 3) sc_Marker_marked.nd rfl (.inl rfl)) (pss_one (ps_expr (pe_bm PySem.F.plainAttrs_list PySem.F.slot_list_append PySem.F.type_list_append mt_append (pv 2) (pa_cons (pe_knM KMmarked_step hr TMk.cl (pv 0) (pa_cons (pv 3) (pa_nil))) (pa_nil)))))) (pss_one (ps_ret (pv 2))))), ?_⟩
  refine q_asgF (K := K) (gf_lst (Z := fun es => es = []) ga_nil (Nat.zero_le _) rfl) fun u H3 xs es z s3 n3 l3 d3 => ?_
  subst z
  cases d3
  have dvo : Dp K (off x H) v (.list (encs p)) := dp_sq (off_sq hx) dv
  rw [encs_map] at dvo
  have so : ∀ {H'}, SX x H H' → Same (off x H) H' := fun s b o h => s b o (off_some.mp h).2 (off_some.mp h).1
  refine q_forV (K := K) (H0 := off x H) (ds := p.map Stp.enc) (v := v) (fun i σ' H' => Same (off x H) H' ∧ SX x H H' ∧ (∃ o, σ' = [some (.ref x), some v, some (.ref u), o]) ∧ ∃ acc bs l', MAt C H' x d ns l' (e + lendsL (p.take i)) ∧ H' u = some (.lst acc) ∧ DpAll K (off u (diff H H')) acc (bencs bs) ∧
      BOks (e + lendsL (p.take i)) bs ∧ bwts bs ≤ wts (p.take i) ∧ bdeps bs ≤ deps p ∧ acc.length = i) rfl dvo (so (SX.of s3)) ⟨so (SX.of s3), SX.of s3, ⟨_, rfl⟩, [], [], l, M.mono s3, l3, .nil, trivial, Nat.zero_le _, Nat.zero_le _, rfl⟩ (fun i σ' H' p => p.1) (fun i dd y σ' H' hdd hP dy => ?_) fun σ' H' hP => ?_
  · obtain ⟨s, hs, rfl⟩ := dps_of hdd
    obtain ⟨_, sx, ⟨o, rfl⟩, acc, bs, l', M', hu, hacc, hok, hwt, hdp, hal⟩ := hP
    have hm := List.mem_of_getElem? hs
    obtain ⟨dx', hx'⟩ := M'.ob
    have hx'0 : H' x ≠ none := by rw [hx']; exact fun z => by cases z
    have nux : u ≠ x := fun z => by rw [z, hx'] at hu; cases hu
    have z1 := mem_dep hm
    have z2 := mem_sz hm
    have hi : i < p.length := (List.getElem?_eq_some_iff.mp hs).1
    refine ⟨_, rfl, .inl ⟨rfl, _, SqL.of hu⟩, ?_⟩
    refine ⟨_, rfl, x, dx', _, rfl, hx', fl_none (by decide +kernel) (by decide +kernel) (by decide +kernel) d _ _, ⟨y, rfl, x, d, ns, l', _, y, s, rfl, M', dy, mem_good hg hm, by omega, by omega, fun z hz => hns z (mem_names hm hz), by omega, fun H4 v4 b l4 M4 sx4 d4 ok4 wt4 dp4 => ?_⟩⟩
    have hu4 : H4 u = some (.lst acc) := sx4 _ _ hu nux
    have tk : p.take (i + 1) = p.take i ++ [s] := by rw [List.take_add_one, hs]; rfl
    have el : e + lendsL (p.take (i + 1)) = e + lendsL (p.take i) + s.lends := by
      rw [tk, lends_app]
      show e + (lendsL (p.take i) + (s.lends + 0)) = _
      omega
    have ew : wts (p.take (i + 1)) = wts (p.take i) + s.wt := by
      rw [tk, wts_app]
      show _ + (s.wt + 0) = _
      omega
    have hlen : acc.length ≤ 1000 := by
      have y1 : ∀ q : List Stp, q.length ≤ szs q := by
        intro q
        induction q with
        | nil => exact Nat.le_refl _
        | cons a q ih =>
          show q.length + 1 ≤ a.sz + szs q
          have : 1 ≤ a.sz := by cases a <;> (first | exact Nat.le_refl _ | exact Nat.le_add_left _ _)
          omega
      have := y1 p
      omega
    have u0 : H u = none := n3
    have sx5 : SX x H (upd H4 u (.lst (acc ++ [v4]))) := fun b o h hb => (upd_ne fun e => by rw [e, u0] at h; cases h).trans (sx4 b o (sx b o h hb) hb)
    refine ⟨u, acc, v4, rfl, rfl, hu4, small_lt (by omega), so sx5, sx5, ⟨_, rfl⟩, acc ++ [v4], bs ++ [b], l4, ?_, upd_same, ?_, ?_, ?_, ?_, by rw [List.length_append, hal]; rfl⟩
    · rw [el]
      obtain ⟨dx4, h5⟩ := M4.ob
      obtain ⟨kvs, h6, h7⟩ := M4.dc
      refine ⟨⟨dx4, (upd_ne (Ne.symm nux)).trans h5⟩, kvs, (upd_ne fun z => ?_).trans h6, h7⟩
      rw [← z, h6] at hu4
      cases hu4
    · rw [bencs_map, List.map_append, ← bencs_map]
      refine dps_append (dps_mono (fun b o h => ?_) hacc) (.cons (dp_mono (fun b o h => ?_) d4) .nil)
      · obtain ⟨h1, h2⟩ := off_some.mp h
        obtain ⟨h3, h4⟩ := diff_some.mp h2
        exact off_some.mpr ⟨h1, diff_some.mpr ⟨h3, (upd_ne h1).trans (sx4 b o h4 fun e => hx0 (e ▸ h3))⟩⟩
      · obtain ⟨h1, h2⟩ := diff_some.mp h
        have nbx : b ≠ x := fun e => hx'0 (e ▸ h1)
        have nbu : b ≠ u := fun e => by rw [e, hu] at h1; cases h1
        exact off_some.mpr ⟨nbu, diff_some.mpr ⟨sx.free h1 nbx, (upd_ne nbu).trans h2⟩⟩
    · rw [el]
      exact BOks_app (hok.mono (by omega)) ⟨ok4, trivial⟩
    · rw [ew, bwts_app]
      show bwts bs + (b.wt + 0) ≤ _
      omega
    · rw [bdeps_app]
      show max (bdeps bs) (max b.dep 0) ≤ _
      omega
  · obtain ⟨_, sx, ⟨o, rfl⟩, acc, bs, l', M', hu, hacc, hok, hwt, hdp, hal⟩ := hP
    rw [List.length_map, List.take_length] at M' hok hwt
    exact ⟨_, rfl, q H' _ bs l' M' sx (.lst (SqL.of (diff_some.mpr ⟨n3, hu⟩)) (dps_mono off_le hacc)) hok hwt hdp⟩
end
end Uw
/-! text T21 -/
namespace Uw
open PySem PySem.Spec PyProof.Rows L2
/-! Marker.marked_step -/
section
variable {P : Program} {w : World} {K : PySem.W.Frag} {mg : Str → Option Value} {base : Heap} {C : Addr} {σ : L2.St} {H : Hp} {x d : Addr} {ns : List Str} {l e j n : Nat} {E : XK} {Q : VK} {te : TE}
theorem call_next (TMk : TM K mg C) (hv : σ[j]? = some (some (.ref x))) (M : MAt C H x d ns l e) (k : ∀ H', MAt C H' x d ns (l + 1) e → SX x H H' → Q (.int l) H') : tMeth C "next_line" (spNext C) [] E (tVar j) tNil σ H Q := by
  obtain ⟨dx, hx⟩ := M.ob
  exact ⟨_, hv, x, dx, _, rfl, hx, fl_none (by decide +kernel) (by decide +kernel) (by decide +kernel) d l e, x, d, ns, l, e, rfl, M, fun H' M' s _ => k H' M' s⟩
theorem call_md {v : V} {p : List Stp} (hv : σ[j]? = some (some (.ref x))) (M : MAt C H x d ns l e) (hr : Rs te σ H v) (dv : Dp K H v (.list (encs p))) (hg : Goods p) (hd : deps p < n) (hz : szs p ≤ 1000) (hns : ∀ y ∈ namesL p, y ∈ ns) (hne : ns.length ≤ e)
    (k : ∀ H' v' bs l', MAt C H' x d ns l' (e + lendsL p) → SX x H H' → Dp K (diff H H') v' (.list (bencs bs)) → BOks (e + lendsL p) bs → bwts bs ≤ wts p → bdeps bs ≤ deps p → Q v' H') : tMeth C "marked" (spMd K C n) [] E (tVar j) (tCons te tNil) σ H Q := by
  obtain ⟨dx, hx⟩ := M.ob
  exact ⟨_, hv, x, dx, _, rfl, hx, fl_none (by decide +kernel) (by decide +kernel) (by decide +kernel) d l e, hr _ ⟨x, d, ns, l, e, v, p, rfl, M, dv, hg, hd, hz, hns, hne, k⟩⟩
theorem rs_slot {nm : Str} (TMk : TM K mg C) (hv : σ[j]? = some (some (.ref x))) (M : MAt C H x d ns l e) (hr : Rs te σ H (.str nm)) (hm : nm ∈ ns) : ∃ i : Nat, i < ns.length ∧ Rs (tDGet (tFld K (tVar j) "slots") te) σ H (.int i) := by
  obtain ⟨dx, hx⟩ := M.ob
  obtain ⟨kvs, hk, hi⟩ := M.dc
  obtain ⟨i, h1, h2⟩ := hi nm hm
  refine ⟨i, h1, fun Q q => ⟨_, hv, x, C, dx, _, _, rfl, hx, TMk.cl, TMk.nS, fl_slots d l e, hr _ ⟨d, _, rfl, h2 ▸ DGet.k (k := Sum.inr nm) hk, q⟩⟩⟩
theorem rs_fld {f : Str} {v : V} {dx : Addr} {fs : List (Str × V)} (TMk : TM K mg C) (hv : σ[j]? = some (some (.ref x))) (hx : H x = some (.ins C dx fs)) (nf : NoAttr K C f) (hl : fs.lookup f = some v) : Rs (tFld K (tVar j) f) σ H v := fun Q q => ⟨_, hv, x, C, dx, _, _, rfl, hx, TMk.cl, nf, hl, q⟩
theorem MAt.fn (M : MAt C H x d ns l e) : ∃ (kvs : List (Key × V)) (f : Str → Nat), H d = some (.dK kvs) ∧ ∀ n ∈ ns, f n < ns.length ∧ valV kvs (Sum.inr n : Key) = some (.int (f n)) := by
  obtain ⟨kvs, hk, hi⟩ := M.dc
  refine ⟨kvs, fun n => if h : n ∈ ns then Classical.choose (hi n h) else 0, hk, fun n hn => ?_⟩
  have z := Classical.choose_spec (hi n hn)
  simp only [dif_pos hn]
  exact z
theorem rs_slotf {nm : Str} {kvs : List (Key × V)} {i : Nat} (TMk : TM K mg C) (hv : σ[j]? = some (some (.ref x))) (M : MAt C H x d ns l e) (hk : H d = some (.dK kvs)) (hi : valV kvs (Sum.inr nm : Key) = some (.int i)) (hr : Rs te σ H (.str nm)) : Rs (tDGet (tFld K (tVar j) "slots") te) σ H (.int i) := by
  obtain ⟨dx, hx⟩ := M.ob
  exact fun Q q => ⟨_, hv, x, C, dx, _, _, rfl, hx, TMk.cl, TMk.nS, fl_slots d l e, hr _ ⟨d, _, rfl, hi ▸ DGet.k (k := Sum.inr nm) hk, q⟩⟩
/-- a tuple of what is read -/
def RsA (ta : TA) (σ : L2.St) (H : Hp) (vs : List V) : Prop := ∀ Q : List V → Hp → Prop, Q vs H → ta σ H Q
theorem rsa_nil : RsA tNil σ H [] := fun Q q => q
theorem rsa_cons {v : V} {vs : List V} {tr : TA} (h : Rs te σ H v) (t : RsA tr σ H vs) : RsA (tCons te tr) σ H (v :: vs) := fun Q q => h _ (t _ q)
theorem tup_rs {ta : TA} {vs : List V} (h : RsA ta σ H vs) (hl : vs.length ≤ 100) (k : ∀ p, H p = none → Q (.ref p) (upd H p (.tup vs))) : tTup ta σ H Q := h _ ⟨small_le (Nat.le_trans hl (by decide)), k⟩
theorem rs_c {v : V} : Rs (tC v) σ H v := fun Q q => q
theorem l_retQ {D : Ends} (h : te σ H D.rt) : tRet te D σ H := h
/-- (tag, line) + tuple([the slots of the names]) -/
theorem row_cat {tg : Str} {v : V} {ms : List Str} {n9 : List Nat} (TMk : TM K mg C) (M : MAt C H x d ns l e) (h0 : σ[0]? = some (some (.ref x))) (h1 : σ[1]? = some (some v)) (h2 : σ[2]? = some (some (.int n)))
    (dv : Dp K H v (.tuple (.str tg :: ms.map PyData.str))) (hms : ∀ y ∈ ms, y ∈ ns) (hml : ms.length ≤ 2) (hm0 : ms ≠ []) (hw : ∀ v, wipe ((wipe σ n9).set 8 (some v)) n9 = wipe σ n9) (hw0 : ∀ v : V, ((wipe σ n9).set 8 (some v))[0]? = some (some (.ref x))) (hw8 : ∀ v : V, ((wipe σ n9).set 8 (some v))[8]? = some (some v))
    (k : ∀ p H' (is : List Nat), Same H H' → H p = none → H' p = some (.tup (.str tg :: .int n :: is.map fun i : Nat => V.int i)) → is.length = ms.length → (∀ i ∈ is, i < ns.length) → Q (.ref p) H') :
    tOp (rAddU K) (tTup (tCons (tOp (rIx K) (tVar 1) (tC (.int 0))) (tCons (tVar 2) tNil))) (tCB (rTup K) (tCons (tLc (iTup K (tSl (rSlU K) (tVar 1) (tPart (tC (.int 1))) tNoPart)) (gName 8) tYes (tDGet (tFld K (tVar 0) "slots") (tVar 8)) n9) tNil)) σ H Q := by
  obtain ⟨a, xs, rfl, hs, hds⟩ := dp_tup dv
  obtain _ | ⟨g1, g2⟩ := hds
  have eg := dp_str g1
  subst eg
  obtain ⟨kvs, f, hk, hf⟩ := M.fn
  refine tup_rs (rsa_cons (rs_ixt (m := 0) (rs_var h1) rs_int hs rfl) (rsa_cons (rs_var h2) rsa_nil)) (Nat.le_of_ble_eq_true rfl) fun p1 hp1 => ?_
  have s1 : Same H (upd H p1 (.tup [.str tg, .int n])) := same_new hp1
  have rg : Gd K (tCB (rTup K) (tCons (tLc (iTup K (tSl (rSlU K) (tVar 1) (tPart (tC (.int 1))) tNoPart)) (gName 8) tYes (tDGet (tFld K (tVar 0) "slots") (tVar 8)) n9) tNil)) σ (upd H p1 (.tup [.str tg, .int n])) (.tuple ((ms.map f).map fun i : Nat => PyData.int i)) := by
    refine gd_is (gd_cb (ga_cons (gd_lcT (F := fun d => match d with
      | .str nm => .int (f nm)
      | _ => .none) (ds := ms.map PyData.str) (gd_is (gd_slT (gd_var h1 (dp_mono s1 dv)) (go_some (K := K) (n := ((1 : Nat) : Int)) gd_int) go_none) ?_) hw ?_ ?_ ?_) ga_nil) rc_tup) ?_
    · rw [cutL_drop]
      rfl
    · intro d hd
      obtain ⟨nm, _, rfl⟩ := List.mem_map.mp hd
      rfl
    · rw [List.length_map]
      omega
    · intro d hd y H' s' dy
      obtain ⟨nm, hnm, rfl⟩ := List.mem_map.mp hd
      have ey := dp_str dy
      subst ey
      have M' := M.mono (s1.trans s')
      refine gd_rs (fun H1 s2 => rs_slotf TMk (hw0 _) (M'.mono s2) (s2 _ _ (s' _ _ (s1 _ _ hk))) (hf nm (hms nm hnm)).2 (rs_var (hw8 _))) (.int _)
    · rw [List.map_map, List.map_map]
      rfl
  refine rg _ (Same.refl _) _ fun y H7 s7 dy => ?_
  obtain ⟨b, ys, rfl, hb, dys⟩ := dp_tup dy
  have eys : ys = (ms.map f).map fun i : Nat => V.int i := by
    have z := dps_ints_eq (K := K) (H := H7) (vs := ys) (ns := (ms.map f).map fun i : Nat => (i : Int)) (by rw [List.map_map]; exact dys)
    rw [z, List.map_map]
    rfl
  subst eys
  have sp1 : SqT K H7 p1 [.str tg, .int n] := SqT.of (s7 _ _ upd_same)
  refine .inr (.inr (.inr ⟨p1, b, _, _, rfl, rfl, sp1, hb, small_le (by simp; omega), fun e => (by cases e), fun _ e => ?_, fun _ _ u hu => ?_⟩))
  · cases ms with
    | nil => exact absurd rfl hm0
    | cons a b => cases e
  · refine k u _ (ms.map f) ((s1.trans s7).trans (same_new hu)) ((s1.trans s7).free hu) upd_same (by rw [List.length_map]) fun i hi => ?_
    obtain ⟨nm, hnm, rfl⟩ := List.mem_map.mp hi
    exact (hf nm (hms nm hnm)).1
/-- what is new is new still -/
theorem diff_up {A B : Hp} {p : Addr} {o : HO} (hB : B p = none) : Same (diff A B) (diff A (upd B p o)) := fun b u h => by
  obtain ⟨h1, h2⟩ := diff_some.mp h
  exact diff_some.mpr ⟨h1, same_new hB b u h2⟩
def spMsTx (K : PySem.W.Frag) (C : Addr) (n : Nat) : Sp := spMs K C n
theorem sc_Marker_marked_step : FnScope ["self", "step", "line", "slots", "body", "some", "middle", "others", "name"] ["self", "step"] (defScope (inClass (top 30) 3)) := ⟨rfl, rfl, rfl, by decide +kernel, rfl, by decide +kernel, by decide +kernel⟩
theorem kn_ms (TMk : TM K mg C) (T : Tx K mg) (n : Nat) (KMmarked : KnM P w K mg base (2 * n + 3) C "marked" ["self", "steps"] (spMd K C n)) : KnM P w K mg base (2 * n + 4) C "marked_step" ["self", "step"] (spMs K C (n + 1)) := by
  have KMnext_line := (kn_next (P := P) (w := w) (base := base) TMk)
  refine knM_mk TMk.dS sc_Marker_marked_step (fun _ _ _ _ _ _ us hl => match us, hl with | [_, _], _ => rfl) (fun vs H Q E h => ?_) (fun f cdv A outer s0 H vs Q E hr h => ?_)
  · obtain ⟨_, _, _, _, _, _, _, rfl, _⟩ := h
    rfl
  obtain ⟨x, d, ns, l, e, v, s, rfl, M, dv, hg, hd, hz, hns, hne, q⟩ := h
  obtain ⟨dx, hx⟩ := M.ob
  have hx0 : H x ≠ none := by rw [hx]; exact fun z => by cases z
  have dvo : Dp K (off x H) v s.enc := dp_sq (off_sq hx) dv
  have so : ∀ {H'}, SX x H H' → Same (off x H) H' := fun s b o h => s b o (off_some.mp h).2 (off_some.mp h).1
  refine ⟨_, (pss_cons (ps_set (i := 2) sc_Marker_marked_step.nd rfl (Or.inl rfl) (pe_knM0 KMnext_line (hr.mono (by omega)) TMk.cl (pv 0))) (pss_cons (ps_if (pt_cmpR op_eq (pe_ix ix_seq (pv 1) (pe_int) (fun _ _ => rfl)) (pe_str) (nomark _)) (pss_cons (ps_set (i := 3) sc_Marker_marked_step.nd rfl (Or.inl rfl) (pe_tup (pa_cons (pe_dget (hu_of hr) (pe_fld (pv 0) rfl) (pe_ix ix_seq (pv 1) (pe_int) (fun _ _ => rfl)) (fun _ _ => rfl)) (pa_cons (pe_dget (hu_of hr) (pe_fld (pv 0) rfl) (pe_ix ix_seq (pv 1) (pe_int) (fun _ _ => rfl)) (fun _ _ => rfl)) (pa_cons (pe_fld (pv 0) rfl) (pa_nil)))))) (pss_cons (ps_fldaug (pv 0) (pe_int) in_add) (pss_cons (ps_set (i := 4) sc_Marker_marked_step.nd rfl (Or.inl rfl) (pe_knM KMmarked hr TMk.cl (pv 0) (pa_cons (pe_ix ix_seq (pv 1) (pe_int) (fun _ _ => rfl)) (pa_nil)))) (pss_one (ps_ret (pe_tup (pa_cons (pe_str) (pa_cons (pv 2) (pa_cons (pv 3) (pa_cons (pv 4) (pa_cons (pe_knM0 KMnext_line (hr.mono (by omega)) TMk.cl (pv 0)) (pa_nil)))))))))))) (pss_nil)) (pss_cons (ps_if (pt_cmpR op_eq (pe_ix ix_seq (pv 1) (pe_int) (fun _ _ => rfl)) (pe_str) (nomark _)) (pss_cons (ps_set (i := 5) sc_Marker_marked_step.nd rfl (Or.inl rfl) (pe_knM KMmarked hr TMk.cl (pv 0) (pa_cons (pe_ix ix_seq (pv 1) (pe_int) (fun _ _ => rfl)) (pa_nil)))) (pss_cons (ps_set (i := 6) sc_Marker_marked_step.nd rfl (Or.inl rfl) (pe_knM0 KMnext_line (hr.mono (by omega)) TMk.cl (pv 0))) (pss_cons (ps_set (i := 7) sc_Marker_marked_step.nd rfl (Or.inl rfl) (pe_knM KMmarked hr TMk.cl (pv 0) (pa_cons (pe_ix ix_seq (pv 1) (pe_int) (fun _ _ => rfl)) (pa_nil)))) (pss_cons (ps_expr (pe_knM0 KMnext_line (hr.mono (by omega)) TMk.cl (pv 0))) (pss_one (ps_ret (pe_tup (pa_cons (pe_str) (pa_cons (pv 2) (pa_cons (pe_ix ix_seq (pv 1) (pe_int) (fun _ _ => rfl)) (pa_cons (pv 5) (pa_cons (pv 6) (pa_cons (pv 7) (pa_nil)))))))))))))) (pss_nil)) (pss_cons (ps_if (pt_cmpR op_eq (pe_ix ix_seq (pv 1) (pe_int) (fun _ _ => rfl)) (pe_str) (nomark _)) (pss_cons (ps_set (i := 4) sc_Marker_marked_step.nd rfl (Or.inl rfl) (pe_knM KMmarked hr TMk.cl (pv 0) (pa_cons (pe_ix ix_seq (pv 1) (pe_int) (fun _ _ => rfl)) (pa_nil)))) (pss_one (ps_ret (pe_tup (pa_cons (pe_str) (pa_cons (pv 2) (pa_cons (pe_ix ix_seq (pv 1) (pe_int) (fun _ _ => rfl)) (pa_cons (pv 4) (pa_cons (pe_knM0 KMnext_line (hr.mono (by omega)) TMk.cl (pv 0)) (pa_nil)))))))))) (pss_nil)) (pss_cons (ps_if (pt_cmpR op_eq (pe_ix ix_seq (pv 1) (pe_int) (fun _ _ => rfl)) (pe_str) (nomark _)) (pss_one (ps_ret (pe_tup (pa_cons (pe_str) (pa_cons (pv 2) (pa_cons (pe_dget (hu_of hr) (pe_fld (pv 0) rfl) (pe_ix ix_seq (pv 1) (pe_int) (fun _ _ => rfl)) (fun _ _ => rfl)) (pa_cons (pe_ix ix_seq (pv 1) (pe_int) (fun _ _ => rfl)) (pa_nil)))))))) (pss_nil)) (pss_one (ps_ret (pe_op op_addU (pe_tup (pa_cons (pe_ix ix_seq (pv 1) (pe_int) (fun _ _ => rfl)) (pa_cons (pv 2) (pa_nil)))) (pe_callTy call_tup (by rfl) (T.free "tuple" (by decide)) (by decide +kernel) (pa_cons (pe_lc (own := [("name", 8)]) rfl sc_Marker_marked_step.nd (pi_tup ((pe_slice sl_U (pv 1) (po_some (pe_int)) po_none))) (blkOk_by (N := ["self", "step", "line", "slots", "body", "some", "middle", "others", "name"]) (sc := defScope (inClass (top 30) 3)) (by decide +kernel)) (fun _ _ _ _ _ => pg_name (i := 8) sc_Marker_marked_step.nd rfl (Or.inl rfl)) (fun _ _ _ _ _ => pts_nil) (fun _ _ _ _ _ => pe_dget (hu_of hr) ((show PE _ _ (tFld K (tVar 0) "slots") from pe_fld (pv 0) rfl)) (pv 8) (fun _ _ => rfl))) (pa_nil))))))))))), ?_⟩
  refine q_asgR (call_next TMk rfl M fun H1 M1 sx1 => ?_)
  cases s with
  | opn y =>
    have d1 : Dp K H1 v (.tuple [.str "open", .str y]) := dp_mono (so sx1) dvo
    refine q_no (by walk_at "tagF") fun H2 s2 => q_no (by walk_at "tagF") fun H3 s3 => q_no (by walk_at "tagF") fun H4 s4 => q_no (by walk_at "tagF") fun H5 s5 => ?_
    have s15 : Same H1 H5 := by walk_at "same"
    have sx5 := sx1.trans (SX.of s15)
    refine l_retQ (row_cat (tg := "open") (ms := [y]) TMk (M1.mono s15) rfl rfl rfl (dp_mono s15 d1) hns (Nat.le_of_ble_eq_true rfl) (by simp) (fun _ => rfl) (fun _ => rfl) (fun _ => rfl) fun p H' is s' np hp hl hi => ?_)
    obtain ⟨i, rfl⟩ : ∃ i, is = [i] := by
      match is, hl with
      | [i], _ => exact ⟨i, rfl⟩
    have p0 : H p = none := sx5.free np fun e => by
      obtain ⟨dx5, h5⟩ := (M1.mono s15).ob
      rw [e, h5] at np
      cases np
    exact q H' _ (.row (.opn l i)) _ (M1.mono (s15.trans s')) (sx5.trans (SX.of s')) (.tup (SqT.of (diff_some.mpr ⟨p0, hp⟩)) (.cons (.str _) (.cons (.int _) (.cons (.int _) .nil)))) ⟨show i < _ from Nat.lt_of_lt_of_le (hi i List.mem_cons_self) hne, rfl⟩ (Nat.le_refl _) (Nat.le_refl _)
  | drp y =>
    have d1 : Dp K H1 v (.tuple [.str "drop", .str y]) := dp_mono (so sx1) dvo
    refine q_no (by walk_at "tagF") fun H2 s2 => q_no (by walk_at "tagF") fun H3 s3 => q_no (by walk_at "tagF") fun H4 s4 => q_no (by walk_at "tagF") fun H5 s5 => ?_
    have s15 : Same H1 H5 := by walk_at "same"
    have sx5 := sx1.trans (SX.of s15)
    refine l_retQ (row_cat (tg := "drop") (ms := [y]) TMk (M1.mono s15) rfl rfl rfl (dp_mono s15 d1) hns (Nat.le_of_ble_eq_true rfl) (by simp) (fun _ => rfl) (fun _ => rfl) (fun _ => rfl) fun p H' is s' np hp hl hi => ?_)
    obtain ⟨i, rfl⟩ : ∃ i, is = [i] := by
      match is, hl with
      | [i], _ => exact ⟨i, rfl⟩
    have p0 : H p = none := sx5.free np fun e => by
      obtain ⟨dx5, h5⟩ := (M1.mono s15).ob
      rw [e, h5] at np
      cases np
    exact q H' _ (.row (.drp l i)) _ (M1.mono (s15.trans s')) (sx5.trans (SX.of s')) (.tup (SqT.of (diff_some.mpr ⟨p0, hp⟩)) (.cons (.str _) (.cons (.int _) (.cons (.int _) .nil)))) ⟨show i < _ from Nat.lt_of_lt_of_le (hi i List.mem_cons_self) hne, rfl⟩ (Nat.le_refl _) (Nat.le_refl _)
  | cpy y z =>
    have d1 : Dp K H1 v (.tuple [.str "copy", .str y, .str z]) := dp_mono (so sx1) dvo
    refine q_no (by walk_at "tagF") fun H2 s2 => q_no (by walk_at "tagF") fun H3 s3 => q_no (by walk_at "tagF") fun H4 s4 => q_no (by walk_at "tagF") fun H5 s5 => ?_
    have s15 : Same H1 H5 := by walk_at "same"
    have sx5 := sx1.trans (SX.of s15)
    refine l_retQ (row_cat (tg := "copy") (ms := [y, z]) TMk (M1.mono s15) rfl rfl rfl (dp_mono s15 d1) hns (Nat.le_of_ble_eq_true rfl) (by simp) (fun _ => rfl) (fun _ => rfl) (fun _ => rfl) fun p H' is s' np hp hl hi => ?_)
    obtain ⟨i, i2, rfl⟩ : ∃ i i2, is = [i, i2] := by
      match is, hl with
      | [i, i2], _ => exact ⟨i, i2, rfl⟩
    have p0 : H p = none := sx5.free np fun e => by
      obtain ⟨dx5, h5⟩ := (M1.mono s15).ob
      rw [e, h5] at np
      cases np
    exact q H' _ (.row (.cpy l i i2)) _ (M1.mono (s15.trans s')) (sx5.trans (SX.of s')) (.tup (SqT.of (diff_some.mpr ⟨p0, hp⟩)) (.cons (.str _) (.cons (.int _) (.cons (.int _) (.cons (.int _) .nil))))) ⟨show i < _ ∧ i2 < _ from ⟨Nat.lt_of_lt_of_le (hi i List.mem_cons_self) hne, Nat.lt_of_lt_of_le (hi i2 (List.mem_cons_of_mem _ List.mem_cons_self)) hne⟩, rfl⟩ (Nat.le_refl _) (Nat.le_refl _)
  | tie y z =>
    have d1 : Dp K H1 v (.tuple [.str "tie", .str y, .str z]) := dp_mono (so sx1) dvo
    refine q_no (by walk_at "tagF") fun H2 s2 => q_no (by walk_at "tagF") fun H3 s3 => q_no (by walk_at "tagF") fun H4 s4 => q_no (by walk_at "tagF") fun H5 s5 => ?_
    have s15 : Same H1 H5 := by walk_at "same"
    have sx5 := sx1.trans (SX.of s15)
    refine l_retQ (row_cat (tg := "tie") (ms := [y, z]) TMk (M1.mono s15) rfl rfl rfl (dp_mono s15 d1) hns (Nat.le_of_ble_eq_true rfl) (by simp) (fun _ => rfl) (fun _ => rfl) (fun _ => rfl) fun p H' is s' np hp hl hi => ?_)
    obtain ⟨i, i2, rfl⟩ : ∃ i i2, is = [i, i2] := by
      match is, hl with
      | [i, i2], _ => exact ⟨i, i2, rfl⟩
    have p0 : H p = none := sx5.free np fun e => by
      obtain ⟨dx5, h5⟩ := (M1.mono s15).ob
      rw [e, h5] at np
      cases np
    exact q H' _ (.row (.tie l i i2)) _ (M1.mono (s15.trans s')) (sx5.trans (SX.of s')) (.tup (SqT.of (diff_some.mpr ⟨p0, hp⟩)) (.cons (.str _) (.cons (.int _) (.cons (.int _) (.cons (.int _) .nil))))) ⟨show i < _ ∧ i2 < _ from ⟨Nat.lt_of_lt_of_le (hi i List.mem_cons_self) hne, Nat.lt_of_lt_of_le (hi i2 (List.mem_cons_of_mem _ List.mem_cons_self)) hne⟩, rfl⟩ (Nat.le_refl _) (Nat.le_refl _)
  | act w' y =>
    have d1 : Dp K H1 v (.tuple [.str "do", .str w', .str y]) := dp_mono (so sx1) dvo
    refine q_no (by walk_at "tagF") fun H2 s2 => q_no (by walk_at "tagF") fun H3 s3 => q_no (by walk_at "tagF") fun H4 s4 => q_yes (by walk_at "tagT") fun H5 s5 => ?_
    have s15 : Same H1 H5 := by walk_at "same"
    have sx5 := sx1.trans (SX.of s15)
    obtain ⟨a, xs, rfl, hs, hds⟩ := dp_tup (dp_mono s15 d1)
    obtain _ | ⟨g1, _ | ⟨g2, _ | ⟨g3, _ | _⟩⟩⟩ := hds
    have e2 := dp_str g2
    have e3 := dp_str g3
    subst e2 e3
    have M5 := M1.mono s15
    obtain ⟨i, hi, rs⟩ := rs_slot (σ := (L2.start ["self", "step", "line", "slots", "body", "some", "middle", "others", "name"] [V.ref x, V.ref a]).set 2 (some (.int l))) (j := 0) TMk rfl M5 (rs_ixt (m := 2) (rs_var (i := 1) rfl) rs_int hs rfl) (hns y List.mem_cons_self)
    refine l_retQ (tup_rs (rsa_cons rs_c (rsa_cons (rs_var rfl) (rsa_cons rs (rsa_cons (rs_ixt (m := 1) (rs_var rfl) rs_int hs rfl) rsa_nil)))) (Nat.le_of_ble_eq_true rfl) fun p np => ?_)
    have p0 : H p = none := sx5.free np fun e => by
      obtain ⟨dx5, h5⟩ := M5.ob
      rw [e, h5] at np
      cases np
    exact q _ _ (.row (.act l i w')) _ (M5.mono (same_new np)) (sx5.trans (SX.of (same_new np))) (.tup (SqT.of (diff_some.mpr ⟨p0, upd_same⟩)) (.cons (.str _) (.cons (.int _) (.cons (.int _) (.cons (.str _) .nil))))) ⟨⟨Nat.lt_of_lt_of_le hi hne, hg.1.2⟩, rfl⟩ (Nat.le_refl _) (Nat.le_refl _)
  | lend y z b =>
    have d1 : Dp K H1 v (.tuple [.str "lend", .str y, .str z, .list (encs b)]) := dp_mono (so sx1) dvo
    refine q_yes (by walk_at "tagT") fun H2 s2 => ?_
    have sx2 := sx1.trans (SX.of s2)
    have M2 := M1.mono s2
    obtain ⟨a, xs, rfl, hs, hds⟩ := dp_tup dvo
    obtain _ | ⟨g1, _ | ⟨g2, _ | ⟨g3, _ | ⟨g4, _ | _⟩⟩⟩⟩ := hds
    have e2 := dp_str g2
    have e3 := dp_str g3
    subst e2 e3
    rename_i vt vb
    obtain ⟨i1, hi1, rs1⟩ := rs_slot (σ := (L2.start ["self", "step", "line", "slots", "body", "some", "middle", "others", "name"] [V.ref x, V.ref a]).set 2 (some (.int l))) (j := 0) TMk rfl M2 (rs_ixt (m := 1) (rs_var (i := 1) rfl) rs_int (same_sqT (so sx2) hs) rfl) (hns y List.mem_cons_self)
    obtain ⟨i2, hi2, rs2⟩ := rs_slot (σ := (L2.start ["self", "step", "line", "slots", "body", "some", "middle", "others", "name"] [V.ref x, V.ref a]).set 2 (some (.int l))) (j := 0) TMk rfl M2 (rs_ixt (m := 2) (rs_var (i := 1) rfl) rs_int (same_sqT (so sx2) hs) rfl) (hns z (List.mem_cons_of_mem _ List.mem_cons_self))
    obtain ⟨dx2, hx2⟩ := M2.ob
    refine q_asgR (tup_rs (rsa_cons rs1 (rsa_cons rs2 (rsa_cons (rs_fld TMk rfl hx2 TMk.nE (fl_lent d (l + 1) e)) rsa_nil))) (Nat.le_of_ble_eq_true rfl) fun pt npt => ?_)
    have st : Same H2 (upd H2 pt (.tup [.int i1, .int i2, .int e])) := same_new npt
    have nptx : pt ≠ x := fun z => by rw [z, hx2] at npt; cases npt
    have pt0 : H pt = none := sx2.free npt nptx
    have M3 := M2.mono st
    obtain ⟨dx3, hx3⟩ := M3.ob
    have sx3 := sx2.trans (SX.of st)
    -- self.lent += 1
    refine ⟨_, rfl, x, C, dx3, _, _, rfl, hx3, TMk.cl, TMk.nE, fl_lent d (l + 1) e, e, 1, rfl, rfl, dx3, _, hx3, (by show 3 < 1000; decide), ?_⟩
    have e1 : putF "lent" (V.int ((e : Int) + 1)) (fl d (l + 1) e) = fl d (l + 1) (e + 1) := fl_putE d (l + 1) e (e + 1)
    rw [e1]
    obtain ⟨kvs3, hk3, hi3⟩ := M3.dc
    have M4 : MAt C (upd (upd H2 pt (.tup [.int i1, .int i2, .int e])) x (.ins C dx3 (fl d (l + 1) (e + 1)))) x d ns (l + 1) (e + 1) := ⟨⟨dx3, upd_same⟩, kvs3, (upd_ne fun z => M3.ne z.symm).trans hk3, hi3⟩
    have sx4 : SX x H _ := sx3.trans (SX.upd (o := .ins C dx3 (fl d (l + 1) (e + 1))))
    generalize hH4 : upd (upd H2 pt (.tup [.int i1, .int i2, .int e])) x (.ins C dx3 (fl d (l + 1) (e + 1))) = H4 at M4 sx4
    have hpt4 : H4 pt = some (.tup [.int i1, .int i2, .int e]) := by
      rw [← hH4]
      exact (upd_ne nptx).trans upd_same
    have hdb : deps b + 1 < n + 1 := hd
    have hzb : szs b + 1 ≤ 1000 := hz
    refine q_asgR (call_md (n := n) (v := vb) (p := b) (C := C) rfl M4 (rs_ixt (m := 3) (rs_var rfl) rs_int (same_sqT (so sx4) hs) rfl) (dp_mono (so sx4) g4) hg.2.2 (by omega) (by omega) (fun w' hw' => hns w' (List.mem_cons_of_mem _ (List.mem_cons_of_mem _ hw'))) (by omega) fun H5 v5 bs l5 M5 sx5 d5 ok5 wt5 dp5 => ?_)
    have hpt5 := sx5 _ _ hpt4 nptx
    refine l_retQ ?_
    refine ⟨_, rfl, _, rfl, _, rfl, call_next TMk rfl M5 fun H6 M6 sx6 => ⟨small_le (Nat.le_of_ble_eq_true rfl), fun p np => ?_⟩⟩
    have hpt6 := sx6 _ _ hpt5 nptx
    have sx7 := sx4.trans (sx5.trans sx6)
    have npx : p ≠ x := fun z => by
      obtain ⟨dx6, h6⟩ := M6.ob
      rw [z, h6] at np
      cases np
    have p0 : H p = none := sx7.free np npx
    have x4 : H4 x ≠ none := by
      obtain ⟨dx4, h4⟩ := M4.ob
      rw [h4]
      exact fun z => by cases z
    have df : Same (diff H4 H5) (diff H (upd H6 p (.tup [.str "lend", .int l, .ref pt, v5, .int l5]))) := dsx sx4 x4 (sx6.trans (SX.of (same_new np)))
    have el : e + Stp.lends (.lend y z b) = e + 1 + lendsL b := by
      show e + (lendsL b + 1) = _
      omega
    refine q _ _ (.lend l i1 i2 e bs l5) (l5 + 1) ?_ (sx7.trans (SX.of (same_new np))) (.tup (SqT.of (diff_some.mpr ⟨p0, upd_same⟩)) (.cons (.str _) (.cons (.int _) (.cons (.tup (SqT.of (diff_some.mpr ⟨pt0, (same_new np) _ _ hpt6⟩)) (.cons (.int _) (.cons (.int _) (.cons (.int _) .nil)))) (.cons (dp_mono df d5) (.cons (.int _) .nil)))))) ?_ ?_ ?_
    · rw [el]
      exact M6.mono (same_new np)
    · rw [el]
      exact ⟨by omega, by omega, by omega, ok5⟩
    · show bwts bs + 6 ≤ wts b + 6
      omega
    · show bdeps bs + 1 ≤ deps b + 1
      omega
  | ite m b c =>
    have d1 : Dp K H1 v (.tuple [.str "if", .int m, .list (encs b), .list (encs c)]) := dp_mono (so sx1) dvo
    refine q_no (by walk_at "tagF") fun H2 s2 => q_yes (by walk_at "tagT") fun H3 s3 => ?_
    have sx3 := sx1.trans (SX.of (s2.trans s3))
    have M3 := M1.mono (s2.trans s3)
    obtain ⟨a, xs, rfl, hs, hds⟩ := dp_tup dvo
    obtain _ | ⟨g1, _ | ⟨g2, _ | ⟨g3, _ | ⟨g4, _ | _⟩⟩⟩⟩ := hds
    have e2 := dp_int g2
    subst e2
    rename_i vt vb vc
    have hdb : max (deps b) (deps c) + 1 < n + 1 := hd
    have hzb : szs b + szs c + 1 ≤ 1000 := hz
    have x3 : H3 x ≠ none := by
      obtain ⟨dx4, h4⟩ := M3.ob
      rw [h4]
      exact fun z => by cases z
    refine q_asgR (call_md (n := n) (v := vb) (p := b) (C := C) rfl M3 (rs_ixt (m := 2) (rs_var rfl) rs_int (same_sqT (so sx3) hs) rfl) (dp_mono (so sx3) g3) hg.2.1 (by omega) (by omega) (fun w' hw' => hns w' (List.mem_append_left _ hw')) (by omega) fun H4 v4 bs l4 M4 sx4 d4 ok4 wt4 dp4 => ?_)
    refine q_asgR (call_next TMk rfl M4 fun H5 M5 sx5 => ?_)
    have sx35 := sx3.trans (sx4.trans sx5)
    have x5 : H5 x ≠ none := by
      obtain ⟨dx4, h4⟩ := M5.ob
      rw [h4]
      exact fun z => by cases z
    refine q_asgR (call_md (n := n) (v := vc) (p := c) (C := C) rfl M5 (rs_ixt (m := 3) (rs_var rfl) rs_int (same_sqT (so sx35) hs) rfl) (dp_mono (so sx35) g4) hg.2.2 (by omega) (by omega) (fun w' hw' => hns w' (List.mem_append_right _ hw')) (by omega) fun H6 v6 cs l6 M6 sx6 d6 ok6 wt6 dp6 => ?_)
    refine q_seq (show tDrop _ _ _ _ from call_next TMk rfl M6 fun H7 M7 sx7 => ?_)
    have sx37 := sx35.trans (sx6.trans sx7)
    refine l_retQ (tup_rs (rsa_cons rs_c (rsa_cons (rs_var rfl) (rsa_cons (rs_ixt (m := 1) (rs_var rfl) rs_int (same_sqT (so sx37) hs) rfl) (rsa_cons (rs_var rfl) (rsa_cons (rs_var rfl) (rsa_cons (rs_var rfl) rsa_nil)))))) (Nat.le_of_ble_eq_true rfl) fun p np => ?_)
    have npx : p ≠ x := fun z => by
      obtain ⟨dx6, h6⟩ := M7.ob
      rw [z, h6] at np
      cases np
    have p0 : H p = none := sx37.free np npx
    have el : e + Stp.lends (.ite m b c) = e + lendsL b + lendsL c := by
      show e + (lendsL b + lendsL c) = _
      omega
    refine q _ _ (.ite l m bs l4 cs) (l6 + 1) ?_ (sx37.trans (SX.of (same_new np))) (.tup (SqT.of (diff_some.mpr ⟨p0, upd_same⟩)) (.cons (.str _) (.cons (.int _) (.cons (.int _) (.cons (dp_mono (dsx sx3 x3 ((sx5.trans (sx6.trans sx7)).trans (SX.of (same_new np)))) d4) (.cons (.int _) (.cons (dp_mono (dsx sx35 x5 (sx7.trans (SX.of (same_new np)))) d6) .nil))))))) ?_ ?_ ?_
    · rw [el]
      exact M7.mono (same_new np)
    · rw [el]
      exact ⟨ok4.mono (by omega), ok6⟩
    · show bwts bs + bwts cs + 2 ≤ wts b + wts c + 2
      omega
    · show max (bdeps bs) (bdeps cs) + 1 ≤ max (deps b) (deps c) + 1
      omega
  | whl m b =>
    have d1 : Dp K H1 v (.tuple [.str "while", .int m, .list (encs b)]) := dp_mono (so sx1) dvo
    refine q_no (by walk_at "tagF") fun H2 s2 => q_no (by walk_at "tagF") fun H3 s3 => q_yes (by walk_at "tagT") fun H4 s4 => ?_
    have s14 : Same H1 H4 := by walk_at "same"
    have sx3 := sx1.trans (SX.of s14)
    have M3 := M1.mono s14
    obtain ⟨a, xs, rfl, hs, hds⟩ := dp_tup dvo
    obtain _ | ⟨g1, _ | ⟨g2, _ | ⟨g3, _ | _⟩⟩⟩ := hds
    have e2 := dp_int g2
    subst e2
    rename_i vt vb
    have hdb : deps b + 1 < n + 1 := hd
    have hzb : szs b + 1 ≤ 1000 := hz
    have x3 : H4 x ≠ none := by
      obtain ⟨dx4, h4⟩ := M3.ob
      rw [h4]
      exact fun z => by cases z
    refine q_asgR (call_md (n := n) (v := vb) (p := b) (C := C) rfl M3 (rs_ixt (m := 2) (rs_var rfl) rs_int (same_sqT (so sx3) hs) rfl) (dp_mono (so sx3) g3) hg.2 (by omega) (by omega) (fun w' hw' => hns w' hw') (by omega) fun H5 v5 bs l5 M5 sx5 d5 ok5 wt5 dp5 => ?_)
    have sx35 := sx3.trans sx5
    refine l_retQ ?_
    have rsm : ∀ Q : VK, Q (.int m) H5 → tOp (rIx K) (tVar 1) (tC (.int 1)) _ H5 Q := rs_ixt (σ := [some (.ref x), some (.ref a), some (.int l), none, some v5, none, none, none, none]) (m := 1) (rs_var (i := 1) rfl) rs_int (same_sqT (so sx35) hs) rfl
    refine ⟨_, rfl, rsm _ ⟨_, rfl, call_next TMk rfl M5 fun H6 M6 sx6 => ⟨small_le (Nat.le_of_ble_eq_true rfl), fun p np => ?_⟩⟩⟩
    have sx7 := sx35.trans sx6
    have npx : p ≠ x := fun z => by
      obtain ⟨dx6, h6⟩ := M6.ob
      rw [z, h6] at np
      cases np
    have p0 : H p = none := sx7.free np npx
    refine q _ _ (.whl l m bs l5) _ (M6.mono (same_new np)) (sx7.trans (SX.of (same_new np))) (.tup (SqT.of (diff_some.mpr ⟨p0, upd_same⟩)) (.cons (.str _) (.cons (.int _) (.cons (.int _) (.cons (dp_mono (dsx sx3 x3 (sx6.trans (SX.of (same_new np)))) d5) (.cons (.int _) .nil)))))) ok5 ?_ ?_
    · show 2 * bwts bs + 3 ≤ 2 * wts b + 3
      omega
    · show bdeps bs + 1 ≤ deps b + 1
      omega
/-- both, n blocks deep -/
theorem kn_marks (TMk : TM K mg C) (T : Tx K mg) : ∀ n, KnM P w K mg base (2 * n + 2) C "marked_step" ["self", "step"] (spMs K C n) ∧ KnM P w K mg base (2 * n + 3) C "marked" ["self", "steps"] (spMd K C n)
  | 0 => by
    have z : KnM P w K mg base 2 C "marked_step" ["self", "step"] (spMs K C 0) := knM_mk TMk.dS sc_Marker_marked_step (fun _ _ _ _ _ _ us hl => match us, hl with | [_, _], _ => rfl) (fun vs H Q E h => by
      obtain ⟨_, _, _, _, _, _, _, _, _, _, _, h, _⟩ := h
      exact absurd h (Nat.not_lt_zero _)) (fun f cdv A outer s0 H vs Q E hr h => by
      obtain ⟨_, _, _, _, _, _, _, _, _, _, _, h, _⟩ := h
      exact absurd h (Nat.not_lt_zero _))
    exact ⟨z, kn_md TMk 0 z⟩
  | n + 1 => by
    have z := kn_ms (P := P) (w := w) (base := base) TMk T n (kn_marks TMk T n).2
    exact ⟨z, kn_md TMk (n + 1) z⟩
end
end Uw
/-! text P3 -/
/-! Plain: stretches of rows. -/
namespace Uw
open PySem
/-- rows from the place b on; targets up to e; each but the first, and the end, is reached from within -/
structure SegP (S b e : Nat) (seg : List Row) : Prop where
  ok : ∀ row ∈ seg, row.Ok S ∧ isFin row = false
  to : ∀ (i : Nat) (row : Row), seg[i]? = some row → ∀ t ∈ after (b + i) row, t ≤ e
  pred : ∀ i, 0 < i → i ≤ seg.length → ∃ j row, j < i ∧ seg[j]? = some row ∧ b + i ∈ after (b + j) row
theorem SegP.nil {S b e : Nat} : SegP S b e [] where
  ok := fun _ h => by cases h
  to := fun i r h => by cases h
  pred := fun i h1 h2 => by
    have : i ≤ 0 := h2
    omega
theorem SegP.mono {S b e e' : Nat} {seg : List Row} (h : SegP S b e seg) (he : e ≤ e') : SegP S b e' seg := ⟨h.ok, fun i r hr t ht => Nat.le_trans (h.to i r hr t ht) he, h.pred⟩
theorem SegP.one {S b e : Nat} {row : Row} (ho : row.Ok S) (hf : row.flat = true) (he : b + 1 ≤ e) : SegP S b e [row] := by
  have ha : ∀ k, after k row = [k + 1] := by cases row <;> first | exact fun _ => rfl | cases hf
  refine ⟨fun r h => ?_, fun i r h t ht => ?_, fun i h1 h2 => ?_⟩
  · rw [List.mem_singleton.mp h]
    exact ⟨ho, by cases row <;> first | rfl | cases hf⟩
  · cases i with
    | zero =>
      cases h
      rw [ha] at ht
      rw [List.mem_singleton.mp ht]
      exact he
    | succ i => simp at h
  · have : i ≤ 1 := h2
    have : i = 1 := by omega
    subst this
    exact ⟨0, row, by decide, rfl, by rw [ha]; exact List.mem_cons_self⟩
theorem SegP.tst {S b e t : Nat} {l n : Int} (h1 : b + 1 ≤ e) (h2 : t ≤ e) : SegP S b e [.tst l n t] := by
  refine ⟨fun r h => ?_, fun i r h x hx => ?_, fun i h3 h4 => ?_⟩
  · rw [List.mem_singleton.mp h]
    exact ⟨trivial, rfl⟩
  · cases i with
    | zero =>
      cases h
      rcases List.mem_cons.mp hx with e | hx
      · rw [e]
        exact h1
      · rw [List.mem_singleton.mp hx]
        exact h2
    | succ i => simp at h
  · have : i ≤ 1 := h4
    have : i = 1 := by omega
    subst this
    exact ⟨0, _, by decide, rfl, List.mem_cons_self⟩
theorem SegP.app {S b e : Nat} {s1 s2 : List Row} (h1 : SegP S b e s1) (h2 : SegP S (b + s1.length) e s2) : SegP S b e (s1 ++ s2) := by
  refine ⟨fun r h => ?_, fun i r h t ht => ?_, fun i h3 h4 => ?_⟩
  · rcases List.mem_append.mp h with h | h
    · exact h1.ok r h
    · exact h2.ok r h
  · by_cases c : i < s1.length
    · rw [List.getElem?_append_left c] at h
      exact h1.to i r h t ht
    · rw [List.getElem?_append_right (by omega)] at h
      refine h2.to (i - s1.length) r h t ?_
      have : b + s1.length + (i - s1.length) = b + i := by omega
      rw [this]
      exact ht
  · rw [List.length_append] at h4
    by_cases c : i ≤ s1.length
    · obtain ⟨j, r, a1, a2, a3⟩ := h1.pred i h3 c
      exact ⟨j, r, a1, by rw [List.getElem?_append_left (by omega)]; exact a2, a3⟩
    · obtain ⟨j, r, a1, a2, a3⟩ := h2.pred (i - s1.length) (by omega) (by omega)
      refine ⟨s1.length + j, r, by omega, by rw [List.getElem?_append_right (by omega), Nat.add_sub_cancel_left]; exact a2, ?_⟩
      have e1 : b + s1.length + (i - s1.length) = b + i := by omega
      have e2 : b + s1.length + j = b + (s1.length + j) := by omega
      rw [e1, e2] at a3
      exact a3
theorem SegP.flats {S e : Nat} : ∀ {rs : List Row} {b : Nat}, (∀ r ∈ rs, r.Ok S ∧ r.flat = true) → b + rs.length ≤ e → SegP S b e rs
  | [], _, _, _ => .nil
  | r :: rs, b, h, he => by
    have he : b + (rs.length + 1) ≤ e := he
    have z : SegP S (b + 1) e rs := SegP.flats (fun x hx => h x (List.mem_cons_of_mem _ hx)) (by omega)
    exact SegP.app (s1 := [r]) (.one (h r List.mem_cons_self).1 (h r List.mem_cons_self).2 (by omega)) z
/-- behind a jump: reached by a target -/
theorem SegP.jmp {S b e t : Nat} {m : Int} {X : List Row} {row : Row} (h : SegP S b e X) (h0 : X[0]? = some row) (hr : b + X.length + 1 ∈ after b row) (ht : t ≤ e) : SegP S b e (X ++ [.jmp m t]) := by
  have hX : 0 < X.length := (List.getElem?_eq_some_iff.mp h0).1
  refine ⟨fun r hr => ?_, fun i r hi x hx => ?_, fun i h3 h4 => ?_⟩
  · rcases List.mem_append.mp hr with hr | hr
    · exact h.ok r hr
    · rw [List.mem_singleton.mp hr]
      exact ⟨trivial, rfl⟩
  · by_cases c : i < X.length
    · rw [List.getElem?_append_left c] at hi
      exact h.to i r hi x hx
    · rw [List.getElem?_append_right (by omega)] at hi
      cases q : i - X.length with
      | zero =>
        rw [q] at hi
        cases hi
        rw [List.mem_singleton.mp hx]
        exact ht
      | succ k =>
        rw [q] at hi
        simp at hi
  · rw [List.length_append] at h4
    have h4 : i ≤ X.length + 1 := h4
    by_cases c : i ≤ X.length
    · obtain ⟨j, r, a1, a2, a3⟩ := h.pred i h3 c
      exact ⟨j, r, a1, by rw [List.getElem?_append_left (by omega)]; exact a2, a3⟩
    · have : i = X.length + 1 := by omega
      subst this
      exact ⟨0, row, by omega, by rw [List.getElem?_append_left hX]; exact h0, by rw [Nat.add_zero, ← Nat.add_assoc]; exact hr⟩
/-- a whole code -/
theorem wf_of {S : Nat} {seg : List Row} {l : Int} (h : SegP S 0 seg.length seg) : Wf (seg ++ [.fin l]) ∧ (∀ row ∈ seg ++ [Row.fin l], row.Ok S) ∧ (seg ++ [Row.fin l]).length = seg.length + 1 := by
  refine ⟨⟨by simp, fun i row hi t ht => ?_, fun i h1 h2 => ?_⟩, fun row hr => ?_, by rw [List.length_append]; rfl⟩
  · rw [List.length_append]
    by_cases c : i < seg.length
    · rw [List.getElem?_append_left c] at hi
      have z := h.to i row hi t (by rw [Nat.zero_add]; exact ht)
      show t < seg.length + 1
      omega
    · rw [List.getElem?_append_right (by omega)] at hi
      cases q : i - seg.length with
      | zero =>
        rw [q] at hi
        cases hi
        cases ht
      | succ k =>
        rw [q] at hi
        simp at hi
  · rw [List.length_append] at h2
    have h2 : i < seg.length + 1 := h2
    obtain ⟨j, row, a1, a2, a3⟩ := h.pred i h1 (by omega)
    refine ⟨j, row, a1, by rw [List.getElem?_append_left (by omega)]; exact a2, ?_⟩
    rw [Nat.zero_add, Nat.zero_add] at a3
    exact a3
  · rcases List.mem_append.mp hr with hr | hr
    · exact (h.ok row hr).1
    · rw [List.mem_singleton.mp hr]
      trivial
end Uw
/-! text T22 -/
namespace Uw
open PySem PySem.Spec PyProof.Rows L2
/-! put_lend, put_if, put_while, put_steps -/
theorem ixN_n {n j : Nat} (hj : j < n) : ixN n (j : Int) = some j := by
  have z := atI_nat (xs := List.range n) (j := j) (v := j) (List.getElem?_range hj)
  unfold atI at z
  rw [List.length_range] at z
  cases q : ixN n (j : Int) with
  | none =>
    rw [q] at z
    cases z
  | some k =>
    rw [q] at z
    have hk : (List.range n)[k]? = some j := z
    have hkl := (List.getElem?_eq_some_iff.mp hk).1
    rw [List.length_range] at hkl
    rw [List.getElem?_range hkl] at hk
    rw [Option.some.inj hk]
/-- the rows so far, at r -/
def RAt (K : PySem.W.Frag) (H : Hp) (r : Addr) (rows : List Row) : Prop := ∃ xs, H r = some (.lst xs) ∧ DpAll K H xs (rows.map Row.enc)
theorem row_nol (r : Row) : nol r.enc = true := by cases r <;> rfl
theorem rows_nol (rows : List Row) : nolAll (rows.map Row.enc) = true := nolAll_of fun d hd => by
  obtain ⟨r, _, rfl⟩ := List.mem_map.mp hd
  exact row_nol r
theorem RAt.mono {K : PySem.W.Frag} {H H' : Hp} {r : Addr} {rows : List Row} (h : RAt K H r rows) (s : Same H H') : RAt K H' r rows := by
  obtain ⟨xs, h1, h2⟩ := h
  exact ⟨xs, s _ _ h1, dps_mono s h2⟩
section
variable {K : PySem.W.Frag} {σ : L2.St} {H : Hp} {te : TE} {D : Ends} {u : TS} {r : Addr} {rows : List Row} {row : Row} {j i : Nat}
theorem rs_rows (hv : σ[j]? = some (some (.ref r))) (h : RAt K H r rows) : Rs (tCB (rLn K) (tCons (tVar j) tNil)) σ H (.int rows.length) := fun Q q => by
  obtain ⟨xs, h1, h2⟩ := h
  refine ⟨_, hv, r, xs, rfl, .inl (SqL.of h1), ?_⟩
  rw [dps_len h2, List.length_map]
  exact q
theorem q_row (hv : σ[j]? = some (some (.ref r))) (h : RAt K H r rows) (hg : Gd K te σ H row.enc) (hl : rows.length ≤ 100000) (k : ∀ H', SX r H H' → RAt K H' r (rows ++ [row]) → u D σ H') : tSeq (tDrop (tBM K "list" rAppend (tVar j) (tCons te tNil))) u D σ H := by
  obtain ⟨xs, h1, h2⟩ := h
  refine gd_append (K := K) hv hg (by rw [dps_len h2, List.length_map]; omega) h1 fun v H2 s2 dv => ?_
  have h1' := s2 _ _ h1
  have sT : SameT H2 (upd H2 r (.lst (xs ++ [v]))) := SameT.upd h1' rfl
  refine k _ ((SX.of s2).trans SX.upd) ⟨_, upd_same, ?_⟩
  rw [List.map_append]
  exact dps_snoc (dps_keepT sT (rows_nol rows) (dps_mono s2 h2)) (dp_keepT sT (row_nol row) dv)
theorem l_row (hv : σ[j]? = some (some (.ref r))) (h : RAt K H r rows) (hg : Gd K te σ H row.enc) (hl : rows.length ≤ 100000) (k : ∀ H', SX r H H' → RAt K H' r (rows ++ [row]) → D.nx σ H') : tDrop (tBM K "list" rAppend (tVar j) (tCons te tNil)) D σ H := q_row (u := fun D => D.nx) hv h hg hl k
theorem q_rset {m : Nat} (hv : σ[j]? = some (some (.ref r))) (hi : σ[i]? = some (some (.int m))) (h : RAt K H r rows) (hg : Gd K te σ H row.enc) (hm : m < rows.length) (k : ∀ H', SX r H H' → RAt K H' r (rows.set m row) → u D σ H') : tSeq (tAsg te (gSub (tVar j) (tVar i) rSetL)) u D σ H := by
  obtain ⟨xs, h1, h2⟩ := h
  have lx : xs.length = rows.length := by rw [dps_len h2, List.length_map]
  refine hg H (Same.refl _) _ fun v H2 s2 dv => ⟨_, hv, _, hi, ?_⟩
  have h1' := s2 _ _ h1
  have sT : SameT H2 (upd H2 r (.lst (xs.set m v))) := SameT.upd h1' rfl
  refine ⟨r, xs, m, m, rfl, rfl, h1', ?_, ?_⟩
  · exact ixN_n (by omega)
  · refine k _ ((SX.of s2).trans SX.upd) ⟨_, upd_same, ?_⟩
    rw [List.map_set]
    exact dps_set m (dps_keepT sT (rows_nol rows) (dps_mono s2 h2)) (dp_keepT sT (row_nol row) dv)
theorem l_rset {m : Nat} (hv : σ[j]? = some (some (.ref r))) (hi : σ[i]? = some (some (.int m))) (h : RAt K H r rows) (hg : Gd K te σ H row.enc) (hm : m < rows.length) (k : ∀ H', SX r H H' → RAt K H' r (rows.set m row) → D.nx σ H') : tAsg te (gSub (tVar j) (tVar i) rSetL) D σ H := q_rset (u := fun D => D.nx) hv hi h hg hm k
end
def Blk.kind : Blk → Nat
  | .row _ => 0
  | .lend _ _ _ _ _ _ => 1
  | .ite _ _ _ _ _ => 2
  | .whl _ _ _ _ => 3
def spPb (K : PySem.W.Frag) (S n kd : Nat) : Sp := fun vs H Q _ => ∃ (r : Addr) (v : V) (tn : Bool) (b : Blk) (rows : List Row), vs = [.ref r, v, .bl tn] ∧ RAt K H r rows ∧ Dp K (off r H) v b.enc ∧ b.Ok S ∧ b.dep < n ∧ b.kind = kd ∧ rows.length + b.wt ≤ 5000 ∧
  ∀ H' seg, SX r H H' → RAt K H' r (rows ++ seg) → SegP S rows.length (rows.length + seg.length) seg → seg.length ≤ b.wt → Q .non H'
def spPs (K : PySem.W.Frag) (S n : Nat) : Sp := fun vs H Q _ => ∃ (r : Addr) (v : V) (tn : Bool) (bs : List Blk) (rows : List Row), vs = [.ref r, v, .bl tn] ∧ RAt K H r rows ∧ Dp K (off r H) v (.list (bencs bs)) ∧ BOks S bs ∧ bdeps bs < n ∧ rows.length + bwts bs ≤ 5000 ∧
  ∀ H' seg, SX r H H' → RAt K H' r (rows ++ seg) → SegP S rows.length (rows.length + seg.length) seg → seg.length ≤ bwts bs → Q .non H'
section
variable {P : Program} {w : World} {K : PySem.W.Frag} {mg : Str → Option Value} {base : Heap} {S n : Nat}
theorem call_ps {σ : L2.St} {H : Hp} {ta tb tc : TE} {E : XK} {Q : VK} {r : Addr} {v : V} {tn : Bool} {bs : List Blk} {rows : List Row} (h1 : Rs ta σ H (.ref r)) (h2 : Rs tb σ H v) (h3 : Rs tc σ H (.bl tn)) (hr : RAt K H r rows) (dv : Dp K (off r H) v (.list (bencs bs))) (ok : BOks S bs) (hd : bdeps bs < n) (hl : rows.length + bwts bs ≤ 5000)
    (k : ∀ H' seg, SX r H H' → RAt K H' r (rows ++ seg) → SegP S rows.length (rows.length + seg.length) seg → seg.length ≤ bwts bs → Q .non H') : tCall (spPs K S n) [] E (tCons ta (tCons tb (tCons tc tNil))) σ H Q :=
  h1 _ (h2 _ (h3 _ ⟨r, v, tn, bs, rows, rfl, hr, dv, ok, hd, hl, k⟩))
theorem call_pb {σ : L2.St} {H : Hp} {ta tb tc : TE} {E : XK} {Q : VK} {r : Addr} {v : V} {tn : Bool} {b : Blk} {kd : Nat} {rows : List Row} (h1 : Rs ta σ H (.ref r)) (h2 : Rs tb σ H v) (h3 : Rs tc σ H (.bl tn)) (hr : RAt K H r rows) (dv : Dp K (off r H) v b.enc) (ok : b.Ok S) (hd : b.dep < n) (hk : b.kind = kd) (hl : rows.length + b.wt ≤ 5000)
    (k : ∀ H' seg, SX r H H' → RAt K H' r (rows ++ seg) → SegP S rows.length (rows.length + seg.length) seg → seg.length ≤ b.wt → Q .non H') : tCall (spPb K S n kd) [] E (tCons ta (tCons tb (tCons tc tNil))) σ H Q :=
  h1 _ (h2 _ (h3 _ ⟨r, v, tn, b, rows, rfl, hr, dv, ok, hd, hk, hl, k⟩))
theorem sc_put_lend : FnScope ["rows", "block", "turn", "one", "other", "kept"] ["rows", "block", "turn"] (defScope (top 31)) := ⟨rfl, rfl, rfl, by decide +kernel, rfl, by decide +kernel, by decide +kernel⟩
theorem kn_plend (T : Tx K mg) (k : Nat) (Kput_steps : Kn P w K mg base k "put_steps" ["rows", "marked", "turn"] (spPs K S n)) : Kn P w K mg base (k + 1) "put_lend" ["rows", "block", "turn"] (spPb K S (n + 1) 1) := by
  refine kn_mk (T.fn2 (("put_lend" : Str), 31) (by decide +kernel)) sc_put_lend (fun _ _ _ _ _ _ us hl => match us, hl with | [_, _, _], _ => rfl) (fun vs H Q E h => ?_) (fun f cdv A outer s0 H vs Q E hr h => ?_)
  · obtain ⟨_, _, _, _, _, rfl, _⟩ := h
    rfl
  obtain ⟨r, v, tn, b, rows, rfl, hR, dv, ok, hd, hk, hl, q⟩ := h
  cases b with
  | row _ => cases hk
  | ite _ _ _ _ _ => cases hk
  | whl _ _ _ _ => cases hk
  | lend l a b c body l2 =>
  have so : ∀ {H'}, SX r H H' → Same (off r H) H' := fun s b o h => s b o (off_some.mp h).2 (off_some.mp h).1
  have dv1 : Dp K (off r H) v (.tuple [.str "lend", .int l, .tuple [.int a, .int b, .int c], .list (bencs body), .int l2]) := dv
  obtain ⟨ba, xs, rfl, hs, hds⟩ := dp_tup dv1
  obtain _ | ⟨g1, _ | ⟨g2, _ | ⟨g3, _ | ⟨g4, _ | ⟨g5, _ | _⟩⟩⟩⟩⟩ := hds
  rename_i vt vl vs vb vl2
  obtain ⟨sa, ys, rfl, hsa, hdy⟩ := dp_tup g3
  obtain _ | ⟨y1, _ | ⟨y2, _ | ⟨y3, _ | _⟩⟩⟩ := hdy
  have ea := dp_int y1
  have eb := dp_int y2
  have ec := dp_int y3
  subst ea eb ec
  have hl2 : rows.length + (bwts body + 6) ≤ 5000 := hl
  have hdd : bdeps body + 1 < n + 1 := hd
  refine ⟨_, (pss_cons (ps_asg (pe_ix ix_seq (pv 1) (pe_int) (fun _ _ => rfl)) (pg_tup rfl (pgs_cons (pg_name (i := 3) sc_put_lend.nd rfl (.inl rfl)) (pgs_cons (pg_name (i := 4) sc_put_lend.nd rfl (.inl rfl)) (pgs_cons (pg_name (i := 5) sc_put_lend.nd rfl (.inl rfl)) (pgs_nil)))))) (pss_cons (ps_expr (pe_bm PySem.F.plainAttrs_list PySem.F.slot_list_append PySem.F.type_list_append mt_append (pv 0) (pa_cons (pe_tup (pa_cons (pe_str) (pa_cons (pe_ix ix_seq (pv 1) (pe_int) (fun _ _ => rfl)) (pa_cons (pv 5) (pa_cons (pv 3) (pa_nil)))))) (pa_nil)))) (pss_cons (ps_expr (pe_bm PySem.F.plainAttrs_list PySem.F.slot_list_append PySem.F.type_list_append mt_append (pv 0) (pa_cons (pe_tup (pa_cons (pe_str) (pa_cons (pe_ix ix_seq (pv 1) (pe_int) (fun _ _ => rfl)) (pa_cons (pv 5) (pa_cons (pe_str) (pa_nil)))))) (pa_nil)))) (pss_cons (ps_expr (pe_bm PySem.F.plainAttrs_list PySem.F.slot_list_append PySem.F.type_list_append mt_append (pv 0) (pa_cons (pe_tup (pa_cons (pe_str) (pa_cons (pe_ix ix_seq (pv 1) (pe_int) (fun _ _ => rfl)) (pa_cons (pv 4) (pa_cons (pv 5) (pa_nil)))))) (pa_nil)))) (pss_cons (ps_expr (pe_kn Kput_steps hr rfl (pa_cons (pv 0) (pa_cons (pe_ix ix_seq (pv 1) (pe_int) (fun _ _ => rfl)) (pa_cons (pv 2) (pa_nil)))))) (pss_cons (ps_expr (pe_bm PySem.F.plainAttrs_list PySem.F.slot_list_append PySem.F.type_list_append mt_append (pv 0) (pa_cons (pe_tup (pa_cons (pe_str) (pa_cons (pe_ix ix_seq (pv 1) (pe_int) (fun _ _ => rfl)) (pa_cons (pv 5) (pa_cons (pe_str) (pa_nil)))))) (pa_nil)))) (pss_cons (ps_expr (pe_bm PySem.F.plainAttrs_list PySem.F.slot_list_append PySem.F.type_list_append mt_append (pv 0) (pa_cons (pe_tup (pa_cons (pe_str) (pa_cons (pe_ix ix_seq (pv 1) (pe_int) (fun _ _ => rfl)) (pa_cons (pv 4) (pa_nil))))) (pa_nil)))) (pss_one (ps_expr (pe_bm PySem.F.plainAttrs_list PySem.F.slot_list_append PySem.F.type_list_append mt_append (pv 0) (pa_cons (pe_tup (pa_cons (pe_str) (pa_cons (pe_ix ix_seq (pv 1) (pe_int) (fun _ _ => rfl)) (pa_cons (pv 5) (pa_nil))))) (pa_nil)))))))))))), ?_⟩
  have sx0 := SX.refl r H
  refine q_seq (rs_ixt (m := 2) (rs_var rfl) rs_int (same_sqT (so sx0) hs) rfl _ ⟨sa, _, rfl, same_sqT (so sx0) hsa, rfl, _, _, rfl, _, _, rfl, _, _, rfl, rfl, ?_⟩)
  dsimp only
  have gl : ∀ {σ : L2.St} {H' : Hp} (m : Nat) (d : PyData), SX r H H' → σ[1]? = some (some (.ref ba)) → atI [PyData.str "lend", .int l, .tuple [.int a, .int b, .int c], .list (bencs body), .int l2] m = some d → Gd K (tOp (rIx K) (tVar 1) (tC (.int m))) σ H' d := fun m d sx e h => gd_op (gd_var e (dp_mono (so sx) dv1)) gd_int (r2_ixt h)
  refine q_row (K := K) (row := .cpy l c a) rfl hR (gd_tup (ga_cons gd_str (ga_cons (gl 1 _ sx0 rfl rfl) (ga_cons (gd_var rfl (.int _)) (ga_cons (gd_var rfl (.int _)) ga_nil)))) (Nat.le_of_ble_eq_true rfl)) (by omega) fun H1 sx1 R1 => ?_
  refine q_row (K := K) (row := .act l c "lend") rfl R1 (gd_tup (ga_cons gd_str (ga_cons (gl 1 _ sx1 rfl rfl) (ga_cons (gd_var rfl (.int _)) (ga_cons gd_str ga_nil)))) (Nat.le_of_ble_eq_true rfl)) (by simp <;> omega) fun H2 sx2 R2 => ?_
  have sx2 := sx1.trans sx2
  refine q_row (K := K) (row := .cpy l b c) rfl R2 (gd_tup (ga_cons gd_str (ga_cons (gl 1 _ sx2 rfl rfl) (ga_cons (gd_var rfl (.int _)) (ga_cons (gd_var rfl (.int _)) ga_nil)))) (Nat.le_of_ble_eq_true rfl)) (by simp <;> omega) fun H3 sx3 R3 => ?_
  have sx3 := sx2.trans sx3
  rw [List.append_assoc, List.append_assoc] at R3
  refine q_seq (show tDrop _ _ _ _ from call_ps (tn := tn) (rs_var rfl) (rs_ixt (m := 3) (rs_var rfl) rs_int (same_sqT (so sx3) hs) rfl) (rs_var rfl) R3 (dp_mono sx3.off g4) ok.2.2.2 (by omega) (by simp <;> omega) fun H4 seg sx4 R4 sg ls => ?_)
  have sx4 := sx3.trans sx4
  refine q_row (K := K) (row := .act l2 c "back") rfl R4 (gd_tup (ga_cons gd_str (ga_cons (gl 4 _ sx4 rfl rfl) (ga_cons (gd_var rfl (.int _)) (ga_cons gd_str ga_nil)))) (Nat.le_of_ble_eq_true rfl)) (by simp <;> omega) fun H5 sx5 R5 => ?_
  have sx5 := sx4.trans sx5
  refine q_row (K := K) (row := .drp l2 b) rfl R5 (gd_tup (ga_cons gd_str (ga_cons (gl 4 _ sx5 rfl rfl) (ga_cons (gd_var rfl (.int _)) ga_nil))) (Nat.le_of_ble_eq_true rfl)) (by simp <;> omega) fun H6 sx6 R6 => ?_
  have sx6 := sx5.trans sx6
  refine l_row (K := K) (row := .drp l2 c) rfl R6 (gd_tup (ga_cons gd_str (ga_cons (gl 4 _ sx6 rfl rfl) (ga_cons (gd_var rfl (.int _)) ga_nil))) (Nat.le_of_ble_eq_true rfl)) (by simp <;> omega) fun H7 sx7 R7 => ?_
  have sx7 := sx6.trans sx7
  have o1 : a < S := ok.1
  have o2 : b < S := ok.2.1
  have o3 : c < S := ok.2.2.1
  refine q H7 ([Row.cpy l c a, .act l c "lend", .cpy l b c] ++ seg ++ [.act l2 c "back", .drp l2 b, .drp l2 c]) sx7 (by simpa using R7) ?_ (by simp <;> show seg.length + 6 ≤ bwts body + 6; omega)
  have e3 : (rows ++ ([Row.cpy l c a] ++ ([Row.act l c "lend"] ++ [Row.cpy l b c]))).length = rows.length + 3 := by simp
  have e4 : ([Row.cpy l c a, .act l c "lend", .cpy l b c] ++ seg ++ [Row.act l2 c "back", .drp l2 b, .drp l2 c]).length = seg.length + 6 := by simp
  rw [e3] at sg
  rw [e4]
  refine SegP.app (SegP.app (.flats (fun x hx => ?_) (by show _ + 3 ≤ _; omega)) (sg.mono (by omega))) (.flats (fun x hx => ?_) ?_)
  · simp only [List.mem_cons, List.not_mem_nil, or_false] at hx
    rcases hx with e | e | e <;> subst e
    · exact ⟨⟨o3, o1⟩, rfl⟩
    · exact ⟨⟨o3, by decide +kernel⟩, rfl⟩
    · exact ⟨⟨o2, o3⟩, rfl⟩
  · simp only [List.mem_cons, List.not_mem_nil, or_false] at hx
    rcases hx with e | e | e <;> subst e
    · exact ⟨⟨o3, by decide +kernel⟩, rfl⟩
    · exact ⟨o2, rfl⟩
    · exact ⟨o3, rfl⟩
  · simp
    omega
theorem sc_put_if : FnScope ["rows", "block", "turn", "head", "middle"] ["rows", "block", "turn"] (defScope (top 32)) := ⟨rfl, rfl, rfl, by decide +kernel, rfl, by decide +kernel, by decide +kernel⟩
theorem kn_pif (T : Tx K mg) (k : Nat) (Kput_steps : Kn P w K mg base k "put_steps" ["rows", "marked", "turn"] (spPs K S n)) : Kn P w K mg base (k + 1) "put_if" ["rows", "block", "turn"] (spPb K S (n + 1) 2) := by
  refine kn_mk (T.fn2 (("put_if" : Str), 32) (by decide +kernel)) sc_put_if (fun _ _ _ _ _ _ us hl => match us, hl with | [_, _, _], _ => rfl) (fun vs H Q E h => ?_) (fun f cdv A outer s0 H vs Q E hr h => ?_)
  · obtain ⟨_, _, _, _, _, rfl, _⟩ := h
    rfl
  obtain ⟨r, v, tn, b, rows, rfl, hR, dv, ok, hd, hk, hl, q⟩ := h
  cases b with
  | row _ => cases hk
  | lend _ _ _ _ _ _ => cases hk
  | whl _ _ _ _ => cases hk
  | ite l m xb l2 yb =>
  have so : ∀ {H'}, SX r H H' → Same (off r H) H' := fun s b o h => s b o (off_some.mp h).2 (off_some.mp h).1
  have dv1 : Dp K (off r H) v (.tuple [.str "if", .int l, .int m, .list (bencs xb), .int l2, .list (bencs yb)]) := dv
  obtain ⟨ba, xs, rfl, hs, hds⟩ := dp_tup dv1
  obtain _ | ⟨g1, _ | ⟨g2, _ | ⟨g3, _ | ⟨g4, _ | ⟨g5, _ | ⟨g6, _ | _⟩⟩⟩⟩⟩⟩ := hds
  have hl2 : rows.length + (bwts xb + bwts yb + 2) ≤ 5000 := hl
  have hdd : max (bdeps xb) (bdeps yb) + 1 < n + 1 := hd
  refine ⟨_, (pss_cons (ps_set (i := 3) sc_put_if.nd rfl (Or.inl rfl) (pe_callB call_ln (by rfl) (T.free "len" (by decide)) PySem.boot_len (pa_cons (pv 0) (pa_nil)))) (pss_cons (ps_expr (pe_bm PySem.F.plainAttrs_list PySem.F.slot_list_append PySem.F.type_list_append mt_append (pv 0) (pa_cons (pe_tup (pa_cons (pe_str) (pa_cons (pe_ix ix_seq (pv 1) (pe_int) (fun _ _ => rfl)) (pa_cons (pe_ix ix_seq (pv 1) (pe_int) (fun _ _ => rfl)) (pa_cons (pe_int) (pa_nil)))))) (pa_nil)))) (pss_cons (ps_expr (pe_kn Kput_steps hr rfl (pa_cons (pv 0) (pa_cons (pe_ix ix_seq (pv 1) (pe_int) (fun _ _ => rfl)) (pa_cons (pv 2) (pa_nil)))))) (pss_cons (ps_set (i := 4) sc_put_if.nd rfl (Or.inl rfl) (pe_callB call_ln (by rfl) (T.free "len" (by decide)) PySem.boot_len (pa_cons (pv 0) (pa_nil)))) (pss_cons (ps_expr (pe_bm PySem.F.plainAttrs_list PySem.F.slot_list_append PySem.F.type_list_append mt_append (pv 0) (pa_cons (pe_tup (pa_cons (pe_str) (pa_cons (pe_ix ix_seq (pv 1) (pe_int) (fun _ _ => rfl)) (pa_cons (pe_int) (pa_nil))))) (pa_nil)))) (pss_cons (ps_asg (pe_tup (pa_cons (pe_str) (pa_cons (pe_ix ix_seq (pv 1) (pe_int) (fun _ _ => rfl)) (pa_cons (pe_ix ix_seq (pv 1) (pe_int) (fun _ _ => rfl)) (pa_cons (pe_callB call_ln (by rfl) (T.free "len" (by decide)) PySem.boot_len (pa_cons (pv 0) (pa_nil))) (pa_nil)))))) (pg_sub (pv 0) (pv 3) set_list)) (pss_cons (ps_expr (pe_kn Kput_steps hr rfl (pa_cons (pv 0) (pa_cons (pe_ix ix_seq (pv 1) (pe_int) (fun _ _ => rfl)) (pa_cons (pv 2) (pa_nil)))))) (pss_one (ps_asg (pe_tup (pa_cons (pe_str) (pa_cons (pe_ix ix_seq (pv 1) (pe_int) (fun _ _ => rfl)) (pa_cons (pe_callB call_ln (by rfl) (T.free "len" (by decide)) PySem.boot_len (pa_cons (pv 0) (pa_nil))) (pa_nil))))) (pg_sub (pv 0) (pv 4) set_list)))))))))), ?_⟩
  have sx0 := SX.refl r H
  have gl : ∀ {σ : L2.St} {H' : Hp} (k : Nat) (d : PyData), SX r H H' → σ[1]? = some (some (.ref ba)) → atI [PyData.str "if", .int l, .int m, .list (bencs xb), .int l2, .list (bencs yb)] k = some d → Gd K (tOp (rIx K) (tVar 1) (tC (.int k))) σ H' d := fun k d sx e h => gd_op (gd_var e (dp_mono (so sx) dv1)) gd_int (r2_ixt h)
  have gn : ∀ {σ : L2.St} {H' : Hp} {rows' : List Row}, σ[0]? = some (some (.ref r)) → RAt K H' r rows' → Gd K (tCB (rLn K) (tCons (tVar 0) tNil)) σ H' (.int rows'.length) := fun e R => gd_rs (fun H1 s => rs_rows e (R.mono s)) (.int _)
  refine q_asgR (rs_rows rfl hR _ ?_)
  refine q_row (K := K) (row := .tst l m 0) rfl hR (gd_tup (ga_cons gd_str (ga_cons (gl 1 _ sx0 rfl rfl) (ga_cons (gl 2 _ sx0 rfl rfl) (ga_cons gd_int ga_nil)))) (Nat.le_of_ble_eq_true rfl)) (by omega) fun H1 sx1 R1 => ?_
  refine q_seq (show tDrop _ _ _ _ from call_ps (tn := tn) (rs_var rfl) (rs_ixt (m := 3) (rs_var rfl) rs_int (same_sqT (so sx1) hs) rfl) (rs_var rfl) R1 (dp_mono sx1.off g4) ok.1 (by omega) (by simp <;> omega) fun H2 sA sx2 R2 sgA lA => ?_)
  have sx2 := sx1.trans sx2
  refine q_asgR (rs_rows rfl R2 _ ?_)
  refine q_row (K := K) (row := .jmp l2 0) rfl R2 (gd_tup (ga_cons gd_str (ga_cons (gl 4 _ sx2 rfl rfl) (ga_cons gd_int ga_nil))) (Nat.le_of_ble_eq_true rfl)) (by simp <;> omega) fun H3 sx3 R3 => ?_
  have sx3 := sx2.trans sx3
  refine q_rset (K := K) (m := rows.length) (row := .tst l m (rows.length + sA.length + 2)) rfl rfl R3 (gd_tup (ga_cons gd_str (ga_cons (gl 1 _ sx3 rfl rfl) (ga_cons (gl 2 _ sx3 rfl rfl) (ga_cons (gd_is (gn rfl R3) (by simp <;> omega)) ga_nil)))) (Nat.le_of_ble_eq_true rfl)) (by simp <;> omega) fun H4 sx4 R4 => ?_
  have sx4 := sx3.trans sx4
  have e4 : (rows ++ [Row.tst l m 0] ++ sA ++ [Row.jmp l2 0]).set rows.length (.tst l m (rows.length + sA.length + 2)) = rows ++ ([Row.tst l m (rows.length + sA.length + 2)] ++ sA ++ [Row.jmp l2 0]) := by
    rw [List.append_assoc, List.append_assoc, List.set_append_right _ _ (Nat.le_refl _), Nat.sub_self]
    rfl
  rw [e4] at R4
  refine q_seq (show tDrop _ _ _ _ from call_ps (tn := tn) (rs_var rfl) (rs_ixt (m := 5) (rs_var rfl) rs_int (same_sqT (so sx4) hs) rfl) (rs_var rfl) R4 (dp_mono sx4.off g6) ok.2 (by omega) (by simp <;> omega) fun H5 sB sx5 R5 sgB lB => ?_)
  have sx5 := sx4.trans sx5
  have hm : (rows ++ [Row.tst l m 0] ++ sA).length = rows.length + 1 + sA.length := by simp <;> omega
  refine l_rset (K := K) (m := rows.length + 1 + sA.length) (row := .jmp l2 (rows.length + sA.length + 2 + sB.length)) rfl (by rw [← hm]; rfl) R5 (gd_tup (ga_cons gd_str (ga_cons (gl 4 _ sx5 rfl rfl) (ga_cons (gd_is (gn rfl R5) (by simp <;> omega)) ga_nil))) (Nat.le_of_ble_eq_true rfl)) (by simp <;> omega) fun H6 sx6 R6 => ?_
  have sx6 := sx5.trans sx6
  have e6 : (rows ++ ([Row.tst l m (rows.length + sA.length + 2)] ++ sA ++ [Row.jmp l2 0]) ++ sB).set (rows.length + 1 + sA.length) (.jmp l2 (rows.length + sA.length + 2 + sB.length)) = rows ++ (([Row.tst l m (rows.length + sA.length + 2)] ++ sA ++ [Row.jmp l2 (rows.length + sA.length + 2 + sB.length)]) ++ sB) := by
    rw [List.append_assoc, List.set_append_right _ _ (by omega)]
    congr 1
    have : rows.length + 1 + sA.length - rows.length = ([Row.tst l m (rows.length + sA.length + 2)] ++ sA).length := by simp <;> omega
    rw [this, List.append_assoc, List.set_append_right _ _ (Nat.le_refl _), Nat.sub_self]
    simp
  rw [e6] at R6
  refine q H6 _ sx6 R6 ?_ (by simp <;> show sA.length + (sB.length + 1) + 1 ≤ bwts xb + bwts yb + 2; omega)
  have lt : ([Row.tst l m (rows.length + sA.length + 2)] ++ sA).length = sA.length + 1 := by simp
  have le : (([Row.tst l m (rows.length + sA.length + 2)] ++ sA ++ [Row.jmp l2 (rows.length + sA.length + 2 + sB.length)]) ++ sB).length = sA.length + sB.length + 2 := by simp <;> omega
  rw [le]
  have sgA' : SegP S (rows.length + 1) (rows.length + (sA.length + sB.length + 2)) sA := by
    have z : (rows ++ [Row.tst l m 0]).length = rows.length + 1 := by simp
    rw [z] at sgA
    exact sgA.mono (by omega)
  have lB2 : (rows ++ ([Row.tst l m (rows.length + sA.length + 2)] ++ sA ++ [Row.jmp l2 0])).length = rows.length + sA.length + 2 := by simp <;> omega
  rw [lB2] at sgB
  refine SegP.app (SegP.jmp (row := .tst l m (rows.length + sA.length + 2)) (SegP.app (.tst (by omega) (by omega)) sgA') rfl ?_ (by omega)) ?_
  · rw [lt]
    have : rows.length + (sA.length + 1) + 1 = rows.length + sA.length + 2 := by omega
    rw [this]
    exact List.mem_cons_of_mem _ List.mem_cons_self
  · have z : ([Row.tst l m (rows.length + sA.length + 2)] ++ sA ++ [Row.jmp l2 (rows.length + sA.length + 2 + sB.length)]).length = sA.length + 2 := by simp
    rw [z]
    have z2 : rows.length + (sA.length + 2) = rows.length + sA.length + 2 := by omega
    rw [z2]
    exact sgB.mono (by omega)
end
end Uw
/-! text T23 -/
namespace Uw
open PySem PySem.Spec PyProof.Rows L2
/-! put_while, put_steps -/
theorem q_ifJ {σ : L2.St} {H : Hp} {tt : TT} {a : Bool} {D : Ends} {t t' : TS} (J : Hp → Prop) (h : Gt tt σ H a) (h3 : ∀ H', J H' → t' D σ H') (h1 : (∀ H', J H' → t' D σ H') → a = true → ∀ H1, Same H H1 → t { D with nx := t' D } σ H1) (h2 : a = false → ∀ H1, Same H H1 → J H1) :
    tSeq (tIfS tt t tNext) t' D σ H := q_if0 h (h1 h3) fun e H1 s => h3 H1 (h2 e H1 s)
section
variable {P : Program} {w : World} {K : PySem.W.Frag} {mg : Str → Option Value} {base : Heap} {S n : Nat}
theorem sc_put_while : FnScope ["rows", "block", "turn", "first", "head"] ["rows", "block", "turn"] (defScope (top 33)) := ⟨rfl, rfl, rfl, by decide +kernel, rfl, by decide +kernel, by decide +kernel⟩
theorem kn_pwhile (T : Tx K mg) (k : Nat) (Kput_steps : Kn P w K mg base k "put_steps" ["rows", "marked", "turn"] (spPs K S n)) : Kn P w K mg base (k + 1) "put_while" ["rows", "block", "turn"] (spPb K S (n + 1) 3) := by
  refine kn_mk (T.fn2 (("put_while" : Str), 33) (by decide +kernel)) sc_put_while (fun _ _ _ _ _ _ us hl => match us, hl with | [_, _, _], _ => rfl) (fun vs H Q E h => ?_) (fun f cdv A outer s0 H vs Q E hr h => ?_)
  · obtain ⟨_, _, _, _, _, rfl, _⟩ := h
    rfl
  obtain ⟨r, v, tn, b, rows, rfl, hR, dv, ok, hd, hk, hl, q⟩ := h
  cases b with
  | row _ => cases hk
  | lend _ _ _ _ _ _ => cases hk
  | ite _ _ _ _ _ => cases hk
  | whl l m xb l2 =>
  have so : ∀ {H'}, SX r H H' → Same (off r H) H' := fun s b o h => s b o (off_some.mp h).2 (off_some.mp h).1
  have dv1 : Dp K (off r H) v (.tuple [.str "while", .int l, .int m, .list (bencs xb), .int l2]) := dv
  obtain ⟨ba, xs, rfl, hs, hds⟩ := dp_tup dv1
  obtain _ | ⟨g1, _ | ⟨g2, _ | ⟨g3, _ | ⟨g4, _ | ⟨g5, _ | _⟩⟩⟩⟩⟩ := hds
  have hl2 : rows.length + (2 * bwts xb + 3) ≤ 5000 := hl
  have hdd : bdeps xb + 1 < n + 1 := hd
  refine ⟨_, (pss_cons (ps_set (i := 3) sc_put_while.nd rfl (Or.inl rfl) (pe_callB call_ln (by rfl) (T.free "len" (by decide)) PySem.boot_len (pa_cons (pv 0) (pa_nil)))) (pss_cons (ps_if (pt_val (pv 2)) (pss_cons (ps_expr (pe_bm PySem.F.plainAttrs_list PySem.F.slot_list_append PySem.F.type_list_append mt_append (pv 0) (pa_cons (pe_tup (pa_cons (pe_str) (pa_cons (pe_ix ix_seq (pv 1) (pe_int) (fun _ _ => rfl)) (pa_cons (pe_ix ix_seq (pv 1) (pe_int) (fun _ _ => rfl)) (pa_cons (pe_int) (pa_nil)))))) (pa_nil)))) (pss_one (ps_expr (pe_kn Kput_steps hr rfl (pa_cons (pv 0) (pa_cons (pe_ix ix_seq (pv 1) (pe_int) (fun _ _ => rfl)) (pa_cons (pe_bl) (pa_nil)))))))) (pss_nil)) (pss_cons (ps_set (i := 4) sc_put_while.nd rfl (Or.inl rfl) (pe_callB call_ln (by rfl) (T.free "len" (by decide)) PySem.boot_len (pa_cons (pv 0) (pa_nil)))) (pss_cons (ps_expr (pe_bm PySem.F.plainAttrs_list PySem.F.slot_list_append PySem.F.type_list_append mt_append (pv 0) (pa_cons (pe_tup (pa_cons (pe_str) (pa_cons (pe_ix ix_seq (pv 1) (pe_int) (fun _ _ => rfl)) (pa_cons (pe_ix ix_seq (pv 1) (pe_int) (fun _ _ => rfl)) (pa_cons (pe_int) (pa_nil)))))) (pa_nil)))) (pss_cons (ps_expr (pe_kn Kput_steps hr rfl (pa_cons (pv 0) (pa_cons (pe_ix ix_seq (pv 1) (pe_int) (fun _ _ => rfl)) (pa_cons (pe_bl) (pa_nil)))))) (pss_cons (ps_expr (pe_bm PySem.F.plainAttrs_list PySem.F.slot_list_append PySem.F.type_list_append mt_append (pv 0) (pa_cons (pe_tup (pa_cons (pe_str) (pa_cons (pe_ix ix_seq (pv 1) (pe_int) (fun _ _ => rfl)) (pa_cons (pv 4) (pa_nil))))) (pa_nil)))) (pss_cons (ps_asg (pe_tup (pa_cons (pe_str) (pa_cons (pe_ix ix_seq (pv 1) (pe_int) (fun _ _ => rfl)) (pa_cons (pe_ix ix_seq (pv 1) (pe_int) (fun _ _ => rfl)) (pa_cons (pe_callB call_ln (by rfl) (T.free "len" (by decide)) PySem.boot_len (pa_cons (pv 0) (pa_nil))) (pa_nil)))))) (pg_sub (pv 0) (pv 4) set_list)) (pss_one (ps_asg (pe_tup (pa_cons (pe_str) (pa_cons (pe_ix ix_seq (pv 1) (pe_int) (fun _ _ => rfl)) (pa_cons (pe_ix ix_seq (pv 1) (pe_int) (fun _ _ => rfl)) (pa_cons (pe_callB call_ln (by rfl) (T.free "len" (by decide)) PySem.boot_len (pa_cons (pv 0) (pa_nil))) (pa_nil)))))) (pg_sub (pv 0) (pv 3) set_list)))))))))), ?_⟩
  have sx0 := SX.refl r H
  have gl : ∀ {σ : L2.St} {H' : Hp} (k : Nat) (d : PyData), SX r H H' → σ[1]? = some (some (.ref ba)) → atI [PyData.str "while", .int l, .int m, .list (bencs xb), .int l2] k = some d → Gd K (tOp (rIx K) (tVar 1) (tC (.int k))) σ H' d := fun k d sx e h => gd_op (gd_var e (dp_mono (so sx) dv1)) gd_int (r2_ixt h)
  have gn : ∀ {σ : L2.St} {H' : Hp} {rows' : List Row}, σ[0]? = some (some (.ref r)) → RAt K H' r rows' → Gd K (tCB (rLn K) (tCons (tVar 0) tNil)) σ H' (.int rows'.length) := fun e R => gd_rs (fun H1 s => rs_rows e (R.mono s)) (.int _)
  refine q_asgR (rs_rows rfl hR _ ?_)
  refine q_ifJ (fun H' => SX r H H' ∧ ∃ pre, RAt K H' r (rows ++ pre) ∧ (pre = [] ∨ ∃ A1, pre = [Row.tst l m 0] ++ A1 ∧ SegP S (rows.length + 1) (rows.length + 1 + A1.length) A1 ∧ A1.length ≤ bwts xb)) (gt_B (K := K) (gd_var rfl (.bl tn))) (fun H1 hJ => ?_) (fun kk _ H1 s1 => ?_) fun _ H1 s1 => ⟨SX.of s1, [], by rw [List.append_nil]; exact hR.mono s1, .inl rfl⟩
  · obtain ⟨sx1, pre, R1, hpre⟩ := hJ
    have lpre : pre.length ≤ bwts xb + 1 := by
      rcases hpre with e | ⟨A1, e, _, h⟩
      · rw [e]
        exact Nat.zero_le _
      · rw [e]
        simp
        omega
    have lp : (rows ++ pre).length = rows.length + pre.length := List.length_append
    refine q_asgR (rs_rows rfl R1 _ ?_)
    rw [lp]
    refine q_row (K := K) (row := .tst l m 0) rfl R1 (gd_tup (ga_cons gd_str (ga_cons (gl 1 _ sx1 rfl rfl) (ga_cons (gl 2 _ sx1 rfl rfl) (ga_cons gd_int ga_nil)))) (Nat.le_of_ble_eq_true rfl)) (by omega) fun H2 sx2 R2 => ?_
    have sx2 := sx1.trans sx2
    have l2' : (rows ++ pre ++ [Row.tst l m 0]).length = rows.length + pre.length + 1 := by simp <;> omega
    refine q_seq (show tDrop _ _ _ _ from call_ps (tn := false) (rs_var rfl) (rs_ixt (m := 3) (rs_var rfl) rs_int (same_sqT (so sx2) hs) rfl) rs_c R2 (dp_mono sx2.off g4) ok (by omega) (by omega) fun H3 sA sx3 R3 sgA lA => ?_)
    have sx3 := sx2.trans sx3
    refine q_row (K := K) (row := .jmp l2 (rows.length + pre.length)) rfl R3 (gd_tup (ga_cons gd_str (ga_cons (gl 4 _ sx3 rfl rfl) (ga_cons (gd_var rfl (.int _)) ga_nil))) (Nat.le_of_ble_eq_true rfl)) (by rw [List.length_append]; omega) fun H4 sx4 R4 => ?_
    have sx4 := sx3.trans sx4
    generalize hE : rows.length + pre.length + sA.length + 2 = E
    have l4 : (rows ++ pre ++ [Row.tst l m 0] ++ sA ++ [Row.jmp l2 (rows.length + pre.length)]).length = E := by simp <;> omega
    refine q_rset (K := K) (m := rows.length + pre.length) (row := .tst l m E) rfl rfl R4 (gd_tup (ga_cons gd_str (ga_cons (gl 1 _ sx4 rfl rfl) (ga_cons (gl 2 _ sx4 rfl rfl) (ga_cons (gd_is (gn rfl R4) (by rw [l4])) ga_nil)))) (Nat.le_of_ble_eq_true rfl)) (by rw [l4]; omega) fun H5 sx5 R5 => ?_
    have sx5 := sx4.trans sx5
    have e5 : (rows ++ pre ++ [Row.tst l m 0] ++ sA ++ [Row.jmp l2 (rows.length + pre.length)]).set (rows.length + pre.length) (.tst l m E) = rows ++ (pre ++ ([Row.tst l m E] ++ sA ++ [Row.jmp l2 (rows.length + pre.length)])) := by
      rw [← lp, List.append_assoc, List.append_assoc, List.set_append_right _ _ (Nat.le_refl _), Nat.sub_self, List.append_assoc]
      simp
    rw [e5] at R5
    have l5 : (rows ++ (pre ++ ([Row.tst l m E] ++ sA ++ [Row.jmp l2 (rows.length + pre.length)]))).length = E := by simp <;> omega
    refine l_rset (K := K) (m := rows.length) (row := .tst l m E) rfl rfl R5 (gd_tup (ga_cons gd_str (ga_cons (gl 1 _ sx5 rfl rfl) (ga_cons (gl 2 _ sx5 rfl rfl) (ga_cons (gd_is (gn rfl R5) (by rw [l5])) ga_nil)))) (Nat.le_of_ble_eq_true rfl)) (by rw [l5]; omega) fun H6 sx6 R6 => ?_
    have sx6 := sx5.trans sx6
    rw [List.set_append_right _ _ (Nat.le_refl _), Nat.sub_self] at R6
    rw [l2'] at sgA
    rcases hpre with e | ⟨A1, e, sg1, l1⟩
    · subst e
      have R6 : RAt K H6 r (rows ++ ([Row.tst l m E] ++ sA ++ [Row.jmp l2 (rows.length + 0)])) := R6
      have l0 : ([] : List Row).length = 0 := rfl
      rw [l0] at hE sgA
      have lt : ([Row.tst l m E] ++ sA).length = sA.length + 1 := by simp
      refine q H6 _ sx6 R6 ?_ (by simp <;> show sA.length + 1 + 1 ≤ 2 * bwts xb + 3 <;> omega)
      have lq : ([Row.tst l m E] ++ sA ++ [Row.jmp l2 (rows.length + 0)]).length = sA.length + 2 := by simp
      rw [lq]
      refine SegP.jmp (row := .tst l m E) (SegP.app (.tst (by omega) (by omega)) (sgA.mono (by omega))) rfl ?_ (by omega)
      rw [lt]
      have : rows.length + (sA.length + 1) + 1 = E := by omega
      rw [this]
      exact List.mem_cons_of_mem _ List.mem_cons_self
    · subst e
      have le1 : ([Row.tst l m 0] ++ A1).length = A1.length + 1 := by simp
      rw [le1] at hE sgA R6
      have e6 : ([Row.tst l m 0] ++ A1 ++ ([Row.tst l m E] ++ sA ++ [Row.jmp l2 (rows.length + (A1.length + 1))])).set 0 (.tst l m E) = ([Row.tst l m E] ++ A1 ++ ([Row.tst l m E] ++ sA)) ++ [Row.jmp l2 (rows.length + (A1.length + 1))] := by
        simp
      rw [e6] at R6
      refine q H6 _ sx6 R6 ?_ (by simp <;> show _ ≤ 2 * bwts xb + 3 <;> omega)
      have lq : (([Row.tst l m E] ++ A1 ++ ([Row.tst l m E] ++ sA)) ++ [Row.jmp l2 (rows.length + (A1.length + 1))]).length = A1.length + sA.length + 3 := by simp <;> omega
      rw [lq]
      have lx : ([Row.tst l m E] ++ A1 ++ ([Row.tst l m E] ++ sA)).length = A1.length + sA.length + 2 := by simp <;> omega
      have la : ([Row.tst l m E] ++ A1).length = A1.length + 1 := by simp
      refine SegP.jmp (row := .tst l m E) (SegP.app (SegP.app (.tst (by omega) (by omega)) (sg1.mono (by omega))) (SegP.app (.tst (by omega) (by omega)) ?_)) rfl ?_ (by omega)
      · rw [la]
        have : rows.length + (A1.length + 1) + ([Row.tst l m E] : List Row).length = rows.length + (A1.length + 1) + 1 := rfl
        rw [this]
        exact sgA.mono (by omega)
      · rw [lx]
        have : rows.length + (A1.length + sA.length + 2) + 1 = E := by omega
        rw [this]
        exact List.mem_cons_of_mem _ List.mem_cons_self
  · have sx1 := SX.of (x := r) s1
    have R1 := hR.mono s1
    refine q_row (K := K) (row := .tst l m 0) rfl R1 (gd_tup (ga_cons gd_str (ga_cons (gl 1 _ sx1 rfl rfl) (ga_cons (gl 2 _ sx1 rfl rfl) (ga_cons gd_int ga_nil)))) (Nat.le_of_ble_eq_true rfl)) (by omega) fun H2 sx2 R2 => ?_
    have sx2 := sx1.trans sx2
    have l2' : (rows ++ [Row.tst l m 0]).length = rows.length + 1 := by simp
    refine (show tDrop _ _ _ _ from call_ps (tn := true) (rs_var rfl) (rs_ixt (m := 3) (rs_var rfl) rs_int (same_sqT (so sx2) hs) rfl) rs_c R2 (dp_mono sx2.off g4) ok (by omega) (by omega) fun H3 sA sx3 R3 sgA lA => ?_)
    rw [l2'] at sgA
    rw [List.append_assoc] at R3
    exact kk H3 ⟨sx2.trans sx3, _, R3, .inr ⟨sA, rfl, sgA, lA⟩⟩
end
end Uw
/-! text T24 -/
namespace Uw
open PySem PySem.Spec PyProof.Rows L2
/-! put_steps, coded -/
theorem bmem_ok {S : Nat} : ∀ {bs : List Blk} {b : Blk}, BOks S bs → b ∈ bs → b.Ok S
  | _ :: _, b, h, m => by
    rcases List.mem_cons.mp m with e | m
    · subst e
      exact h.1
    · exact bmem_ok h.2 m
theorem bmem_dep : ∀ {bs : List Blk} {b : Blk}, b ∈ bs → b.dep ≤ bdeps bs
  | a :: bs, b, m => by
    show _ ≤ max a.dep (bdeps bs)
    rcases List.mem_cons.mp m with e | m
    · subst e
      omega
    · have z := bmem_dep m
      omega
theorem bwts_take (p : List Blk) (i : Nat) : bwts (p.take i) ≤ bwts p := by
  have z := bwts_app (p.take i) (p.drop i)
  rw [List.take_append_drop] at z
  omega
theorem l_forW {K : PySem.W.Frag} {σ : L2.St} {H H0 : Hp} {D : Ends} {tb : TS} {j n : Nat} {ds : List PyData} {v : V} (Pv : Nat → L2.St → Hp → Prop) (hv : σ[n]? = some (some v)) (hd : Dp K H0 v (.list ds)) (s0 : Same H0 H) (p0 : Pv 0 σ H) (pl : ∀ i σ' H', Pv i σ' H' → Same H0 H')
    (pt : ∀ i d v σ' H', ds[i]? = some d → Pv i σ' H' → Dp K H0 v d → tb { D with nx := Pv (i + 1), ct := Pv (i + 1), bk := D.nx } (σ'.set j (some v)) H') (pe : ∀ σ' H', Pv ds.length σ' H' → D.nx σ' H') :
    tFor (iList K (tVar n)) (gName j) tb D σ H := by
  obtain ⟨a, xs, rfl, h1, h2⟩ := dp_list hd
  refine ⟨_, hv, a, rfl, ⟨xs, s0.seq h1⟩, for_list (K := K) (a := a) (xs := xs) Pv p0 (fun i σ' H' _ p => (pl i σ' H' p).seq h1) (fun i x σ' H' hx p => ?_) fun σ' H' p => pe σ' H' (by rw [← dps_len h2]; exact p)⟩
  obtain ⟨d, e, q⟩ := dps_get' h2 hx
  exact pt i d x σ' H' e p q
section
variable {P : Program} {w : World} {K : PySem.W.Frag} {mg : Str → Option Value} {base : Heap} {S n : Nat} {C : Addr}
theorem sc_put_steps : FnScope ["rows", "marked", "turn", "one"] ["rows", "marked", "turn"] (defScope (top 34)) := ⟨rfl, rfl, rfl, by decide +kernel, rfl, by decide +kernel, by decide +kernel⟩
theorem kn_psteps (T : Tx K mg) (k : Nat) (Kput_lend : Kn P w K mg base k "put_lend" ["rows", "block", "turn"] (spPb K S n 1)) (Kput_if : Kn P w K mg base k "put_if" ["rows", "block", "turn"] (spPb K S n 2)) (Kput_while : Kn P w K mg base k "put_while" ["rows", "block", "turn"] (spPb K S n 3)) :
    Kn P w K mg base (k + 1) "put_steps" ["rows", "marked", "turn"] (spPs K S n) := by
  refine kn_mk (T.fn2 (("put_steps" : Str), 34) (by decide +kernel)) sc_put_steps (fun _ _ _ _ _ _ us hl => match us, hl with | [_, _, _], _ => rfl) (fun vs H Q E h => ?_) (fun f cdv A outer s0 H vs Q E hr h => ?_)
  · obtain ⟨_, _, _, _, _, rfl, _⟩ := h
    rfl
  obtain ⟨r, v, tn, bs, rows, rfl, hR, dv, ok, hd, hl, q⟩ := h
  have so : ∀ {H'}, SX r H H' → Same (off r H) H' := fun s b o h => s b o (off_some.mp h).2 (off_some.mp h).1
  rw [bencs_map] at dv
  refine ⟨_, (pss_one (ps_for PassesOwn.never rfl (pi_list (pv 1)) (pg_name (i := 3) sc_put_steps.nd rfl (.inl rfl)) (pss_one (ps_if (pt_cmpR op_eq (pe_ix ix_seq (pv 3) (pe_int) (fun _ _ => rfl)) (pe_str) (nomark _)) (pss_one (ps_expr (pe_kn Kput_lend hr rfl (pa_cons (pv 0) (pa_cons (pv 3) (pa_cons (pv 2) (pa_nil))))))) (pss_one (ps_if (pt_cmpR op_eq (pe_ix ix_seq (pv 3) (pe_int) (fun _ _ => rfl)) (pe_str) (nomark _)) (pss_one (ps_expr (pe_kn Kput_if hr rfl (pa_cons (pv 0) (pa_cons (pv 3) (pa_cons (pv 2) (pa_nil))))))) (pss_one (ps_if (pt_cmpR op_eq (pe_ix ix_seq (pv 3) (pe_int) (fun _ _ => rfl)) (pe_str) (nomark _)) (pss_one (ps_expr (pe_kn Kput_while hr rfl (pa_cons (pv 0) (pa_cons (pv 3) (pa_cons (pv 2) (pa_nil))))))) (pss_one (ps_expr (pe_bm PySem.F.plainAttrs_list PySem.F.slot_list_append PySem.F.type_list_append mt_append (pv 0) (pa_cons (pv 3) (pa_nil))))))))))))), ?_⟩
  refine l_forW (K := K) (H0 := off r H) (ds := bs.map Blk.enc) (v := v) (fun i σ' H' => Same (off r H) H' ∧ SX r H H' ∧ (∃ o, σ' = [some (.ref r), some v, some (.bl tn), o]) ∧ ∃ seg, RAt K H' r (rows ++ seg) ∧ SegP S rows.length (rows.length + seg.length) seg ∧ seg.length ≤ bwts (bs.take i)) rfl dv off_le
    ⟨off_le, SX.refl r H, ⟨_, rfl⟩, [], by rw [List.append_nil]; exact hR, .nil, Nat.zero_le _⟩ (fun i σ' H' p => p.1) (fun i dd y σ' H' hdd hP dy0 => ?_) fun σ' H' hP => ?_
  · obtain ⟨b, hb, rfl⟩ := dps_of hdd
    obtain ⟨_, sx, ⟨o, rfl⟩, seg, R, sg, ls⟩ := hP
    have hm := List.mem_of_getElem? hb
    have bok := bmem_ok ok hm
    have bd := bmem_dep hm
    have ew : bwts (bs.take (i + 1)) = bwts (bs.take i) + b.wt := by
      rw [List.take_add_one, hb, bwts_app]
      show _ + (b.wt + 0) = _
      omega
    have wl := bwts_take bs (i + 1)
    have dyo : Dp K (off r H') y b.enc := dp_mono sx.off dy0
    have dy : Dp K H' y b.enc := dp_mono (so sx) dy0
    have fin : ∀ H2 s2, SX r H' H2 → RAt K H2 r (rows ++ seg ++ s2) → SegP S (rows ++ seg).length ((rows ++ seg).length + s2.length) s2 → s2.length ≤ b.wt → Same (off r H) H2 ∧ SX r H H2 ∧ (∃ o, [some (V.ref r), some v, some (V.bl tn), some y] = [some (.ref r), some v, some (.bl tn), o]) ∧ ∃ seg, RAt K H2 r (rows ++ seg) ∧ SegP S rows.length (rows.length + seg.length) seg ∧ seg.length ≤ bwts (bs.take (i + 1)) := fun H2 s2 sx2 R2 sg2 l2 => by
      have ll : (rows ++ seg).length = rows.length + seg.length := List.length_append
      have ls2 : (seg ++ s2).length = seg.length + s2.length := List.length_append
      rw [ll] at sg2
      refine ⟨so (sx.trans sx2), sx.trans sx2, ⟨_, rfl⟩, seg ++ s2, by rw [← List.append_assoc]; exact R2, SegP.app (sg.mono (by omega)) (sg2.mono (by omega)), by rw [ls2, ew]; omega⟩
    have lseg : (rows ++ seg).length + b.wt ≤ 5000 := by
      rw [List.length_append]
      omega
    cases b with
    | row rw_ =>
      cases rw_ with
      | opn l s =>
        have dy1 : Dp K H' y (.tuple [.str "open", .int l, .int s]) := dy
        refine l_no (by walk_at "tagF") fun H1 s1 => l_no (by walk_at "tagF") fun H3 s3 => l_no (by walk_at "tagF") fun H4 s4 => ?_
        have s14 : Same H' H4 := s1.trans (s3.trans s4)
        refine l_row (K := K) (row := .opn l s) rfl (R.mono s14) (gd_var rfl (dp_mono s14 dy)) (by have z : (rows ++ seg).length + 1 ≤ 5000 := lseg; omega) fun H2 sx2 R2 => ?_
        exact fin H2 [.opn l s] ((SX.of s14).trans sx2) R2 (SegP.one bok.1 rfl (Nat.le_refl _)) (Nat.le_refl _)
      | act l s w' =>
        have dy1 : Dp K H' y (.tuple [.str "do", .int l, .int s, .str w']) := dy
        refine l_no (by walk_at "tagF") fun H1 s1 => l_no (by walk_at "tagF") fun H3 s3 => l_no (by walk_at "tagF") fun H4 s4 => ?_
        have s14 : Same H' H4 := s1.trans (s3.trans s4)
        refine l_row (K := K) (row := .act l s w') rfl (R.mono s14) (gd_var rfl (dp_mono s14 dy)) (by have z : (rows ++ seg).length + 1 ≤ 5000 := lseg; omega) fun H2 sx2 R2 => ?_
        exact fin H2 [.act l s w'] ((SX.of s14).trans sx2) R2 (SegP.one bok.1 rfl (Nat.le_refl _)) (Nat.le_refl _)
      | cpy l s t =>
        have dy1 : Dp K H' y (.tuple [.str "copy", .int l, .int s, .int t]) := dy
        refine l_no (by walk_at "tagF") fun H1 s1 => l_no (by walk_at "tagF") fun H3 s3 => l_no (by walk_at "tagF") fun H4 s4 => ?_
        have s14 : Same H' H4 := s1.trans (s3.trans s4)
        refine l_row (K := K) (row := .cpy l s t) rfl (R.mono s14) (gd_var rfl (dp_mono s14 dy)) (by have z : (rows ++ seg).length + 1 ≤ 5000 := lseg; omega) fun H2 sx2 R2 => ?_
        exact fin H2 [.cpy l s t] ((SX.of s14).trans sx2) R2 (SegP.one bok.1 rfl (Nat.le_refl _)) (Nat.le_refl _)
      | drp l s =>
        have dy1 : Dp K H' y (.tuple [.str "drop", .int l, .int s]) := dy
        refine l_no (by walk_at "tagF") fun H1 s1 => l_no (by walk_at "tagF") fun H3 s3 => l_no (by walk_at "tagF") fun H4 s4 => ?_
        have s14 : Same H' H4 := s1.trans (s3.trans s4)
        refine l_row (K := K) (row := .drp l s) rfl (R.mono s14) (gd_var rfl (dp_mono s14 dy)) (by have z : (rows ++ seg).length + 1 ≤ 5000 := lseg; omega) fun H2 sx2 R2 => ?_
        exact fin H2 [.drp l s] ((SX.of s14).trans sx2) R2 (SegP.one bok.1 rfl (Nat.le_refl _)) (Nat.le_refl _)
      | tie l s t =>
        have dy1 : Dp K H' y (.tuple [.str "tie", .int l, .int s, .int t]) := dy
        refine l_no (by walk_at "tagF") fun H1 s1 => l_no (by walk_at "tagF") fun H3 s3 => l_no (by walk_at "tagF") fun H4 s4 => ?_
        have s14 : Same H' H4 := s1.trans (s3.trans s4)
        refine l_row (K := K) (row := .tie l s t) rfl (R.mono s14) (gd_var rfl (dp_mono s14 dy)) (by have z : (rows ++ seg).length + 1 ≤ 5000 := lseg; omega) fun H2 sx2 R2 => ?_
        exact fin H2 [.tie l s t] ((SX.of s14).trans sx2) R2 (SegP.one bok.1 rfl (Nat.le_refl _)) (Nat.le_refl _)
      | tst l m t => cases bok.2
      | jmp l t => cases bok.2
      | fin l => cases bok.2
    | lend l a b' c body l2 =>
      have dy1 : Dp K H' y (.tuple [.str "lend", .int l, .tuple [.int a, .int b', .int c], .list (bencs body), .int l2]) := dy
      refine l_yes (by walk_at "tagT") fun H1 s1 => ?_
      exact call_pb (rs_var rfl) (rs_var rfl) (rs_var rfl) (R.mono s1) (dp_mono (SX.of s1).off dyo) bok (by omega) rfl lseg fun H2 s2 sx2 R2 sg2 l2 => fin H2 s2 ((SX.of s1).trans sx2) R2 sg2 l2
    | ite l m xb l2 yb =>
      have dy1 : Dp K H' y (.tuple [.str "if", .int l, .int m, .list (bencs xb), .int l2, .list (bencs yb)]) := dy
      refine l_no (by walk_at "tagF") fun H1 s1 => l_yes (by walk_at "tagT") fun H3 s3 => ?_
      exact call_pb (rs_var rfl) (rs_var rfl) (rs_var rfl) (R.mono (s1.trans s3)) (dp_mono (SX.of (s1.trans s3)).off dyo) bok (by omega) rfl lseg fun H2 s2 sx2 R2 sg2 l2 => fin H2 s2 ((SX.of (s1.trans s3)).trans sx2) R2 sg2 l2
    | whl l m xb l2 =>
      have dy1 : Dp K H' y (.tuple [.str "while", .int l, .int m, .list (bencs xb), .int l2]) := dy
      refine l_no (by walk_at "tagF") fun H1 s1 => l_no (by walk_at "tagF") fun H3 s3 => l_yes (by walk_at "tagT") fun H4 s4 => ?_
      have s14 : Same H' H4 := s1.trans (s3.trans s4)
      exact call_pb (rs_var rfl) (rs_var rfl) (rs_var rfl) (R.mono s14) (dp_mono (SX.of s14).off dyo) bok (by omega) rfl lseg fun H2 s2 sx2 R2 sg2 l2 => fin H2 s2 ((SX.of s14).trans sx2) R2 sg2 l2
  · obtain ⟨_, sx, ⟨o, rfl⟩, seg, R, sg, ls⟩ := hP
    rw [List.length_map, List.take_length] at ls
    exact q H' seg sx R sg ls
/-- all of them, n blocks deep -/
theorem kn_puts (T : Tx K mg) : ∀ n, (Kn P w K mg base (2 * n + 1) "put_lend" ["rows", "block", "turn"] (spPb K S n 1) ∧ Kn P w K mg base (2 * n + 1) "put_if" ["rows", "block", "turn"] (spPb K S n 2) ∧ Kn P w K mg base (2 * n + 1) "put_while" ["rows", "block", "turn"] (spPb K S n 3)) ∧
    Kn P w K mg base (2 * n + 2) "put_steps" ["rows", "marked", "turn"] (spPs K S n)
  | 0 => by
    have z1 : Kn P w K mg base 1 "put_lend" ["rows", "block", "turn"] (spPb K S 0 1) := kn_mk (T.fn2 (("put_lend" : Str), 31) (by decide +kernel)) sc_put_lend (fun _ _ _ _ _ _ us hl => match us, hl with | [_, _, _], _ => rfl) (fun vs H Q E h => by
      obtain ⟨_, _, _, _, _, _, _, _, _, h, _⟩ := h
      exact absurd h (Nat.not_lt_zero _)) (fun f cdv A outer s0 H vs Q E hr h => by
      obtain ⟨_, _, _, _, _, _, _, _, _, h, _⟩ := h
      exact absurd h (Nat.not_lt_zero _))
    have z2 : Kn P w K mg base 1 "put_if" ["rows", "block", "turn"] (spPb K S 0 2) := kn_mk (T.fn2 (("put_if" : Str), 32) (by decide +kernel)) sc_put_if (fun _ _ _ _ _ _ us hl => match us, hl with | [_, _, _], _ => rfl) (fun vs H Q E h => by
      obtain ⟨_, _, _, _, _, _, _, _, _, h, _⟩ := h
      exact absurd h (Nat.not_lt_zero _)) (fun f cdv A outer s0 H vs Q E hr h => by
      obtain ⟨_, _, _, _, _, _, _, _, _, h, _⟩ := h
      exact absurd h (Nat.not_lt_zero _))
    have z3 : Kn P w K mg base 1 "put_while" ["rows", "block", "turn"] (spPb K S 0 3) := kn_mk (T.fn2 (("put_while" : Str), 33) (by decide +kernel)) sc_put_while (fun _ _ _ _ _ _ us hl => match us, hl with | [_, _, _], _ => rfl) (fun vs H Q E h => by
      obtain ⟨_, _, _, _, _, _, _, _, _, h, _⟩ := h
      exact absurd h (Nat.not_lt_zero _)) (fun f cdv A outer s0 H vs Q E hr h => by
      obtain ⟨_, _, _, _, _, _, _, _, _, h, _⟩ := h
      exact absurd h (Nat.not_lt_zero _))
    exact ⟨⟨z1, z2, z3⟩, kn_psteps T 1 z1 z2 z3⟩
  | n + 1 => by
    have z := (kn_puts T n).2
    have z1 := kn_plend (P := P) (w := w) (base := base) T _ z
    have z2 := kn_pif (P := P) (w := w) (base := base) T _ z
    have z3 := kn_pwhile (P := P) (w := w) (base := base) T _ z
    exact ⟨⟨z1, z2, z3⟩, kn_psteps T _ z1 z2 z3⟩
/-! coded -/
theorem same_sx {H Hk Hk' : Hp} {x : Addr} (s : Same H Hk) (h : H x = none) (sx : SX x Hk Hk') : Same H Hk' := fun b o q => sx b o (s b o q) fun e => by rw [e, h] at q; cases q
def R_coded (two : Bool) (ds : List PyData) (Z : PyData → Prop) : Prop := ∃ (p : List Stp) (nm : List Str) (S : Nat) (tn : Bool), Goods p ∧ deps p < 3 ∧ szs p ≤ 1000 ∧ (∀ y ∈ namesL p, y ∈ nm) ∧ nm.length + lendsL p ≤ S ∧ S ≤ 60 ∧ wts p ≤ 400 ∧
  ds = (if two then [.list (encs p), .bool tn] else [.list (encs p)]) ∧ Z = fun d => ∃ code, d = encCode code ∧ Wf code ∧ (∀ row ∈ code, row.Ok S) ∧ code.length ≤ wts p + 1
theorem sc_coded : FnScope ["program", "turn", "marker", "rows"] ["program", "turn"] (defScope (top 35)) := ⟨rfl, rfl, rfl, by decide +kernel, rfl, by decide +kernel, by decide +kernel⟩
theorem kn_coded (T : Tx K mg) (TMk : TM K mg C) : Kn P w K mg base 11 "coded" ["program", "turn"] (spN K (R_coded true)) := by
  have KIMarker := kn_init (P := P) (w := w) (base := base) T TMk
  have Knames_of := kn_names_of (P := P) (w := w) (base := base) T
  have Klines_of := (kn_lines (P := P) (w := w) (base := base) T 3).2
  have KMmarked := (kn_marks (P := P) (w := w) (base := base) TMk T 3).2
  refine kn_N (T.fn2 (("coded" : Str), 35) (by decide +kernel)) sc_coded (fun _ _ _ _ _ _ us hl => match us, hl with | [_, _], _ => rfl) (fun ds d h => ?_) (fun f cdv A outer s0 H vs E ds Z hr hv h => ?_)
  · obtain ⟨_, _, _, _, _, _, _, _, _, _, _, rfl, _⟩ := h
    rfl
  obtain ⟨p, nm, S, tn, hg, hd, hz, hns, hS, hS60, hw, rfl, rfl⟩ := h
  have hv : DpAll K H vs [.list (encs p), .bool tn] := hv
  obtain _ | ⟨h1, _ | ⟨h2, _ | _⟩⟩ := hv
  have e2 := dp_bl h2
  subst e2
  rename_i v1
  have Kput_steps := (kn_puts (P := P) (w := w) (base := base) (S := S) T 3).2
  refine ⟨_, (pss_cons (ps_set (i := 2) sc_coded.nd rfl (Or.inl rfl) (pe_knI KIMarker (hr.mono (by decide)) rfl TMk.mgC (pa_cons (pe_kn Knames_of (hr.mono (by decide)) rfl (pa_cons (pv 0) (pa_nil))) (pa_nil)))) (pss_cons (ps_set (i := 3) sc_coded.nd rfl (Or.inl rfl) (pe_lst (pa_nil))) (pss_cons (ps_expr (pe_kn Kput_steps (hr.mono (by decide)) rfl (pa_cons (pv 3) (pa_cons (pe_knM KMmarked (hr.mono (by decide)) TMk.cl (pv 2) (pa_cons (pv 0) (pa_nil))) (pa_cons (pv 1) (pa_nil)))))) (pss_cons (ps_expr (pe_bm PySem.F.plainAttrs_list PySem.F.slot_list_append PySem.F.type_list_append mt_append (pv 3) (pa_cons (pe_tup (pa_cons (pe_str) (pa_cons (pe_callB call_ln (by rfl) (T.free "len" (by decide)) PySem.boot_len (pa_cons (pe_kn Klines_of (hr.mono (by decide)) rfl (pa_cons (pv 0) (pa_nil))) (pa_nil))) (pa_nil)))) (pa_nil)))) (pss_one (ps_ret (pv 3))))))), fun Q q => ?_⟩
  refine q_asgR ?_
  refine (gn_call (K := K) (ds := [.list (encs p)]) (ga_cons (gd_var rfl h1) ga_nil) ⟨p, hg, hd, hz, rfl, rfl⟩) H (Same.refl _) _ fun vn H1 dn zn s1 dvn => ?_
  obtain ⟨ns, rfl, nd, hm⟩ := zn
  have lns : ns.length ≤ nm.length := nodup_len ns nm nd fun x hx => hns x ((hm x).mp hx)
  intro x dx nx ndx hne
  have sm : Same H1 (upd (upd H1 dx (.own x)) x (.ins C dx [])) := fun b o e => by
    rw [upd_ne (ne_of_none e nx), upd_ne (ne_of_none e ndx)]
    exact e
  refine ⟨x, dx, vn, ns, rfl, upd_same, dp_mono sm dvn, nd, by omega, fun d H2 hd0 M2 sx2 => ⟨rfl, ?_⟩⟩
  have sH2 : Same H H2 := s1.trans (same_sx sm nx sx2)
  have x0 : H x = none := s1.free nx
  refine q_asgF (K := K) (gf_lst (Z := fun es => es = []) ga_nil (Nat.zero_le _) rfl) fun r H3 xs es z s3 n3 l3 d3 => ?_
  subst z
  cases d3
  have sH3 := sH2.trans s3
  have M3 := M2.mono s3
  have r0 : H r = none := sH2.free n3
  refine q_seq (show tDrop _ _ _ _ from ?_)
  refine ⟨_, rfl, ?_⟩
  refine call_md (n := 3) (v := v1) (p := p) (C := C) rfl M3 (rs_var rfl) (dp_mono sH3 h1) hg hd hz (fun y hy => (hm y).mpr hy) (Nat.le_refl _) fun H4 v4 bs l4 M4 sx4 d4 ok4 wt4 dp4 => ?_
  have nrx : r ≠ x := fun e => by
    obtain ⟨dx3, h3⟩ := M2.ob
    rw [e, h3] at n3
    cases n3
  have hr4 : H4 r = some (.lst []) := sx4 _ _ l3 nrx
  have sH4 := same_sx sH3 x0 sx4
  refine ⟨_, rfl, r, v4, tn, bs, [], rfl, ⟨[], hr4, .nil⟩, dp_mono (fun b o h => off_some.mpr ⟨fun e => ?_, (diff_some.mp h).2⟩) d4, ok4.mono (by omega), by omega, by show 0 + _ ≤ _; omega, fun H5 seg sx5 R5 sg ls => ?_⟩
  · have h := (diff_some.mp h).1
    rw [e, l3] at h
    cases h
  have sH5 := same_sx sH4 r0 sx5
  have ll := linesL_len p
  refine q_row (K := K) (row := .fin (linesL p).length) rfl R5 (gd_tup (ga_cons gd_str (ga_cons (gd_is (gd_cb (ga_cons (gd_fz (gf_call (ds := [.list (encs p)]) (ga_cons (gd_var rfl (dp_mono sH5 h1)) ga_nil) ⟨p, hg, hd, hz, rfl, rfl⟩)) ga_nil) rc_lnL) (by rw [List.length_map])) ga_nil)) (Nat.le_of_ble_eq_true rfl)) (by show seg.length ≤ _; omega) fun H6 sx6 R6 => ?_
  have sH6 := same_sx sH5 r0 sx6
  obtain ⟨ys, hy1, hy2⟩ := R6
  have sg' : SegP S 0 seg.length seg := by
    have z : SegP S 0 (0 + seg.length) seg := sg
    rw [Nat.zero_add] at z
    exact z
  obtain ⟨w1, w2, w3⟩ := wf_of (l := (linesL p).length) sg'
  exact ⟨_, rfl, q _ H6 _ ⟨_, rfl, w1, w2, by rw [w3]; omega⟩ sH6 (.lst (SqL.of hy1) hy2)⟩
theorem sc_code_of : FnScope ["program"] ["program"] (defScope (top 36)) := ⟨rfl, rfl, rfl, by decide +kernel, rfl, by decide +kernel, by decide +kernel⟩
theorem kn_code_of (T : Tx K mg) (TMk : TM K mg C) : Kn P w K mg base 12 "code_of" ["program"] (spN K (R_coded false)) := by
  have Kcoded := kn_coded (P := P) (w := w) (base := base) T TMk
  refine kn_N (T.fn2 (("code_of" : Str), 36) (by decide +kernel)) sc_code_of (fun _ _ _ _ _ _ us hl => match us, hl with | [_], _ => rfl) (fun ds d h => ?_) (fun f cdv A outer s0 H vs E ds Z hr hv h => ?_)
  · obtain ⟨_, _, _, _, _, _, _, _, _, _, _, rfl, _⟩ := h
    rfl
  obtain ⟨p, nm, S, tn, hg, hd, hz, hns, hS, hS60, hw, rfl, rfl⟩ := h
  have hv : DpAll K H vs [.list (encs p)] := hv
  obtain _ | ⟨h1, _ | _⟩ := hv
  refine ⟨_, (pss_one (ps_ret (pe_kn Kcoded (hr.mono (by decide)) rfl (pa_cons (pv 0) (pa_cons (pe_bl) (pa_nil)))))), fun Q q => ?_⟩
  exact l_retN (gn_call (K := K) (ds := [.list (encs p), .bool false]) (ga_cons (gd_var rfl h1) (ga_cons gd_bl ga_nil)) ⟨p, nm, S, false, hg, hd, hz, hns, hS, hS60, hw, rfl, rfl⟩) fun v H2 d z s2 d2 => q v H2 d z s2 d2
theorem sc_turned_code : FnScope ["program"] ["program"] (defScope (top 37)) := ⟨rfl, rfl, rfl, by decide +kernel, rfl, by decide +kernel, by decide +kernel⟩
theorem kn_turned (T : Tx K mg) (TMk : TM K mg C) : Kn P w K mg base 12 "turned_code" ["program"] (spN K (R_coded false)) := by
  have Kcoded := kn_coded (P := P) (w := w) (base := base) T TMk
  refine kn_N (T.fn2 (("turned_code" : Str), 37) (by decide +kernel)) sc_turned_code (fun _ _ _ _ _ _ us hl => match us, hl with | [_], _ => rfl) (fun ds d h => ?_) (fun f cdv A outer s0 H vs E ds Z hr hv h => ?_)
  · obtain ⟨_, _, _, _, _, _, _, _, _, _, _, rfl, _⟩ := h
    rfl
  obtain ⟨p, nm, S, tn, hg, hd, hz, hns, hS, hS60, hw, rfl, rfl⟩ := h
  have hv : DpAll K H vs [.list (encs p)] := hv
  obtain _ | ⟨h1, _ | _⟩ := hv
  refine ⟨_, (pss_one (ps_ret (pe_kn Kcoded (hr.mono (by decide)) rfl (pa_cons (pv 0) (pa_cons (pe_bl) (pa_nil)))))), fun Q q => ?_⟩
  exact l_retN (gn_call (K := K) (ds := [.list (encs p), .bool true]) (ga_cons (gd_var rfl h1) (ga_cons gd_bl ga_nil)) ⟨p, nm, S, true, hg, hd, hz, hns, hS, hS60, hw, rfl, rfl⟩) fun v H2 d z s2 d2 => q v H2 d z s2 d2
end
end Uw
/-! text T25 -/
namespace Uw
open PySem PySem.Spec PyProof.Rows L2
/-! _law_cell_at, _law_words -/
section
variable {K : PySem.W.Frag} {σ : L2.St} {H : Hp}
theorem r2_mul {m n : Int} (h : CMul m n) : Rd2 K (rI CMul fun i j => .int (i * j)) (.int m) (.int n) H (.int (m * n)) := r2_I h
theorem r2_mod {m n : Int} (h : 0 < n) : Rd2 K (rI (fun _ j => 0 < j) fun i j => .int (i % j)) (.int m) (.int n) H (.int (m % n)) := r2_I (C := fun _ j => 0 < j) h
theorem r2_fdiv {m n : Int} (h : 0 < n) (h2 : n < 1073741824) : Rd2 K (rI CDiv fun i j => .int (i / j)) (.int m) (.int n) H (.int (m / n)) := r2_I ⟨h, h2⟩
theorem r2_mulL {m n : Int} (h : -(2 ^ 64) < m) (h2 : m < 2 ^ 64) : Rd2 K (rI CMul fun i j => .int (i * j)) (.int m) (.int n) H (.int (m * n)) := r2_I (.inl ⟨h, h2⟩)
theorem r2_mulR {m n : Int} (h : -(2 ^ 64) < n) (h2 : n < 2 ^ 64) : Rd2 K (rI CMul fun i j => .int (i * j)) (.int m) (.int n) H (.int (m * n)) := r2_I (.inr ⟨h, h2⟩)
theorem r2_ixS {z : Str} {n : Int} {c : Nat} (hz : z.length ≤ 1000) (h : atI z.cps.toList n = some c) : Rd2 K (rIx K) (.str z) (.int n) H (.str ⟨#[c]⟩) := fun H1 _ x y hx hy Q q => by
  cases hx
  cases hy
  exact .inr (.inr ⟨z, n, c, rfl, rfl, small_le (by omega), h, q _ H1 (Same.refl _) (.str _)⟩)
theorem rc_intB {b : Bool} : RdC K (fun xs H Q => (∃ i, xs = [.int i] ∧ Q (.int i) H) ∨ ∃ k, xs = [.bl k] ∧ Q (.int (if k then 1 else 0)) H) [.bool b] H (.int (if b then 1 else 0)) := fun H1 _ vs dv Q q => by
  obtain _ | ⟨h, _ | _⟩ := dv
  rw [dp_bl h]
  exact .inr ⟨b, rfl, q _ H1 (Same.refl _) (.int _)⟩
end
theorem dec_int2 {i j : Int} : decide (V.int i = V.int j) = decide (i = j) := by
  by_cases h : i = j
  · rw [h, decide_eq_true rfl, decide_eq_true rfl]
  · rw [decide_eq_false h, decide_eq_false fun e => h (by injection e)]
def abc : Str := "abcdefghijklmnopqrstuvwxyz"
theorem abc_len : abc.length = 26 := by decide +kernel
theorem abc_ok : ∀ c ∈ abc.cps.toList, c ≠ 32 := by decide +kernel
def chN (m : Int) : Nat := abc.cps.toList.getD (m % 26).toNat 97
def ch (m : Int) : Str := ⟨#[chN m]⟩
theorem ch_at (m : Int) : atI abc.cps.toList (m % 26) = some (chN m) := by
  have h1 : 0 ≤ m % 26 := Int.emod_nonneg _ (by decide)
  have h2 : m % 26 < 26 := Int.emod_lt_of_pos _ (by decide)
  have hl : abc.cps.toList.length = 26 := by decide +kernel
  have e : ((m % 26).toNat : Int) = m % 26 := by omega
  rw [← e]
  refine atI_nat ?_
  unfold chN
  rw [List.getD_eq_getElem?_getD, List.getElem?_eq_getElem (by omega)]
  rfl
theorem chN_ne (m : Int) : chN m ≠ 32 := by
  have h1 : 0 ≤ m % 26 := Int.emod_nonneg _ (by decide)
  have h2 : m % 26 < 26 := Int.emod_lt_of_pos _ (by decide)
  have hl : abc.cps.toList.length = 26 := by decide +kernel
  unfold chN
  rw [List.getD_eq_getElem?_getD, List.getElem?_eq_getElem (by omega)]
  exact abc_ok _ (List.getElem_mem _)
theorem mem_joinL {c : Nat} : ∀ {ps : List (List Nat)}, c ∈ TL.joinL [] ps → ∃ p ∈ ps, c ∈ p
  | [], h => by cases h
  | [p], h => ⟨p, List.mem_cons_self, h⟩
  | p :: q :: r, h => by
    have h : c ∈ p ++ ([] ++ TL.joinL [] (q :: r)) := h
    rcases List.mem_append.mp h with h | h
    · exact ⟨p, List.mem_cons_self, h⟩
    · obtain ⟨x, h1, h2⟩ := mem_joinL (ps := q :: r) h
      exact ⟨x, List.mem_cons_of_mem _ h1, h2⟩
theorem len_joinL : ∀ {ps : List (List Nat)}, (∀ p ∈ ps, p.length = 1) → (TL.joinL [] ps).length = ps.length
  | [], h => rfl
  | [p], h => h p List.mem_cons_self
  | p :: q :: r, h => by
    show (p ++ ([] ++ TL.joinL [] (q :: r))).length = _
    rw [List.nil_append, List.length_append, len_joinL (ps := q :: r) fun x hx => h x (List.mem_cons_of_mem _ hx), h p List.mem_cons_self]
    simp only [List.length_cons]
    omega
theorem tl_empty : TL.tl ("" : Str) = [] := by decide +kernel
theorem wd_join {n : Nat} (f : Nat → Int) (hn : n ≤ 8) : Wd (Txt.join "" ((List.range n).map fun j => ch (f j))) := by
  have e : TL.tl (Txt.join "" ((List.range n).map fun j => ch (f j))) = TL.joinL [] ((List.range n).map fun j => [chN (f j)]) := by
    rw [TL.join_eq, TL.tl_join, tl_empty, List.map_map]
    rfl
  refine ⟨fun h => ?_, ?_⟩
  · rw [e] at h
    obtain ⟨p, h1, h2⟩ := mem_joinL h
    obtain ⟨j, _, rfl⟩ := List.mem_map.mp h1
    exact chN_ne (f j) (List.mem_singleton.mp h2).symm
  · have l : (Txt.join "" ((List.range n).map fun j => ch (f j))).length = (TL.tl (Txt.join "" ((List.range n).map fun j => ch (f j)))).length := by
      show Array.size _ = _
      rw [← Array.length_toList]
    rw [l, e, len_joinL fun p hp => ?_, List.length_map, List.length_range]
    · omega
    · obtain ⟨j, _, rfl⟩ := List.mem_map.mp hp
      rfl
section
variable {P : Program} {w : World} {K : PySem.W.Frag} {mg : Str → Option Value} {base : Heap}
def R_cell_at (ds : List PyData) (d : PyData) : Prop := ∃ (ns : List Int) (k : Nat), ds = [.list (ns.map PyData.int), .int k] ∧ d = .int (ns.getD k 0)
theorem sc_law_cell_at : FnScope ["_law_script", "_law_k"] ["_law_script", "_law_k"] (defScope (top 42)) := ⟨rfl, rfl, rfl, by decide +kernel, rfl, by decide +kernel, by decide +kernel⟩
theorem kn_cell_at (T : Tx K mg) : Kn P w K mg base 1 "_law_cell_at" ["_law_script", "_law_k"] (spD K R_cell_at) := by
  refine kn_D (T.fn2 (("_law_cell_at" : Str), 42) (by decide +kernel)) sc_law_cell_at (fun _ _ _ _ _ _ us hl => match us, hl with | [_, _], _ => rfl) (fun ds d h => ?_) (fun f cdv A outer s0 H vs E ds d hr hv h => ?_)
  · obtain ⟨_, _, rfl, rfl⟩ := h
    rfl
  obtain ⟨ns, k, rfl, rfl⟩ := h
  obtain _ | ⟨h1, _ | ⟨h2, _ | _⟩⟩ := hv
  refine ⟨_, (pss_cons (ps_if (pt_cmpR op_lt (pv 1) (pe_callB call_ln (by rfl) (T.free "len" (by decide)) PySem.boot_len (pa_cons (pv 0) (pa_nil))) (nomark _)) (pss_one (ps_ret (pe_ix ix_seq (pv 0) (pv 1) (fun _ _ => rfl)))) (pss_nil)) (pss_one (ps_ret (pe_int)))), fun Q q => ?_⟩
  refine q_if0 (gt_test (K := K) (gd_op (by walk_at "gd") (gd_is (gd_cb (ga_cons (gd_var rfl h1) ga_nil) rc_lnL) (by rw [List.length_map])) r2_B0)) (fun c H2 s2 => ?_) fun c H2 s2 => ?_
  · have hk : k < ns.length := by
      have z := of_decide_eq_true c
      omega
    refine l_ret (K := K) (gd_is (gd_op (d := .list (ns.map PyData.int)) (by walk_at "gd") (by walk_at "gd") (r2_ixl (at_map (List.getElem?_eq_getElem hk)))) ?_) fun v H3 s3 d3 => q v H3 (by walk_at "same") d3
    rw [List.getD_eq_getElem?_getD, List.getElem?_eq_getElem hk]
    rfl
  · have hk : ¬ k < ns.length := fun z => of_decide_eq_false c (by omega)
    rw [List.getD_eq_getElem?_getD, List.getElem?_eq_none (by omega)] at q
    exact l_ret (K := K) (d := .int 0) gd_int fun v H3 s3 d3 => q v H3 (by walk_at "same") d3
def R_words (ds : List PyData) (Z : PyData → Prop) : Prop := ∃ (cell : Int) (many : Nat), many ≤ 100 ∧ ds = [.int cell, .int many] ∧ Z = fun d => ∃ ws : List Str, d = .list (ws.map PyData.str) ∧ ws.length = many ∧ ∀ x ∈ ws, Wd x
theorem sc_law_words : FnScope ["_law_cell", "_law_many", "_law_letters", "_law_size", "_law_at", "_law_rest", "_law_base", "_law_k", "_law_words_here", "_law_j"] ["_law_cell", "_law_many"] (defScope (top 43)) := ⟨rfl, rfl, rfl, by decide +kernel, rfl, by decide +kernel, by decide +kernel⟩
theorem kn_words (T : Tx K mg) : Kn P w K mg base 1 "_law_words" ["_law_cell", "_law_many"] (spN K R_words) := by
  refine kn_N (T.fn2 (("_law_words" : Str), 43) (by decide +kernel)) sc_law_words (fun _ _ _ _ _ _ us hl => match us, hl with | [_, _], _ => rfl) (fun ds d h => ?_) (fun f cdv A outer s0 H vs E ds Z hr hv h => ?_)
  · obtain ⟨_, _, _, rfl, _⟩ := h
    rfl
  obtain ⟨cell, many, hmany, rfl, rfl⟩ := h
  obtain _ | ⟨h1, _ | ⟨h2, _ | _⟩⟩ := hv
  have e1 := dp_int h1
  have e2 := dp_int h2
  subst e1 e2
  refine ⟨_, (pss_cons (ps_set (i := 2) sc_law_words.nd rfl (Or.inr rfl) (pe_str)) (pss_cons (ps_set (i := 3) sc_law_words.nd rfl (Or.inl rfl) (pe_op op_addU (pe_int) (pe_op op_mod (pv 0) (pe_int)))) (pss_cons (ps_set (i := 4) sc_law_words.nd rfl (Or.inr rfl) (pe_op op_mod (pe_op op_fdiv (pv 0) (pe_int)) (pv 3))) (pss_cons (ps_set (i := 5) sc_law_words.nd rfl (Or.inl rfl) (pe_op op_mod (pe_op op_fdiv (pv 0) (pe_int)) (pe_op op_pow (pe_int) (pe_int)))) (pss_cons (ps_set (i := 6) sc_law_words.nd rfl (Or.inr rfl) (pe_lst (pa_nil))) (pss_cons (ps_for PassesOwn.never rfl (pi_range1 rfl (T.free "range" (by decide)) (pa_cons (pv 3) (pa_nil))) (pg_name (i := 7) sc_law_words.nd rfl (.inr rfl)) (pss_cons (ps_expr (pe_bm PySem.F.plainAttrs_list PySem.F.slot_list_append PySem.F.type_list_append mt_append (pv 6) (pa_cons (pe_op op_mod (pv 5) (pe_int)) (pa_nil)))) (pss_one (ps_set (i := 5) sc_law_words.nd rfl (Or.inl rfl) (pe_op op_fdiv (pv 5) (pe_int)))))) (pss_cons (ps_set (i := 8) sc_law_words.nd rfl (Or.inl rfl) (pe_lst (pa_nil))) (pss_cons (ps_for PassesOwn.never rfl (pi_range1 rfl (T.free "range" (by decide)) (pa_cons (pv 1) (pa_nil))) (pg_name (i := 7) sc_law_words.nd rfl (.inr rfl)) (pss_one (ps_expr (pe_bm PySem.F.plainAttrs_list PySem.F.slot_list_append PySem.F.type_list_append mt_append (pv 8) (pa_cons (pe_join (pe_str) (pe_lc (own := [("_law_j", 9)]) rfl sc_law_words.nd (pi_range1 rfl (T.free "range" (by decide)) (pa_cons (pv 3) (pa_nil))) (blkOk_by (N := ["_law_cell", "_law_many", "_law_letters", "_law_size", "_law_at", "_law_rest", "_law_base", "_law_k", "_law_words_here", "_law_j"]) (sc := defScope (top 43)) (by decide +kernel)) (fun _ _ _ _ _ => pg_name (i := 9) sc_law_words.nd rfl (Or.inl rfl)) (fun _ _ _ _ _ => pts_nil) (fun _ _ _ _ _ => pe_ix (show IxR _ (rIx K) from ix_seq) (pv 2) (pe_op op_mod (pe_op (show OpR _ (binaryOp .Add) (rAddU K) from op_addU) (pe_ix (show IxR _ (rIx K) from ix_seq) (pv 6) (pv 9) (fun _ _ => rfl)) (pe_op op_mul (pv 7) (pe_callTy call_int1 (by rfl) (T.free "int" (by decide)) (by decide +kernel) (pa_cons (pe_cmpR op_eq (pv 9) (pv 4) (nomark _)) (pa_nil))))) (pe_int)) (fun _ _ => rfl)))) (pa_nil)))))) (pss_one (ps_ret (pv 8))))))))))), fun Q q => ?_⟩
  refine q_asg (K := K) (d := .str abc) gd_str fun v2 H1 s1 d2 => ?_
  have e2 := dp_str d2
  subst e2
  have m8 : 0 ≤ cell % 8 ∧ cell % 8 < 8 := ⟨Int.emod_nonneg _ (by decide), Int.emod_lt_of_pos _ (by decide)⟩
  obtain ⟨sz, hsz⟩ : ∃ sz : Nat, (sz : Int) = 1 + cell % 8 := ⟨(1 + cell % 8).toNat, by omega⟩
  refine q_asg (K := K) (d := .int sz) (gd_is (d := .int (1 + cell % 8)) (gd_op gd_int (gd_op (by walk_at "gd") (by walk_at "gd") (r2_mod (by decide))) r2_addI) (by rw [hsz])) fun v3 H2 s2 d3 => ?_
  have e3 := dp_int d3
  subst e3
  refine q_asg (K := K) (d := .int (cell / 8 % sz)) (gd_op (gd_op (by walk_at "gd") gd_int (r2_fdiv (by decide) (by decide))) (by walk_at "gd") (r2_mod (show (0 : Int) < sz by omega))) fun v4 H3 s3 d4 => ?_
  have e4 := dp_int d4
  subst e4
  generalize cell / 8 % sz = at_
  refine q_asg (K := K) (d := .int (cell / 64 % 26 ^ (8 : Int).toNat)) (gd_op (gd_op (by walk_at "gd") gd_int (r2_fdiv (by decide) (by decide))) (gd_op gd_int gd_int (r2_I (show CPow 26 8 from ⟨by decide, by decide, by decide⟩))) (r2_I (show (0 : Int) < 26 ^ (8 : Int).toNat by decide))) fun v5 H4 s4 d5 => ?_
  have e5 := dp_int d5
  subst e5
  generalize cell / 64 % 26 ^ (8 : Int).toNat = rest0
  refine q_asgF (K := K) (gf_lst (Z := fun es => es = []) ga_nil (Nat.zero_le _) rfl) fun p H5 xs es z s5 n5 l5 d6 => ?_
  subst z
  cases d6
  have s04 : Same H H4 := by walk_at "same"
  refine q_forR (K := K) (n := sz) (ga_cons (gd_var rfl (.int _)) ga_nil) (by omega) fun H6 s6 => ?_
  refine ⟨fun i σ' H' => Same H4 H' ∧ (∃ rest o7, σ' = [some (.int cell), some (.int many), some (.str abc), some (.int sz), some (.int at_), some (.int rest), some (.ref p), o7, none, none]) ∧ ∃ bs : List Int, bs.length = i ∧ H' p = some (.lst (bs.map V.int)), ⟨s5.trans s6, ⟨_, _, rfl⟩, [], rfl, s6 _ _ l5⟩, fun i σ' H' hi hP => ?_, fun σ' H' hP => ?_⟩
  · obtain ⟨sm, ⟨rest, o7, rfl⟩, bs, hl, hp⟩ := hP
    refine q_app (K := K) (H0 := H4) rfl (d := .int (rest % 26)) (gd_op (by walk_at "gd") gd_int (r2_mod (by decide))) hp n5 sm (dps_ints bs) (by rw [List.length_map]; omega) (nolAll_of fun d hd => by obtain ⟨_, _, rfl⟩ := List.mem_map.mp hd; rfl) rfl fun v H7 s7 p7 d7 => ?_
    refine l_asg (K := K) (d := .int (rest / 26)) (gd_op (by walk_at "gd") gd_int (r2_fdiv (by decide) (by decide))) fun v8 H8 s8 d8 => ?_
    have e8 := dp_int d8
    subst e8
    have z := dps_ints_eq (K := K) (H := H7) (ns := bs ++ [rest % 26]) (by rw [List.map_append]; exact d7)
    refine ⟨s7.trans s8, ⟨_, _, rfl⟩, bs ++ [rest % 26], by rw [List.length_append, hl]; rfl, ?_⟩
    rw [← z]
    exact s8 _ _ p7
  · obtain ⟨sm, ⟨rest, o7, rfl⟩, bs, hl, hp⟩ := hP
    refine q_asgF (K := K) (gf_lst (Z := fun es => es = []) ga_nil (Nat.zero_le _) rfl) fun r H7 xs es z s7 n7 l7 d7 => ?_
    subst z
    cases d7
    refine q_forR (K := K) (n := many) (ga_cons (gd_var rfl (.int _)) ga_nil) (by omega) fun H8 s8 => ?_
    refine ⟨fun i σ' H'' => Same H' H'' ∧ (∃ o7 o9, σ' = [some (.int cell), some (.int many), some (.str abc), some (.int sz), some (.int at_), some (.int rest), some (.ref p), o7, some (.ref r), o9]) ∧ ∃ (ys : List V) (ws : List Str), H'' r = some (.lst ys) ∧ DpAll K H'' ys (ws.map PyData.str) ∧ ws.length = i ∧ ∀ x ∈ ws, Wd x, ⟨s7.trans s8, ⟨_, _, rfl⟩, [], [], s8 _ _ l7, .nil, rfl, fun x h => by cases h⟩, fun k σ' H'' hk hP => ?_, fun σ' H'' hP => ?_⟩
    · obtain ⟨sm2, ⟨o7, o9, rfl⟩, ys, ws, hr, hy, hwl, hw⟩ := hP
      have gj : Gd K _ [some (.int cell), some (.int many), some (.str abc), some (.int sz), some (.int at_), some (.int rest), some (.ref p), some (.int k), some (.ref r), o9] H'' _ := gd_joinL (K := K) (a := "") (ys := (List.range sz).map fun j => ch (bs.getD j 0 + k * (if decide ((j : Int) = at_) then 1 else 0))) gd_str (gd_is (gd_lcR (F := fun j => .str (ch (bs.getD j 0 + k * (if decide ((j : Int) = at_) then 1 else 0)))) (ta := tCons (tVar 3) tNil) (n := sz) (j := 9) (vs := [9]) (te := tOp (rIx K) (tVar 2) (tOp (rI (fun _ j => 0 < j) fun i j => .int (i % j)) (tOp (rAddU K) (tOp (rIx K) (tVar 6) (tVar 9)) (tOp (rI CMul fun i j => .int (i * j)) (tVar 7) (tCB (fun xs H Q => (∃ i, xs = [.int i] ∧ Q (.int i) H) ∨ ∃ k, xs = [.bl k] ∧ Q (.int (if k then 1 else 0)) H) (tCons (tOp rEq (tVar 9) (tVar 4)) tNil)))) (tC (.int 26)))) (ga_cons (gd_var rfl (.int _)) ga_nil) (fun _ => rfl) (fun i => rfl) (by omega) (by omega) fun j hj H9 s9 => ?_) (by rw [Int.toNat_natCast, List.map_map]; rfl)) ?_
      · refine l_app (K := K) (H0 := H') rfl gj hr n7 sm2 hy (by rw [List.length_map]; omega) (nolAll_of fun d hd => by obtain ⟨_, _, rfl⟩ := List.mem_map.mp hd; rfl) rfl fun v H9 s9 p9 d9 => ?_
        refine ⟨s9, ⟨_, _, rfl⟩, _, ws ++ [_], p9, by rw [List.map_append]; exact d9, by rw [List.length_append, hwl]; rfl, fun x hx => ?_⟩
        rcases List.mem_append.mp hx with h | h
        · exact hw x h
        · rw [List.mem_singleton.mp h]
          exact wd_join (fun j => bs.getD j 0 + k * (if decide ((j : Int) = at_) then 1 else 0)) (by omega)
      · have gi : ∀ {σ : L2.St} {H'' : Hp}, σ[9]? = some (some (V.int (0 + (j : Int)))) → Gd K (tVar 9) σ H'' (.int j) := fun e => gd_is (gd_var e (.int _)) (by rw [Int.zero_add])
        have hjl : j < bs.length := by omega
        have hbj : bs[j]? = some (bs.getD j 0) := by
          rw [List.getD_eq_getElem?_getD, List.getElem?_eq_getElem hjl]
          rfl
        have hp9 : H9 p = some (.lst (bs.map V.int)) := s9 _ _ (sm2 _ _ hp)
        refine gd_op (gd_var rfl (.str _)) (gd_op (gd_op (gd_op (gd_var rfl (.lst (SqL.of hp9) (dps_ints bs))) (gi rfl) (r2_ixl (at_map hbj))) (gd_op (gd_var rfl (.int _)) (gd_cb (ga_cons (gd_op (gi rfl) (gd_var rfl (.int _)) (r2_eq rfl rfl rfl dec_int2)) ga_nil) rc_intB) (r2_mulR ?_ ?_)) r2_addI) gd_int (r2_mod (by decide))) (r2_ixS (by rw [abc_len]; decide) (ch_at _))
        · split <;> decide
        · split <;> decide
      · have e1 : ((List.range sz).map fun j => ch (bs.getD j 0 + k * (if decide ((j : Int) = at_) then 1 else 0))).map (·.length) = (List.range sz).map fun _ => 1 := by
          rw [List.map_map]
          rfl
        rw [e1]
        have e2 : ((List.range sz).map fun _ => (1 : Nat)).sum = sz := by
          have z : ∀ n, ((List.range n).map fun _ => (1 : Nat)).sum = n := by
            intro n
            induction n with
            | zero => rfl
            | succ n ih =>
              rw [List.range_succ, List.map_append, List.sum_append, ih]
              rfl
          exact z sz
        rw [e2, show ("" : Str).length = 0 by decide +kernel]
        omega
    · obtain ⟨sm2, ⟨o7, o9, rfl⟩, ys, ws, hr, hy, hwl, hw⟩ := hP
      exact l_ret (K := K) (gd_var rfl (.lst (SqL.of hr) hy)) fun v H9 s9 d9 => q v H9 _ ⟨ws, rfl, hwl, hw⟩ (by walk_at "same") d9
end
end Uw
/-! text T26 -/
namespace Uw
open PySem PySem.Spec PyProof.Rows L2
/-! _law_step -/
inductive StepZ (nm : List Str) : PyData → Prop where
  | opn (x : Str) : Wd x → x ∈ nm → StepZ nm (.tuple [.str "open", .str x])
  | act (w x : Str) : Wd w → Wd x → x ∈ nm → StepZ nm (.tuple [.str "do", .str w, .str x])
  | cpy (x y : Str) : Wd x → Wd y → x ∈ nm → y ∈ nm → StepZ nm (.tuple [.str "copy", .str x, .str y])
  | drp (x : Str) : Wd x → x ∈ nm → StepZ nm (.tuple [.str "drop", .str x])
  | tie (x y : Str) : Wd x → Wd y → x ∈ nm → y ∈ nm → StepZ nm (.tuple [.str "tie", .str x, .str y])
  | lend (x y : Str) : Wd x → Wd y → x ∈ nm → y ∈ nm → StepZ nm (.tuple [.str "lend", .str x, .str y])
  | ite (n : Int) : n.natAbs < 10 ^ 100 → StepZ nm (.tuple [.str "if", .int n])
  | whl (n : Int) : n.natAbs < 10 ^ 100 → StepZ nm (.tuple [.str "while", .int n])
  | oth : StepZ nm (.tuple [.str "other"])
  | cls : StepZ nm (.tuple [.str "close"])
theorem bound_ok (m : Int) : (m % (2 * 10 ^ (60 : Int).toNat - 1) - 10 ^ (60 : Int).toNat + 1).natAbs < 10 ^ 100 := by
  have e : (10 : Int) ^ (60 : Int).toNat = 1000000000000000000000000000000000000000000000000000000000000 := by decide +kernel
  rw [e]
  have h1 := Int.emod_nonneg m (show (2 * 1000000000000000000000000000000000000000000000000000000000000 - 1 : Int) ≠ 0 by decide)
  have h2 := Int.emod_lt_of_pos m (show (0 : Int) < 2 * 1000000000000000000000000000000000000000000000000000000000000 - 1 by decide)
  have e2 : (10 : Nat) ^ 100 = 10000000000000000000000000000000000000000000000000000000000000000000000000000000000000000000000000000 := by decide +kernel
  rw [e2]
  omega
section
variable {P : Program} {w : World} {K : PySem.W.Frag} {mg : Str → Option Value} {base : Heap}
theorem gd_pick {σ : L2.St} {H : Hp} {i : Nat} {v : V} {L : List Str} {te : TE} {m : Int} (hv : σ[i]? = some (some v)) (dv : Dp K H v (.list (L.map PyData.str))) (hne : L ≠ []) (hm : Gd K te σ H (.int m)) :
    ∃ x ∈ L, Gd K (tOp (rIx K) (tVar i) (tOp (rI (fun _ j => 0 < j) fun i j => .int (i % j)) te (tCB (rLn K) (tCons (tVar i) tNil)))) σ H (.str x) := by
  have hl : 0 < L.length := List.length_pos_iff.mpr hne
  have h1 := Int.emod_nonneg m (show (L.length : Int) ≠ 0 by omega)
  have h2 := Int.emod_lt_of_pos m (show (0 : Int) < L.length by omega)
  obtain ⟨k, hk⟩ : ∃ k : Nat, (k : Int) = m % L.length := ⟨(m % L.length).toNat, by omega⟩
  have hkl : k < L.length := by omega
  refine ⟨L[k], List.getElem_mem hkl, gd_op (gd_var hv dv) (gd_is (gd_op hm (gd_is (gd_cb (ga_cons (gd_var hv dv) ga_nil) rc_lnL) (by rw [List.length_map])) (r2_mod (n := (L.length : Int)) (by omega))) (by rw [← hk])) (r2_ixl (at_map (List.getElem?_eq_getElem hkl)))⟩
def R_step (ds : List PyData) (Z : PyData → Prop) : Prop := ∃ (cell : Int) (nm ws : List Str), nm ≠ [] ∧ ws ≠ [] ∧ (∀ x ∈ nm, Wd x) ∧ (∀ x ∈ ws, Wd x) ∧ ds = [.int cell, .list (nm.map PyData.str), .list (ws.map PyData.str)] ∧ Z = StepZ nm
theorem sc_law_step : FnScope ["_law_cell", "_law_names", "_law_words_here", "_law_x", "_law_y", "_law_word", "_law_bound", "_law_some"] ["_law_cell", "_law_names", "_law_words_here"] (defScope (top 44)) := ⟨rfl, rfl, rfl, by decide +kernel, rfl, by decide +kernel, by decide +kernel⟩
theorem kn_step (T : Tx K mg) : Kn P w K mg base 1 "_law_step" ["_law_cell", "_law_names", "_law_words_here"] (spN K R_step) := by
  refine kn_N (T.fn2 (("_law_step" : Str), 44) (by decide +kernel)) sc_law_step (fun _ _ _ _ _ _ us hl => match us, hl with | [_, _, _], _ => rfl) (fun ds d h => ?_) (fun f cdv A outer s0 H vs E ds Z hr hv h => ?_)
  · obtain ⟨_, _, _, _, _, _, _, rfl, _⟩ := h
    rfl
  obtain ⟨cell, nm, ws, n1, n2, w1, w2, rfl, rfl⟩ := h
  obtain _ | ⟨h1, _ | ⟨h2, _ | ⟨h3, _ | _⟩⟩⟩ := hv
  have e1 := dp_int h1
  subst e1
  rename_i v2 v3
  refine ⟨_, (pss_cons (ps_set (i := 3) sc_law_step.nd rfl (Or.inl rfl) (pe_ix ix_seq (pv 1) (pe_op op_mod (pe_op op_mod (pe_op op_mul (pv 0) (pe_int)) (pe_int)) (pe_callB call_ln (by rfl) (T.free "len" (by decide)) PySem.boot_len (pa_cons (pv 1) (pa_nil)))) (fun _ _ => rfl))) (pss_cons (ps_set (i := 4) sc_law_step.nd rfl (Or.inl rfl) (pe_ix ix_seq (pv 1) (pe_op op_mod (pe_op op_mod (pe_op op_mul (pv 0) (pe_int)) (pe_int)) (pe_callB call_ln (by rfl) (T.free "len" (by decide)) PySem.boot_len (pa_cons (pv 1) (pa_nil)))) (fun _ _ => rfl))) (pss_cons (ps_set (i := 5) sc_law_step.nd rfl (Or.inl rfl) (pe_ix ix_seq (pv 2) (pe_op op_mod (pe_op op_mod (pe_op op_mul (pv 0) (pe_int)) (pe_int)) (pe_callB call_ln (by rfl) (T.free "len" (by decide)) PySem.boot_len (pa_cons (pv 2) (pa_nil)))) (fun _ _ => rfl))) (pss_cons (ps_set (i := 6) sc_law_step.nd rfl (Or.inl rfl) (pe_op op_addU (pe_op op_sub (pe_op op_mod (pe_op op_mul (pv 0) (pe_int)) (pe_op op_sub (pe_op op_mul (pe_int) (pe_op op_pow (pe_int) (pe_int))) (pe_int))) (pe_op op_pow (pe_int) (pe_int))) (pe_int))) (pss_cons (ps_set (i := 7) sc_law_step.nd rfl (Or.inl rfl) (pe_lst (pa_cons (pe_tup (pa_cons (pe_str) (pa_cons (pv 3) (pa_nil)))) (pa_cons (pe_tup (pa_cons (pe_str) (pa_cons (pv 5) (pa_cons (pv 3) (pa_nil))))) (pa_cons (pe_tup (pa_cons (pe_str) (pa_cons (pv 5) (pa_cons (pv 3) (pa_nil))))) (pa_cons (pe_tup (pa_cons (pe_str) (pa_cons (pv 5) (pa_cons (pv 3) (pa_nil))))) (pa_cons (pe_tup (pa_cons (pe_str) (pa_cons (pv 3) (pa_cons (pv 4) (pa_nil))))) (pa_cons (pe_tup (pa_cons (pe_str) (pa_cons (pv 3) (pa_nil)))) (pa_nil))))))))) (pss_cons (ps_set (i := 7) sc_law_step.nd rfl (Or.inl rfl) (pe_op op_addU (pv 7) (pe_lst (pa_cons (pe_tup (pa_cons (pe_str) (pa_cons (pv 3) (pa_cons (pv 4) (pa_nil))))) (pa_cons (pe_tup (pa_cons (pe_str) (pa_cons (pv 3) (pa_cons (pv 4) (pa_nil))))) (pa_cons (pe_tup (pa_cons (pe_str) (pa_cons (pv 6) (pa_nil)))) (pa_cons (pe_tup (pa_cons (pe_str) (pa_cons (pv 6) (pa_nil)))) (pa_cons (pe_tup (pa_cons (pe_str) (pa_cons (pv 6) (pa_nil)))) (pa_nil))))))))) (pss_cons (ps_set (i := 7) sc_law_step.nd rfl (Or.inl rfl) (pe_op op_addU (pv 7) (pe_lst (pa_cons (pe_tup (pa_cons (pe_str) (pa_cons (pv 5) (pa_cons (pv 3) (pa_nil))))) (pa_cons (pe_tup (pa_cons (pe_str) (pa_cons (pv 3) (pa_cons (pv 4) (pa_nil))))) (pa_cons (pe_tup (pa_cons (pe_str) (pa_cons (pv 3) (pa_nil)))) (pa_cons (pe_tup (pa_cons (pe_str) (pa_nil))) (pa_cons (pe_tup (pa_cons (pe_str) (pa_nil))) (pa_nil))))))))) (pss_one (ps_ret (pe_ix ix_seq (pv 7) (pe_op op_mod (pv 0) (pe_int)) (fun _ _ => rfl))))))))))), fun Q q => ?_⟩
  have gm : ∀ {σ : L2.St} {H' : Hp} (a b : Int), 0 < b → -(2 ^ 64) < a → a < 2 ^ 64 → σ[0]? = some (some (.int cell)) → Gd K (tOp (rI (fun _ j => 0 < j) fun i j => .int (i % j)) (tOp (rI CMul fun i j => .int (i * j)) (tVar 0) (tC (.int a))) (tC (.int b))) σ H' (.int (cell * a % b)) := fun a b hb ha1 ha2 e => gd_op (gd_op (gd_var e (.int _)) gd_int (r2_mulR ha1 ha2)) gd_int (r2_mod hb)
  obtain ⟨x, hx, gx⟩ := gd_pick (K := K) (σ := L2.start ["_law_cell", "_law_names", "_law_words_here", "_law_x", "_law_y", "_law_word", "_law_bound", "_law_some"] [V.int cell, v2, v3]) (i := 1) rfl h2 n1 (gm 48271 99991 (by decide) (by decide) (by decide) rfl)
  refine q_asg (K := K) gx fun v4 H1 s1 d4 => ?_
  have e4 := dp_str d4
  subst e4
  obtain ⟨y, hy, gy⟩ := gd_pick (K := K) (H := H1) (σ := [some (.int cell), some v2, some v3, some (.str x), none, none, none, none]) (i := 1) rfl (dp_mono s1 h2) n1 (gm 69621 99989 (by decide) (by decide) (by decide) rfl)
  refine q_asg (K := K) gy fun v5 H2 s2 d5 => ?_
  have e5 := dp_str d5
  subst e5
  obtain ⟨u, hu, gu⟩ := gd_pick (K := K) (H := H2) (σ := [some (.int cell), some v2, some v3, some (.str x), some (.str y), none, none, none]) (i := 2) rfl (dp_mono (s1.trans s2) h3) n2 (gm 16807 99971 (by decide) (by decide) (by decide) rfl)
  refine q_asg (K := K) gu fun v6 H3 s3 d6 => ?_
  have e6 := dp_str d6
  subst e6
  have gp : ∀ {σ : L2.St} {H' : Hp}, Gd K (tOp (rI CPow fun i j => .int (i ^ j.toNat)) (tC (.int 10)) (tC (.int 60))) σ H' (.int (10 ^ (60 : Int).toNat)) := gd_op gd_int gd_int (r2_I (show CPow 10 60 from ⟨by decide, by decide, by decide⟩))
  refine q_asg (K := K) (d := .int (cell * 40692 % (2 * 10 ^ (60 : Int).toNat - 1) - 10 ^ (60 : Int).toNat + 1)) (gd_op (gd_op (gd_op (gd_op (by walk_at "gd") gd_int (r2_mulR (by decide) (by decide))) (gd_op (gd_op gd_int gp (r2_mulL (by decide) (by decide))) gd_int r2_I0) (r2_mod (by decide +kernel))) gp r2_I0) gd_int r2_addI) fun v7 H4 s4 d7 => ?_
  have e7 := dp_int d7
  subst e7
  have hb := bound_ok (cell * 40692)
  generalize cell * 40692 % (2 * 10 ^ (60 : Int).toNat - 1) - 10 ^ (60 : Int).toNat + 1 = bd at hb
  refine q_asg (K := K) (d := .list [.tuple [.str "open", .str x], .tuple [.str "do", .str u, .str x], .tuple [.str "do", .str u, .str x], .tuple [.str "do", .str u, .str x], .tuple [.str "copy", .str x, .str y], .tuple [.str "drop", .str x]]) (by walk_at "gd") fun v8 H5 s5 d8 => ?_
  refine q_asg (K := K) (gd_op (gd_var rfl d8) (show Gd K _ _ _ (.list [.tuple [.str "tie", .str x, .str y], .tuple [.str "lend", .str x, .str y], .tuple [.str "if", .int bd], .tuple [.str "while", .int bd], .tuple [.str "while", .int bd]]) by walk_at "gd") (r2_addL (Nat.le_of_ble_eq_true rfl))) fun v9 H6 s6 d9 => ?_
  refine q_asg (K := K) (gd_op (gd_var rfl d9) (show Gd K _ _ _ (.list [.tuple [.str "do", .str u, .str x], .tuple [.str "tie", .str x, .str y], .tuple [.str "open", .str x], .tuple [.str "other"], .tuple [.str "close"]]) by walk_at "gd") (r2_addL (Nat.le_of_ble_eq_true rfl))) fun v10 H7 s7 d10 => ?_
  have m16 := Int.emod_nonneg cell (show (16 : Int) ≠ 0 by decide)
  have l16 := Int.emod_lt_of_pos cell (show (0 : Int) < 16 by decide)
  obtain ⟨k, hk⟩ : ∃ k : Nat, (k : Int) = cell % 16 := ⟨(cell % 16).toNat, by omega⟩
  have hkl : k < 16 := by omega
  generalize hds : ([PyData.tuple [.str "open", .str x], .tuple [.str "do", .str u, .str x], .tuple [.str "do", .str u, .str x], .tuple [.str "do", .str u, .str x], .tuple [.str "copy", .str x, .str y], .tuple [.str "drop", .str x]] ++ [PyData.tuple [.str "tie", .str x, .str y], .tuple [.str "lend", .str x, .str y], .tuple [.str "if", .int bd], .tuple [.str "while", .int bd], .tuple [.str "while", .int bd]]) ++ [PyData.tuple [.str "do", .str u, .str x], .tuple [.str "tie", .str x, .str y], .tuple [.str "open", .str x], .tuple [.str "other"], .tuple [.str "close"]] = ds at d10
  have hlen : ds.length = 16 := by rw [← hds]; rfl
  have hall : ∀ d ∈ ds, StepZ nm d := by
    rw [← hds]
    intro d hd
    simp only [List.cons_append, List.nil_append, List.mem_cons, List.not_mem_nil, or_false] at hd
    rcases hd with e | e | e | e | e | e | e | e | e | e | e | e | e | e | e | e <;> subst e
    · exact .opn x (w1 x hx) hx
    · exact .act u x (w2 u hu) (w1 x hx) hx
    · exact .act u x (w2 u hu) (w1 x hx) hx
    · exact .act u x (w2 u hu) (w1 x hx) hx
    · exact .cpy x y (w1 x hx) (w1 y hy) hx hy
    · exact .drp x (w1 x hx) hx
    · exact .tie x y (w1 x hx) (w1 y hy) hx hy
    · exact .lend x y (w1 x hx) (w1 y hy) hx hy
    · exact .ite bd hb
    · exact .whl bd hb
    · exact .whl bd hb
    · exact .act u x (w2 u hu) (w1 x hx) hx
    · exact .tie x y (w1 x hx) (w1 y hy) hx hy
    · exact .opn x (w1 x hx) hx
    · exact .oth
    · exact .cls
  refine l_ret (K := K) (gd_op (gd_var rfl d10) (gd_is (gd_op (gd_var rfl (.int _)) gd_int (r2_mod (by decide))) (by rw [← hk])) (r2_ixl (atI_nat (List.getElem?_eq_getElem (by rw [hlen]; exact hkl))))) fun v H8 s8 d8' => q v H8 _ (hall _ (List.getElem_mem _)) (by walk_at "same") d8'
end
end Uw
/-! text T27 -/
namespace Uw
open PySem PySem.Spec PyProof.Rows L2
/-! _law_told, _law_right -/
section
variable {K : PySem.W.Frag} {σ : L2.St} {H : Hp} {tl te : TE} {j : Nat} {vs : List Nat} {a b : Bool}
theorem r2_isB : Rd2 K rIsB (.bool a) (.bool b) H (.bool (decide (a = b))) := fun H1 _ x y hx hy Q q => ⟨a, b, dp_bl hx, dp_bl hy, q _ H1 (Same.refl _) (.bl _)⟩
theorem r2_notB : Rd2 K rNotB (.bool a) (.bool b) H (.bool (!decide (a = b))) := fun H1 _ x y hx hy Q q => ⟨a, b, dp_bl hx, dp_bl hy, q _ H1 (Same.refl _) (.bl _)⟩
theorem gd_n {Z : PyData → Prop} {d : PyData} (h : Gn K te σ H Z) (hz : ∀ x, Z x → x = d) : Gd K te σ H d := fun H1 s Q q => h H1 s Q fun v H2 x z s2 dx => q v H2 s2 (hz x z ▸ dx)
theorem gf_lcM {α : Type} {g F : α → PyData} {ts : List α} (h : Gd K tl σ H (.list (ts.map g))) (hw : ∀ v, wipe ((wipe σ vs).set j (some v)) vs = wipe σ vs) (hn : ∀ t, t ∈ ts → nol (F t) = true) (hl : ts.length ≤ 1000000)
    (he : ∀ t, t ∈ ts → ∀ v H', Same H H' → Dp K H' v (g t) → Gd K te ((wipe σ vs).set j (some v)) H' (F t)) : Gf K (tLc (iList K tl) (gName j) tYes te vs) σ H (fun es => es = ts.map F) := fun H1 s Q q =>
  h H1 s _ fun v H2 s2 dv => by
    obtain ⟨a, xs, rfl, h1, h2⟩ := dp_list dv
    refine ⟨a, rfl, ⟨xs, h1⟩, fun Dd hD => lc_list (K := K) (a := a) (xs := xs) (fun i H' => ∃ acc, H' Dd = some (.lst acc) ∧ DpAll K H' acc ((ts.take i).map F) ∧ Same H2 H') ⟨[], upd_same, .nil, same_new hD⟩
      (fun i H' _ ⟨_, _, _, s3⟩ => s3.seq h1) (fun i x H' hx ⟨acc, e1, e2, s3⟩ => ?_) fun H' ⟨acc, e1, e2, s3⟩ => ?_⟩
    · obtain ⟨d, hd, dd⟩ := dps_get' h2 hx
      obtain ⟨t, ht, rfl⟩ := dps_of hd
      have hm : t ∈ ts := List.mem_of_getElem? ht
      refine ⟨hw x, ?_⟩
      refine iteT (B := False) ?_
      refine he t hm x H' (s.trans (s2.trans s3)) (dp_mono s3 dd) H' (Same.refl _) _ fun y H4 s4 dy => ?_
      have la := dps_len e2
      rw [List.length_map, List.length_take] at la
      have hnt : nolAll ((ts.take i).map F) = true := nolAll_of fun z hz => by
        obtain ⟨w', hw', rfl⟩ := List.mem_map.mp hz
        exact hn w' (List.mem_of_mem_take hw')
      obtain ⟨t1, t2, t3⟩ := lc_turn hD (s3.trans s4) (s4 _ _ e1) (dps_mono s4 e2) hnt dy (hn t hm)
      exact ⟨acc, s4 _ _ e1, small_lt (by omega), _, t2, by rw [map_snoc ht]; exact t3, t1⟩
    · have l2 := dps_len h2
      rw [List.length_map] at l2
      rw [l2, List.take_length] at e2
      exact q Dd H' acc _ rfl (s2.trans s3) (s2.free hD) e1 e2
end
section
variable {P : Program} {w : World} {K : PySem.W.Frag} {mg : Str → Option Value} {base : Heap}
def R_told (ds : List PyData) (d : PyData) : Prop := ∃ (code : List Row) (r : Rule) (L : Lim) (at_ : Nat) (row : Row) (ts : List Tok), code[at_]? = some row ∧ r.Ok L.R ∧ r.sides = L.sides ∧ row.Ok L.S ∧ (∀ u ∈ ts, u.Ok L) ∧ ts.length ≤ 100000 ∧
  ds = [encCode code, r.enc, .int at_, tokL ts] ∧ d = .bool (breaks r row none || ts.any fun t => breaks r row (some t))
theorem sc_law_told : FnScope ["_law_code_here", "_law_rule_here", "_law_at", "_law_tokens", "_law_token"] ["_law_code_here", "_law_rule_here", "_law_at", "_law_tokens"] (defScope (top 56)) := ⟨rfl, rfl, rfl, by decide +kernel, rfl, by decide +kernel, by decide +kernel⟩
theorem kn_told (T : Tx K mg) : Kn P w K mg base 5 "_law_told" ["_law_code_here", "_law_rule_here", "_law_at", "_law_tokens"] (spD K R_told) := by
  have Kbreaks_at := kn_breaks_at (P := P) (w := w) (base := base) T
  refine kn_D (T.fn2 (("_law_told" : Str), 56) (by decide +kernel)) sc_law_told (fun _ _ _ _ _ _ us hl => match us, hl with | [_, _, _, _], _ => rfl) (fun ds d h => ?_) (fun f cdv A outer s0 H vs E ds d hr hv h => ?_)
  · obtain ⟨_, _, _, _, _, _, _, _, _, _, _, _, rfl, rfl⟩ := h
    rfl
  obtain ⟨code, r, L, at_, row, ts, hc, ok, hs, ho, ht, hn, rfl, rfl⟩ := h
  obtain _ | ⟨h1, _ | ⟨h2, _ | ⟨h3, _ | ⟨h4, _ | _⟩⟩⟩⟩ := hv
  rename_i v1 v2 v3 v4
  refine ⟨_, (pss_cons (ps_for PassesOwn.never rfl (pi_list (pe_op op_addU (pe_lst (pa_cons (pe_non) (pa_nil))) (pv 3))) (pg_name (i := 4) sc_law_told.nd rfl (.inl rfl)) (pss_one (ps_if (pt_cmpR op_isBl (pe_kn Kbreaks_at (hr.mono (by decide)) rfl (pa_cons (pv 0) (pa_cons (pv 1) (pa_cons (pv 2) (pa_cons (pv 4) (pa_nil)))))) (pe_bl) (nomark _)) (pss_one (ps_ret (pe_bl))) (pss_nil)))) (pss_one (ps_ret (pe_bl)))), fun Q q => ?_⟩
  refine q_forF (K := K) (gf_catD (ds := [.none]) (es := ts.map Tok.enc) (gd_lst (ga_cons gd_non ga_nil) (by decide)) (by walk_at "gd") (by rw [List.length_map]; show 1 + _ ≤ _; omega)) fun p xs es H1 z s1 n1 l1 d1 => ?_
  have ez : es = (none :: ts.map some).map encT := by
    rw [z, List.map_cons, ← encT_some]
    rfl
  subst ez
  refine ⟨fun i σ' H' => Same H1 H' ∧ (∃ o, σ' = [some v1, some v2, some v3, some v4, o]) ∧ ∀ (j : Nat) (t : Option Tok), j < i → (none :: ts.map some)[j]? = some t → breaks r row t = false, ⟨Same.refl _, ⟨_, rfl⟩, fun j t h => absurd h (Nat.not_lt_zero _)⟩, fun i σ' H' h => h.1 _ _ l1, fun i d v σ' H' hd hx hdv hP => ?_, fun σ' H' hP => ?_⟩
  · obtain ⟨sm, ⟨o, rfl⟩, hb⟩ := hP
    obtain ⟨t, htm, rfl⟩ := dps_of hd
    have tok : ∀ u, t = some u → u.Ok L := fun u e => by
      subst e
      have m := List.mem_of_getElem? htm
      rcases List.mem_cons.mp m with e | m
      · cases e
      · obtain ⟨x, hx, e⟩ := List.mem_map.mp m
        cases e
        exact ht _ hx
    have sH : Same H H' := s1.trans sm
    refine l_if (gt_test (K := K) (gd_op (gd_call (ds := [encCode code, r.enc, .int at_, encT t]) (ga_cons (by walk_at "gd") (ga_cons (by walk_at "gd") (ga_cons (by walk_at "gd") (ga_cons (gd_var rfl (dp_mono sm hdv)) ga_nil)))) ⟨code, r, L, at_, row, t, hc, ok, hs, ho, tok, rfl, rfl⟩) gd_bl r2_isB)) (fun c H2 s2 => ?_) fun c H2 s2 => ?_
    · have c : breaks r row t = true := of_decide_eq_true c
      have e : (breaks r row none || ts.any fun t => breaks r row (some t)) = true := by
        rw [Bool.or_eq_true, List.any_eq_true]
        rcases List.mem_cons.mp (List.mem_of_getElem? htm) with e | m
        · subst e
          exact .inl c
        · obtain ⟨x, hx, e⟩ := List.mem_map.mp m
          subst e
          exact .inr ⟨x, hx, c⟩
      rw [e] at q
      exact l_ret (K := K) (d := .bool true) gd_bl fun v H3 s3 d3 => q v H3 (by walk_at "same") d3
    · have c : breaks r row t = false := by
        have z := of_decide_eq_false c
        cases h : breaks r row t
        · rfl
        · exact absurd h z
      refine ⟨sm.trans s2, ⟨_, rfl⟩, fun j t' hj ht' => ?_⟩
      rcases Nat.lt_or_ge j i with h | h
      · exact hb j t' h ht'
      · have e : j = i := by omega
        subst e
        rw [htm] at ht'
        cases ht'
        exact c
  · obtain ⟨sm, ⟨o, rfl⟩, hb⟩ := hP
    rw [List.length_map] at hb
    have all : ∀ t ∈ (none :: ts.map some), breaks r row t = false := fun t hm => by
      obtain ⟨j, hj⟩ := List.mem_iff_getElem?.mp hm
      exact hb j t (List.getElem?_eq_some_iff.mp hj).1 hj
    have e : (breaks r row none || ts.any fun t => breaks r row (some t)) = false := by
      rw [Bool.or_eq_false_iff]
      refine ⟨all none List.mem_cons_self, List.any_eq_false.mpr fun t ht' => ?_⟩
      rw [all (some t) (List.mem_cons_of_mem _ (List.mem_map.mpr ⟨t, ht', rfl⟩))]
      decide
    rw [e] at q
    exact l_ret (K := K) (d := .bool false) gd_bl fun v H3 s3 d3 => q v H3 (by walk_at "same") d3
theorem sc_law_next : FnScope ["_law_rule_here", "_law_room", "_law_text"] ["_law_rule_here", "_law_room", "_law_text"] (defScope (top 50)) := ⟨rfl, rfl, rfl, by decide +kernel, rfl, by decide +kernel, by decide +kernel⟩
theorem kn_lnext (T : Tx K mg) : Kn P w K mg base 1 "_law_next" ["_law_rule_here", "_law_room", "_law_text"] (spD K R_next_room) := by
  refine kn_D (T.fn2 (("_law_next" : Str), 50) (by decide +kernel)) sc_law_next (fun _ _ _ _ _ _ us hl => match us, hl with | [_, _, _], _ => rfl) (fun ds d h => ?_) (fun f cdv A outer s H vs E ds d hr hv h => ?_)
  · obtain ⟨_, _, _, _, _, _, rfl, rfl⟩ := h
    rfl
  obtain ⟨r, R, n, x, ok, hn, rfl, rfl⟩ := h
  obtain _ | ⟨h1, _ | ⟨h2, _ | ⟨h3, _ | _⟩⟩⟩ := hv
  have h1 : Dp K H _ (.tuple [.int r.sides, .list (r.texts.map PyData.str), .list (r.rooms.map fun m => .list (m.map encO))]) := h1
  refine ⟨_, (pss_cons (ps_if (pt_cmpR op_notIn_seq (pv 2) (pe_ix ix_seq (pv 0) (pe_int) (fun _ _ => rfl)) (by rfl)) (pss_one (ps_ret (pv 1))) (pss_nil)) (pss_one (ps_ret (pe_ix ix_seq (pe_ix ix_seq (pe_ix ix_seq (pv 0) (pe_int) (fun _ _ => rfl)) (pv 1) (fun _ _ => rfl)) (pe_bm PySem.F.plainAttrs_list PySem.F.slot_list_index PySem.F.type_list_index mt_index (pe_ix ix_seq (pv 0) (pe_int) (fun _ _ => rfl)) (pa_cons (pv 2) (pa_nil))) (fun _ _ => rfl))))), fun Q q => ?_⟩
  refine q_if0 (a := !decide (x ∈ r.texts)) (gt_test (K := K) (gd_op (by walk_at "gd") (by walk_at "gd") (r2_nil rfl (flat_strs _) (congrArg not (any_strs x _))))) (fun e H1 s1 => ?_) (fun e H1 s1 => ?_)
  · have hx : ¬ x ∈ r.texts := by simpa using e
    rw [Rule.next_out hx] at q
    exact l_ret (K := K) (by walk_at "gd") fun v H2 s2 d2 => q v H2 (by walk_at "same") d2
  · have hx : x ∈ r.texts := by simpa using e
    obtain ⟨m, a1, a2⟩ := Rule.next_in ok hn hx
    refine l_ret (K := K) ?_ fun v H2 s2 d2 => q v H2 (by walk_at "same") d2
    exact gd_op (gd_op (by walk_at "gd") (by walk_at "gd") (r2_ixl (at_map a1))) (gd_index (by walk_at "gd") (by walk_at "ga") hx) (r2_ixl (at_map a2))
def R_right (ds : List PyData) (d : PyData) : Prop := ∃ (L : Lim) (r : Rule) (code : List Row) (paper : List (List Tok)) (i : Nat), Fit L r code ∧ PFit L code paper ∧ Closed r code paper ∧ brk r code paper i = true ∧
  ds = [encCode code, r.enc, encPaper paper, .int i] ∧ d = .bool true
theorem sc_law_right : FnScope ["_law_code_here", "_law_rule_here", "_law_paper", "_law_at", "_law_text", "_law_column", "_law_row"] ["_law_code_here", "_law_rule_here", "_law_paper", "_law_at"] (defScope (top 57)) := ⟨rfl, rfl, rfl, by decide +kernel, rfl, by decide +kernel, by decide +kernel⟩
theorem kn_right (T : Tx K mg) : Kn P w K mg base 9 "_law_right" ["_law_code_here", "_law_rule_here", "_law_paper", "_law_at"] (spD K R_right) := by
  have K_law_told := kn_told (P := P) (w := w) (base := base) T
  have Klets_by := kn_lets_by (P := P) (w := w) (base := base) T
  refine kn_D (T.fn2 (("_law_right" : Str), 57) (by decide +kernel)) sc_law_right (fun _ _ _ _ _ _ us hl => match us, hl with | [_, _, _, _], _ => rfl) (fun ds d h => ?_) (fun f cdv A outer s0 H vs E ds d hr hv h => ?_)
  · obtain ⟨_, _, _, _, _, _, _, _, _, rfl, rfl⟩ := h
    rfl
  obtain ⟨L, r, code, paper, i, fit, pfit, closed, hb, rfl, rfl⟩ := h
  obtain _ | ⟨h1, _ | ⟨h2, _ | ⟨h3, _ | ⟨h4, _ | _⟩⟩⟩⟩ := hv
  rename_i v1 v2 v3 v4
  have e4 := dp_int h4
  subst e4
  have h1' : Dp K H v1 (.list (code.map Row.enc)) := h1
  have h3' : Dp K H v3 (.list (paper.map tokL)) := h3
  have clen := fit.len
  obtain ⟨row, ts, hrow, hts, hbr⟩ : ∃ row ts, code[i]? = some row ∧ paper[i]? = some ts ∧ (breaks r row none || ts.any fun t => breaks r row (some t)) = true := by
    unfold brk at hb
    cases q1 : code[i]? with
    | none =>
      rw [q1] at hb
      cases hb
    | some row =>
      cases q2 : paper[i]? with
      | none =>
        rw [q1, q2] at hb
        cases hb
      | some ts =>
        rw [q1, q2] at hb
        exact ⟨row, ts, rfl, rfl, hb⟩
  have hil : i < code.length := (List.getElem?_eq_some_iff.mp hrow).1
  refine ⟨_, (pss_cons (ps_for PassesOwn.never rfl (pi_list (pe_lst (pa_cons (pe_str) (pa_cons (pe_str) (pa_nil))))) (pg_name (i := 4) sc_law_right.nd rfl (.inl rfl)) (pss_cons (ps_setLc (i := 5) (own := [("_law_row", 6)]) rfl sc_law_right.nd rfl rfl (sw_true rfl rfl rfl (by decide +kernel)) (pi_list (pv 0)) (blkOk_by (N := ["_law_code_here", "_law_rule_here", "_law_paper", "_law_at", "_law_text", "_law_column", "_law_row"]) (sc := defScope (top 57)) (by decide +kernel)) (fun _ _ _ _ _ => pg_name (i := 6) sc_law_right.nd rfl (Or.inl rfl)) (fun _ _ _ _ _ => pts_nil) (fun _ _ _ _ _ => pe_str)) (pss_cons (ps_asg (pv 4) (pg_sub (pv 5) (pv 3) set_list)) (pss_one (ps_if (PW.pt (pw_or (pt_not (pt_val (pe_kn K_law_told (hr.mono (by decide)) rfl (pa_cons (pv 0) (pa_cons (pv 1) (pa_cons (pv 3) (pa_cons (pe_ix ix_seq (pv 2) (pv 3) (fun _ _ => rfl)) (pa_nil)))))))) (pw_or1 (pt_cmpR op_notBl (pe_kn Klets_by (hr.mono (by decide)) rfl (pa_cons (pv 0) (pa_cons (pv 1) (pa_cons (pv 2) (pa_cons (pv 5) (pa_nil)))))) (pe_bl) (nomark _))))) (pss_one (ps_ret (pe_bl))) (pss_nil)))))) (pss_one (ps_ret (pe_bl)))), fun Q q => ?_⟩
  refine q_forF (K := K) (gf_lst (Z := fun es => es = [("step" : Str), "none"].map PyData.str) (ga_cons gd_str (ga_cons gd_str ga_nil)) (Nat.le_of_ble_eq_true rfl) rfl) fun p xs es H1 z s1 n1 l1 d1 => ?_
  subst z
  refine ⟨fun j σ' H' => Same H1 H' ∧ ∃ o5 o6 o7, σ' = [some v1, some v2, some v3, some (.int i), o5, o6, o7], ⟨Same.refl _, _, _, _, rfl⟩, fun j σ' H' h => h.1 _ _ l1, fun j d v σ' H' hd hx hdv hP => ?_, fun σ' H' hP => ?_⟩
  · obtain ⟨sm, o5, o6, o7, rfl⟩ := hP
    obtain ⟨text, htx, rfl⟩ := dps_of hd
    have ev := dp_str hdv
    subst ev
    have nl : text ≠ "look" := by
      have m := List.mem_of_getElem? htx
      simp only [List.mem_cons, List.not_mem_nil, or_false] at m
      rcases m with e | e <;> subst e <;> decide +kernel
    have sH : Same H H' := s1.trans sm
    refine q_asgF (K := K) (gf_lcM (g := Row.enc) (F := fun _ => .str "look") (ts := code) (gd_var rfl (dp_mono sH h1')) (fun _ => rfl) (fun _ _ => rfl) (by omega) fun _ _ _ _ _ _ => gd_str) fun c H2 ys es z s2 n2 l2 d2 => ?_
    subst z
    have ly : ys.length = code.length := by rw [dps_len d2, List.length_map]
    refine q_seq (show tAsg _ _ _ _ _ from ⟨_, rfl, _, rfl, _, rfl, c, ys, i, i, rfl, rfl, l2, ixN_n (by rw [ly]; exact hil), ?_⟩)
    have hcs : upd H2 c (.lst (ys.set i (.str text))) c = some (.lst (ys.set i (.str text))) := upd_same
    have hcd : DpAll K (upd H2 c (.lst (ys.set i (.str text)))) (ys.set i (.str text)) (((code.map fun _ => ("look" : Str)).set i text).map PyData.str) := by
      rw [List.map_set, List.map_map]
      exact dps_set i (dps_keepT (SameT.upd l2 rfl) (nolAll_of fun d hd => by obtain ⟨_, _, rfl⟩ := List.mem_map.mp hd; rfl) d2) (.str _)
    have s3 : Same H' (upd H2 c (.lst (ys.set i (.str text)))) := same_mut s2 n2
    generalize upd H2 c (.lst (ys.set i (.str text))) = H3 at hcs hcd s3
    have sH3 := sH.trans s3
    have gp : ∀ {σ : L2.St} {H'' : Hp}, Same H H'' → σ[2]? = some (some v3) → σ[3]? = some (some (.int i)) → Gd K (tOp (rIx K) (tVar 2) (tVar 3)) σ H'' (tokL ts) := fun s a b => gd_op (d := .list (paper.map tokL)) (gd_var a (dp_mono s h3')) (gd_var b (.int _)) (r2_ixl (at_map hts))
    refine l_no (gt_is (gt_orF (b := false) (gt_is (gt_not (gt_B (K := K) (gd_is (gd_call (ds := [encCode code, r.enc, .int i, tokL ts]) (ga_cons (gd_var rfl (dp_mono sH3 h1)) (ga_cons (gd_var rfl (dp_mono sH3 h2)) (ga_cons (gd_var rfl (.int _)) (ga_cons (gp sH3 rfl rfl) ga_nil))))
      ⟨code, r, L, i, row, ts, hrow, fit.ok, fit.sides, fit.rows row (List.mem_of_getElem? hrow), pfit.toks ts (List.mem_of_getElem? hts), Nat.le_trans (pfit.short ts (List.mem_of_getElem? hts)) (by decide), rfl, rfl⟩) (by rw [hbr])))) rfl) ?_) rfl) fun H4 s4 => ?_
    · refine gt_is (gt_test (K := K) (gd_op (gd_n (d := .bool false) (gn_call (ds := [encCode code, r.enc, encPaper paper, .list (((code.map fun _ => ("look" : Str)).set i text).map PyData.str)]) (ga_cons (gd_var rfl (dp_mono sH3 h1)) (ga_cons (gd_var rfl (dp_mono sH3 h2)) (ga_cons (gd_var rfl (dp_mono sH3 h3)) (ga_cons (gd_var rfl (.lst (SqL.of hcs) hcd)) ga_nil))))
        ⟨L, r, code, paper, (code.map fun _ => ("look" : Str)).set i text, fit, pfit, closed, fun e => by rw [e] at hil; exact absurd hil (Nat.not_lt_zero _), by rw [List.length_set, List.length_map], rfl, rfl⟩) fun x hx => ?_) gd_bl (r2_notB (a := false) (b := false)))) (show (!decide (false = false)) = false by decide)
      obtain ⟨b, rfl, _, hz⟩ := hx
      rw [hz ⟨i, text, by rw [List.getElem?_set_self (by rw [List.length_map]; exact hil)], nl, hb⟩]
    · exact ⟨sm.trans (s3.trans s4), _, _, _, rfl⟩
  · obtain ⟨sm, o5, o6, o7, rfl⟩ := hP
    exact l_ret (K := K) (d := .bool true) gd_bl fun v H3 s3 d3 => q v H3 (by walk_at "same") d3
end
end Uw
/-! text T28 -/
namespace Uw
open PySem PySem.Spec PyProof.Rows L2
/-! _law_slots, _law_inputs -/
section
variable {K : PySem.W.Frag} {σ : L2.St} {H : Hp}
theorem rc_max2 {a b : Nat} : RdC K (fun xs H Q => ∃ i j, xs = [.int i, .int j] ∧ Q (.int (if j > i then j else i)) H) [.int a, .int b] H (.int (max a b : Nat)) := fun H1 _ vs dv Q q => by
  obtain _ | ⟨h1, _ | ⟨h2, _ | _⟩⟩ := dv
  rw [dp_int h1, dp_int h2]
  refine ⟨a, b, rfl, ?_⟩
  have e : (if (b : Int) > a then (b : Int) else a) = (max a b : Nat) := by split <;> omega
  rw [e]
  exact q _ H1 (Same.refl _) (.int _)
theorem nu2 {a b : Nat} : nuMax2 (.int a) (.int b) = some (.int (max a b : Nat)) := by
  show some (if decide ((a : Int) < b) = true then V.int b else V.int a) = _
  by_cases h : (a : Int) < b
  · rw [decide_eq_true h, if_pos rfl, show max a b = b by omega]
  · rw [decide_eq_false h, if_neg (by decide), show max a b = a by omega]
theorem rc_max3 {a b c : Nat} : RdC K (rNuC3 nuMax3) [.int a, .int b, .int c] H (.int (max (max a b) c : Nat)) := fun H1 _ vs dv Q q => by
  obtain _ | ⟨h1, _ | ⟨h2, _ | ⟨h3, _ | _⟩⟩⟩ := dv
  rw [dp_int h1, dp_int h2, dp_int h3]
  refine ⟨_, _, _, .int (max (max a b) c : Nat), rfl, ?_, q _ H1 (Same.refl _) (.int _)⟩
  show (nuMax2 (.int a) (.int b)).bind _ = _
  rw [nu2]
  exact nu2
end
section
variable {P : Program} {w : World} {K : PySem.W.Frag} {mg : Str → Option Value} {base : Heap}
def R_slots (ds : List PyData) (Z : PyData → Prop) : Prop := ∃ (code : List Row) (S : Nat), (∀ row ∈ code, row.Ok S) ∧ ds = [encCode code] ∧ Z = fun d => ∃ M : Nat, d = .int M ∧ M ≤ S ∧ ∀ row ∈ code, row.Ok M
/-- one more than the row's slots -/
def Row.top : Row → Nat
  | .opn _ s => s + 1
  | .act _ s _ => s + 1
  | .cpy _ s t => max (s + 1) (t + 1)
  | .drp _ s => s + 1
  | .tie _ s t => max (s + 1) (t + 1)
  | _ => 0
theorem Row.top_le {S : Nat} : ∀ {r : Row}, r.Ok S → r.top ≤ S
  | .opn _ _, h => h
  | .act _ _ _, h => h.1
  | .cpy _ s t, h => by
    have h1 : s < S := h.1
    have h2 : t < S := h.2
    show max (s + 1) (t + 1) ≤ S
    omega
  | .drp _ _, h => h
  | .tie _ s t, h => by
    have h1 : s < S := h.1
    have h2 : t < S := h.2
    show max (s + 1) (t + 1) ≤ S
    omega
  | .tst _ _ _, _ => Nat.zero_le _
  | .jmp _ _, _ => Nat.zero_le _
  | .fin _, _ => Nat.zero_le _
theorem Row.ok_top {S M : Nat} : ∀ {r : Row}, r.Ok S → r.top ≤ M → r.Ok M
  | .opn _ _, _, h => h
  | .act _ _ _, q, h => ⟨h, q.2⟩
  | .cpy _ s t, _, h => by
    have h : max (s + 1) (t + 1) ≤ M := h
    exact ⟨by omega, by omega⟩
  | .drp _ _, _, h => h
  | .tie _ s t, _, h => by
    have h : max (s + 1) (t + 1) ≤ M := h
    exact ⟨by omega, by omega⟩
  | .tst _ _ _, _, _ => trivial
  | .jmp _ _, _, _ => trivial
  | .fin _, _, _ => trivial
theorem sc_law_slots : FnScope ["_law_code_here", "_law_most", "_law_row"] ["_law_code_here"] (defScope (top 49)) := ⟨rfl, rfl, rfl, by decide +kernel, rfl, by decide +kernel, by decide +kernel⟩
theorem kn_slots (T : Tx K mg) : Kn P w K mg base 1 "_law_slots" ["_law_code_here"] (spN K R_slots) := by
  refine kn_N (T.fn2 (("_law_slots" : Str), 49) (by decide +kernel)) sc_law_slots (fun _ _ _ _ _ _ us hl => match us, hl with | [_], _ => rfl) (fun ds d h => ?_) (fun f cdv A outer s0 H vs E ds Z hr hv h => ?_)
  · obtain ⟨_, _, _, rfl, _⟩ := h
    rfl
  obtain ⟨code, S, ok, rfl, rfl⟩ := h
  obtain _ | ⟨h1, _ | _⟩ := hv
  rename_i v1
  have h1' : Dp K H v1 (.list (code.map Row.enc)) := h1
  refine ⟨_, (pss_cons (ps_set (i := 1) sc_law_slots.nd rfl (Or.inl rfl) (pe_int)) (pss_cons (ps_for PassesOwn.never rfl (pi_list (pv 0)) (pg_name (i := 2) sc_law_slots.nd rfl (.inl rfl)) (pss_cons (ps_if (pt_cmpR op_in_seq (pe_ix ix_seq (pv 2) (pe_int) (fun _ _ => rfl)) (pe_tup (pa_cons (pe_str) (pa_cons (pe_str) (pa_cons (pe_str) (pa_nil))))) (by rfl)) (pss_one (ps_set (i := 1) sc_law_slots.nd rfl (Or.inl rfl) (pe_callB (call_max2 rfl) (by rfl) (T.free "max" (by decide)) (by decide +kernel) (pa_cons (pv 1) (pa_cons (pe_op op_addU (pe_ix ix_seq (pv 2) (pe_int) (fun _ _ => rfl)) (pe_int)) (pa_nil)))))) (pss_nil)) (pss_one (ps_if (pt_cmpR op_in_seq (pe_ix ix_seq (pv 2) (pe_int) (fun _ _ => rfl)) (pe_tup (pa_cons (pe_str) (pa_cons (pe_str) (pa_nil)))) (by rfl)) (pss_one (ps_set (i := 1) sc_law_slots.nd rfl (Or.inl rfl) (pe_callB (call_max3Nu rfl) (by rfl) (T.free "max" (by decide)) (by decide +kernel) (pa_cons (pv 1) (pa_cons (pe_op op_addU (pe_ix ix_seq (pv 2) (pe_int) (fun _ _ => rfl)) (pe_int)) (pa_cons (pe_op op_addU (pe_ix ix_seq (pv 2) (pe_int) (fun _ _ => rfl)) (pe_int)) (pa_nil))))))) (pss_nil))))) (pss_one (ps_ret (pv 1))))), fun Q q => ?_⟩
  refine q_asg (K := K) (d := .int (0 : Nat)) gd_int fun v2 H1 s1 d2 => ?_
  have e2 := dp_int d2
  subst e2
  refine q_forV (K := K) (H0 := H1) (ds := code.map Row.enc) (v := v1) (fun i σ' H' => Same H1 H' ∧ (∃ o, ∃ M : Nat, σ' = [some v1, some (.int M), o] ∧ M ≤ S ∧ ∀ (j : Nat) (row : Row), j < i → code[j]? = some row → row.top ≤ M)) rfl (dp_mono s1 h1') (Same.refl _) ⟨Same.refl _, none, 0, rfl, Nat.zero_le _, fun j row h => absurd h (Nat.not_lt_zero _)⟩ (fun i σ' H' p => p.1) (fun i d v σ' H' hd hP dv => ?_) fun σ' H' hP => ?_
  · obtain ⟨row, hrow, rfl⟩ := dps_of hd
    obtain ⟨sm, o, M, rfl, hM, hj⟩ := hP
    have rok := ok row (List.mem_of_getElem? hrow)
    have rt := Row.top_le rok
    have fin : ∀ {H'' : Hp} {M' : Nat}, Same H' H'' → M' = max M row.top → Same H1 H'' ∧ ∃ o, ∃ M'' : Nat, [some v1, some (V.int (M' : Nat)), some v] = [some v1, some (.int M''), o] ∧ M'' ≤ S ∧ ∀ (j : Nat) (row : Row), j < i + 1 → code[j]? = some row → row.top ≤ M'' := fun {H'' M'} s e => by
      refine ⟨sm.trans s, _, M', rfl, by omega, fun j row' hji hr => ?_⟩
      rcases Nat.lt_or_ge j i with h | h
      · have z := hj j row' h hr
        omega
      · have e' : j = i := by omega
        subst e'
        rw [hrow] at hr
        cases hr
        omega
    cases row with
    | opn l s =>
      have dv1 : Dp K H' v (.tuple [.str "open", .int l, .int s]) := dv
      refine q_yes (by walk_at "tagT") fun H2 s2 => ?_
      refine q_asg (K := K) (d := .int (max M (s + 1) : Nat)) (gd_cb (ga_cons (gd_var rfl (.int _)) (ga_cons (gd_op (gd_op (gd_var rfl (dp_mono s2 dv1)) gd_int (r2_ixt rfl)) gd_int r2_addI) ga_nil)) rc_max2) fun v3 H3 s3 d3 => ?_
      have e3 := dp_int d3
      subst e3
      exact l_no (by walk_at "tagF") fun H4 s4 => fin (s2.trans (s3.trans s4)) rfl
    | act l s x =>
      have dv1 : Dp K H' v (.tuple [.str "do", .int l, .int s, .str x]) := dv
      refine q_yes (by walk_at "tagT") fun H2 s2 => ?_
      refine q_asg (K := K) (d := .int (max M (s + 1) : Nat)) (gd_cb (ga_cons (gd_var rfl (.int _)) (ga_cons (gd_op (gd_op (gd_var rfl (dp_mono s2 dv1)) gd_int (r2_ixt rfl)) gd_int r2_addI) ga_nil)) rc_max2) fun v3 H3 s3 d3 => ?_
      have e3 := dp_int d3
      subst e3
      exact l_no (by walk_at "tagF") fun H4 s4 => fin (s2.trans (s3.trans s4)) rfl
    | drp l s =>
      have dv1 : Dp K H' v (.tuple [.str "drop", .int l, .int s]) := dv
      refine q_yes (by walk_at "tagT") fun H2 s2 => ?_
      refine q_asg (K := K) (d := .int (max M (s + 1) : Nat)) (gd_cb (ga_cons (gd_var rfl (.int _)) (ga_cons (gd_op (gd_op (gd_var rfl (dp_mono s2 dv1)) gd_int (r2_ixt rfl)) gd_int r2_addI) ga_nil)) rc_max2) fun v3 H3 s3 d3 => ?_
      have e3 := dp_int d3
      subst e3
      exact l_no (by walk_at "tagF") fun H4 s4 => fin (s2.trans (s3.trans s4)) rfl
    | cpy l s t =>
      have dv1 : Dp K H' v (.tuple [.str "copy", .int l, .int s, .int t]) := dv
      refine q_no (by walk_at "tagF") fun H2 s2 => ?_
      refine l_yes (by walk_at "tagT") fun H3 s3 => ?_
      refine l_asg (K := K) (d := .int (max (max M (s + 1)) (t + 1) : Nat)) (gd_cb (ga_cons (gd_var rfl (.int _)) (ga_cons (gd_op (gd_op (gd_var rfl (dp_mono (s2.trans s3) dv1)) gd_int (r2_ixt rfl)) gd_int r2_addI) (ga_cons (gd_op (gd_op (gd_var rfl (dp_mono (s2.trans s3) dv1)) gd_int (r2_ixt rfl)) gd_int r2_addI) ga_nil))) rc_max3) fun v4 H4 s4 d4 => ?_
      have e4 := dp_int d4
      subst e4
      exact fin (s2.trans (s3.trans s4)) (by show _ = max M (max (s + 1) (t + 1)); omega)
    | tie l s t =>
      have dv1 : Dp K H' v (.tuple [.str "tie", .int l, .int s, .int t]) := dv
      refine q_no (by walk_at "tagF") fun H2 s2 => ?_
      refine l_yes (by walk_at "tagT") fun H3 s3 => ?_
      refine l_asg (K := K) (d := .int (max (max M (s + 1)) (t + 1) : Nat)) (gd_cb (ga_cons (gd_var rfl (.int _)) (ga_cons (gd_op (gd_op (gd_var rfl (dp_mono (s2.trans s3) dv1)) gd_int (r2_ixt rfl)) gd_int r2_addI) (ga_cons (gd_op (gd_op (gd_var rfl (dp_mono (s2.trans s3) dv1)) gd_int (r2_ixt rfl)) gd_int r2_addI) ga_nil))) rc_max3) fun v4 H4 s4 d4 => ?_
      have e4 := dp_int d4
      subst e4
      exact fin (s2.trans (s3.trans s4)) (by show _ = max M (max (s + 1) (t + 1)); omega)
    | tst l m t =>
      have dv1 : Dp K H' v (.tuple [.str "test", .int l, .int m, .int t]) := dv
      exact q_no (by walk_at "tagF") fun H2 s2 => l_no (by walk_at "tagF") fun H3 s3 => fin (s2.trans s3) (by show M = max M 0; omega)
    | jmp l t =>
      have dv1 : Dp K H' v (.tuple [.str "jump", .int l, .int t]) := dv
      exact q_no (by walk_at "tagF") fun H2 s2 => l_no (by walk_at "tagF") fun H3 s3 => fin (s2.trans s3) (by show M = max M 0; omega)
    | fin l =>
      have dv1 : Dp K H' v (.tuple [.str "end", .int l]) := dv
      exact q_no (by walk_at "tagF") fun H2 s2 => l_no (by walk_at "tagF") fun H3 s3 => fin (s2.trans s3) (by show M = max M 0; omega)
  · obtain ⟨sm, o, M, rfl, hM, hj⟩ := hP
    rw [List.length_map] at hj
    refine l_ret (K := K) (d := .int M) (gd_var rfl (.int _)) fun v H3 s3 d3 => q v H3 _ ⟨M, rfl, hM, fun row hr => ?_⟩ (s1.trans (sm.trans s3)) d3
    obtain ⟨j, hj2⟩ := List.mem_iff_getElem?.mp hr
    exact Row.ok_top (ok row hr) (hj j row (List.getElem?_eq_some_iff.mp hj2).1 hj2)
def R_inputs (ds : List PyData) (Z : PyData → Prop) : Prop := ∃ (cells : List Int) (code : List Row), cells.length ≤ 100 ∧ code.length ≤ 10000 ∧ ds = [.list (cells.map PyData.int), encCode code] ∧ Z = fun d => ∃ is : List Int, d = .list (is.map PyData.int) ∧ is.length = cells.length
def isTst : Row → Bool
  | .tst _ _ _ => true
  | _ => false
theorem tag_tst (row : Row) : decide (V.str row.tag = V.str "test") = isTst row := by cases row <;> rfl
theorem lc_bounds {σ : L2.St} {H : Hp} {n j : Nat} {vs : List Nat} {v : V} {code : List Row} {Q : VK} (hv : σ[n]? = some (some v)) (hd : Dp K H v (encCode code)) (hl : code.length ≤ 10000) (hw : ∀ v, wipe ((wipe σ vs).set j (some v)) vs = wipe σ vs) (hj : ∀ v, ((wipe σ vs).set j (some v))[j]? = some (some v))
    (q : ∀ (a : Addr) (bs : List Int) (H' : Hp), Same H H' → H' a = some (.lst (bs.map V.int)) → bs.length ≤ code.length → Q (.ref a) H') :
    tLc (iList K (tVar n)) (gName j) (tTest (tOp rEq (tOp (rIx K) (tVar j) (tC (.int 0))) (tC (.str "test")))) (tOp (rIx K) (tVar j) (tC (.int 2))) vs σ H Q := by
  obtain ⟨a, xs, rfl, h1, h2⟩ := dp_list (ds := code.map Row.enc) hd
  have l2 := dps_len h2
  rw [List.length_map] at l2
  refine ⟨_, hv, a, rfl, ⟨xs, h1⟩, fun Dd hD => lc_list (K := K) (a := a) (xs := xs) (fun i H' => Same H H' ∧ ∃ bs : List Int, H' Dd = some (.lst (bs.map V.int)) ∧ bs.length ≤ i) ⟨same_new hD, [], upd_same, Nat.le_refl _⟩
      (fun i H' _ h => h.1.seq h1) (fun i x H' hx ⟨s1, bs, e1, hb⟩ => ?_) fun H' ⟨s1, bs, e1, hb⟩ => q Dd bs H' s1 e1 (by omega)⟩
  obtain ⟨d, hd', dd⟩ := dps_get' h2 hx
  obtain ⟨row, hrow, rfl⟩ := dps_of hd'
  have dx := dp_mono s1 dd
  have hlt : i < xs.length := (List.getElem?_eq_some_iff.mp hx).1
  refine ⟨hw x, ?_⟩
  refine gt_tag (K := K) (row := row) (b := isTst row) (gd_var (hj x) dx) (tag_tst row) H' (Same.refl _) _ fun H3 s3 => ?_
  cases row with
  | tst l m t =>
    rw [if_pos (show isTst (.tst l m t) = true from rfl)]
    have dx1 : Dp K H3 x (.tuple [.str "test", .int l, .int m, .int t]) := dp_mono s3 dx
    refine gd_op (K := K) (gd_var (hj x) dx1) gd_int (r2_ixt (d := .int m) rfl) H3 (Same.refl _) _ fun y H4 s4 dy => ?_
    have ey := dp_int dy
    subst ey
    refine ⟨bs.map V.int, s4 _ _ (s3 _ _ e1), small_lt (by rw [List.length_map]; omega), same_mut ((s1.trans s3).trans s4) hD, bs ++ [m], by rw [List.map_append]; exact upd_same, by rw [List.length_append]; exact Nat.add_le_add_right hb 1⟩
  | _ =>
    rw [if_neg (fun h => by cases h)]
    exact ⟨s1.trans s3, bs, s3 _ _ e1, Nat.le_succ_of_le hb⟩
theorem ex_max : ∀ {l : List Int}, l ≠ [] → ∃ m ∈ l, ∀ y ∈ l, y ≤ m
  | [], h => absurd rfl h
  | [a], _ => ⟨a, List.mem_cons_self, fun y hy => by rw [List.mem_singleton.mp hy]; exact Int.le_refl _⟩
  | a :: b :: r, _ => by
    obtain ⟨m, h1, h2⟩ := ex_max (l := b :: r) (by simp)
    by_cases c : a ≤ m
    · refine ⟨m, List.mem_cons_of_mem _ h1, fun y hy => ?_⟩
      rcases List.mem_cons.mp hy with e | hy
      · rw [e]
        exact c
      · exact h2 y hy
    · refine ⟨a, List.mem_cons_self, fun y hy => ?_⟩
      rcases List.mem_cons.mp hy with e | hy
      · rw [e]
        exact Int.le_refl _
      · have := h2 y hy
        omega
theorem rc_max {H : Hp} {L : List Int} {m : Int} (hm : m ∈ L) (hx : ∀ y ∈ L, y ≤ m) : RdC K (rMax K) [.list (L.map PyData.int)] H (.int m) := fun H1 _ vs dv Q q => by
  obtain _ | ⟨h, _ | _⟩ := dv
  obtain ⟨a, xs, rfl, h1, h2⟩ := dp_list h
  have e := dps_ints_eq h2
  subst e
  refine ⟨a, L, rfl, h1, List.length_pos_of_mem hm, fun m' h3 h4 => ?_⟩
  have e : m' = m := Int.le_antisymm (hx m' h3) (h4 m hm)
  rw [e]
  exact q _ H1 (Same.refl _) (.int _)
theorem gd_pickI {σ : L2.St} {H : Hp} {i : Nat} {v : V} {L : List Int} {te : TE} {m : Int} (hv : σ[i]? = some (some v)) (dv : Dp K H v (.list (L.map PyData.int))) (hne : L ≠ []) (hm : Gd K te σ H (.int m)) :
    ∃ x : Int, Gd K (tOp (rIx K) (tVar i) (tOp (rI (fun _ j => 0 < j) fun i j => .int (i % j)) te (tCB (rLn K) (tCons (tVar i) tNil)))) σ H (.int x) := by
  have hl : 0 < L.length := List.length_pos_iff.mpr hne
  have h1 := Int.emod_nonneg m (show (L.length : Int) ≠ 0 by omega)
  have h2 := Int.emod_lt_of_pos m (show (0 : Int) < L.length by omega)
  obtain ⟨k, hk⟩ : ∃ k : Nat, (k : Int) = m % L.length := ⟨(m % L.length).toNat, by omega⟩
  have hkl : k < L.length := by omega
  exact ⟨L[k], gd_op (gd_var hv dv) (gd_is (gd_op hm (gd_is (gd_cb (ga_cons (gd_var hv dv) ga_nil) rc_lnL) (by rw [List.length_map])) (r2_mod (n := (L.length : Int)) (by omega))) (by rw [← hk])) (r2_ixl (at_map (List.getElem?_eq_getElem hkl)))⟩
theorem sc_law_inputs : FnScope ["_law_cells", "_law_code_here", "_law_bounds", "_law_row", "_law_found", "_law_cell", "_law_near", "_law_far"] ["_law_cells", "_law_code_here"] (defScope (top 52)) := ⟨rfl, rfl, rfl, by decide +kernel, rfl, by decide +kernel, by decide +kernel⟩
theorem kn_inputs (T : Tx K mg) : Kn P w K mg base 1 "_law_inputs" ["_law_cells", "_law_code_here"] (spN K R_inputs) := by
  refine kn_N (T.fn2 (("_law_inputs" : Str), 52) (by decide +kernel)) sc_law_inputs (fun _ _ _ _ _ _ us hl => match us, hl with | [_, _], _ => rfl) (fun ds d h => ?_) (fun f cdv A outer s0 H vs E ds Z hr hv h => ?_)
  · obtain ⟨_, _, _, _, rfl, _⟩ := h
    rfl
  obtain ⟨cells, code, hc, hl, rfl, rfl⟩ := h
  obtain _ | ⟨h1, _ | ⟨h2, _ | _⟩⟩ := hv
  rename_i v1 v2
  refine ⟨_, (pss_cons (ps_set (i := 2) sc_law_inputs.nd rfl (Or.inl rfl) (pe_op op_addU (pe_lc (own := [("_law_row", 3)]) rfl sc_law_inputs.nd (pi_list (pv 1)) (blkOk_by (N := ["_law_cells", "_law_code_here", "_law_bounds", "_law_row", "_law_found", "_law_cell", "_law_near", "_law_far"]) (sc := defScope (top 52)) (by decide +kernel)) (fun _ _ _ _ _ => pg_name (i := 3) sc_law_inputs.nd rfl (Or.inl rfl)) (fun _ _ _ _ _ => pts_one (pt_cmpR op_eq (pe_ix (show IxR _ (rIx K) from ix_seq) (pv 3) (pe_int) (fun _ _ => rfl)) (pe_str) (nomark _))) (fun _ _ _ _ _ => pe_ix (show IxR _ (rIx K) from ix_seq) (pv 3) (pe_int) (fun _ _ => rfl))) (pe_lst (pa_cons (pe_int) (pa_nil))))) (pss_cons (ps_set (i := 4) sc_law_inputs.nd rfl (Or.inl rfl) (pe_lst (pa_nil))) (pss_cons (ps_for PassesOwn.never rfl (pi_list (pv 0)) (pg_name (i := 5) sc_law_inputs.nd rfl (.inl rfl)) (pss_cons (ps_set (i := 6) sc_law_inputs.nd rfl (Or.inl rfl) (pe_ix ix_seq (pv 2) (pe_op op_mod (pe_op op_fdiv (pv 5) (pe_int)) (pe_callB call_ln (by rfl) (T.free "len" (by decide)) PySem.boot_len (pa_cons (pv 2) (pa_nil)))) (fun _ _ => rfl))) (pss_cons (ps_set (i := 7) sc_law_inputs.nd rfl (Or.inl rfl) (pe_op op_addU (pe_op op_sub (pe_op op_mod (pe_op op_mul (pv 5) (pe_int)) (pe_op op_sub (pe_op op_mul (pe_int) (pe_op op_pow (pe_int) (pe_int))) (pe_int))) (pe_op op_pow (pe_int) (pe_int))) (pe_int))) (pss_one (ps_expr (pe_bm PySem.F.plainAttrs_list PySem.F.slot_list_append PySem.F.type_list_append mt_append (pv 4) (pa_cons (pe_ix ix_seq (pe_lst (pa_cons (pv 6) (pa_cons (pe_op op_addU (pv 6) (pe_int)) (pa_cons (pe_op op_addU (pe_callB (cr_max rfl) (by rfl) (T.free "max" (by decide)) (by decide +kernel) (pa_cons (pv 2) (pa_nil))) (pe_int)) (pa_cons (pv 7) (pa_nil)))))) (pe_op op_mod (pv 5) (pe_int)) (fun _ _ => rfl)) (pa_nil)))))))) (pss_one (ps_ret (pv 4)))))), fun Q q => ?_⟩
  refine q_asgR ?_
  refine lc_bounds (K := K) (v := v2) rfl h2 hl (fun _ => rfl) (fun _ => rfl) fun a bs H1 s1 ha hb => ?_
  refine (gd_lst (K := K) (ds := [.int 0]) (ga_cons gd_int ga_nil) (Nat.le_of_ble_eq_true rfl)) H1 (Same.refl _) _ fun y H2 s2 dy => ?_
  obtain ⟨b, ys, rfl, hb1, dys⟩ := dp_list dy
  have eys := dps_ints_eq (ns := [0]) dys
  subst eys
  refine .inr (.inr (.inl ⟨a, b, _, _, rfl, rfl, SqL.of (s2 _ _ ha), hb1, small_le (by simp <;> omega), fun u hu => ?_⟩))
  have hu3 : upd H2 u (.lst (bs.map V.int ++ [0].map V.int)) u = some (.lst ((bs ++ [0]).map V.int)) := by rw [List.map_append]; exact upd_same
  have s3 : Same H (upd H2 u (.lst (bs.map V.int ++ [0].map V.int))) := (s1.trans s2).trans (same_new hu)
  generalize upd H2 u (.lst (bs.map V.int ++ [0].map V.int)) = H3 at hu3 s3
  have bne : bs ++ [(0 : Int)] ≠ [] := by simp
  obtain ⟨mx, hm1, hm2⟩ := ex_max bne
  generalize bs ++ [(0 : Int)] = BS at hu3 bne hm1 hm2
  refine q_asgF (K := K) (gf_lst (Z := fun es => es = []) ga_nil (Nat.zero_le _) rfl) fun p H4 xs es z s4 n4 l4 d4 => ?_
  subst z
  cases d4
  refine q_forV (K := K) (H0 := H3) (ds := cells.map PyData.int) (v := v1) (fun i σ' H' => Same H3 H' ∧ (∃ o5 o6 o7, σ' = [some v1, some v2, some (.ref u), none, some (.ref p), o5, o6, o7]) ∧ ∃ is : List Int, H' p = some (.lst (is.map V.int)) ∧ is.length = i) rfl (dp_mono s3 h1) s4 ⟨s4, ⟨_, _, _, rfl⟩, [], l4, rfl⟩ (fun i σ' H' p => p.1) (fun i d v σ' H' hd hP dv => ?_) fun σ' H' hP => ?_
  · obtain ⟨cell, hcell, rfl⟩ := dps_of hd
    have hi : i < cells.length := (List.getElem?_eq_some_iff.mp hcell).1
    have ev := dp_int dv
    subst ev
    obtain ⟨sm, ⟨o5, o6, o7, rfl⟩, is, hp, hil⟩ := hP
    have dB : ∀ {H''}, Same H' H'' → Dp K H'' (.ref u) (.list (BS.map PyData.int)) := fun s => .lst (SqL.of (s _ _ (sm _ _ hu3))) (dps_ints BS)
    obtain ⟨near, gn⟩ := gd_pickI (K := K) (σ := [some v1, some v2, some (.ref u), none, some (.ref p), some (.int cell), o6, o7]) (H := H') (i := 2) (te := tOp (rI CDiv fun i j => .int (i / j)) (tVar 5) (tC (.int 4))) (m := cell / 4) rfl (dB (Same.refl _)) bne (gd_op (gd_var rfl (.int _)) gd_int (r2_fdiv (by decide) (by decide)))
    refine q_asg (K := K) gn fun v6 H5 s5 d6 => ?_
    have e6 := dp_int d6
    subst e6
    have gp : ∀ {σ : L2.St} {H' : Hp}, Gd K (tOp (rI CPow fun i j => .int (i ^ j.toNat)) (tC (.int 10)) (tC (.int 61))) σ H' (.int (10 ^ (61 : Int).toNat)) := gd_op gd_int gd_int (r2_I (show CPow 10 61 from ⟨by decide, by decide, by decide⟩))
    refine q_asg (K := K) (d := .int (cell * 69621 % (2 * 10 ^ (61 : Int).toNat - 1) - 10 ^ (61 : Int).toNat + 1)) (gd_op (gd_op (gd_op (gd_op (gd_var rfl (.int _)) gd_int (r2_mulR (by decide) (by decide))) (gd_op (gd_op gd_int gp (r2_mulL (by decide) (by decide))) gd_int r2_I0) (r2_mod (by decide +kernel))) gp r2_I0) gd_int r2_addI) fun v7 H6 s6 d7 => ?_
    have e7 := dp_int d7
    subst e7
    generalize cell * 69621 % (2 * 10 ^ (61 : Int).toNat - 1) - 10 ^ (61 : Int).toNat + 1 = far
    have s56 := s5.trans s6
    have h0 := Int.emod_nonneg cell (show (4 : Int) ≠ 0 by decide)
    have h4 := Int.emod_lt_of_pos cell (show (0 : Int) < 4 by decide)
    obtain ⟨k, hk⟩ : ∃ k : Nat, (k : Int) = cell % 4 := ⟨(cell % 4).toNat, by omega⟩
    have hk4 : k < ([near, near + 1, mx + 1, far] : List Int).length := by show k < 4; omega
    refine l_app (K := K) (H0 := H3) rfl (d := .int ([near, near + 1, mx + 1, far][k])) (gd_op (d := .list ([near, near + 1, mx + 1, far].map PyData.int)) (gd_lst (ga_cons (gd_var rfl (.int _)) (ga_cons (gd_op (gd_var rfl (.int _)) gd_int r2_addI) (ga_cons (gd_op (gd_cb (ga_cons (gd_var rfl (dB s56)) ga_nil) (rc_max hm1 hm2)) gd_int r2_addI) (ga_cons (gd_var rfl (.int _)) ga_nil)))) (Nat.le_of_ble_eq_true rfl)) (gd_is (gd_op (gd_var rfl (.int _)) gd_int (r2_mod (by decide))) (by rw [← hk])) (r2_ixl (at_map (List.getElem?_eq_getElem hk4))))
      (s56 _ _ hp) n4 (sm.trans s56) (dps_ints is) (by rw [List.length_map]; omega) (nolAll_of fun d hd => by obtain ⟨_, _, rfl⟩ := List.mem_map.mp hd; rfl) rfl fun v8 H8 s8 p8 d8 => ?_
    have z := dps_ints_eq (K := K) (H := H8) (ns := is ++ [[near, near + 1, mx + 1, far][k]]) (by rw [List.map_append]; exact d8)
    rw [z] at p8
    exact ⟨s8, ⟨_, _, _, rfl⟩, _, p8, by rw [List.length_append, hil]; rfl⟩
  · obtain ⟨sm, ⟨o5, o6, o7, rfl⟩, is, hp, hil⟩ := hP
    rw [List.length_map] at hil
    exact l_ret (K := K) (gd_var rfl (.lst (SqL.of hp) (dps_ints is))) fun v H9 s9 d9 => q v H9 _ ⟨is, rfl, hil⟩ (s3.trans (sm.trans s9)) d9
end
end Uw
/-! text T29 -/
namespace Uw
open PySem PySem.Spec PyProof.Rows L2
/-! _law_rule -/
theorem q_ifXJ {σ : L2.St} {H : Hp} {tt : TT} {D : Ends} {t t' : TS} (J : Hp → Prop) (h : Gx tt σ H) (h3 : ∀ H', J H' → t' D σ H') (h1 : (∀ H', J H' → t' D σ H') → ∀ H1, Same H H1 → t { D with nx := t' D } σ H1) (h2 : ∀ H1, Same H H1 → J H1) :
    tSeq (tIfS tt t tNext) t' D σ H := l_ifX (D := { D with nx := t' D }) h (h1 h3) fun H1 s => h3 H1 (h2 H1 s)
theorem strs_nol (ts : List Str) : nolAll (ts.map PyData.str) = true := nolAll_of fun d hd => by
  obtain ⟨_, _, rfl⟩ := List.mem_map.mp hd
  rfl
/-- the texts so far -/
def TxAt (K : PySem.W.Frag) (H0 H : Hp) (p : Addr) (n : Nat) : Prop := Same H0 H ∧ ∃ (ts : List Str), H p = some (.lst (ts.map V.str)) ∧ ts.length ≤ n
section
variable {P : Program} {w : World} {K : PySem.W.Frag} {mg : Str → Option Value} {base : Heap}
def R_rule (ds : List PyData) (Z : PyData → Prop) : Prop := ∃ (cells : List Int) (sides most : Nat) (ws : List Str), cells.length = 6 ∧ (sides = 1 ∨ sides = 2) ∧ ws.length ≤ 8 ∧ (∀ x ∈ ws, x.length ≤ 100) ∧ 1 ≤ most ∧ most ≤ 4 ∧
  ds = [.list (cells.map PyData.int), .int sides, .list (ws.map PyData.str), .int most] ∧ Z = fun d => ∃ (r : Rule) (R : Nat), d = r.enc ∧ r.Ok R ∧ r.sides = sides ∧ R ≤ most
theorem sc_law_rule : FnScope ["_law_cells", "_law_sides", "_law_words_here", "_law_most", "_law_texts", "_law_k", "_law_bits", "_law_many", "_law_share", "_law_rooms", "_law_rest", "_law_room", "_law_text", "_law_digit"] ["_law_cells", "_law_sides", "_law_words_here", "_law_most"] (defScope (top 48)) := ⟨rfl, rfl, rfl, by decide +kernel, rfl, by decide +kernel, by decide +kernel⟩
theorem kn_rule (T : Tx K mg) : Kn P w K mg base 1 "_law_rule" ["_law_cells", "_law_sides", "_law_words_here", "_law_most"] (spN K R_rule) := by
  refine kn_N (T.fn2 (("_law_rule" : Str), 48) (by decide +kernel)) sc_law_rule (fun _ _ _ _ _ _ us hl => match us, hl with | [_, _, _, _], _ => rfl) (fun ds d h => ?_) (fun f cdv A outer s0 H vs E ds Z hr hv h => ?_)
  · obtain ⟨_, _, _, _, _, _, _, _, _, _, rfl, _⟩ := h
    rfl
  obtain ⟨cells, sides, most, ws, hc, hsd, hwl, hwd, hm1, hm4, rfl, rfl⟩ := h
  obtain _ | ⟨h1, _ | ⟨h2, _ | ⟨h3, _ | ⟨h4, _ | _⟩⟩⟩⟩ := hv
  have e2 := dp_int h2
  have e4 := dp_int h4
  subst e2 e4
  rename_i v1 v3
  refine ⟨_, (pss_cons (ps_set (i := 4) sc_law_rule.nd rfl (Or.inl rfl) (pe_lst (pa_nil))) (pss_cons (ps_for PassesOwn.never rfl (pi_range1 rfl (T.free "range" (by decide)) (pa_cons (pe_callB call_ln (by rfl) (T.free "len" (by decide)) PySem.boot_len (pa_cons (pv 2) (pa_nil))) (pa_nil))) (pg_name (i := 5) sc_law_rule.nd rfl (.inl rfl)) (pss_cons (ps_set (i := 6) sc_law_rule.nd rfl (Or.inl rfl) (pe_op op_shr (pe_op op_mod (pe_ix ix_seq (pv 0) (pe_int) (fun _ _ => rfl)) (pe_int)) (pv 5))) (pss_cons (ps_if (PW.pt (pw_and (pt_cmpR op_eq (pv 1) (pe_int) (nomark _)) (pw_and1 (pt_cmpR op_eq (pe_op op_and (pv 6) (pe_int)) (pe_int) (nomark _))))) (pss_one (ps_expr (pe_bm PySem.F.plainAttrs_list PySem.F.slot_list_append PySem.F.type_list_append mt_append (pv 4) (pa_cons (pe_ix ix_seq (pv 2) (pv 5) (fun _ _ => rfl)) (pa_nil))))) (pss_nil)) (pss_cons (ps_if (PW.pt (pw_and (pt_cmpR op_eq (pv 1) (pe_int) (nomark _)) (pw_and1 (pt_cmpR op_eq (pe_op op_and (pv 6) (pe_int)) (pe_int) (nomark _))))) (pss_one (ps_expr (pe_bm PySem.F.plainAttrs_list PySem.F.slot_list_append PySem.F.type_list_append mt_append (pv 4) (pa_cons (pe_op op_addU (pe_str) (pe_ix ix_seq (pv 2) (pv 5) (fun _ _ => rfl))) (pa_nil))))) (pss_nil)) (pss_one (ps_if (PW.pt (pw_and (pt_cmpR op_eq (pv 1) (pe_int) (nomark _)) (pw_and1 (pt_cmpR op_eq (pe_op op_and (pe_op op_shr (pv 6) (pe_int)) (pe_int)) (pe_int) (nomark _))))) (pss_one (ps_expr (pe_bm PySem.F.plainAttrs_list PySem.F.slot_list_append PySem.F.type_list_append mt_append (pv 4) (pa_cons (pe_op op_addU (pe_str) (pe_ix ix_seq (pv 2) (pv 5) (fun _ _ => rfl))) (pa_nil))))) (pss_nil))))))) (pss_cons (ps_set (i := 4) sc_law_rule.nd rfl (Or.inl rfl) (pe_callB (cr_so rfl hr.units) (by rfl) (T.free "sorted" (by decide)) (by decide +kernel) (pa_cons (pe_callTy (cr_set rfl hr.units) (by rfl) (T.free "set" (by decide)) (by decide +kernel) (pa_cons (pv 4) (pa_nil))) (pa_nil)))) (pss_cons (ps_set (i := 7) sc_law_rule.nd rfl (Or.inl rfl) (pe_op op_addU (pe_int) (pe_op op_mod (pe_ix ix_seq (pv 0) (pe_int) (fun _ _ => rfl)) (pv 3)))) (pss_cons (ps_set (i := 8) sc_law_rule.nd rfl (Or.inl rfl) (pe_ix ix_seq (pe_lst (pa_cons (pe_int) (pa_cons (pe_int) (pa_cons (pe_int) (pa_cons (pe_int) (pa_nil)))))) (pe_op op_mod (pe_op op_fdiv (pe_ix ix_seq (pv 0) (pe_int) (fun _ _ => rfl)) (pe_int)) (pe_int)) (fun _ _ => rfl))) (pss_cons (ps_set (i := 9) sc_law_rule.nd rfl (Or.inl rfl) (pe_lst (pa_nil))) (pss_cons (ps_for PassesOwn.never rfl (pi_range1 rfl (T.free "range" (by decide)) (pa_cons (pv 7) (pa_nil))) (pg_name (i := 5) sc_law_rule.nd rfl (.inl rfl)) (pss_cons (ps_set (i := 10) sc_law_rule.nd rfl (Or.inl rfl) (pe_op op_mod (pe_op op_mul (pe_ix ix_seq (pv 0) (pe_op op_addU (pe_int) (pe_op op_mod (pv 5) (pe_int))) (fun _ _ => rfl)) (pe_op op_addU (pe_int) (pe_op op_mul (pe_int) (pv 5)))) (pe_op op_pow (pe_int) (pe_int)))) (pss_cons (ps_set (i := 11) sc_law_rule.nd rfl (Or.inl rfl) (pe_lst (pa_nil))) (pss_cons (ps_for PassesOwn.never rfl (pi_list (pv 4)) (pg_name (i := 12) sc_law_rule.nd rfl (.inl rfl)) (pss_cons (ps_set (i := 13) sc_law_rule.nd rfl (Or.inl rfl) (pe_op op_mod (pv 10) (pe_int))) (pss_cons (ps_set (i := 10) sc_law_rule.nd rfl (Or.inl rfl) (pe_op op_fdiv (pv 10) (pe_int))) (pss_one (ps_if (pt_cmpR op_eq (pe_op op_mod (pv 13) (pv 8)) (pe_int) (nomark _)) (pss_one (ps_expr (pe_bm PySem.F.plainAttrs_list PySem.F.slot_list_append PySem.F.type_list_append mt_append (pv 11) (pa_cons (pe_non) (pa_nil))))) (pss_one (ps_expr (pe_bm PySem.F.plainAttrs_list PySem.F.slot_list_append PySem.F.type_list_append mt_append (pv 11) (pa_cons (pe_op op_mod (pe_op op_fdiv (pv 13) (pv 8)) (pv 7)) (pa_nil)))))))))) (pss_one (ps_expr (pe_bm PySem.F.plainAttrs_list PySem.F.slot_list_append PySem.F.type_list_append mt_append (pv 9) (pa_cons (pv 11) (pa_nil))))))))) (pss_one (ps_ret (pe_tup (pa_cons (pv 1) (pa_cons (pv 4) (pa_cons (pv 9) (pa_nil)))))))))))))), fun Q q => ?_⟩
  refine q_asgF (K := K) (gf_lst (Z := fun es => es = []) ga_nil (Nat.zero_le _) rfl) fun p H1 xs es z s1 n1 l1 d1 => ?_
  subst z
  cases d1
  have gc : ∀ {σ : L2.St} {H' : Hp} (i : Nat) (hi : i < 6), Same H H' → σ[0]? = some (some v1) → Gd K (tOp (rIx K) (tVar 0) (tC (.int i))) σ H' (.int (cells[i]'(by omega))) := fun i hi s e => gd_op (gd_var e (dp_mono s h1)) gd_int (r2_ixl (at_map (List.getElem?_eq_getElem (by omega))))
  refine q_forR (K := K) (n := ws.length) (ga_cons (gd_is (gd_cb (ga_cons (gd_var rfl (dp_mono s1 h3)) ga_nil) rc_lnL) (by rw [List.length_map])) ga_nil) (by omega) fun H2 s2 => ?_
  refine ⟨fun i σ' H' => TxAt K H H' p (2 * i) ∧ ∃ o5 o6, σ' = [some v1, some (.int sides), some v3, some (.int most), some (.ref p), o5, o6, none, none, none, none, none, none, none], ⟨⟨s1.trans s2, [], s2 _ _ l1, Nat.zero_le _⟩, _, _, rfl⟩, fun i σ' H' hi hP => ?_, fun σ' H' hP => ?_⟩
  · obtain ⟨⟨sm, ts, hp, hl⟩, o5, o6, rfl⟩ := hP
    have hwi : ws[i]? = some ws[i] := List.getElem?_eq_getElem hi
    have hwx := hwd ws[i] (List.getElem_mem hi)
    refine q_asg (K := K) (d := .int (cells[0] % 65536 / 2 ^ ((i : Int)).toNat)) (gd_op (gd_op (gc 0 (by decide) sm rfl) gd_int (r2_mod (by decide))) (gd_var rfl (.int _)) (r2_I (C := fun _ j => 0 ≤ j) (show (0 : Int) ≤ i by omega))) fun v6 H3 s3 d6 => ?_
    have e6 := dp_int d6
    subst e6
    generalize cells[0] % 65536 / 2 ^ ((i : Int)).toNat = bits
    have gw : ∀ {σ : L2.St} {H' : Hp}, Same H H' → σ[2]? = some (some v3) → σ[5]? = some (some (.int i)) → Gd K (tOp (rIx K) (tVar 2) (tVar 5)) σ H' (.str ws[i]) := fun s a b => gd_op (gd_var a (dp_mono s h3)) (gd_var b (.int _)) (r2_ixl (at_map hwi))
    have gb : ∀ {σ : L2.St} {H' : Hp}, σ[6]? = some (some (.int bits)) → Gx (tTest (tOp rEq (tOp (rI0 fun i j => .int (Builtin.bitAnd i j)) (tVar 6) (tC (.int 1))) (tC (.int 1)))) σ H' := fun e => gx_gt (gt_test (K := K) (gd_op (gd_op (gd_var e (.int _)) gd_int r2_I0) gd_int (r2_eq rfl rfl rfl rfl)))
    have gs : ∀ {σ : L2.St} {H' : Hp} (m : Int), σ[1]? = some (some (.int sides)) → Gt (tTest (tOp rEq (tVar 1) (tC (.int m)))) σ H' (decide ((sides : Int) = m)) := fun m e => gt_test (K := K) (gd_op (gd_var e (.int _)) gd_int (r2_eq rfl rfl rfl dec_int2))
    have app : ∀ {σ : L2.St} {H' : Hp} {D : Ends} {te : TE} {x : Str} {n : Nat}, σ[4]? = some (some (.ref p)) → TxAt K H H' p n → n ≤ 100 → Gd K te σ H' (.str x) → (∀ H'', TxAt K H H'' p (n + 1) → D.nx σ H'') → tDrop (tBM K "list" rAppend (tVar 4) (tCons te tNil)) D σ H' := fun {σ H' D te x n} e hT hn hg k => by
      obtain ⟨sm, ts, hp, hl⟩ := hT
      refine l_app (K := K) (H0 := H) e hg hp n1 sm (dps_strs ts) (by rw [List.length_map]; omega) (strs_nol ts) rfl fun v H'' s'' p'' d'' => k H'' ⟨s'', ts ++ [x], ?_, by rw [List.length_append]; exact Nat.add_le_add_right hl 1⟩
      have z := dps_strs_eq (K := K) (H := H'') (ns := ts ++ [x]) (by rw [List.map_append]; exact d'')
      rw [z] at p''
      exact p''
    have T0 : TxAt K H H3 p (2 * i) := ⟨sm.trans s3, ts, s3 _ _ hp, hl⟩
    rcases hsd with e | e
    · subst e
      refine q_ifXJ (fun H' => TxAt K H H' p (2 * i + 1)) (gx_and (gx_gt (gs 1 rfl)) (gb rfl)) (fun H4 T4 => ?_) (fun k H4 s4 => app rfl (n := 2 * i) ⟨T0.1.trans s4, ts, s4 _ _ (s3 _ _ hp), hl⟩ (by omega) (gw (T0.1.trans s4) rfl rfl) fun H5 T5 => k H5 T5) fun H4 s4 => ⟨T0.1.trans s4, ts, s4 _ _ (s3 _ _ hp), Nat.le_succ_of_le hl⟩
      refine q_no (gt_andF (gt_is (gs 2 rfl) (by decide))) fun H5 s5 => l_no (gt_andF (gt_is (gs 2 rfl) (by decide))) fun H6 s6 => ?_
      obtain ⟨a1, a2, a3, a4⟩ := T4
      exact ⟨⟨a1.trans (s5.trans s6), a2, (s5.trans s6) _ _ a3, by omega⟩, _, _, rfl⟩
    · subst e
      refine q_no (gt_andF (gt_is (gs 1 rfl) (by decide))) fun H4 s4 => ?_
      have T4 : TxAt K H H4 p (2 * i) := ⟨T0.1.trans s4, ts, s4 _ _ (s3 _ _ hp), hl⟩
      refine q_ifXJ (fun H' => TxAt K H H' p (2 * i + 1)) (gx_and (gx_gt (gs 2 rfl)) (gb rfl)) (fun H5 T5 => ?_) (fun k H5 s5 => app rfl (n := 2 * i) (x := "1." ++ ws[i]) ⟨T4.1.trans s5, ts, s5 _ _ (s4 _ _ (s3 _ _ hp)), hl⟩ (by omega) (gd_op gd_str (gw (T4.1.trans s5) rfl rfl) (r2_addT (by rw [show ("1." : Str).length = 2 by decide +kernel]; omega))) fun H6 T6 => k H6 T6) fun H5 s5 => ⟨T4.1.trans s5, ts, s5 _ _ (s4 _ _ (s3 _ _ hp)), Nat.le_succ_of_le hl⟩
      have gb8 : ∀ {σ : L2.St} {H' : Hp}, σ[6]? = some (some (.int bits)) → Gx (tTest (tOp rEq (tOp (rI0 fun i j => .int (Builtin.bitAnd i j)) (tOp (rI (fun _ j => 0 ≤ j) fun i j => .int (i / 2 ^ j.toNat)) (tVar 6) (tC (.int 8))) (tC (.int 1))) (tC (.int 1)))) σ H' := fun e => gx_gt (gt_test (K := K) (gd_op (gd_op (gd_op (gd_var e (.int _)) gd_int (r2_I (C := fun _ j => 0 ≤ j) (show (0 : Int) ≤ 8 by decide))) gd_int r2_I0) gd_int (r2_eq rfl rfl rfl rfl)))
      refine l_ifX (gx_and (gx_gt (gs 2 rfl)) (gb8 rfl)) (fun H6 s6 => ?_) fun H6 s6 => ?_
      · obtain ⟨a1, a2, a3, a4⟩ := T5
        refine app rfl (n := 2 * i + 1) (x := "2." ++ ws[i]) ⟨a1.trans s6, a2, s6 _ _ a3, a4⟩ (by omega) (gd_op gd_str (gw (a1.trans s6) rfl rfl) (r2_addT (by rw [show ("2." : Str).length = 2 by decide +kernel]; omega))) fun H7 T7 => ?_
        obtain ⟨b1, b2, b3, b4⟩ := T7
        exact ⟨⟨b1, b2, b3, by omega⟩, _, _, rfl⟩
      · obtain ⟨a1, a2, a3, a4⟩ := T5
        exact ⟨⟨a1.trans s6, a2, s6 _ _ a3, by omega⟩, _, _, rfl⟩
  · obtain ⟨⟨sm, ts, hp, hl⟩, o5, o6, rfl⟩ := hP
    refine q_asgF (K := K) (gf_setS (ns := ts) (gd_var rfl (.lst (SqL.of hp) (dps_strs ts))) (by omega)) fun p2 H3 xs2 es2 z s3 n3 l3 d3 => ?_
    obtain ⟨L, rfl, _, hLl⟩ := z
    have dL : ∀ {H'}, Same H3 H' → Dp K H' (.ref p2) (.list (L.map PyData.str)) := fun s => dp_mono s (.lst (SqL.of l3) d3)
    have sH3 := sm.trans s3
    have m0 : 0 ≤ cells[1] % (most : Int) := Int.emod_nonneg _ (by omega)
    have m1 : cells[1] % (most : Int) < most := Int.emod_lt_of_pos _ (by omega)
    obtain ⟨R, hR⟩ : ∃ R : Nat, (R : Int) = 1 + cells[1] % (most : Int) := ⟨(1 + cells[1] % (most : Int)).toNat, by omega⟩
    refine q_asg (K := K) (d := .int R) (gd_is (d := .int (1 + cells[1] % (most : Int))) (gd_op gd_int (gd_op (gc 1 (by decide) sH3 rfl) (gd_var rfl (.int _)) (r2_mod (by omega))) r2_addI) (by rw [hR])) fun v7 H4 s4 d7 => ?_
    have e7 := dp_int d7
    subst e7
    have k0 : 0 ≤ cells[1] / 64 % 4 := Int.emod_nonneg _ (by decide)
    have k1 : cells[1] / 64 % 4 < 4 := Int.emod_lt_of_pos _ (by decide)
    obtain ⟨k, hk⟩ : ∃ k : Nat, (k : Int) = cells[1] / 64 % 4 := ⟨(cells[1] / 64 % 4).toNat, by omega⟩
    have hk4 : k < ([2, 3, 5, 11] : List Int).length := by show k < 4; omega
    have hsh : 0 < ([2, 3, 5, 11] : List Int)[k] ∧ ([2, 3, 5, 11] : List Int)[k] < 1073741824 := by
      have z : ∀ x ∈ ([2, 3, 5, 11] : List Int), 0 < x ∧ x < 1073741824 := by decide
      exact z _ (List.getElem_mem hk4)
    refine q_asg (K := K) (d := .int (([2, 3, 5, 11] : List Int)[k])) (gd_op (d := .list (([2, 3, 5, 11] : List Int).map PyData.int)) (gd_lst (ga_cons gd_int (ga_cons gd_int (ga_cons gd_int (ga_cons gd_int ga_nil)))) (Nat.le_of_ble_eq_true rfl)) (gd_is (gd_op (gd_op (gc 1 (by decide) (sH3.trans s4) rfl) gd_int (r2_fdiv (by decide) (by decide))) gd_int (r2_mod (by decide))) (by rw [← hk])) (r2_ixl (at_map (List.getElem?_eq_getElem hk4)))) fun v8 H5 s5 d8 => ?_
    have e8 := dp_int d8
    subst e8
    generalize ([2, 3, 5, 11] : List Int)[k] = share at hsh
    have sH5 : Same H H5 := sH3.trans (s4.trans s5)
    have s35 : Same H3 H5 := s4.trans s5
    refine q_asgF (K := K) (gf_lst (Z := fun es => es = []) ga_nil (Nat.zero_le _) rfl) fun p3 H6 xs6 es6 z s6 n6 l6 d6 => ?_
    subst z
    cases d6
    have hRm : R ≤ most := by omega
    refine q_forR (K := K) (n := R) (ga_cons (gd_var rfl (.int _)) ga_nil) (by omega) fun H7 s7 => ?_
    refine ⟨fun i σ' H' => Same H5 H' ∧ (∃ o5 o6 o10 o11 o12 o13, σ' = [some v1, some (.int sides), some v3, some (.int most), some (.ref p2), o5, o6, some (.int R), some (.int share), some (.ref p3), o10, o11, o12, o13]) ∧ ∃ (acc : List V) (rs : List (List (Option Nat))), H' p3 = some (.lst acc) ∧ DpAll K (off p3 H') acc (rs.map fun m => .list (m.map encO)) ∧ rs.length = i ∧ ∀ m ∈ rs, m.length = L.length ∧ ∀ k, some k ∈ m → k < R,
      ⟨s6.trans s7, ⟨_, _, _, _, _, _, rfl⟩, [], [], s7 _ _ l6, .nil, rfl, fun m h => by cases h⟩, fun i σ' H' hi hP => ?_, fun σ' H' hP => ?_⟩
    · obtain ⟨sm5, ⟨o5, o6, o10, o11, o12, o13, rfl⟩, acc, rs, hp3, hacc, hrl, hrs⟩ := hP
      have sH' : Same H H' := sH5.trans sm5
      have hi6 : 2 + i % 4 < cells.length := by omega
      have gp : ∀ {σ : L2.St} {H' : Hp}, Gd K (tOp (rI CPow fun i j => .int (i ^ j.toNat)) (tC (.int 10)) (tC (.int 36))) σ H' (.int (10 ^ (36 : Int).toNat)) := gd_op gd_int gd_int (r2_I (show CPow 10 36 from ⟨by decide, by decide, by decide⟩))
      refine q_asg (K := K) (d := .int (cells[2 + i % 4] * (48271 + 10 * (i : Int)) % 10 ^ (36 : Int).toNat)) (gd_op (gd_op (gd_op (gd_var rfl (dp_mono sH' h1)) (gd_is (gd_op gd_int (gd_op (gd_var rfl (.int _)) gd_int (r2_mod (by decide))) r2_addI) (z := .int ((2 + i % 4 : Nat) : Int)) (by rw [show ((2 + i % 4 : Nat) : Int) = 2 + (i : Int) % 4 by omega])) (r2_ixl (at_map (List.getElem?_eq_getElem hi6)))) (gd_op gd_int (gd_op gd_int (gd_var rfl (.int _)) (r2_mulL (by decide) (by decide))) r2_addI) (r2_mulR (by omega) (by omega))) gp (r2_mod (by decide +kernel))) fun v10 H8 s8 d10 => ?_
      have e10 := dp_int d10
      subst e10
      generalize cells[2 + i % 4] * (48271 + 10 * (i : Int)) % 10 ^ (36 : Int).toNat = rest0
      refine q_asgF (K := K) (gf_lst (Z := fun es => es = []) ga_nil (Nat.zero_le _) rfl) fun pr H9 xs9 es9 z s9 n9 l9 d9 => ?_
      subst z
      cases d9
      have s38 : Same H3 H8 := s35.trans (sm5.trans s8)
      refine q_forV (K := K) (H0 := H8) (ds := L.map PyData.str) (v := .ref p2) (fun j σ'' H'' => Same H8 H'' ∧ (∃ rest o12 o13, σ'' = [some v1, some (.int sides), some v3, some (.int most), some (.ref p2), some (.int i), o6, some (.int R), some (.int share), some (.ref p3), some (.int rest), some (.ref pr), o12, o13]) ∧ ∃ (vs : List V) (ms : List (Option Nat)), H'' pr = some (.lst vs) ∧ DpAll K H'' vs (ms.map encO) ∧ ms.length = j ∧ ∀ k, some k ∈ ms → k < R)
        rfl (dL s38) s9 ⟨s9, ⟨_, _, _, rfl⟩, [], [], l9, .nil, rfl, fun k h => by cases h⟩ (fun i σ' H' p => p.1) (fun j d v σ'' H'' hd hP dv => ?_) fun σ'' H'' hP => ?_
      · obtain ⟨text, htx, rfl⟩ := dps_of hd
        have hjl : j < L.length := (List.getElem?_eq_some_iff.mp htx).1
        obtain ⟨sm8, ⟨rest, o12, o13, rfl⟩, vs, ms, hpr, hvs, hml, hms⟩ := hP
        have onol : nolAll (ms.map encO) = true := nolAll_of fun d hd => by
          obtain ⟨o, _, rfl⟩ := List.mem_map.mp hd
          cases o <;> rfl
        refine q_asg (K := K) (d := .int (rest % 1000)) (gd_op (gd_var rfl (.int _)) gd_int (r2_mod (by decide))) fun v13 H10 s10 d13 => ?_
        have e13 := dp_int d13
        subst e13
        refine q_asg (K := K) (d := .int (rest / 1000)) (gd_op (gd_var rfl (.int _)) gd_int (r2_fdiv (by decide) (by decide))) fun v14 H11 s11 d14 => ?_
        have e14 := dp_int d14
        subst e14
        generalize rest % 1000 = digit
        have s811 := s10.trans s11
        refine l_if (gt_test (K := K) (gd_op (gd_op (gd_var rfl (.int _)) (gd_var rfl (.int _)) (r2_mod hsh.1)) gd_int (r2_eq rfl rfl rfl rfl))) (fun _ H12 s12 => ?_) fun _ H12 s12 => ?_
        · refine l_app (K := K) (H0 := H8) rfl (d := encO none) gd_non ((s811.trans s12) _ _ hpr) n9 (sm8.trans (s811.trans s12)) (dps_mono (s811.trans s12) hvs) (by rw [List.length_map]; omega) onol rfl fun v15 H13 s13 p13 d15 => ?_
          refine ⟨s13, ⟨_, _, _, rfl⟩, _, ms ++ [none], p13, by rw [List.map_append]; exact d15, by rw [List.length_append, hml]; rfl, fun k hk => ?_⟩
          rcases List.mem_append.mp hk with h | h
          · exact hms k h
          · cases (List.mem_singleton.mp h)
        · have w0 := Int.emod_nonneg (digit / share) (show (R : Int) ≠ 0 by omega)
          have w1 := Int.emod_lt_of_pos (digit / share) (show (0 : Int) < R by omega)
          obtain ⟨m, hm⟩ : ∃ m : Nat, (m : Int) = digit / share % R := ⟨(digit / share % R).toNat, by omega⟩
          refine l_app (K := K) (H0 := H8) rfl (d := encO (some m)) (gd_is (gd_op (gd_op (gd_var rfl (.int _)) (gd_var rfl (.int _)) (r2_fdiv hsh.1 hsh.2)) (gd_var rfl (.int _)) (r2_mod (n := (R : Int)) (by omega))) (by rw [← hm]; rfl)) ((s811.trans s12) _ _ hpr) n9 (sm8.trans (s811.trans s12)) (dps_mono (s811.trans s12) hvs) (by rw [List.length_map]; omega) onol rfl fun v15 H13 s13 p13 d15 => ?_
          refine ⟨s13, ⟨_, _, _, rfl⟩, _, ms ++ [some m], p13, by rw [List.map_append]; exact d15, by rw [List.length_append, hml]; rfl, fun k hk => ?_⟩
          rcases List.mem_append.mp hk with h | h
          · exact hms k h
          · have e := List.mem_singleton.mp h
            cases e
            omega
      · obtain ⟨sm8, ⟨rest, o12, o13, rfl⟩, vs, ms, hpr, hvs, hml, hms⟩ := hP
        rw [List.length_map] at hml
        have s58 : Same H' H'' := s8.trans sm8
        have hp3' := s58 _ _ hp3
        have hlen : acc.length ≤ 100 := by
          rw [dps_len hacc, List.length_map]
          omega
        have nrp : pr ≠ p3 := fun e => by
          rw [e] at n9
          have := s8 _ _ hp3
          rw [n9] at this
          cases this
        refine ⟨_, rfl, .inl ⟨rfl, acc, SqL.of hp3'⟩, _, rfl, p3, acc, .ref pr, rfl, rfl, hp3', small_lt (by omega), ?_⟩
        have sx : SX p3 H'' (upd H'' p3 (.lst (acc ++ [.ref pr]))) := SX.upd
        refine ⟨same_mut (sm5.trans s58) n6, ⟨_, _, _, _, _, _, rfl⟩, acc ++ [.ref pr], rs ++ [ms], upd_same, ?_, by rw [List.length_append, hrl]; rfl, fun m hm => ?_⟩
        · rw [List.map_append]
          have dnol : DpAll K (off p3 H'') vs (ms.map encO) := by
            have z : ∀ {vs : List V} {ms : List (Option Nat)}, DpAll K H'' vs (ms.map encO) → DpAll K (off p3 H'') vs (ms.map encO) := by
              intro vs ms
              induction ms generalizing vs with
              | nil => intro h; cases h; exact .nil
              | cons o ms ih =>
                intro h
                cases h with
                | cons h t =>
                  refine .cons ?_ (ih t)
                  cases o with
                  | none =>
                    rw [dp_non h]
                    exact .non
                  | some k =>
                    rw [dp_int h]
                    exact .int _
            exact z hvs
          exact dps_append (dps_mono sx.off (dps_mono (SX.of s58).off hacc)) (.cons (dp_mono sx.off (.lst (SqL.of (off_some.mpr ⟨nrp, hpr⟩)) dnol)) .nil)
        · rcases List.mem_append.mp hm with h | h
          · exact hrs m h
          · rw [List.mem_singleton.mp h]
            exact ⟨hml, hms⟩
    · obtain ⟨sm5, ⟨o5, o6, o10, o11, o12, o13, rfl⟩, acc, rs, hp3, hacc, hrl, hrs⟩ := hP
      refine l_ret (K := K) (d := Rule.enc ⟨sides, L, rs⟩) (gd_tup (ga_cons (gd_var rfl (.int _)) (ga_cons (gd_var rfl (dL (s35.trans sm5))) (ga_cons (gd_var rfl (.lst (SqL.of hp3) (dps_mono off_le hacc))) ga_nil))) (Nat.le_of_ble_eq_true rfl)) fun v H8 s8 d8 => q v H8 _ ⟨⟨sides, L, rs⟩, R, rfl, ⟨hsd, hrl, by omega, hrs, by show L.length ≤ 100; omega⟩, rfl, hRm⟩ (sH5.trans (sm5.trans s8)) d8
end
end Uw
/-! text P4 -/
/-! Plain: the law's own run: slots, things, masks. -/
namespace Uw
open PySem
def mask : List (Option Nat) → Nat → Nat
  | [], _ => 0
  | x :: xs, h => (if x = some h then 1 else 0) + 2 * mask xs h
theorem mask_bit : ∀ (xs : List (Option Nat)) (h j : Nat), (mask xs h).testBit j = decide (xs[j]? = some (some h))
  | [], h, j => by simp [mask]
  | x :: xs, h, 0 => by
    unfold mask
    rw [Nat.testBit_zero]
    by_cases e : x = some h
    · simp [e]
    · simp [e]
  | x :: xs, h, j + 1 => by
    unfold mask
    rw [Nat.testBit_succ]
    have e : ((if x = some h then 1 else 0) + 2 * mask xs h) / 2 = mask xs h := by split <;> omega
    rw [e, mask_bit xs h j]
    simp
theorem mask_lt : ∀ (xs : List (Option Nat)) (h : Nat), mask xs h < 2 ^ xs.length
  | [], h => by simp [mask]
  | x :: xs, h => by
    have z := mask_lt xs h
    unfold mask
    rw [List.length_cons, Nat.pow_succ]
    split <;> omega
theorem bit_wit (m s j : Nat) : (wit m s).testBit j = (m.testBit j || decide (s = j)) := by
  unfold wit
  rw [Nat.testBit_or, Nat.testBit_two_pow]
theorem bit_wout (m s j : Nat) : (wout m s).testBit j = (m.testBit j && !decide (s = j)) := by
  unfold wout
  rw [Nat.testBit_xor, bit_wit, Nat.testBit_two_pow]
  cases m.testBit j <;> cases decide (s = j) <;> rfl
theorem tl_empty' : TL.tl ("" : Str) = [] := by decide +kernel
theorem set_at (xs : List (Option Nat)) (s j : Nat) (v : Option Nat) (hs : s < xs.length) : (xs.set s v)[j]? = if s = j then some v else xs[j]? := by
  rw [List.getElem?_set]
  by_cases e : s = j
  · subst e
    rw [if_pos rfl, if_pos rfl, if_pos hs]
  · rw [if_neg e, if_neg e]
theorem mask_set_some {xs : List (Option Nat)} {s h : Nat} (hs : s < xs.length) : mask (xs.set s (some h)) h = wit (mask xs h) s := by
  refine Nat.eq_of_testBit_eq fun j => ?_
  rw [mask_bit, bit_wit, mask_bit, set_at _ _ _ _ hs]
  by_cases e : s = j
  · rw [if_pos e]
    simp [e]
  · rw [if_neg e]
    simp [e]
theorem mask_set_other {xs : List (Option Nat)} {s h : Nat} {v : Option Nat} (hs : s < xs.length) (hv : v ≠ some h) : mask (xs.set s v) h = wout (mask xs h) s := by
  refine Nat.eq_of_testBit_eq fun j => ?_
  rw [mask_bit, bit_wout, mask_bit, set_at _ _ _ _ hs]
  by_cases e : s = j
  · rw [if_pos e]
    simp [e, hv]
  · rw [if_neg e]
    simp [e]
theorem mask_new {xs : List (Option Nat)} {n : Nat} (h : ∀ x ∈ xs, ∀ k, x = some k → k < n) : mask xs n = 0 := by
  refine Nat.eq_of_testBit_eq fun j => ?_
  rw [mask_bit, Nat.zero_testBit]
  refine decide_eq_false fun e => ?_
  have := h _ (List.mem_of_getElem? e) n rfl
  omega
theorem wit_zero (s : Nat) : wit 0 s = 2 ^ s := Nat.zero_or _
/-- copy: the slot s takes what t has -/
theorem mask_cpy {xs : List (Option Nat)} {s t h : Nat} (hs : s < xs.length) (ht : t < xs.length) : mask (xs.set s xs[t]) h = cpd (mask xs h) s t := by
  unfold cpd
  rw [mask_bit, List.getElem?_eq_getElem ht]
  by_cases e : xs[t] = some h
  · rw [if_pos (by rw [e]; exact decide_eq_true rfl), e]
    exact mask_set_some hs
  · rw [if_neg (fun z => e (by simpa using z))]
    exact mask_set_other hs e
/-! ### things -/
structure Thg where
  one : Nat
  other : Option Nat
  room : Option Nat
def Thg.enc (t : Thg) : PyData := .tuple [.int t.one, encO t.other, encO t.room]
def Thg.has (t : Thg) (h : Nat) : Bool := decide (h = t.one) || decide (some h = t.other)
def txt (r : Rule) (h : Nat) (w : Str) (t : Thg) : Str := if r.sides = 1 then w else (if h = t.one then ("1." : Str) else "2.") ++ w
def deed1 (r : Rule) (h : Nat) (w : Str) (t : Thg) : Thg := match t.room with
  | none => t
  | some k => if t.has h then { t with room := r.next k (txt r h w t) } else t
def brok1 (r : Rule) (h : Nat) (w : Str) (t : Thg) : Bool := t.room.isSome && (deed1 r h w t).room.isNone
/-! ### the run against a closed paper -/
def tokAt (paper : List (List Tok)) (i : Nat) (t : Tok) : Prop := ∃ us, paper[i]? = some us ∧ t ∈ us
def ord (h h' : Nat) : Nat := if h < h' then 1 else 2
structure Sim (r : Rule) (paper : List (List Tok)) (M i : Nat) (sl : List (Option Nat)) (ts : List Thg) (many : Nat) : Prop where
  len : sl.length = M
  lt : ∀ h, some h ∈ sl → h < many
  one : r.sides = 1 → ∀ t ∈ ts, t.other = none ∧ t.one < many ∧ ∀ k, t.room = some k → tokAt paper i (.one (mask sl t.one) k)
  sgl : r.sides = 2 → ∀ h, h < many → tokAt paper i (.sgl (mask sl h))
  par : r.sides = 2 → ∀ h h', h < many → h' < many → h ≠ h' → tokAt paper i (.par (mask sl h) (mask sl h') (ord h h'))
  tyd : r.sides = 2 → ∀ t ∈ ts, ∃ h', t.other = some h' ∧ t.one < many ∧ h' < many ∧ t.one ≠ h' ∧ ∀ k, t.room = some k → tokAt paper i (.tyd (mask sl t.one) (mask sl h') (ord t.one h') k)
section
variable {r : Rule} {code : List Row} {paper : List (List Tok)} {M i to many : Nat} {sl : List (Option Nat)} {ts : List Thg} {row : Row} {t t' : Tok}
theorem carry (cl : Closed r code paper) (hr : code[i]? = some row) (hto : to ∈ after i row) (ht : tokAt paper i t) (hb : behind r row t = some t') : tokAt paper to t' := by
  obtain ⟨us, h1, h2⟩ := ht
  obtain ⟨vs, h3, _, h4⟩ := cl i row us hr h1 to hto
  exact ⟨vs, h3, h4 t h2 t' hb⟩
theorem grow (cl : Closed r code paper) (hr : code[i]? = some row) (hto : to ∈ after i row) (ht : tokAt paper i t) (hb : t' ∈ begT r row t) : tokAt paper to t' := by
  obtain ⟨us, h1, h2⟩ := ht
  obtain ⟨vs, h3, h4, _⟩ := cl i row us hr h1 to hto
  refine ⟨vs, h3, h4 t' ?_⟩
  unfold begun
  exact List.mem_append_right _ (List.mem_flatMap.mpr ⟨t, h2, hb⟩)
theorem first (cl : Closed r code paper) (hl : paper.length = code.length) (hr : code[i]? = some row) (hto : to ∈ after i row) (hb : t' ∈ beg0 r row) : tokAt paper to t' := by
  obtain ⟨us, h1⟩ : ∃ us, paper[i]? = some us := ⟨_, List.getElem?_eq_getElem (by rw [hl]; exact (List.getElem?_eq_some_iff.mp hr).1)⟩
  obtain ⟨vs, h3, h4, _⟩ := cl i row us hr h1 to hto
  refine ⟨vs, h3, h4 t' ?_⟩
  unfold begun
  exact List.mem_append_left _ hb
theorem brk_tok (hr : code[i]? = some row) (ht : tokAt paper i t) (hb : breaks r row (some t) = true) : brk r code paper i = true := by
  obtain ⟨us, h1, h2⟩ := ht
  unfold brk
  rw [hr, h1]
  rw [Bool.or_eq_true]
  exact .inr (List.any_eq_true.mpr ⟨t, h2, hb⟩)
theorem brk_room (h1 : t.hasRoom = true) (h2 : roomB r row t = none) : breaks r row (some t) = true := by
  show (t.hasRoom && (roomB r row t).isNone) = true
  rw [h1, h2]
  rfl
theorem brk_none (hl : paper.length = code.length) (hr : code[i]? = some row) (hb : breaks r row none = true) : brk r code paper i = true := by
  obtain ⟨us, h1⟩ : ∃ us, paper[i]? = some us := ⟨_, List.getElem?_eq_getElem (by rw [hl]; exact (List.getElem?_eq_some_iff.mp hr).1)⟩
  unfold brk
  rw [hr, h1]
  rw [Bool.or_eq_true]
  exact .inl hb
/-- a row that writes no text: tokens go on with their masks moved -/
theorem behind_sgl (hf : isFin row = false) {m : Nat} : behind r row (.sgl m) = some (.sgl (sbh row m)) := by
  unfold behind
  rw [hf]
  rfl
theorem behind_par (hf : isFin row = false) {a b o : Nat} : behind r row (.par a b o) = some (.par (sbh row a) (sbh row b) o) := by
  unfold behind
  rw [hf]
  rfl
theorem behind_one (hf : isFin row = false) {m k k' : Nat} (h : roomB r row (.one m k) = some k') : behind r row (.one m k) = some (.one (sbh row m) k') := by
  unfold behind
  rw [hf, h]
  rfl
theorem behind_tyd (hf : isFin row = false) {a b o k k' : Nat} (h : roomB r row (.tyd a b o k) = some k') : behind r row (.tyd a b o k) = some (.tyd (sbh row a) (sbh row b) o k') := by
  unfold behind
  rw [hf, h]
  rfl
/-- all masks move alike, the things' rooms by the row's texts -/
theorem Sim.move (S : Sim r paper M i sl ts many) (cl : Closed r code paper) (hr : code[i]? = some row) (hto : to ∈ after i row) (hf : isFin row = false) {f : Thg → Thg} (f1 : ∀ t, (f t).one = t.one) (f2 : ∀ t, (f t).other = t.other)
    (hx1 : r.sides = 1 → ∀ t ∈ ts, t.other = none → ∀ k', (f t).room = some k' → ∃ k, t.room = some k ∧ roomB r row (.one (mask sl t.one) k) = some k')
    (hx2 : r.sides = 2 → ∀ t ∈ ts, ∀ h', t.other = some h' → t.one ≠ h' → ∀ k', (f t).room = some k' → ∃ k, t.room = some k ∧ roomB r row (.tyd (mask sl t.one) (mask sl h') (ord t.one h') k) = some k')
    {sl' : List (Option Nat)} (hl : sl'.length = M) (hlt : ∀ h, some h ∈ sl' → h < many) (hm : ∀ h, h < many → mask sl' h = sbh row (mask sl h)) : Sim r paper M to sl' (ts.map f) many := by
  refine ⟨hl, hlt, fun h1 t' ht' => ?_, fun h2 h hh => ?_, fun h2 h h' hh hh' hne => ?_, fun h2 t' ht' => ?_⟩
  · obtain ⟨t, ht, rfl⟩ := List.mem_map.mp ht'
    obtain ⟨a, b, c⟩ := S.one h1 t ht
    refine ⟨(f2 t).trans a, by rw [f1]; exact b, fun k' hk' => ?_⟩
    obtain ⟨k, hk, hb⟩ := hx1 h1 t ht a k' hk'
    rw [f1, hm _ b]
    exact carry cl hr hto (c k hk) (behind_one hf hb)
  · rw [hm _ hh]
    exact carry cl hr hto (S.sgl h2 h hh) (behind_sgl hf)
  · rw [hm _ hh, hm _ hh']
    exact carry cl hr hto (S.par h2 h h' hh hh' hne) (behind_par hf)
  · obtain ⟨t, ht, rfl⟩ := List.mem_map.mp ht'
    obtain ⟨h', a, b, c, d, e⟩ := S.tyd h2 t ht
    refine ⟨h', (f2 t).trans a, by rw [f1]; exact b, c, by rw [f1]; exact d, fun k' hk' => ?_⟩
    obtain ⟨k, hk, hb⟩ := hx2 h2 t ht h' a d k' hk'
    rw [f1, hm _ b, hm _ c]
    exact carry cl hr hto (e k hk) (behind_tyd hf hb)
/-- .. no texts -/
theorem Sim.still (S : Sim r paper M i sl ts many) (cl : Closed r code paper) (hr : code[i]? = some row) (hto : to ∈ after i row) (hf : isFin row = false) (hx : ∀ t, textsAt r.sides row t = []) {sl' : List (Option Nat)} (hl : sl'.length = M) (hlt : ∀ h, some h ∈ sl' → h < many)
    (hm : ∀ h, h < many → mask sl' h = sbh row (mask sl h)) : Sim r paper M to sl' ts many := by
  have rb : ∀ t : Tok, roomB r row t = some t.room := fun t => by
    unfold roomB
    rw [hx t]
    rfl
  have z := S.move cl hr hto hf (f := id) (fun _ => rfl) (fun _ => rfl) (fun _ t _ _ k' hk' => ⟨k', hk', rb _⟩) (fun _ t _ h' _ _ k' hk' => ⟨k', hk', rb _⟩) hl hlt hm
  rw [List.map_id] at z
  exact z
theorem rooms_one (w : Str) (k : Nat) : rooms r [w] k = r.next k w := by
  unfold rooms
  cases r.next k w <;> rfl
theorem app_empty (w : Str) : ("" : Str) ++ w = w := by
  refine Str.ext' ?_
  show _ = w.cps
  have e : (("" : Str) ++ w).cps.toList = w.cps.toList := by
    have z := TL.tl_append ("" : Str) w
    rw [tl_empty', List.nil_append] at z
    exact z
  exact Array.toList_inj.mp e
theorem act_one {l : Int} {s h k : Nat} {w : Str} {t : Thg} (h1 : r.sides = 1) (hs : sl[s]? = some (some h)) (ho : t.other = none) (hk : t.room = some k) : roomB r (.act l s w) (.one (mask sl t.one) k) = (deed1 r h w t).room := by
  unfold roomB deed1 Thg.has txt
  rw [hk, ho, h1]
  show rooms r (if (mask sl t.one).testBit s then [("" : Str) ++ w] else []) k = _
  rw [mask_bit, hs, app_empty]
  by_cases e : h = t.one
  · subst e
    simp [rooms_one]
  · simp [e, rooms, hk]
theorem act_tyd {l : Int} {s h k h' o : Nat} {w : Str} {t : Thg} (h2 : r.sides = 2) (hs : sl[s]? = some (some h)) (ho : t.other = some h') (hne : t.one ≠ h') (hk : t.room = some k) : roomB r (.act l s w) (.tyd (mask sl t.one) (mask sl h') o k) = (deed1 r h w t).room := by
  unfold roomB deed1 Thg.has txt
  rw [hk, ho, h2]
  show rooms r (if (mask sl t.one).testBit s then [("1." : Str) ++ w] else if (mask sl h').testBit s then [("2." : Str) ++ w] else []) k = _
  rw [mask_bit, mask_bit, hs]
  by_cases e : h = t.one
  · subst e
    simp [rooms_one]
  · by_cases e2 : h = h'
    · subst e2
      simp [e, rooms_one]
    · simp [e, e2, rooms, hk]
theorem act_none {s : Nat} (hs : sl[s]? = some none) (h : Nat) : (mask sl h).testBit s = false := by
  rw [mask_bit, hs]
  simp
theorem deed_one (r : Rule) (h : Nat) (w : Str) (t : Thg) : (deed1 r h w t).one = t.one := by
  unfold deed1
  cases t.room with
  | none => rfl
  | some k =>
    show (if t.has h = true then _ else _ : Thg).one = _
    split <;> rfl
theorem deed_other (r : Rule) (h : Nat) (w : Str) (t : Thg) : (deed1 r h w t).other = t.other := by
  unfold deed1
  cases t.room with
  | none => rfl
  | some k =>
    show (if t.has h = true then _ else _ : Thg).other = _
    split <;> rfl
theorem deed_room {h k' : Nat} {w : Str} {t : Thg} (e : (deed1 r h w t).room = some k') : ∃ k, t.room = some k := by
  cases q : t.room with
  | none =>
    unfold deed1 at e
    rw [q] at e
    rw [q] at e
    cases e
  | some k => exact ⟨k, rfl⟩
/-- do: the handle's things are told -/
theorem Sim.act (h12 : r.sides = 1 ∨ r.sides = 2) {l : Int} {s h : Nat} {w : Str} (S : Sim r paper M i sl ts many) (cl : Closed r code paper) (hr : code[i]? = some (.act l s w)) (hs : sl[s]? = some (some h)) : Sim r paper M (i + 1) sl (ts.map (deed1 r h w)) many ∧ (ts.any (brok1 r h w) = true → brk r code paper i = true) := by
  refine ⟨S.move cl hr List.mem_cons_self rfl (deed_one r h w) (deed_other r h w) (fun h1 t ht ho k' hk' => ?_) (fun h2 t ht h' ho hne k' hk' => ?_) S.len S.lt fun _ _ => rfl, fun hb => ?_⟩
  · obtain ⟨k, hk⟩ := deed_room hk'
    exact ⟨k, hk, (act_one h1 hs ho hk).trans hk'⟩
  · obtain ⟨k, hk⟩ := deed_room hk'
    exact ⟨k, hk, (act_tyd h2 hs ho hne hk).trans hk'⟩
  · obtain ⟨t, ht, hb⟩ := List.any_eq_true.mp hb
    unfold brok1 at hb
    rw [Bool.and_eq_true] at hb
    obtain ⟨k, hk⟩ := Option.isSome_iff_exists.mp hb.1
    have hn := Option.isNone_iff_eq_none.mp hb.2
    have hsd := h12
    rcases hsd with h1 | h2
    · obtain ⟨ho, b, c⟩ := S.one h1 t ht
      exact brk_tok hr (c k hk) (brk_room rfl ((act_one h1 hs ho hk).trans hn))
    · obtain ⟨h', ho, b, c, d, e⟩ := S.tyd h2 t ht
      exact brk_tok hr (e k hk) (brk_room rfl ((act_tyd h2 hs ho d hk).trans hn))
/-- do: the slot is empty -/
theorem Sim.actN {l : Int} {s : Nat} {w : Str} (S : Sim r paper M i sl ts many) (cl : Closed r code paper) (hr : code[i]? = some (.act l s w)) (hs : sl[s]? = some none) : Sim r paper M (i + 1) sl ts many := by
  have q1 : ∀ m k', m.testBit s = false → roomB r (.act l s w) (.one m k') = some k' := fun m k' h => by
    show rooms r (if m.testBit s then [("" : Str) ++ w] else []) k' = _
    rw [h]
    rfl
  have q2 : ∀ m m' o k', m.testBit s = false → m'.testBit s = false → roomB r (.act l s w) (.tyd m m' o k') = some k' := fun m m' o k' h h' => by
    show rooms r (if m.testBit s then [("1." : Str) ++ w] else if m'.testBit s then [("2." : Str) ++ w] else []) k' = _
    rw [h, h']
    rfl
  have z := S.move cl hr List.mem_cons_self rfl (f := id) (fun _ => rfl) (fun _ => rfl) (fun _ t _ _ k' hk' => ⟨k', hk', q1 _ _ (act_none hs _)⟩) (fun _ t _ h' _ _ k' hk' => ⟨k', hk', q2 _ _ _ _ (act_none hs _) (act_none hs _)⟩) S.len S.lt fun _ _ => rfl
  rw [List.map_id] at z
  exact z
theorem mem_set' {xs : List (Option Nat)} {s : Nat} {v x : Option Nat} (h : x ∈ xs.set s v) : x ∈ xs ∨ x = v := by
  rcases List.mem_or_eq_of_mem_set h with h | h
  · exact .inl h
  · exact .inr h
theorem Sim.cpy {l : Int} {s t : Nat} (S : Sim r paper M i sl ts many) (cl : Closed r code paper) (hr : code[i]? = some (.cpy l s t)) (hs : s < sl.length) (ht : t < sl.length) : Sim r paper M (i + 1) (sl.set s sl[t]) ts many := by
  refine S.still cl hr List.mem_cons_self rfl (fun t => by cases t <;> rfl) (by rw [List.length_set]; exact S.len) (fun h hh => ?_) fun h _ => mask_cpy hs ht
  rcases mem_set' hh with hh | hh
  · exact S.lt h hh
  · exact S.lt h (by rw [hh]; exact List.getElem_mem ht)
theorem Sim.drp {l : Int} {s : Nat} (S : Sim r paper M i sl ts many) (cl : Closed r code paper) (hr : code[i]? = some (.drp l s)) (hs : s < sl.length) : Sim r paper M (i + 1) (sl.set s none) ts many := by
  refine S.still cl hr List.mem_cons_self rfl (fun t => by cases t <;> rfl) (by rw [List.length_set]; exact S.len) (fun h hh => ?_) fun h _ => mask_set_other hs (fun z => nomatch z)
  rcases mem_set' hh with hh | hh
  · exact S.lt h hh
  · exact nomatch hh
theorem Sim.jmp {l : Int} {j : Nat} (S : Sim r paper M i sl ts many) (cl : Closed r code paper) (hr : code[i]? = some (.jmp l j)) : Sim r paper M j sl ts many :=
  S.still cl hr List.mem_cons_self rfl (fun t => by cases t <;> rfl) S.len S.lt fun _ _ => rfl
theorem Sim.tst1 {l n : Int} {j : Nat} (S : Sim r paper M i sl ts many) (cl : Closed r code paper) (hr : code[i]? = some (.tst l n j)) : Sim r paper M (i + 1) sl ts many :=
  S.still cl hr List.mem_cons_self rfl (fun t => by cases t <;> rfl) S.len S.lt fun _ _ => rfl
theorem Sim.tst2 {l n : Int} {j : Nat} (S : Sim r paper M i sl ts many) (cl : Closed r code paper) (hr : code[i]? = some (.tst l n j)) : Sim r paper M j sl ts many :=
  S.still cl hr (List.mem_cons_of_mem _ List.mem_cons_self) rfl (fun t => by cases t <;> rfl) S.len S.lt fun _ _ => rfl
/-- tie: nothing new -/
theorem Sim.tie0 {l : Int} {s t : Nat} (S : Sim r paper M i sl ts many) (cl : Closed r code paper) (hr : code[i]? = some (.tie l s t)) : Sim r paper M (i + 1) sl ts many :=
  S.still cl hr List.mem_cons_self rfl (fun t => by cases t <;> rfl) S.len S.lt fun _ _ => rfl
/-- tie: a new pair -/
theorem Sim.tie {l : Int} {s t h h' : Nat} (S : Sim r paper M i sl ts many) (cl : Closed r code paper) (hr : code[i]? = some (.tie l s t)) (h2 : r.sides = 2) (hs : sl[s]? = some (some h)) (ht : sl[t]? = some (some h')) (hne : h ≠ h') : Sim r paper M (i + 1) sl (ts ++ [⟨h, some h', some 0⟩]) many := by
  have z := S.tie0 cl hr
  have l1 := S.lt h (List.mem_of_getElem? hs)
  have l2 := S.lt h' (List.mem_of_getElem? ht)
  refine ⟨z.len, z.lt, fun h1 => absurd (h1.symm.trans h2) (by decide), z.sgl, z.par, fun _ t' ht' => ?_⟩
  rcases List.mem_append.mp ht' with q | q
  · exact z.tyd h2 t' q
  · rw [List.mem_singleton] at q
    subst q
    refine ⟨h', rfl, l1, l2, hne, fun k hk => ?_⟩
    have : k = 0 := (Option.some.inj hk).symm
    subst this
    refine grow cl hr List.mem_cons_self (S.par h2 h h' l1 l2 hne) ?_
    show _ ∈ (if r.sides = 2 ∧ (mask sl h).testBit s ∧ (mask sl h').testBit t then _ else _)
    rw [if_pos ⟨h2, by rw [mask_bit, hs]; exact decide_eq_true rfl, by rw [mask_bit, ht]; exact decide_eq_true rfl⟩]
    exact List.mem_singleton.mpr rfl
/-- open: all that stands goes on -/
theorem Sim.opn0 {l : Int} {s : Nat} (S : Sim r paper M i sl ts many) (cl : Closed r code paper) (hr : code[i]? = some (.opn l s)) (hs : s < sl.length) : (∀ h, h < many → mask (sl.set s (some many)) h = wout (mask sl h) s) ∧ mask (sl.set s (some many)) many = 2 ^ s ∧ (∀ h, some h ∈ sl.set s (some many) → h < many + 1) := by
  refine ⟨fun h hh => mask_set_other hs (fun z => by cases z; omega), ?_, fun h hh => ?_⟩
  · rw [mask_set_some hs, mask_new (n := many) (fun x hx k e => S.lt k (e ▸ hx)), wit_zero]
  · rcases mem_set' hh with hh | hh
    · exact Nat.lt_succ_of_lt (S.lt h hh)
    · cases hh
      exact Nat.lt_succ_self _
theorem rb_opn {l : Int} {s : Nat} (t : Tok) : roomB r (.opn l s) t = some t.room := by
  cases t <;> rfl
/-- .. one side: a new thing -/
theorem Sim.opn1 {l : Int} {s : Nat} {o : Option Nat} (S : Sim r paper M i sl ts many) (cl : Closed r code paper) (hl : paper.length = code.length) (hr : code[i]? = some (.opn l s)) (hs : s < sl.length) (h1 : r.sides = 1) (ho : r.next 0 "open" = o) :
    Sim r paper M (i + 1) (sl.set s (some many)) (ts ++ [⟨many, none, o⟩]) (many + 1) ∧ (o = none → brk r code paper i = true) := by
  obtain ⟨m1, m2, m3⟩ := S.opn0 cl hr hs
  refine ⟨⟨by rw [List.length_set]; exact S.len, m3, fun _ t ht => ?_, fun h2 => absurd (h1.symm.trans h2) (by decide), fun h2 => absurd (h1.symm.trans h2) (by decide), fun h2 => absurd (h1.symm.trans h2) (by decide)⟩, fun z => ?_⟩
  · rcases List.mem_append.mp ht with q | q
    · obtain ⟨a, b, c⟩ := S.one h1 t q
      refine ⟨a, Nat.lt_succ_of_lt b, fun k hk => ?_⟩
      rw [m1 _ b]
      exact carry cl hr List.mem_cons_self (c k hk) (behind_one rfl (rb_opn _))
    · rw [List.mem_singleton] at q
      subst q
      refine ⟨rfl, Nat.lt_succ_self _, fun k hk => ?_⟩
      show tokAt paper (i + 1) (.one (mask _ many) k)
      rw [m2]
      have hk : o = some k := hk
      refine first cl hl hr List.mem_cons_self ?_
      show _ ∈ (if r.sides = 1 then (match r.next 0 "open" with
        | none => []
        | some k => [Tok.one (2 ^ s) k]) else [Tok.sgl (2 ^ s)])
      rw [if_pos h1, ho, hk]
      exact List.mem_singleton.mpr rfl
  · refine brk_none hl hr ?_
    show (r.sides == 1 && (r.next 0 "open").isNone) = true
    rw [ho, z, h1]
    rfl
/-- .. two sides: new sums -/
theorem Sim.opn2 {l : Int} {s : Nat} (S : Sim r paper M i sl ts many) (cl : Closed r code paper) (hl : paper.length = code.length) (hr : code[i]? = some (.opn l s)) (hs : s < sl.length) (h2 : r.sides = 2) :
    Sim r paper M (i + 1) (sl.set s (some many)) ts (many + 1) := by
  obtain ⟨m1, m2, m3⟩ := S.opn0 cl hr hs
  have sg : ∀ h, h < many + 1 → tokAt paper (i + 1) (.sgl (mask (sl.set s (some many)) h)) := fun h hh => by
    by_cases e : h = many
    · rw [e, m2]
      refine first cl hl hr List.mem_cons_self ?_
      show _ ∈ (if r.sides = 1 then _ else [Tok.sgl (2 ^ s)])
      rw [if_neg (by rw [h2]; decide)]
      exact List.mem_singleton.mpr rfl
    · have hh : h < many := by omega
      rw [m1 _ hh]
      exact carry cl hr List.mem_cons_self (S.sgl h2 h hh) (behind_sgl rfl)
  refine ⟨by rw [List.length_set]; exact S.len, m3, fun h1 => absurd (h1.symm.trans h2) (by decide), fun _ => sg, fun _ h h' hh hh' hne => ?_, fun _ t ht => ?_⟩
  · by_cases e : h = many
    · have hk : h' < many := by omega
      rw [e, m2, m1 _ hk]
      refine grow cl hr List.mem_cons_self (S.sgl h2 h' hk) ?_
      show _ ∈ (if r.sides = 2 then [Tok.par _ _ 1, .par _ _ 2] else [])
      rw [if_pos h2, show ord many h' = 2 from if_neg (by omega)]
      exact List.mem_cons_of_mem _ List.mem_cons_self
    · by_cases e' : h' = many
      · have hk : h < many := by omega
        rw [e', m2, m1 _ hk]
        refine grow cl hr List.mem_cons_self (S.sgl h2 h hk) ?_
        show _ ∈ (if r.sides = 2 then [Tok.par _ _ 1, .par _ _ 2] else [])
        rw [if_pos h2, show ord h many = 1 from if_pos hk]
        exact List.mem_cons_self
      · have a : h < many := by omega
        have b : h' < many := by omega
        rw [m1 _ a, m1 _ b]
        exact carry cl hr List.mem_cons_self (S.par h2 h h' a b hne) (behind_par rfl)
  · obtain ⟨h', a, b, c, d, e⟩ := S.tyd h2 t ht
    refine ⟨h', a, Nat.lt_succ_of_lt b, Nat.lt_succ_of_lt c, d, fun k hk => ?_⟩
    rw [m1 _ b, m1 _ c]
    exact carry cl hr List.mem_cons_self (e k hk) (behind_tyd rfl (rb_opn _))
/-! ### the last row -/
def deeds (r : Rule) (w : Str) (hs : List Nat) (t : Thg) : Thg := hs.foldl (fun t h => deed1 r h w t) t
theorem deed_has {h : Nat} {w : Str} {t : Thg} (e : t.has h = false) : deed1 r h w t = t := by
  unfold deed1
  cases q : t.room with
  | none => rfl
  | some k =>
    show (if t.has h = true then _ else _ : Thg) = _
    rw [e]
    rfl
theorem deeds_has {w : Str} : ∀ (hs : List Nat) (t : Thg), (∀ h ∈ hs, t.has h = false) → deeds r w hs t = t
  | [], _, _ => rfl
  | h :: hs, t, e => by
    show deeds r w hs (deed1 r h w t) = t
    rw [deed_has (e h List.mem_cons_self)]
    exact deeds_has hs t fun x hx => e x (List.mem_cons_of_mem _ hx)
theorem deeds_none {w : Str} : ∀ (hs : List Nat) (t : Thg), t.room = none → deeds r w hs t = t
  | [], _, _ => rfl
  | h :: hs, t, e => by
    show deeds r w hs (deed1 r h w t) = t
    have z : deed1 r h w t = t := by
      unfold deed1
      rw [e]
    rw [z]
    exact deeds_none hs t e
theorem deeds_append {w : Str} (a b : List Nat) (t : Thg) : deeds r w (a ++ b) t = deeds r w b (deeds r w a t) := List.foldl_append
theorem split_at (n a : Nat) (h : a < n) : List.range n = List.range' 0 a ++ a :: List.range' (a + 1) (n - a - 1) := by
  rw [List.range_eq_range', show n = a + (1 + (n - a - 1)) by omega, ← List.range'_append_1, Nat.zero_add, Nat.add_comm 1, List.range'_succ]
  congr 3
  omega
theorem deeds_split {w : Str} {n a : Nat} (h : a < n) (t : Thg) : deeds r w (List.range n) t = deeds r w (List.range' (a + 1) (n - a - 1)) (deed1 r a w (deeds r w (List.range' 0 a) t)) := by
  rw [split_at n a h, deeds_append]
  rfl
theorem split_at' (s n a : Nat) (h1 : s ≤ a) (h : a < s + n) : List.range' s n = List.range' s (a - s) ++ a :: List.range' (a + 1) (s + n - a - 1) := by
  have e : n = (a - s) + (1 + (s + n - a - 1)) := by omega
  rw [e, ← List.range'_append_1, show s + (a - s) = a by omega, Nat.add_comm 1, List.range'_succ]
  congr 3
  omega
theorem deed_hit {h k : Nat} {w : Str} {t : Thg} (e : t.has h = true) (hk : t.room = some k) : deed1 r h w t = { t with room := r.next k (txt r h w t) } := by
  unfold deed1
  rw [hk]
  show (if t.has h = true then _ else _ : Thg) = _
  rw [if_pos e]
theorem deeds_rest {w : Str} {t : Thg} {a s n : Nat} (ho : ∀ h, a ≤ h → t.has h = false) (hs : a ≤ s) : deeds r w (List.range' s n) t = t :=
  deeds_has _ _ fun h hh => ho h (Nat.le_trans hs (List.mem_range'_1.mp hh).1)
theorem deeds_oneT {w : Str} {t : Thg} {n x k : Nat} (hx : x < n) (hk : t.room = some k) (h1 : t.has x = true) (ho : ∀ h, h ≠ x → t.has h = false) : (deeds r w (List.range n) t).room = rooms r [txt r x w t] k := by
  have p : deeds r w (List.range' 0 x) t = t := deeds_has _ _ fun h hh => ho h (by have := List.mem_range'_1.mp hh; omega)
  rw [deeds_split hx, p, deed_hit h1 hk, rooms_one]
  rw [deeds_rest (t := { t with room := r.next k (txt r x w t) }) (a := x + 1) (fun h hh => ho h (by omega)) (Nat.le_refl _)]
theorem deeds_twoT {w : Str} {t : Thg} {n x y k : Nat} (hxy : x < y) (hy : y < n) (hk : t.room = some k) (h1 : t.has x = true) (h2 : t.has y = true) (ho : ∀ h, h ≠ x → h ≠ y → t.has h = false) : (deeds r w (List.range n) t).room = rooms r [txt r x w t, txt r y w t] k := by
  have p : deeds r w (List.range' 0 x) t = t := deeds_has _ _ fun h hh => by
    have := List.mem_range'_1.mp hh
    exact ho h (by omega) (by omega)
  rw [deeds_split (Nat.lt_trans hxy hy), p, deed_hit h1 hk]
  show _ = (match r.next k (txt r x w t) with
    | none => none
    | some k => rooms r [txt r y w t] k)
  cases q : r.next k (txt r x w t) with
  | none => rw [deeds_none _ _ rfl]
  | some k1 =>
    show _ = rooms r [txt r y w t] k1
    rw [split_at' (x + 1) (n - x - 1) y hxy (by omega), deeds_append]
    have p2 : deeds r w (List.range' (x + 1) (y - (x + 1))) { t with room := some k1 } = { t with room := some k1 } := deeds_has _ _ fun h hh => by
      have := List.mem_range'_1.mp hh
      exact ho h (by omega) (by omega)
    rw [p2, rooms_one]
    show (deeds r w _ (deed1 r y w { t with room := some k1 })).room = _
    rw [deed_hit (t := { t with room := some k1 }) (k := k1) h2 rfl]
    exact congrArg Thg.room (deeds_rest (t := { t with room := r.next k1 (txt r y w t) }) (a := y + 1) (fun h hh => ho h (by omega) (by omega)) (Nat.le_refl _))
/-- the law's list of answers -/
def endsB (r : Rule) (w : Str) : List Nat → List Thg → Bool
  | [], _ => false
  | h :: hs, ts => ts.any (brok1 r h w) || endsB r w hs (ts.map (deed1 r h w))
theorem endsB_wit {w : Str} : ∀ (hs : List Nat) (ts : List Thg), endsB r w hs ts = true → ∃ t ∈ ts, t.room.isSome = true ∧ (deeds r w hs t).room = none
  | [], _, e => nomatch e
  | h :: hs, ts, e => by
    unfold endsB at e
    rw [Bool.or_eq_true] at e
    rcases e with e | e
    · obtain ⟨t, ht, hb⟩ := List.any_eq_true.mp e
      unfold brok1 at hb
      rw [Bool.and_eq_true] at hb
      have z := Option.isNone_iff_eq_none.mp hb.2
      refine ⟨t, ht, hb.1, ?_⟩
      show (deeds r w hs (deed1 r h w t)).room = none
      rw [deeds_none _ _ z]
      exact z
    · obtain ⟨t', ht', hb, hn⟩ := endsB_wit hs _ e
      obtain ⟨t, ht, rfl⟩ := List.mem_map.mp ht'
      obtain ⟨k', hk'⟩ := Option.isSome_iff_exists.mp hb
      obtain ⟨k, hk⟩ := deed_room hk'
      exact ⟨t, ht, by rw [hk]; rfl, hn⟩
theorem Sim.fin {l : Int} (h12 : r.sides = 1 ∨ r.sides = 2) (S : Sim r paper M i sl ts many) (hr : code[i]? = some (.fin l)) (hb : endsB r "end" (List.range many) ts = true) : brk r code paper i = true := by
  obtain ⟨t, ht, hs, hn⟩ := endsB_wit _ _ hb
  obtain ⟨k, hk⟩ := Option.isSome_iff_exists.mp hs
  rcases h12 with h1 | h2
  · obtain ⟨ho, b, c⟩ := S.one h1 t ht
    refine brk_tok hr (c k hk) (brk_room rfl ?_)
    rw [deeds_oneT b hk (by unfold Thg.has; simp) (fun h e => by unfold Thg.has; rw [ho]; simp [e])] at hn
    have e : txt r t.one "end" t = "end" := if_pos h1
    rw [e] at hn
    exact hn
  · obtain ⟨h', ho, b, c, d, e⟩ := S.tyd h2 t ht
    refine brk_tok hr (e k hk) (brk_room rfl ?_)
    have x1 : t.has t.one = true := by unfold Thg.has; simp
    have x2 : t.has h' = true := by unfold Thg.has; rw [ho]; simp
    have x3 : ∀ h, h ≠ t.one → h ≠ h' → t.has h = false := fun h q1 q2 => by unfold Thg.has; rw [ho]; simp [q1, q2]
    have e1 : txt r t.one "end" t = "1.end" := by
      unfold txt
      rw [if_neg (by rw [h2]; decide), if_pos rfl]
      decide +kernel
    have e2 : txt r h' "end" t = "2.end" := by
      unfold txt
      rw [if_neg (by rw [h2]; decide), if_neg (fun q => d q.symm)]
      decide +kernel
    show rooms r (if ord t.one h' = 1 then ["1.end", "2.end"] else ["2.end", "1.end"]) k = none
    by_cases q : t.one < h'
    · rw [deeds_twoT q c hk x1 x2 x3, e1, e2] at hn
      rw [show ord t.one h' = 1 from if_pos q, if_pos rfl]
      exact hn
    · rw [deeds_twoT (show h' < t.one by omega) b hk x2 x1 (fun h q1 q2 => x3 h q2 q1), e1, e2] at hn
      rw [show ord t.one h' = 2 from if_neg q, if_neg (by decide)]
      exact hn
end
/-- nothing stands at the first row -/
theorem Sim.start (r : Rule) (paper : List (List Tok)) (M : Nat) : Sim r paper M 0 (List.replicate M none) [] 0 :=
  ⟨List.length_replicate, fun h hh => (nomatch (List.mem_replicate.mp hh).2), fun _ t ht => absurd ht List.not_mem_nil, fun _ h hh => absurd hh (Nat.not_lt_zero _), fun _ h h' hh => absurd hh (Nat.not_lt_zero _), fun _ t ht => absurd ht List.not_mem_nil⟩
end Uw
/-! text T30 -/
namespace Uw
open PySem PySem.Spec PyProof.Rows L2
/-! _law_deed -/
section
variable {P : Program} {w : World} {K : PySem.W.Frag} {mg : Str → Option Value} {base : Heap}
/-- the things' list at p -/
def ThAt (K : PySem.W.Frag) (H : Hp) (p : Addr) (ts : List Thg) : Prop := ∃ xs, H p = some (.lst xs) ∧ DpAll K (off p H) xs (ts.map Thg.enc)
def spDeed (K : PySem.W.Frag) : Sp := fun vs H Q _ => ∃ rv p h wd r R ts, vs = [rv, .ref p, .int (h : Nat), .str wd] ∧ ThAt K H p ts ∧ Dp K (off p H) rv r.enc ∧ r.Ok R ∧ (r.sides = 1 ∨ r.sides = 2) ∧ (∀ t ∈ ts, ∀ k, t.room = some k → k < R) ∧ ts.length ≤ 100000 ∧ wd.length ≤ 100 ∧
  ∀ H', SX p H H' → ThAt K H' p (ts.map (deed1 r h wd)) → Q (.bl (ts.any (brok1 r h wd))) H'
theorem SameT.offU {H : Hp} {p : Addr} {o o' : HO} (h : H p = some o) (ho : isTupO o = false) : SameT H (off p (L2.upd H p o')) := fun b xs q => by
  have hb : b ≠ p := fun e => by
    subst e
    rcases q with q | ⟨u, q⟩
    · rw [h] at q
      cases q
      cases ho
    · rw [h] at q
      cases q
      cases ho
  rcases q with q | ⟨u, q⟩
  · exact .inl (off_some.mpr ⟨hb, (upd_ne hb).trans q⟩)
  · exact .inr ⟨u, off_some.mpr ⟨hb, (upd_ne hb).trans q⟩⟩
theorem thg_nol (t : Thg) : nol t.enc = true := by
  unfold Thg.enc
  cases t.other <;> cases t.room <;> rfl
theorem sc_law_deed : FnScope ["_law_rule_here", "_law_things", "_law_handle", "_law_word", "_law_broken_here", "_law_k", "_law_one", "_law_other", "_law_room", "_law_text"] ["_law_rule_here", "_law_things", "_law_handle", "_law_word"] (defScope (top 53)) := ⟨rfl, rfl, rfl, by decide +kernel, rfl, by decide +kernel, by decide +kernel⟩
theorem kn_deed (T : Tx K mg) : Kn P w K mg base 2 "_law_deed" ["_law_rule_here", "_law_things", "_law_handle", "_law_word"] (spDeed K) := by
  have K_law_next := kn_lnext (P := P) (w := w) (base := base) T
  refine kn_mk (T.fn2 (("_law_deed" : Str), 53) (by decide +kernel)) sc_law_deed (fun _ _ _ _ _ _ us hl => match us, hl with | [_, _, _, _], _ => rfl) (fun vs H Q E h => ?_) (fun f cdv A outer s0 H vs Q E hr h => ?_)
  · obtain ⟨_, _, _, _, _, _, _, rfl, _⟩ := h
    rfl
  obtain ⟨rv, p, h, wd, r, R, ts, rfl, ⟨xs, hp, hx⟩, dr, ok, h12, hR, hl, hw, q⟩ := h
  refine ⟨_, (pss_cons (ps_set (i := 4) sc_law_deed.nd rfl (Or.inl rfl) (pe_bl)) (pss_cons (ps_for PassesOwn.never rfl (pi_range1 rfl (T.free "range" (by decide)) (pa_cons (pe_callB call_ln (by rfl) (T.free "len" (by decide)) PySem.boot_len (pa_cons (pv 1) (pa_nil))) (pa_nil))) (pg_name (i := 5) sc_law_deed.nd rfl (.inl rfl)) (pss_cons (ps_asg (pe_ix ix_seq (pv 1) (pv 5) (fun _ _ => rfl)) (pg_tup rfl (pgs_cons (pg_name (i := 6) sc_law_deed.nd rfl (.inl rfl)) (pgs_cons (pg_name (i := 7) sc_law_deed.nd rfl (.inl rfl)) (pgs_cons (pg_name (i := 8) sc_law_deed.nd rfl (.inl rfl)) (pgs_nil)))))) (pss_one (ps_if (PW.pt (pw_and (pt_cmpR op_notNon (pv 8) (pe_non) (nomark _)) (pw_and1 (PW.pt (pw_or (pt_cmpR op_eq (pv 2) (pv 6) (nomark _)) (pw_or1 (pt_cmpR op_eq (pv 2) (pv 7) (nomark _)))))))) (pss_cons (ps_set (i := 9) sc_law_deed.nd rfl (Or.inl rfl) (pe_ifExp (pt_cmpR op_eq (pe_ix ix_seq (pv 0) (pe_int) (fun _ _ => rfl)) (pe_int) (nomark _)) (pv 3) (pe_op op_addU (pe_ix ix_seq (pe_lst (pa_cons (pe_str) (pa_cons (pe_str) (pa_nil)))) (pe_callTy call_int1 (by rfl) (T.free "int" (by decide)) (by decide +kernel) (pa_cons (pe_cmpR op_eq (pv 2) (pv 6) (nomark _)) (pa_nil))) (fun _ _ => rfl)) (pv 3)))) (pss_cons (ps_asg (pe_tup (pa_cons (pv 6) (pa_cons (pv 7) (pa_cons (pe_kn K_law_next (hr.mono (by decide)) rfl (pa_cons (pv 0) (pa_cons (pv 8) (pa_cons (pv 9) (pa_nil))))) (pa_nil))))) (pg_sub (pv 1) (pv 5) set_list)) (pss_one (ps_set (i := 4) sc_law_deed.nd rfl (Or.inl rfl) (pe_or (pv 4) (pe_one (pe_cmpR op_isNon (pe_ix ix_seq (pe_ix ix_seq (pv 1) (pv 5) (fun _ _ => rfl)) (pe_int) (fun _ _ => rfl)) (pe_non) (nomark _)))))))) (pss_nil))))) (pss_one (ps_ret (pv 4))))), ?_⟩
  show tSeq _ _ _ _ _
  refine q_asg (K := K) (d := .bool false) gd_bl fun v4 H1 s1 dv4 => ?_
  have e4 := dp_bl dv4
  subst e4
  have p1 : H1 p = some (.lst xs) := s1 _ _ hp
  have lx : xs.length = ts.length := by rw [dps_len hx, List.length_map]
  refine q_forR (K := K) (n := ts.length) (fun H' s' Q k => ?_) (by omega) fun H2 s2 => ?_
  · refine ⟨_, rfl, p, xs, rfl, Or.inl (SqL.of (s' _ _ p1)), k _ _ (Same.refl _) (.cons ?_ .nil)⟩
    rw [lx]
    exact .int _
  refine ⟨fun i σ' H' => SX p H H' ∧ ThAt K H' p ((ts.take i).map (deed1 r h wd) ++ ts.drop i) ∧ ∃ o5 o6 o7 o8 o9, σ' = [some rv, some (.ref p), some (.int h), some (.str wd), some (.bl ((ts.take i).any (brok1 r h wd))), o5, o6, o7, o8, o9], ?_, fun i σ' H' hi hP => ?_, fun σ' H' hP => ?_⟩
  · refine ⟨(SX.of s1).trans (SX.of s2), ⟨xs, s2 _ _ p1, ?_⟩, _, _, _, _, _, rfl⟩
    rw [List.take_zero, List.drop_zero, List.map_nil, List.nil_append]
    exact dps_mono ((SX.of s1).trans (SX.of s2)).off hx
  · obtain ⟨sx, hT, o5, o6, o7, o8, o9, rfl⟩ := hP
    obtain ⟨ys, y1, y2⟩ := hT
    have sxo := sx.off
    obtain ⟨t, ht⟩ : ∃ t, ts[i]? = some t := ⟨_, List.getElem?_eq_getElem hi⟩
    have hit : (((ts.take i).map (deed1 r h wd) ++ ts.drop i).map Thg.enc)[i]? = some t.enc := by
      rw [List.getElem?_map, List.getElem?_append_right (by rw [List.length_map, List.length_take]; omega), List.length_map, List.length_take, Nat.min_eq_left (by omega), Nat.sub_self, List.getElem?_drop, Nat.add_zero, ht]
      rfl
    obtain ⟨v, hv, dvv⟩ := dps_get y2 hit
    obtain ⟨a, zs, rfl, sq, dz⟩ := dp_tup (ds := [.int t.one, encO t.other, encO t.room]) dvv
    have sq' : SqT K H' a zs := same_sqT off_le sq
    obtain _ | ⟨g1, _ | ⟨g2, _ | ⟨g3, _ | _⟩⟩⟩ := dz
    rename_i z1 z2 z3
    have eg1 := dp_int g1
    subst eg1
    refine q_seq (show tAsg _ _ _ _ _ from rs_ixl (K := K) (rs_var rfl) (rs_var rfl) (SqL.of y1) hv _ ⟨a, _, rfl, sq', rfl, _, _, rfl, _, _, rfl, _, _, rfl, rfl, ?_⟩)
    have g2' : Dp K H' z2 (encO t.other) := dp_mono off_le g2
    have g3' : Dp K H' z3 (encO t.room) := dp_mono off_le g3
    have dr' : Dp K (off p H') rv r.enc := dp_mono sx.off dr
    have tm : t ∈ ts := List.mem_of_getElem? ht
    have tk : ts.take (i + 1) = ts.take i ++ [t] := by rw [List.take_succ, ht]; rfl
    have dd : ts.drop i = t :: ts.drop (i + 1) := by rw [List.drop_eq_getElem_cons hi]; congr 1; exact (List.getElem?_eq_some_iff.mp ht).2
    have gc : Gt (tAnd (tTest (tOp rNotNon (tVar 8) (tC V.non))) (tOr (tTest (tOp rEq (tVar 2) (tVar 6))) (tTest (tOp rEq (tVar 2) (tVar 7))))) [some rv, some (.ref p), some (.int h), some (.str wd), some (.bl ((ts.take i).any (brok1 r h wd))), some (.int i), some (.int t.one), some z2, some z3, o9] H' (t.room.isSome && t.has h) := by
      refine gt_and (gt_test (K := K) (gd_op (gd_var rfl g3') gd_non (r2_notN (by cases t.room <;> rfl)))) fun _ => ?_
      unfold Thg.has
      refine gt_or (gt_test (K := K) (gd_op (gd_var rfl (.int _)) (gd_var rfl (.int _)) (r2_eq rfl rfl rfl (decide_eq_decide.mpr ⟨fun e => by cases e; rfl, fun e => by rw [e]⟩)))) fun _ => ?_
      refine gt_test (K := K) (gd_op (gd_var rfl (.int _)) (gd_var rfl g2') ?_)
      cases t.other with
      | none => exact r2_eq rfl rfl rfl rfl
      | some k => exact r2_eq rfl rfl rfl (decide_eq_decide.mpr ⟨fun e => by cases e; rfl, fun e => by cases e; rfl⟩)
    refine l_if gc (fun c H3 s3 => ?_) fun c H3 s3 => ?_
    · obtain ⟨c1, c2⟩ := Bool.and_eq_true_iff.mp c
      obtain ⟨k, hk⟩ := Option.isSome_iff_exists.mp c1
      have dr3 : Dp K H3 rv (.tuple [.int r.sides, .list (r.texts.map PyData.str), .list (r.rooms.map fun m => .list (m.map encO))]) := dp_mono (off_le.trans s3) dr'
      refine q_asg (K := K) (d := .str (txt r h wd t)) (gd_if (a := decide (r.sides = 1)) (gt_test (K := K) (gd_op (gd_op (d := .tuple [.int r.sides, .list (r.texts.map PyData.str), .list (r.rooms.map fun m => .list (m.map encO))]) (gd_var rfl dr3) gd_int (r2_ixt rfl)) gd_int (r2_eq (d := .int (r.sides : Nat)) (x := V.int r.sides) (y := V.int 1) rfl rfl rfl (decide_eq_decide.mpr ⟨fun e => by injection e with e; omega, fun e => by rw [e]; rfl⟩)))) (fun c => gd_is (gd_var rfl (.str _)) (by unfold txt; rw [if_pos (of_decide_eq_true c)])) fun c => ?_) fun v9 H4 s4 dv9 => ?_
      · have e : txt r h wd t = (if h = t.one then ("1." : Str) else "2.") ++ wd := by unfold txt; rw [if_neg (of_decide_eq_false c)]
        rw [e]
        refine gd_op (K := K) (d := .str (if h = t.one then ("1." : Str) else "2.")) (gd_op (d := .list [.str "2.", .str "1."]) (gd_lst (ga_cons gd_str (ga_cons gd_str ga_nil)) (by decide)) (gd_cb (ga_cons (ds := []) (d := .bool (decide (h = t.one))) (gd_op (gd_var rfl (.int _)) (gd_var rfl (.int _)) (r2_eq rfl rfl rfl (decide_eq_decide.mpr ⟨fun e => by cases e; rfl, fun e => by rw [e]⟩))) ga_nil) rc_intB) (r2_ixl ?_)) (gd_var rfl (.str _)) (r2_addT ?_)
        · by_cases q : h = t.one
          · rw [if_pos q]
            simp [q]
            rfl
          · rw [if_neg q]
            simp [q]
            rfl
        · have z : (if h = t.one then ("1." : Str) else "2.").length ≤ 2 := by
            by_cases q : h = t.one
            · rw [if_pos q]
              decide +kernel
            · rw [if_neg q]
              decide +kernel
          omega
      · have e9 := dp_str dv9
        subst e9
        have z3e : Dp K H4 z3 (.int (k : Nat)) := by
          have z := g3'
          rw [hk] at z
          exact dp_mono (s3.trans s4) z
        have s34 := s3.trans s4
        have dn : deed1 r h wd t = { t with room := r.next k (txt r h wd t) } := deed_hit c2 hk
        refine q_seq (show tAsg _ _ _ _ _ from (gd_tup (K := K) (ds := [.int t.one, encO t.other, encO (r.next k (txt r h wd t))]) (ga_cons (gd_var rfl (.int _)) (ga_cons (gd_var rfl (dp_mono s34 g2')) (ga_cons (gd_call (ds := [r.enc, .int k, .str (txt r h wd t)]) (ga_cons (gd_var rfl (dp_mono s4 dr3)) (ga_cons (gd_var rfl z3e) (ga_cons (gd_var rfl (.str _)) ga_nil))) ⟨r, R, k, _, ok, hR t tm k hk, rfl, rfl⟩) ga_nil))) (Nat.le_of_ble_eq_true rfl)) H4 (Same.refl _) _ fun v5 H5 s5 dv5 => ⟨_, rfl, _, rfl, p, ys, i, i, rfl, rfl, s5 _ _ (s34 _ _ y1), ixN_n ?_, ?_⟩)
        · have z := dps_len y2
          rw [List.length_map, List.length_append, List.length_map, List.length_take, List.length_drop] at z
          omega
        · have s35 := s34.trans s5
          have p5 : H5 p = some (.lst ys) := s35 _ _ y1
          have nd : nolAll (((ts.take i).map (deed1 r h wd) ++ ts.drop i).map Thg.enc) = true := nolAll_of fun d hd => by
            obtain ⟨u, _, rfl⟩ := List.mem_map.mp hd
            exact thg_nol u
          have sx6 : SX p H' (upd H5 p (.lst (ys.set i v5))) := (SX.of s35).trans SX.upd
          have l6 : ((ts.take i).map (deed1 r h wd)).length = i := by rw [List.length_map, List.length_take]; omega
          have e9 : (ts.take (i + 1)).map (deed1 r h wd) ++ ts.drop (i + 1) = (ts.take i).map (deed1 r h wd) ++ (deed1 r h wd t :: ts.drop (i + 1)) := by
            rw [tk, List.map_append, List.append_assoc]
            rfl
          have e6 : (((ts.take i).map (deed1 r h wd) ++ ts.drop i).map Thg.enc).set i (.tuple [.int t.one, encO t.other, encO (r.next k (txt r h wd t))]) = ((ts.take (i + 1)).map (deed1 r h wd) ++ ts.drop (i + 1)).map Thg.enc := by
            have e : (.tuple [.int t.one, encO t.other, encO (r.next k (txt r h wd t))] : PyData) = (deed1 r h wd t).enc := by rw [dn]; rfl
            rw [e, ← List.map_set, List.set_append_right _ _ (by omega), l6, Nat.sub_self, dd, List.set_cons_zero, e9]
          have g6 : ((ts.take (i + 1)).map (deed1 r h wd) ++ ts.drop (i + 1))[i]? = some (deed1 r h wd t) := by
            rw [tk, List.map_append, List.append_assoc, List.getElem?_append_right (by omega), l6, Nat.sub_self]
            rfl
          have d6 : DpAll K (off p (upd H5 p (.lst (ys.set i v5)))) (ys.set i v5) (((ts.take (i + 1)).map (deed1 r h wd) ++ ts.drop (i + 1)).map Thg.enc) := by
            rw [← e6]
            exact dps_set i (dps_mono sx6.off y2) (dp_keepT (SameT.offU p5 rfl) (by cases t.other <;> cases (r.next k (txt r h wd t)) <;> rfl) dv5)
          refine l_asg (K := K) (d := .bool (((ts.take i).any (brok1 r h wd)) || (r.next k (txt r h wd t)).isNone)) (gd_or (gd_var rfl (.bl _)) fun _ => gd_op (d := encO (r.next k (txt r h wd t))) (gd_op (d := .tuple [.int t.one, encO t.other, encO (r.next k (txt r h wd t))]) (gd_op (d := .list (((ts.take (i + 1)).map (deed1 r h wd) ++ ts.drop (i + 1)).map Thg.enc)) (gd_var rfl (.lst (SqL.of upd_same) (dps_mono off_le d6))) (gd_var rfl (.int _)) (r2_ixl ((at_map g6).trans (by rw [dn]; rfl)))) gd_int (r2_ixt rfl)) gd_non (r2_isN (by cases (r.next k (txt r h wd t)) <;> rfl))) fun v7 H7 s7 dv7 => ?_
          have e7 := dp_bl dv7
          subst e7
          refine ⟨(sx.trans sx6).trans (SX.of s7), ⟨_, s7 _ _ upd_same, dps_mono (SX.of s7).off d6⟩, some (.int i), some (.int t.one), some z2, some z3, some (.str (txt r h wd t)), ?_⟩
          have eb : (ts.take (i + 1)).any (brok1 r h wd) = (((ts.take i).any (brok1 r h wd)) || (r.next k (txt r h wd t)).isNone) := by
            rw [tk, List.any_append]
            show (_ || (brok1 r h wd t || false)) = _
            rw [Bool.or_false]
            unfold brok1
            rw [dn, hk]
            rfl
          rw [eb]
          rfl
    · have e1 : deed1 r h wd t = t := by
        cases q : t.room with
        | none => 
          unfold deed1
          rw [q]
        | some k =>
          rw [q] at c
          exact deed_has c
      have e2 : brok1 r h wd t = false := by
        unfold brok1
        rw [e1]
        cases t.room <;> rfl
      refine ⟨sx.trans (SX.of s3), ⟨ys, s3 _ _ y1, ?_⟩, some (.int i), some (.int t.one), some z2, some z3, o9, ?_⟩
      · have e3 : (ts.take (i + 1)).map (deed1 r h wd) ++ ts.drop (i + 1) = (ts.take i).map (deed1 r h wd) ++ ts.drop i := by
          rw [tk, List.map_append, List.append_assoc, dd, List.map_cons, e1]
          rfl
        rw [e3]
        exact dps_mono (SX.of s3).off y2
      · rw [tk, List.any_append, show [t].any (brok1 r h wd) = false by rw [List.any_cons, e2]; rfl, Bool.or_false]
  · obtain ⟨sx, hT, o5, o6, o7, o8, o9, rfl⟩ := hP
    rw [List.take_length, List.drop_length, List.append_nil] at hT
    rw [List.take_length]
    exact l_ret (K := K) (gd_var rfl (.bl _)) fun v H3 s3 d3 => by
      have e := dp_bl d3
      subst e
      obtain ⟨ys, y1, y2⟩ := hT
      exact q H3 (sx.trans (SX.of s3)) ⟨ys, s3 _ _ y1, dps_mono (SX.of s3).off y2⟩
end
end Uw
/-! text T31 -/
namespace Uw
open PySem PySem.Spec PyProof.Rows L2
/-! _law_done -/
def slV : Option Nat → V
  | none => .non
  | some h => .int (h : Nat)
theorem dp_slV {K : PySem.W.Frag} {H : Hp} (o : Option Nat) : Dp K H (slV o) (encO o) := by
  cases o with
  | none => exact .non
  | some h => exact .int _
theorem dps_slV {K : PySem.W.Frag} {H : Hp} : ∀ (sl : List (Option Nat)), DpAll K H (sl.map slV) (sl.map encO)
  | [] => .nil
  | o :: r => .cons (dp_slV o) (dps_slV r)
theorem slV_of {K : PySem.W.Frag} {H : Hp} {v : V} {o : Option Nat} (h : Dp K H v (encO o)) : v = slV o := by
  cases o with
  | none => exact dp_non h
  | some k => exact dp_int h
/-- all but two things stay -/
def S2 (p q : Addr) (H H' : Hp) : Prop := ∀ b o, H b = some o → b ≠ p → b ≠ q → H' b = some o
theorem S2.refl (p q : Addr) (H : Hp) : S2 p q H H := fun _ _ h _ _ => h
theorem S2.trans {p q : Addr} {H H1 H2 : Hp} (a : S2 p q H H1) (b : S2 p q H1 H2) : S2 p q H H2 := fun c o h n m => b c o (a c o h n m) n m
theorem S2.of {p q : Addr} {H H' : Hp} (s : Same H H') : S2 p q H H' := fun b o h _ _ => s b o h
theorem S2.fst {p q : Addr} {H H' : Hp} (s : SX p H H') : S2 p q H H' := fun b o h n _ => s b o h n
theorem S2.snd {p q : Addr} {H H' : Hp} (s : SX q H H') : S2 p q H H' := fun b o h _ n => s b o h n
theorem S2.off {p q : Addr} {H H' : Hp} (s : S2 p q H H') : Same (off p (off q H)) (off p (off q H')) := fun b o h => by
  obtain ⟨h1, h2⟩ := off_some.mp h
  obtain ⟨h3, h4⟩ := off_some.mp h2
  exact off_some.mpr ⟨h1, off_some.mpr ⟨h3, s b o h4 h1 h3⟩⟩
/-- a store at q, seen without p -/
theorem SameT.at {H : Hp} {p q : Addr} {o o' : HO} (h : H q = some o) (ho : isTupO o = false) : SameT (off p H) (off p (L2.upd H q o')) := fun b xs z => by
  have hb : b ≠ q := fun e => by
    subst e
    rcases z with z | ⟨u, z⟩
    · rw [(off_some.mp z).2] at h
      cases h
      cases ho
    · rw [(off_some.mp z).2] at h
      cases h
      cases ho
  rcases z with z | ⟨u, z⟩
  · exact .inl (off_some.mpr ⟨(off_some.mp z).1, (upd_ne hb).trans (off_some.mp z).2⟩)
  · exact .inr ⟨u, off_some.mpr ⟨(off_some.mp z).1, (upd_ne hb).trans (off_some.mp z).2⟩⟩
theorem thgs_nol (ts : List Thg) : nolAll (ts.map Thg.enc) = true := nolAll_of fun d hd => by
  obtain ⟨u, _, rfl⟩ := List.mem_map.mp hd
  exact thg_nol u
section
variable {K : PySem.W.Frag} {H H' : Hp} {p q sp : Addr} {ts : List Thg} {rv rw : V} {r : Rule} {row : Row} {sl : List (Option Nat)} {o : HO}
theorem ThAt.mono (s : Same H H') (h : ThAt K H p ts) : ThAt K H' p ts := by
  obtain ⟨xs, h1, h2⟩ := h
  exact ⟨xs, s _ _ h1, dps_mono (SX.of s).off h2⟩
theorem ThAt.at (h : ThAt K H p ts) (n : p ≠ q) {u : HO} (hq : H q = some u) (hu : isTupO u = false) : ThAt K (upd H q o) p ts := by
  obtain ⟨xs, h1, h2⟩ := h
  exact ⟨xs, (upd_ne n).trans h1, dps_keepT (SameT.at hq hu) (thgs_nol ts) h2⟩
/-- what stands as the deed is done -/
structure DA (K : PySem.W.Frag) (H : Hp) (rv rw : V) (sp p : Addr) (r : Rule) (row : Row) (sl : List (Option Nat)) (ts : List Thg) : Prop where
  hs : H sp = some (.lst (sl.map slV))
  ht : ThAt K H p ts
  dr : Dp K (off sp (off p H)) rv r.enc
  dw : Dp K H rw row.enc
  ne : sp ≠ p
theorem DA.mono (d : DA K H rv rw sp p r row sl ts) (s : Same H H') : DA K H' rv rw sp p r row sl ts :=
  ⟨s _ _ d.hs, d.ht.mono s, dp_mono (S2.of s).off d.dr, dp_mono s d.dw, d.ne⟩
theorem DA.slots (d : DA K H rv rw sp p r row sl ts) : Dp K H (.ref sp) (.list (sl.map encO)) := .lst (SqL.of d.hs) (dps_slV sl)
theorem DA.rule (d : DA K H rv rw sp p r row sl ts) : Dp K (off p H) rv r.enc := dp_mono off_le d.dr
theorem DA.rule' (d : DA K H rv rw sp p r row sl ts) : Dp K H rv r.enc := dp_mono off_le d.rule
variable {σ : L2.St} {te ti td : TE} {D : Ends} {u : TS} {t : Thg} {j : Nat}
/-- a thing more -/
theorem q_thg (hv : σ[j]? = some (some (.ref p))) (d : DA K H rv rw sp p r row sl ts) (hg : Gd K te σ H t.enc) (hl : ts.length ≤ 100000) (k : ∀ H', SX p H H' → DA K H' rv rw sp p r row sl (ts ++ [t]) → u D σ H') : tSeq (tDrop (tBM K "list" rAppend (tVar j) (tCons te tNil))) u D σ H := by
  obtain ⟨xs, h1, h2⟩ := d.ht
  refine gd_append (K := K) hv hg (by rw [dps_len h2, List.length_map]; omega) h1 fun v H2 s2 dv => ?_
  have h1' := s2 _ _ h1
  have sx : SX p H (upd H2 p (.lst (xs ++ [v]))) := (SX.of s2).trans SX.upd
  refine k _ sx ⟨sx _ _ d.hs d.ne, ⟨_, upd_same, ?_⟩, dp_mono (S2.snd sx).off d.dr, dp_keepT (SameT.upd h1' rfl) (row_nol row) (dp_mono s2 d.dw), d.ne⟩
  rw [List.map_append]
  exact dps_snoc (dps_mono sx.off h2) (dp_keepT (SameT.offU h1' rfl) (thg_nol t) dv)
theorem l_thg (hv : σ[j]? = some (some (.ref p))) (d : DA K H rv rw sp p r row sl ts) (hg : Gd K te σ H t.enc) (hl : ts.length ≤ 100000) (k : ∀ H', SX p H H' → DA K H' rv rw sp p r row sl (ts ++ [t]) → D.nx σ H') : tDrop (tBM K "list" rAppend (tVar j) (tCons te tNil)) D σ H := q_thg (u := fun D => D.nx) hv d hg hl k
/-- a slot's store -/
theorem q_slot {s : Nat} {o : Option Nat} (h2 : σ[j]? = some (some (.ref sp))) (d : DA K H rv rw sp p r row sl ts) (gv : Gd K te σ H (encO o)) (gi : Gd K ti σ H (.int (s : Nat))) (hs : s < sl.length) (k : ∀ H', SX sp H H' → DA K H' rv rw sp p r row (sl.set s o) ts → u D σ H') :
    tSeq (tAsg te (gSub (tVar j) ti rSetL)) u D σ H := by
  refine gv H (Same.refl _) _ fun v H1 s1 dv => ⟨_, h2, gi H1 s1 _ fun i H2 s2 di => ?_⟩
  have e := slV_of dv
  have e2 := dp_int di
  subst e e2
  have s12 := s1.trans s2
  have hsp := s12 _ _ d.hs
  refine ⟨sp, sl.map slV, s, s, rfl, rfl, hsp, ixN_n (by rw [List.length_map]; exact hs), ?_⟩
  rw [← List.map_set]
  have sx : SX sp H (upd H2 sp (.lst ((sl.set s o).map slV))) := (SX.of s12).trans SX.upd
  exact k _ sx ⟨upd_same, (d.ht.mono s12).at (Ne.symm d.ne) hsp rfl, dp_mono (S2.fst sx).off d.dr, dp_keepT (SameT.upd hsp rfl) (row_nol row) (dp_mono s12 d.dw), d.ne⟩
theorem l_slot {s : Nat} {o : Option Nat} (h2 : σ[j]? = some (some (.ref sp))) (d : DA K H rv rw sp p r row sl ts) (gv : Gd K te σ H (encO o)) (gi : Gd K ti σ H (.int (s : Nat))) (hs : s < sl.length) (k : ∀ H', SX sp H H' → DA K H' rv rw sp p r row (sl.set s o) ts → D.nx σ H') :
    tAsg te (gSub (tVar j) ti rSetL) D σ H := q_slot (u := fun D => D.nx) h2 d gv gi hs k
theorem call_deed {E : XK} {Q : VK} {h R : Nat} {wd : Str} (d : DA K H rv rw sp p r row sl ts) (h0 : σ[0]? = some (some rv)) (h3 : σ[3]? = some (some (.ref p))) (gh : Gd K te σ H (.int (h : Nat))) (gw : Gd K td σ H (.str wd)) (ok : r.Ok R) (h12 : r.sides = 1 ∨ r.sides = 2)
    (hR : ∀ t ∈ ts, ∀ k, t.room = some k → k < R) (hl : ts.length ≤ 100000) (hw : wd.length ≤ 100) (k : ∀ H', SX p H H' → ThAt K H' p (ts.map (deed1 r h wd)) → Q (.bl (ts.any (brok1 r h wd))) H') :
    tCall (spDeed K) [] E (tCons (tVar 0) (tCons (tVar 3) (tCons te (tCons td tNil)))) σ H Q := by
  refine ⟨_, h0, _, h3, gh H (Same.refl _) _ fun v1 H1 s1 d1 => gw H1 s1 _ fun v2 H2 s2 d2 => ?_⟩
  have e1 := dp_int d1
  have e2 := dp_str d2
  subst e1 e2
  have d' := d.mono (s1.trans s2)
  exact ⟨rv, p, h, wd, r, R, ts, rfl, d'.ht, d'.rule, ok, h12, hR, hl, hw, fun H' sx z => k H' ((SX.of (s1.trans s2)).trans sx) z⟩
end
theorem dec_str2 {i j : Str} : decide (V.str i = V.str j) = decide (i = j) := by
  by_cases h : i = j
  · rw [h, decide_eq_true rfl, decide_eq_true rfl]
  · rw [decide_eq_false h, decide_eq_false fun e => h (by injection e)]
theorem SameT.sx {K : PySem.W.Frag} {H H' : Hp} {p : Addr} {ts : List Thg} (s : SX p H H') (h : ThAt K H p ts) : SameT H H' := fun b xs z => by
  obtain ⟨ys, h1, _⟩ := h
  have hb : b ≠ p := fun e => by
    subst e
    rcases z with z | ⟨u, z⟩
    · rw [h1] at z
      cases z
    · rw [h1] at z
      cases z
  rcases z with z | ⟨u, z⟩
  · exact .inl (s _ _ z hb)
  · exact .inr ⟨u, s _ _ z hb⟩
theorem deeds_lt {r : Rule} {R h : Nat} {w : Str} {ts : List Thg} (ok : r.Ok R) (hR : ∀ t ∈ ts, ∀ k, t.room = some k → k < R) {t : Thg} (ht : t ∈ ts.map (deed1 r h w)) : ∀ k, t.room = some k → k < R := fun k hk => by
  obtain ⟨u, hu, rfl⟩ := List.mem_map.mp ht
  cases q : u.room with
  | none =>
    unfold deed1 at hk
    rw [q] at hk
    exact nomatch (q.symm.trans hk)
  | some k0 =>
    by_cases c : u.has h = true
    · rw [deed_hit c q] at hk
      exact Rule.next_lt ok (hR u hu k0 q) hk
    · rw [deed_has (Bool.not_eq_true _ ▸ c)] at hk
      exact hR u hu k hk
/-! what is done, in plain words -/
def doneS (many : Nat) (sl : List (Option Nat)) : Row → List (Option Nat)
  | .opn _ s => sl.set s (some many)
  | .cpy _ s t => sl.set s (sl.getD t none)
  | .drp _ s => sl.set s none
  | _ => sl
def openT (r : Rule) (many : Nat) (ts : List Thg) : List Thg := if r.sides = 1 then ts ++ [Thg.mk many none (some 0)] else ts
def doneT (r : Rule) (many : Nat) (sl : List (Option Nat)) (ts : List Thg) : Row → List Thg
  | .opn _ s => (openT r many ts).map (deed1 r many "open")
  | .act _ s w => match sl.getD s none with
    | none => ts
    | some h => ts.map (deed1 r h w)
  | .tie _ s t => match sl.getD s none, sl.getD t none with
    | some h, some h' => if r.sides = 2 ∧ h ≠ h' then ts ++ [Thg.mk h (some h') (some 0)] else ts
    | _, _ => ts
  | _ => ts
def doneB (r : Rule) (many : Nat) (sl : List (Option Nat)) (ts : List Thg) : Row → Bool
  | .opn _ s => (openT r many ts).any (brok1 r many "open")
  | .act _ s w => match sl.getD s none with
    | none => false
    | some h => ts.any (brok1 r h w)
  | .fin _ => endsB r "end" (List.range many) ts
  | _ => false
def spDone (K : PySem.W.Frag) : Sp := fun vs H Q _ => ∃ rv rw sp p many r R row sl ts, vs = [rv, rw, .ref sp, .ref p, .int (many : Nat)] ∧ DA K H rv rw sp p r row sl ts ∧ r.Ok R ∧ (∀ t ∈ ts, ∀ k, t.room = some k → k < R) ∧ ts.length < 100000 ∧ many < 100000 ∧ row.Ok sl.length ∧
  ∀ H', S2 sp p H H' → H' sp = some (.lst ((doneS many sl row).map slV)) → (isFin row = false → ThAt K H' p (doneT r many sl ts row)) → Q (.bl (doneB r many sl ts row)) H'
section
variable {P : Program} {w : World} {K : PySem.W.Frag} {mg : Str → Option Value} {base : Heap}
theorem sc_law_done : FnScope ["_law_rule_here", "_law_row", "_law_slots_here", "_law_things", "_law_many", "_law_handle"] ["_law_rule_here", "_law_row", "_law_slots_here", "_law_things", "_law_many"] (defScope (top 54)) := ⟨rfl, rfl, rfl, by decide +kernel, rfl, by decide +kernel, by decide +kernel⟩
theorem kn_done (T : Tx K mg) : Kn P w K mg base 3 "_law_done" ["_law_rule_here", "_law_row", "_law_slots_here", "_law_things", "_law_many"] (spDone K) := by
  have K_law_deed := kn_deed (P := P) (w := w) (base := base) T
  refine kn_mk (T.fn2 (("_law_done" : Str), 54) (by decide +kernel)) sc_law_done (fun _ _ _ _ _ _ us hl => match us, hl with | [_, _, _, _, _], _ => rfl) (fun vs H Q E h => ?_) (fun f cdv A outer s0 H vs Q E hr h => ?_)
  · obtain ⟨_, _, _, _, _, _, _, _, _, _, rfl, _⟩ := h
    rfl
  obtain ⟨rv, rw, sp, p, many, r, R, row, sl, ts, rfl, d, ok, hR, hl, hm, ho, q⟩ := h
  refine ⟨_, (pss_cons (ps_if (pt_cmpR op_eq (pe_ix ix_seq (pv 1) (pe_int) (fun _ _ => rfl)) (pe_str) (nomark _)) (pss_one (ps_ret (pe_callB (cr_any rfl) (by rfl) (T.free "any" (by decide)) (by decide +kernel) (pa_cons (pe_lc (own := [("_law_handle", 5)]) rfl sc_law_done.nd (pi_range1 rfl (T.free "range" (by decide)) (pa_cons (pv 4) (pa_nil))) (blkOk_by (N := ["_law_rule_here", "_law_row", "_law_slots_here", "_law_things", "_law_many", "_law_handle"]) (sc := defScope (top 54)) (by decide +kernel)) (fun _ _ _ _ _ => pg_name (i := 5) sc_law_done.nd rfl (Or.inl rfl)) (fun _ _ _ _ _ => pts_nil) (fun _ _ _ _ _ => pe_kn K_law_deed (hr.mono (by decide)) rfl (pa_cons (pv 0) (pa_cons (pv 3) (pa_cons (pv 5) (pa_cons (pe_str) (pa_nil))))))) (pa_nil))))) (pss_nil)) (pss_cons (ps_if (pt_cmpR op_eq (pe_ix ix_seq (pv 1) (pe_int) (fun _ _ => rfl)) (pe_str) (nomark _)) (pss_cons (ps_asg (pv 4) (pg_sub (pv 2) (pe_ix ix_seq (pv 1) (pe_int) (fun _ _ => rfl)) set_list)) (pss_cons (ps_if (pt_cmpR op_eq (pe_ix ix_seq (pv 0) (pe_int) (fun _ _ => rfl)) (pe_int) (nomark _)) (pss_one (ps_expr (pe_bm PySem.F.plainAttrs_list PySem.F.slot_list_append PySem.F.type_list_append mt_append (pv 3) (pa_cons (pe_tup (pa_cons (pv 4) (pa_cons (pe_non) (pa_cons (pe_int) (pa_nil))))) (pa_nil))))) (pss_nil)) (pss_one (ps_ret (pe_kn K_law_deed (hr.mono (by decide)) rfl (pa_cons (pv 0) (pa_cons (pv 3) (pa_cons (pv 4) (pa_cons (pe_str) (pa_nil)))))))))) (pss_nil)) (pss_cons (ps_if (PW.pt (pw_and (pt_cmpR op_eq (pe_ix ix_seq (pv 1) (pe_int) (fun _ _ => rfl)) (pe_str) (nomark _)) (pw_and1 (pt_cmpR op_notNon (pe_ix ix_seq (pv 2) (pe_ix ix_seq (pv 1) (pe_int) (fun _ _ => rfl)) (fun _ _ => rfl)) (pe_non) (nomark _))))) (pss_one (ps_ret (pe_kn K_law_deed (hr.mono (by decide)) rfl (pa_cons (pv 0) (pa_cons (pv 3) (pa_cons (pe_ix ix_seq (pv 2) (pe_ix ix_seq (pv 1) (pe_int) (fun _ _ => rfl)) (fun _ _ => rfl)) (pa_cons (pe_ix ix_seq (pv 1) (pe_int) (fun _ _ => rfl)) (pa_nil)))))))) (pss_nil)) (pss_cons (ps_if (pt_cmpR op_in_seq (pe_ix ix_seq (pv 1) (pe_int) (fun _ _ => rfl)) (pe_tup (pa_cons (pe_str) (pa_cons (pe_str) (pa_nil)))) (by rfl)) (pss_one (ps_asg (pe_ifExp (pt_cmpR op_eq (pe_ix ix_seq (pv 1) (pe_int) (fun _ _ => rfl)) (pe_str) (nomark _)) (pe_ix ix_seq (pv 2) (pe_ix ix_seq (pv 1) (pe_int) (fun _ _ => rfl)) (fun _ _ => rfl)) (pe_non)) (pg_sub (pv 2) (pe_ix ix_seq (pv 1) (pe_int) (fun _ _ => rfl)) set_list))) (pss_nil)) (pss_cons (ps_if (PW.pt (pw_and (pt_cmpR op_eq (pe_ix ix_seq (pv 1) (pe_int) (fun _ _ => rfl)) (pe_str) (nomark _)) (pw_and (pt_cmpR op_eq (pe_ix ix_seq (pv 0) (pe_int) (fun _ _ => rfl)) (pe_int) (nomark _)) (pw_and (pt_cmpR op_notNon (pe_ix ix_seq (pv 2) (pe_ix ix_seq (pv 1) (pe_int) (fun _ _ => rfl)) (fun _ _ => rfl)) (pe_non) (nomark _)) (pw_and1 (pt_cmpR op_notNon (pe_ix ix_seq (pv 2) (pe_ix ix_seq (pv 1) (pe_int) (fun _ _ => rfl)) (fun _ _ => rfl)) (pe_non) (nomark _))))))) (pss_one (ps_if (pt_cmpR op_ne (pe_ix ix_seq (pv 2) (pe_ix ix_seq (pv 1) (pe_int) (fun _ _ => rfl)) (fun _ _ => rfl)) (pe_ix ix_seq (pv 2) (pe_ix ix_seq (pv 1) (pe_int) (fun _ _ => rfl)) (fun _ _ => rfl)) (nomark _)) (pss_one (ps_expr (pe_bm PySem.F.plainAttrs_list PySem.F.slot_list_append PySem.F.type_list_append mt_append (pv 3) (pa_cons (pe_tup (pa_cons (pe_ix ix_seq (pv 2) (pe_ix ix_seq (pv 1) (pe_int) (fun _ _ => rfl)) (fun _ _ => rfl)) (pa_cons (pe_ix ix_seq (pv 2) (pe_ix ix_seq (pv 1) (pe_int) (fun _ _ => rfl)) (fun _ _ => rfl)) (pa_cons (pe_int) (pa_nil))))) (pa_nil))))) (pss_nil))) (pss_nil)) (pss_one (ps_ret (pe_bl)))))))), ?_⟩
  have gX : ∀ {σ : L2.St} {H' : Hp}, σ[1]? = some (some rw) → Dp K H' rw row.enc → Gd K (tOp (rIx K) (tVar 1) (tC (.int 0))) σ H' (.str row.tag) := fun e dw => gd_op (gd_var e dw) gd_int (by cases row <;> exact r2_ixt rfl)
  have gG : ∀ {σ : L2.St} {H' : Hp} (x : Str), σ[1]? = some (some rw) → Dp K H' rw row.enc → Gt (tTest (tOp rEq (tOp (rIx K) (tVar 1) (tC (.int 0))) (tC (.str x)))) σ H' (decide (row.tag = x)) := fun x e dw => gt_test (gd_op (gX e dw) gd_str (r2_eq (x := .str row.tag) (y := .str x) rfl rfl rfl dec_str2))
  have gF : ∀ {σ : L2.St} {H' : Hp} (x : Str), row.tag ≠ x → σ[1]? = some (some rw) → Dp K H' rw row.enc → Gt (tTest (tOp rEq (tOp (rIx K) (tVar 1) (tC (.int 0))) (tC (.str x)))) σ H' false := fun x n e dw => gt_is (gG x e dw) (decide_eq_false n)
  have gT : ∀ {σ : L2.St} {H' : Hp} (x : Str), row.tag = x → σ[1]? = some (some rw) → Dp K H' rw row.enc → Gt (tTest (tOp rEq (tOp (rIx K) (tVar 1) (tC (.int 0))) (tC (.str x)))) σ H' true := fun x n e dw => gt_is (gG x e dw) (decide_eq_true n)
  have g4 : ∀ {σ : L2.St} {H' : Hp} (b : Bool), ([PyData.str "copy", .str "drop"].any fun x => eqF x (.str row.tag)) = b → σ[1]? = some (some rw) → Dp K H' rw row.enc → Gt (tTest (tOp (rIn K false) (tOp (rIx K) (tVar 1) (tC (.int 0))) (tTup (tCons (tC (.str "copy")) (tCons (tC (.str "drop")) tNil))))) σ H' b := fun b hb e dw => gt_test (gd_op (gX e dw) (gd_tup (ga_cons gd_str (ga_cons gd_str ga_nil)) (Nat.le_of_ble_eq_true rfl)) (r2_int rfl rfl hb))
  have gS : ∀ {σ : L2.St} {H' : Hp} (m : Nat), σ[0]? = some (some rv) → Dp K H' rv r.enc → Gt (tTest (tOp rEq (tOp (rIx K) (tVar 0) (tC (.int 0))) (tC (.int m)))) σ H' (decide (r.sides = m)) := fun m e dr => gt_test (gd_op (gd_op (d := .tuple [.int r.sides, .list (r.texts.map PyData.str), .list (r.rooms.map fun m => .list (m.map encO))]) (gd_var e dr) gd_int (r2_ixt rfl)) gd_int (r2_eq (d := .int (r.sides : Nat)) (x := V.int r.sides) (y := V.int m) rfl rfl rfl (decide_eq_decide.mpr ⟨fun e => by injection e with e; omega, fun e => by rw [e]⟩)))
  have h12 := ok.sides
  cases row with
  | fin l =>
    refine q_yes (gT "end" rfl rfl d.dw) fun H1 s1 => ?_
    have d1 := d.mono s1
    refine show tCB _ _ _ _ _ from ?_
    refine ⟨_, rfl, many, rfl, by omega, by omega, fun Dd hD => lc_range (lo := 0) (n := many) (fun i H' => ∃ (us : List Thg) (bs : List Bool), H' Dd = some (.lst (bs.map V.bl)) ∧ S2 sp p H H' ∧ DA K H' rv rw sp p r (.fin l) sl us ∧ us.length = ts.length ∧ (∀ t ∈ us, ∀ k, t.room = some k → k < R) ∧ bs.length = i ∧
      endsB r "end" (List.range many) ts = (bs.any id || endsB r "end" (List.range' i (many - i)) us)) ?_ (fun i H' hi hP => ?_) fun H' hP => ?_⟩
    · refine ⟨ts, [], upd_same, S2.of (s1.trans (same_new hD)), d1.mono (same_new hD), rfl, hR, rfl, ?_⟩
      rw [List.range_eq_range']
      rfl
    · obtain ⟨us, bs, b1, b2, b3, b4, b5, b6, b7⟩ := hP
      have nsp : Dd ≠ sp := fun e => by rw [e, d1.hs] at hD; cases hD
      have np : Dd ≠ p := fun e => by
        obtain ⟨xs, z, _⟩ := d1.ht
        rw [e, z] at hD
        cases hD
      refine ⟨rfl, iteT (B := False) ?_⟩
      refine call_deed (h := i) (wd := "end") b3 rfl rfl (gd_var rfl (by rw [Int.zero_add]; exact .int _)) gd_str ok h12 b5 (by omega) (by decide +kernel) fun H2 sx t2 => ?_
      have hd2 : H2 Dd = some (.lst (bs.map V.bl)) := sx _ _ b1 np
      refine ⟨_, hd2, small_lt (by rw [List.length_map]; omega), us.map (deed1 r i "end"), bs ++ [us.any (brok1 r i "end")], by rw [List.map_append]; exact upd_same, ?_, ?_, by rw [List.length_map]; exact b4, ?_, by rw [List.length_append, b6]; rfl, ?_⟩
      · intro b o hb n1 n2
        have n3 : b ≠ Dd := fun e => by
          rw [e] at hb
          rw [s1 _ _ hb] at hD
          cases hD
        rw [upd_ne n3]
        exact sx _ _ (b2 b o hb n1 n2) n2
      · have n1 : ∀ b o, H' b = some o → b ≠ Dd → b ≠ p → upd H2 Dd (.lst (bs.map V.bl ++ [V.bl (us.any (brok1 r i "end"))])) b = some o := fun b o hb n m => by
          rw [upd_ne n]
          exact sx _ _ hb m
        refine ⟨n1 _ _ b3.hs (Ne.symm nsp) b3.ne, t2.at (Ne.symm np) hd2 rfl, ?_, dp_keepT (SameT.upd hd2 rfl) (row_nol _) (dp_keepT (SameT.sx sx b3.ht) (row_nol _) b3.dw), b3.ne⟩
        refine dp_mono (S2.off (H := H) fun b o hb m1 m2 => ?_) d.dr
        refine n1 b o (b2 b o hb m1 m2) (fun e => ?_) m2
        rw [e] at hb
        rw [s1 _ _ hb] at hD
        cases hD
      · exact fun t ht => deeds_lt ok b5 ht
      · rw [b7, show many - i = (many - (i + 1)) + 1 by omega, List.range'_succ, List.any_append]
        show (_ || (us.any (brok1 r i "end") || endsB r "end" (List.range' (i + 1) (many - (i + 1))) (us.map (deed1 r i "end")))) = ((_ || (us.any (brok1 r i "end") || false)) || _)
        rw [Bool.or_false, Bool.or_assoc]
    · obtain ⟨us, bs, b1, b2, b3, b4, b5, b6, b7⟩ := hP
      refine ⟨Dd, bs, rfl, SqL.of b1, ?_⟩
      rw [Nat.sub_self] at b7
      have z := q H' b2 b3.hs (fun e => nomatch e)
      rw [show doneB r many sl ts (.fin l) = bs.any id by rw [← Bool.or_false (bs.any id)]; exact b7] at z
      exact z
  | opn l s =>
    refine q_no (gF "end" (show ("open" : Str) ≠ "end" by decide +kernel) rfl d.dw) fun H1 s1 => ?_
    have d1 := d.mono s1
    refine q_yes (gT "open" rfl rfl d1.dw) fun H2 s2 => ?_
    have d2 := d1.mono s2
    refine q_slot (o := some many) (s := s) rfl d2 (gd_var rfl (.int _)) (gd_op (gd_var rfl d2.dw) gd_int (r2_ixt rfl)) ho fun H3 sx3 d3 => ?_
    by_cases h1 : r.sides = 1
    · have eo : openT r many ts = ts ++ [Thg.mk many none (some 0)] := if_pos h1
      refine q_yes (gt_is (gS 1 rfl d3.rule') (decide_eq_true h1)) fun H4 s4 => ?_
      have d4 := d3.mono s4
      refine l_thg (t := Thg.mk many none (some 0)) rfl d4 (gd_tup (ga_cons (gd_var rfl (.int _)) (ga_cons gd_non (ga_cons gd_int ga_nil))) (Nat.le_of_ble_eq_true rfl)) (by omega) fun H5 sx5 d5 => ?_
      refine call_deed (h := many) (wd := "open") d5 rfl rfl (gd_var rfl (.int _)) gd_str ok h12 (fun t ht k hk => ?_) (by rw [List.length_append]; show ts.length + 1 ≤ _; omega) (by decide +kernel) fun H6 sx6 t6 => ?_
      · rcases List.mem_append.mp ht with ht | ht
        · exact hR t ht k hk
        · rw [List.mem_singleton] at ht
          subst ht
          cases hk
          exact ok.pos
      · have z := q H6 ((S2.of (s1.trans s2)).trans ((S2.fst sx3).trans ((S2.of s4).trans ((S2.snd sx5).trans (S2.snd sx6))))) (sx6 _ _ d5.hs d5.ne) (fun _ => by show ThAt K H6 p ((openT r many ts).map _); rw [eo]; exact t6)
        rw [show doneB r many sl ts (.opn l s) = (ts ++ [Thg.mk many none (some 0)]).any (brok1 r many "open") by show (openT r many ts).any _ = _; rw [eo]] at z
        exact z
    · have eo : openT r many ts = ts := if_neg h1
      refine q_no (gt_is (gS 1 rfl d3.rule') (decide_eq_false h1)) fun H4 s4 => ?_
      have d4 := d3.mono s4
      refine call_deed (h := many) (wd := "open") d4 rfl rfl (gd_var rfl (.int _)) gd_str ok h12 hR (by omega) (by decide +kernel) fun H6 sx6 t6 => ?_
      have z := q H6 ((S2.of (s1.trans s2)).trans ((S2.fst sx3).trans ((S2.of s4).trans (S2.snd sx6)))) (sx6 _ _ d4.hs d4.ne) (fun _ => by show ThAt K H6 p ((openT r many ts).map _); rw [eo]; exact t6)
      rw [show doneB r many sl ts (.opn l s) = ts.any (brok1 r many "open") by show (openT r many ts).any _ = _; rw [eo]] at z
      exact z
  | act l s wd =>
    obtain ⟨hs, hwd⟩ := ho
    refine q_no (gF "end" (show ("do" : Str) ≠ "end" by decide +kernel) rfl d.dw) fun H1 s1 => ?_
    have d1 := d.mono s1
    refine q_no (gF "open" (show ("do" : Str) ≠ "open" by decide +kernel) rfl d1.dw) fun H2 s2 => ?_
    have d2 := d1.mono s2
    have hsl : sl[s]? = some sl[s] := List.getElem?_eq_getElem hs
    have eg : sl.getD s none = sl[s] := by rw [List.getD_eq_getElem?_getD, hsl]; rfl
    have gv : ∀ {σ : L2.St} {H' : Hp}, σ[1]? = some (some rw) → σ[2]? = some (some (.ref sp)) → DA K H' rv rw sp p r (.act l s wd) sl ts → Gd K (tOp (rIx K) (tVar 2) (tOp (rIx K) (tVar 1) (tC (.int 2)))) σ H' (encO sl[s]) := fun a b d => gd_op (gd_var b d.slots) (gd_op (gd_var a d.dw) gd_int (r2_ixt rfl)) (r2_ixl (at_map hsl))
    cases e : sl[s] with
    | some h =>
      rw [e] at eg gv
      refine q_yes (gt_andT (gT "do" rfl rfl d2.dw) (gt_test (K := K) (gd_op (gv rfl rfl d2) gd_non (r2_notN rfl)))) fun H3 s3 => ?_
      have d3 := d2.mono s3
      refine call_deed (h := h) (wd := wd) d3 rfl rfl (gv rfl rfl d3) (gd_op (gd_var rfl d3.dw) gd_int (r2_ixt rfl)) ok h12 hR (by omega) hwd fun H6 sx6 t6 => ?_
      have z := q H6 ((S2.of ((s1.trans s2).trans s3)).trans (S2.snd sx6)) (sx6 _ _ d3.hs d3.ne) (fun _ => by
        show ThAt K H6 p (match sl.getD s none with
          | none => ts
          | some h => ts.map (deed1 r h wd))
        rw [eg]
        exact t6)
      rw [show doneB r many sl ts (.act l s wd) = ts.any (brok1 r h wd) by
        show (match sl.getD s none with
          | none => false
          | some h => ts.any (brok1 r h wd)) = _
        rw [eg]] at z
      exact z
    | none =>
      rw [e] at eg gv
      refine q_no (gt_andT (gT "do" rfl rfl d2.dw) (gt_test (K := K) (gd_op (gv rfl rfl d2) gd_non (r2_notN rfl)))) fun H3 s3 => ?_
      have d3 := d2.mono s3
      refine q_no (g4 false (show ([PyData.str "copy", .str "drop"].any fun x => eqF x (.str "do")) = false by decide +kernel) rfl d3.dw) fun H4 s4 => ?_
      have d4 := d3.mono s4
      refine q_no (gt_andF (gF "tie" (show ("do" : Str) ≠ "tie" by decide +kernel) rfl d4.dw)) fun H5 s5 => ?_
      have d5 := d4.mono s5
      refine l_ret (K := K) gd_bl fun v H6 s6 d6 => ?_
      have e6 := dp_bl d6
      subst e6
      have d6 := d5.mono s6
      have z := q H6 (S2.of (((((s1.trans s2).trans s3).trans s4).trans s5).trans s6)) d6.hs (fun _ => by
        show ThAt K H6 p (match sl.getD s none with
          | none => ts
          | some h => ts.map (deed1 r h wd))
        rw [eg]
        exact d6.ht)
      rw [show doneB r many sl ts (.act l s wd) = false by
        show (match sl.getD s none with
          | none => false
          | some h => ts.any (brok1 r h wd)) = _
        rw [eg]] at z
      exact z
  | cpy l s t =>
    obtain ⟨hs, ht⟩ := ho
    refine q_no (gF "end" (show ("copy" : Str) ≠ "end" by decide +kernel) rfl d.dw) fun H1 s1 => ?_
    have d1 := d.mono s1
    refine q_no (gF "open" (show ("copy" : Str) ≠ "open" by decide +kernel) rfl d1.dw) fun H2 s2 => ?_
    have d2 := d1.mono s2
    refine q_no (gt_andF (gF "do" (show ("copy" : Str) ≠ "do" by decide +kernel) rfl d2.dw)) fun H3 s3 => ?_
    have d3 := d2.mono s3
    refine q_yes (g4 true (show ([PyData.str "copy", .str "drop"].any fun x => eqF x (.str "copy")) = true by decide +kernel) rfl d3.dw) fun H4 s4 => ?_
    have d4 := d3.mono s4
    have htl : sl[t]? = some sl[t] := List.getElem?_eq_getElem ht
    have eg : sl.getD t none = sl[t] := by rw [List.getD_eq_getElem?_getD, htl]; rfl
    refine l_slot (o := sl[t]) (s := s) rfl d4 (gd_if (gT "copy" rfl rfl d4.dw) (fun _ => gd_op (gd_var rfl d4.slots) (gd_op (gd_var rfl d4.dw) gd_int (r2_ixt rfl)) (r2_ixl (at_map htl))) fun z => (by cases z)) (gd_op (gd_var rfl d4.dw) gd_int (r2_ixt rfl)) hs fun H5 sx5 d5 => ?_
    refine q_no (gt_andF (gF "tie" (show ("copy" : Str) ≠ "tie" by decide +kernel) rfl d5.dw)) fun H6 s6 => ?_
    have d6 := d5.mono s6
    refine l_ret (K := K) gd_bl fun v H7 s7 e7 => ?_
    have e7 := dp_bl e7
    subst e7
    have d7 := d6.mono s7
    exact q H7 ((S2.of (((s1.trans s2).trans s3).trans s4)).trans ((S2.fst sx5).trans (S2.of (s6.trans s7)))) (by show _ = some (HO.lst ((sl.set s (sl.getD t none)).map slV)); rw [eg]; exact d7.hs) fun _ => d7.ht
  | drp l s =>
    refine q_no (gF "end" (show ("drop" : Str) ≠ "end" by decide +kernel) rfl d.dw) fun H1 s1 => ?_
    have d1 := d.mono s1
    refine q_no (gF "open" (show ("drop" : Str) ≠ "open" by decide +kernel) rfl d1.dw) fun H2 s2 => ?_
    have d2 := d1.mono s2
    refine q_no (gt_andF (gF "do" (show ("drop" : Str) ≠ "do" by decide +kernel) rfl d2.dw)) fun H3 s3 => ?_
    have d3 := d2.mono s3
    refine q_yes (g4 true (show ([PyData.str "copy", .str "drop"].any fun x => eqF x (.str "drop")) = true by decide +kernel) rfl d3.dw) fun H4 s4 => ?_
    have d4 := d3.mono s4
    refine l_slot (o := none) (s := s) rfl d4 (gd_if (gF "copy" (show ("drop" : Str) ≠ "copy" by decide +kernel) rfl d4.dw) (fun z => (by cases z)) fun _ => gd_non) (gd_op (gd_var rfl d4.dw) gd_int (r2_ixt rfl)) ho fun H5 sx5 d5 => ?_
    refine q_no (gt_andF (gF "tie" (show ("drop" : Str) ≠ "tie" by decide +kernel) rfl d5.dw)) fun H6 s6 => ?_
    have d6 := d5.mono s6
    refine l_ret (K := K) gd_bl fun v H7 s7 e7 => ?_
    have e7 := dp_bl e7
    subst e7
    have d7 := d6.mono s7
    exact q H7 ((S2.of (((s1.trans s2).trans s3).trans s4)).trans ((S2.fst sx5).trans (S2.of (s6.trans s7)))) d7.hs fun _ => d7.ht
  | tie l s t =>
    obtain ⟨hs, ht⟩ := ho
    refine q_no (gF "end" (show ("tie" : Str) ≠ "end" by decide +kernel) rfl d.dw) fun H1 s1 => ?_
    have d1 := d.mono s1
    refine q_no (gF "open" (show ("tie" : Str) ≠ "open" by decide +kernel) rfl d1.dw) fun H2 s2 => ?_
    have d2 := d1.mono s2
    refine q_no (gt_andF (gF "do" (show ("tie" : Str) ≠ "do" by decide +kernel) rfl d2.dw)) fun H3 s3 => ?_
    have d3 := d2.mono s3
    refine q_no (g4 false (show ([PyData.str "copy", .str "drop"].any fun x => eqF x (.str "tie")) = false by decide +kernel) rfl d3.dw) fun H4 s4 => ?_
    have d4 := d3.mono s4
    have s04 := ((s1.trans s2).trans s3).trans s4
    have hsl : sl[s]? = some sl[s] := List.getElem?_eq_getElem hs
    have htl : sl[t]? = some sl[t] := List.getElem?_eq_getElem ht
    have eg : sl.getD s none = sl[s] := by rw [List.getD_eq_getElem?_getD, hsl]; rfl
    have eh : sl.getD t none = sl[t] := by rw [List.getD_eq_getElem?_getD, htl]; rfl
    generalize sl[s] = o1 at hsl eg
    generalize sl[t] = o2 at htl eh
    have gv : ∀ {σ : L2.St} {H' : Hp}, σ[1]? = some (some rw) → σ[2]? = some (some (.ref sp)) → DA K H' rv rw sp p r (.tie l s t) sl ts → Gd K (tOp (rIx K) (tVar 2) (tOp (rIx K) (tVar 1) (tC (.int 2)))) σ H' (encO o1) := fun a b d => gd_op (gd_var b d.slots) (gd_op (gd_var a d.dw) gd_int (r2_ixt rfl)) (r2_ixl (at_map hsl))
    have gw : ∀ {σ : L2.St} {H' : Hp}, σ[1]? = some (some rw) → σ[2]? = some (some (.ref sp)) → DA K H' rv rw sp p r (.tie l s t) sl ts → Gd K (tOp (rIx K) (tVar 2) (tOp (rIx K) (tVar 1) (tC (.int 3)))) σ H' (encO o2) := fun a b d => gd_op (gd_var b d.slots) (gd_op (gd_var a d.dw) gd_int (r2_ixt rfl)) (r2_ixl (at_map htl))
    have nn : ∀ o : Option Nat, (!isNoneD (encO o)) = o.isSome := fun o => by cases o <;> rfl
    refine q_if0 (a := decide (r.sides = 2) && (o1.isSome && o2.isSome)) (gt_andT (gT "tie" rfl rfl d4.dw) (gt_and (gS 2 rfl d4.rule') fun _ => gt_and (gt_test (K := K) (gd_op (gv rfl rfl d4) gd_non (r2_notN (nn _)))) fun _ => gt_test (K := K) (gd_op (gw rfl rfl d4) gd_non (r2_notN (nn _))))) (fun c H5 s5 => ?_) fun c H5 s5 => ?_
    · have d5 := d4.mono s5
      obtain ⟨c1, c2⟩ := Bool.and_eq_true_iff.mp c
      obtain ⟨c2, c3⟩ := Bool.and_eq_true_iff.mp c2
      obtain ⟨h, rfl⟩ := Option.isSome_iff_exists.mp c2
      obtain ⟨h', rfl⟩ := Option.isSome_iff_exists.mp c3
      have c1 := of_decide_eq_true c1
      refine l_if (a := !decide (h = h')) (gt_test (K := K) (gd_op (d := encO (some h)) (e := encO (some h')) (gv rfl rfl d5) (gw rfl rfl d5) (r2_ne (x := V.int h) (y := V.int h') rfl rfl rfl (congrArg _ (decide_eq_decide.mpr ⟨fun e => by injection e with e; omega, fun e => by rw [e]⟩))))) (fun c4 H6 s6 => ?_) fun c4 H6 s6 => ?_
      · have hne : h ≠ h' := fun e => by rw [decide_eq_true e] at c4; cases c4
        have d6 := d5.mono s6
        refine l_thg (t := Thg.mk h (some h') (some 0)) rfl d6 (gd_tup (ga_cons (gv rfl rfl d6) (ga_cons (gw rfl rfl d6) (ga_cons gd_int ga_nil))) (Nat.le_of_ble_eq_true rfl)) (by omega) fun H7 sx7 d7 => ?_
        show tRet (tC (.bl false)) { nx := fun x H' => Q V.non H', rt := Q } [] _
        refine l_ret (K := K) gd_bl fun v H8 s8 e8 => ?_
        have e8 := dp_bl e8
        subst e8
        have d8 := d7.mono s8
        refine q H8 ((S2.of ((s04.trans s5).trans s6)).trans ((S2.snd sx7).trans (S2.of s8))) d8.hs fun _ => ?_
        show ThAt K H8 p (match sl.getD s none, sl.getD t none with
          | some h, some h' => if r.sides = 2 ∧ h ≠ h' then ts ++ [Thg.mk h (some h') (some 0)] else ts
          | _, _ => ts)
        rw [eg, eh]
        show ThAt K H8 p (if r.sides = 2 ∧ h ≠ h' then _ else _)
        rw [if_pos ⟨c1, hne⟩]
        exact d8.ht
      · have heq : h = h' := by
          by_cases e : h = h'
          · exact e
          · rw [decide_eq_false e] at c4
            cases c4
        have d6 := d5.mono s6
        show tRet (tC (.bl false)) { nx := fun x H' => Q V.non H', rt := Q } [] _
        refine l_ret (K := K) gd_bl fun v H8 s8 e8 => ?_
        have e8 := dp_bl e8
        subst e8
        have d8 := d6.mono s8
        refine q H8 (S2.of (((s04.trans s5).trans s6).trans s8)) d8.hs fun _ => ?_
        show ThAt K H8 p (match sl.getD s none, sl.getD t none with
          | some h, some h' => if r.sides = 2 ∧ h ≠ h' then ts ++ [Thg.mk h (some h') (some 0)] else ts
          | _, _ => ts)
        rw [eg, eh]
        show ThAt K H8 p (if r.sides = 2 ∧ h ≠ h' then _ else _)
        rw [if_neg fun e => e.2 heq]
        exact d8.ht
    · have d5 := d4.mono s5
      refine l_ret (K := K) gd_bl fun v H8 s8 e8 => ?_
      have e8 := dp_bl e8
      subst e8
      have d8 := d5.mono s8
      refine q H8 (S2.of ((s04.trans s5).trans s8)) d8.hs fun _ => ?_
      have et : doneT r many sl ts (.tie l s t) = ts := by
        show (match sl.getD s none, sl.getD t none with
          | some h, some h' => if r.sides = 2 ∧ h ≠ h' then ts ++ [Thg.mk h (some h') (some 0)] else ts
          | _, _ => ts) = _
        rw [eg, eh]
        cases o1 with
        | none => rfl
        | some h =>
          cases o2 with
          | none => rfl
          | some h' =>
            show (if r.sides = 2 ∧ h ≠ h' then _ else _) = _
            refine if_neg fun e => ?_
            rw [decide_eq_true e.1] at c
            cases c
      rw [et]
      exact d8.ht
  | tst l n to =>
    refine q_no (gF "end" (show ("test" : Str) ≠ "end" by decide +kernel) rfl d.dw) fun H1 s1 => ?_
    have d1 := d.mono s1
    refine q_no (gF "open" (show ("test" : Str) ≠ "open" by decide +kernel) rfl d1.dw) fun H2 s2 => ?_
    have d2 := d1.mono s2
    refine q_no (gt_andF (gF "do" (show ("test" : Str) ≠ "do" by decide +kernel) rfl d2.dw)) fun H3 s3 => ?_
    have d3 := d2.mono s3
    refine q_no (g4 false (show ([PyData.str "copy", .str "drop"].any fun x => eqF x (.str "test")) = false by decide +kernel) rfl d3.dw) fun H4 s4 => ?_
    have d4 := d3.mono s4
    refine q_no (gt_andF (gF "tie" (show ("test" : Str) ≠ "tie" by decide +kernel) rfl d4.dw)) fun H5 s5 => ?_
    have d5 := d4.mono s5
    refine l_ret (K := K) gd_bl fun v H8 s8 e8 => ?_
    have e8 := dp_bl e8
    subst e8
    have d8 := d5.mono s8
    exact q H8 (S2.of (((((s1.trans s2).trans s3).trans s4).trans s5).trans s8)) d8.hs fun _ => d8.ht
  | jmp l to =>
    refine q_no (gF "end" (show ("jump" : Str) ≠ "end" by decide +kernel) rfl d.dw) fun H1 s1 => ?_
    have d1 := d.mono s1
    refine q_no (gF "open" (show ("jump" : Str) ≠ "open" by decide +kernel) rfl d1.dw) fun H2 s2 => ?_
    have d2 := d1.mono s2
    refine q_no (gt_andF (gF "do" (show ("jump" : Str) ≠ "do" by decide +kernel) rfl d2.dw)) fun H3 s3 => ?_
    have d3 := d2.mono s3
    refine q_no (g4 false (show ([PyData.str "copy", .str "drop"].any fun x => eqF x (.str "jump")) = false by decide +kernel) rfl d3.dw) fun H4 s4 => ?_
    have d4 := d3.mono s4
    refine q_no (gt_andF (gF "tie" (show ("jump" : Str) ≠ "tie" by decide +kernel) rfl d4.dw)) fun H5 s5 => ?_
    have d5 := d4.mono s5
    refine l_ret (K := K) gd_bl fun v H8 s8 e8 => ?_
    have e8 := dp_bl e8
    subst e8
    have d8 := d5.mono s8
    exact q H8 (S2.of (((((s1.trans s2).trans s3).trans s4).trans s5).trans s8)) d8.hs fun _ => d8.ht
end
end Uw
/-! text T32 -/
namespace Uw
open PySem PySem.Spec PyProof.Rows L2
/-! _law_broken -/
def opens : Row → Nat
  | .opn _ _ => 1
  | _ => 0
section
variable {r : Rule} {code : List Row} {paper : List (List Tok)} {M i to many : Nat} {sl : List (Option Nat)} {ts : List Thg} {row : Row}
theorem getD_at {s : Nat} (h : s < sl.length) : sl.getD s none = sl[s] := by rw [List.getD_eq_getElem?_getD, List.getElem?_eq_getElem h]; rfl
theorem new_has (S : Sim r paper M i sl ts many) (h12 : r.sides = 1 ∨ r.sides = 2) : ∀ t ∈ ts, t.has many = false := fun t ht => by
  unfold Thg.has
  rcases h12 with h | h
  · obtain ⟨a, b, _⟩ := S.one h t ht
    rw [a]
    have : many ≠ t.one := by omega
    simp [this]
  · obtain ⟨h', a, b, c, _⟩ := S.tyd h t ht
    rw [a]
    have n1 : many ≠ t.one := by omega
    have n2 : many ≠ h' := by omega
    simp [n1, n2]
theorem map_has {w : Str} {h : Nat} : ∀ {ts : List Thg}, (∀ t ∈ ts, t.has h = false) → ts.map (deed1 r h w) = ts ∧ ts.any (brok1 r h w) = false
  | [], _ => ⟨rfl, rfl⟩
  | t :: ts, e => by
    obtain ⟨a, b⟩ := map_has (w := w) (ts := ts) fun x hx => e x (List.mem_cons_of_mem _ hx)
    have z := deed_has (r := r) (w := w) (e t List.mem_cons_self)
    refine ⟨by rw [List.map_cons, z, a], ?_⟩
    rw [List.any_cons, b, Bool.or_false]
    unfold brok1
    rw [z]
    cases t.room <;> rfl
theorem open_one (S : Sim r paper M i sl ts many) (h1 : r.sides = 1) : (openT r many ts).map (deed1 r many "open") = ts ++ [Thg.mk many none (r.next 0 "open")] ∧ (openT r many ts).any (brok1 r many "open") = (r.next 0 "open").isNone := by
  have eo : openT r many ts = ts ++ [Thg.mk many none (some 0)] := if_pos h1
  obtain ⟨a, b⟩ := map_has (r := r) (w := "open") (new_has S (.inl h1))
  have hh : (Thg.mk many none (some 0)).has many = true := by unfold Thg.has; simp
  have z : deed1 r many "open" (Thg.mk many none (some 0)) = Thg.mk many none (r.next 0 "open") := by
    rw [deed_hit (k := 0) hh rfl, show txt r many "open" (Thg.mk many none (some 0)) = "open" from if_pos h1]
  rw [eo, List.map_append, a, List.any_append, b, Bool.false_or]
  refine ⟨by rw [List.map_cons, z]; rfl, ?_⟩
  rw [List.any_cons, List.any_nil, Bool.or_false]
  unfold brok1
  rw [z]
  rfl
theorem Sim.done (h12 : r.sides = 1 ∨ r.sides = 2) (S : Sim r paper M i sl ts many) (cl : Closed r code paper) (hl : paper.length = code.length) (hr : code[i]? = some row) (ho : row.Ok sl.length) (hto : to ∈ after i row) :
    Sim r paper M to (doneS many sl row) (doneT r many sl ts row) (many + opens row) := by
  cases row with
  | fin l => cases hto
  | opn l s =>
    have e : to = i + 1 := List.mem_singleton.mp hto
    subst e
    rcases h12 with h | h
    · have z := (S.opn1 (o := r.next 0 "open") cl hl hr ho h rfl).1
      show Sim r paper M (i + 1) (sl.set s (some many)) ((openT r many ts).map _) (many + 1)
      rw [(open_one S h).1]
      exact z
    · have eo : openT r many ts = ts := if_neg (by omega)
      show Sim r paper M (i + 1) (sl.set s (some many)) ((openT r many ts).map _) (many + 1)
      rw [eo, (map_has (new_has S (.inr h))).1]
      exact S.opn2 cl hl hr ho h
  | act l s w =>
    have e : to = i + 1 := List.mem_singleton.mp hto
    subst e
    have hs := ho.1
    show Sim r paper M (i + 1) sl (match sl.getD s none with
      | none => ts
      | some h => ts.map (deed1 r h w)) many
    rw [getD_at hs]
    cases q : sl[s] with
    | none => exact S.actN cl hr (by rw [List.getElem?_eq_getElem hs, q])
    | some h => exact (S.act h12 cl hr (by rw [List.getElem?_eq_getElem hs, q])).1
  | cpy l s t =>
    have e : to = i + 1 := List.mem_singleton.mp hto
    subst e
    show Sim r paper M (i + 1) (sl.set s (sl.getD t none)) ts many
    rw [getD_at ho.2]
    exact S.cpy cl hr ho.1 ho.2
  | drp l s =>
    have e : to = i + 1 := List.mem_singleton.mp hto
    subst e
    exact S.drp cl hr ho
  | tie l s t =>
    have e : to = i + 1 := List.mem_singleton.mp hto
    subst e
    show Sim r paper M (i + 1) sl (match sl.getD s none, sl.getD t none with
      | some h, some h' => if r.sides = 2 ∧ h ≠ h' then ts ++ [Thg.mk h (some h') (some 0)] else ts
      | _, _ => ts) many
    have hs := ho.1
    have ht := ho.2
    rw [getD_at hs, getD_at ht]
    cases q : sl[s] with
    | none => exact S.tie0 cl hr
    | some h =>
      cases q' : sl[t] with
      | none => exact S.tie0 cl hr
      | some h' =>
        show Sim r paper M (i + 1) sl (if r.sides = 2 ∧ h ≠ h' then ts ++ [Thg.mk h (some h') (some 0)] else ts) many
        by_cases c : r.sides = 2 ∧ h ≠ h'
        · rw [if_pos c]
          exact S.tie cl hr c.1 (by rw [List.getElem?_eq_getElem ho.1, q]) (by rw [List.getElem?_eq_getElem ho.2, q']) c.2
        · rw [if_neg c]
          exact S.tie0 cl hr
  | tst l n j =>
    rcases List.mem_cons.mp hto with e | e
    · subst e
      exact S.tst1 cl hr
    · have e := List.mem_singleton.mp e
      subst e
      exact S.tst2 cl hr
  | jmp l j =>
    have e := List.mem_singleton.mp hto
    subst e
    exact S.jmp cl hr
theorem Sim.doneB (h12 : r.sides = 1 ∨ r.sides = 2) (S : Sim r paper M i sl ts many) (cl : Closed r code paper) (hl : paper.length = code.length) (hr : code[i]? = some row) (ho : row.Ok sl.length) (hb : doneB r many sl ts row = true) : brk r code paper i = true := by
  cases row with
  | fin l => exact S.fin h12 hr hb
  | opn l s =>
    have hb : (openT r many ts).any (brok1 r many "open") = true := hb
    rcases h12 with h | h
    · rw [(open_one S h).2] at hb
      exact (S.opn1 (o := r.next 0 "open") cl hl hr ho h rfl).2 (Option.isNone_iff_eq_none.mp hb)
    · have eo : openT r many ts = ts := if_neg (by omega)
      rw [eo, (map_has (new_has S (.inr h))).2] at hb
      cases hb
  | act l s w =>
    have hs := ho.1
    have hb : (match sl.getD s none with
      | none => false
      | some h => ts.any (brok1 r h w)) = true := hb
    rw [getD_at hs] at hb
    cases q : sl[s] with
    | none =>
      rw [q] at hb
      cases hb
    | some h =>
      rw [q] at hb
      exact (S.act h12 cl hr (by rw [List.getElem?_eq_getElem hs, q])).2 hb
  | _ => cases hb
theorem done_len : (doneT r many sl ts row).length ≤ ts.length + 1 := by
  cases row with
  | opn l s =>
    show ((openT r many ts).map _).length ≤ _
    rw [List.length_map]
    unfold openT
    split
    · rw [List.length_append]
      exact Nat.le_refl _
    · omega
  | act l s w =>
    show (match sl.getD s none with
      | none => ts
      | some h => ts.map (deed1 r h w)).length ≤ _
    cases sl.getD s none with
    | none => exact Nat.le_succ _
    | some h =>
      show (ts.map (deed1 r h w)).length ≤ _
      rw [List.length_map]
      exact Nat.le_succ _
  | tie l s t =>
    show (match sl.getD s none, sl.getD t none with
      | some h, some h' => if r.sides = 2 ∧ h ≠ h' then ts ++ [Thg.mk h (some h') (some 0)] else ts
      | _, _ => ts).length ≤ _
    cases sl.getD s none with
    | none => exact Nat.le_succ _
    | some h =>
      cases sl.getD t none with
      | none => exact Nat.le_succ _
      | some h' =>
        show (if r.sides = 2 ∧ h ≠ h' then ts ++ [Thg.mk h (some h') (some 0)] else ts : List Thg).length ≤ _
        split
        · rw [List.length_append]
          exact Nat.le_refl _
        · exact Nat.le_succ _
  | _ => exact Nat.le_succ _
theorem done_lt {R : Nat} (ok : r.Ok R) (hR : ∀ t ∈ ts, ∀ k, t.room = some k → k < R) : ∀ t ∈ doneT r many sl ts row, ∀ k, t.room = some k → k < R := by
  have h0 : ∀ (x : Thg), x.room = some 0 → ∀ t ∈ ts ++ [x], ∀ k, t.room = some k → k < R := fun x hx t ht k hk => by
    rcases List.mem_append.mp ht with ht | ht
    · exact hR t ht k hk
    · rw [List.mem_singleton.mp ht, hx] at hk
      cases hk
      exact ok.pos
  cases row with
  | opn l s =>
    show ∀ t ∈ (openT r many ts).map _, _
    refine fun t ht => deeds_lt (ts := openT r many ts) ok ?_ ht
    unfold openT
    split
    · exact h0 _ rfl
    · exact hR
  | act l s w =>
    show ∀ t ∈ (match sl.getD s none with
      | none => ts
      | some h => ts.map (deed1 r h w)), _
    cases sl.getD s none with
    | none => exact hR
    | some h => exact fun t ht => deeds_lt ok hR ht
  | tie l s s' =>
    show ∀ t ∈ (match sl.getD s none, sl.getD s' none with
      | some h, some h' => if r.sides = 2 ∧ h ≠ h' then ts ++ [Thg.mk h (some h') (some 0)] else ts
      | _, _ => ts), _
    cases sl.getD s none with
    | none => exact hR
    | some h =>
      cases sl.getD s' none with
      | none => exact hR
      | some h' =>
        show ∀ t ∈ (if r.sides = 2 ∧ h ≠ h' then ts ++ [Thg.mk h (some h') (some 0)] else ts : List Thg), _
        split
        · exact h0 _ rfl
        · exact hR
  | _ => exact hR
theorem done_sl : (doneS many sl row).length = sl.length := by
  cases row <;> first | rfl | exact List.length_set
end
end Uw
/-! text T33 -/
namespace Uw
open PySem PySem.Spec PyProof.Rows L2
/-! _law_broken: the walk -/
theorem if_mid {b : Bool} {A : Prop} {N : Hp → Prop} {H3 : Hp} (J : Hp → Prop) (h3 : ∀ H', J H' → N H') (ht : b = true → (∀ H', J H' → N H') → A) (hf : b = false → J H3) : if b = true then A else N H3 := by
  cases b with
  | true => exact ht rfl h3
  | false => exact h3 _ (hf rfl)
theorem off2_new {H0 H' : Hp} {p q : Addr} (s : Same H0 H') (hp : H0 p = none) (hq : H0 q = none) : Same H0 (off p (off q H')) := fun b o h =>
  off_some.mpr ⟨fun e => (by rw [e, hp] at h; cases h), off_some.mpr ⟨fun e => (by rw [e, hq] at h; cases h), s _ _ h⟩⟩
theorem off1_new {H0 H' : Hp} {p : Addr} (s : Same H0 H') (hp : H0 p = none) : Same H0 (off p H') := fun b o h =>
  off_some.mpr ⟨fun e => (by rw [e, hp] at h; cases h), s _ _ h⟩
/-- the run's lists -/
structure BA (K : PySem.W.Frag) (H0 H : Hp) (sp p bp : Addr) (sl : List (Option Nat)) (ts : List Thg) (L : List Nat) : Prop where
  same : Same H0 H
  hs : H sp = some (.lst (sl.map slV))
  ht : ThAt K H p ts
  hb : H bp = some (.lst (L.map fun a : Nat => V.int a))
theorem BA.mono {K : PySem.W.Frag} {H0 H H' : Hp} {sp p bp : Addr} {sl : List (Option Nat)} {ts : List Thg} {L : List Nat} (b : BA K H0 H sp p bp sl ts L) (s : Same H H') : BA K H0 H' sp p bp sl ts L := ⟨b.same.trans s, s _ _ b.hs, b.ht.mono s, s _ _ b.hb⟩
theorem dps_nats {K : PySem.W.Frag} {H : Hp} : ∀ (L : List Nat), DpAll K H (L.map fun a : Nat => V.int a) (L.map fun a : Nat => PyData.int a)
  | [] => .nil
  | a :: r => .cons (.int _) (dps_nats r)
theorem rc_min2 {K : PySem.W.Frag} {H : Hp} {i j : Int} : RdC K (fun xs H Q => ∃ i j, xs = [V.int i, V.int j] ∧ Q (.int (if j < i then j else i)) H) [.int i, .int j] H (.int (if j < i then j else i)) := fun H1 _ vs dv Q q => by
  obtain _ | ⟨h1, _ | ⟨h2, _ | _⟩⟩ := dv
  rw [dp_int h1, dp_int h2]
  exact ⟨i, j, rfl, q _ H1 (Same.refl _) (.int _)⟩
theorem tag_opens (row : Row) : (if decide (V.str row.tag = V.str "open") = true then (1 : Int) else 0) = (opens row : Nat) := by cases row <;> rfl
section
variable {P : Program} {w : World} {K : PySem.W.Frag} {mg : Str → Option Value} {base : Heap}
def R_broken (ds : List PyData) (Z : PyData → Prop) : Prop := ∃ (code : List Row) (r : Rule) (R S : Nat) (paper : List (List Tok)) (ins : List Int), r.Ok R ∧ Wf code ∧ (∀ row ∈ code, row.Ok S) ∧ S ≤ 1000 ∧ code.length ≤ 200 ∧ ins.length ≤ 10 ∧ paper.length = code.length ∧ Closed r code paper ∧
  ds = [encCode code, r.enc, .list (ins.map PyData.int)] ∧ Z = fun d => ∃ L : List Nat, d = .list (L.map fun a : Nat => PyData.int a) ∧ L.length ≤ 3000 ∧ ∀ a ∈ L, a < code.length ∧ brk r code paper a = true
theorem sc_law_broken : FnScope ["_law_code_here", "_law_rule_here", "_law_inputs_here", "_law_slots_here", "_law_k", "_law_things", "_law_many", "_law_broken_here", "_law_at", "_law_used", "_law_count", "_law_row"] ["_law_code_here", "_law_rule_here", "_law_inputs_here"] (defScope (top 55)) := ⟨rfl, rfl, rfl, by decide +kernel, rfl, by decide +kernel, by decide +kernel⟩
theorem kn_broken (T : Tx K mg) : Kn P w K mg base 4 "_law_broken" ["_law_code_here", "_law_rule_here", "_law_inputs_here"] (spN K R_broken) := by
  have K_law_slots := kn_slots (P := P) (w := w) (base := base) T
  have K_law_done := kn_done (P := P) (w := w) (base := base) T
  refine kn_N (T.fn2 (("_law_broken" : Str), 55) (by decide +kernel)) sc_law_broken (fun _ _ _ _ _ _ us hl => match us, hl with | [_, _, _], _ => rfl) (fun ds d h => ?_) (fun f cdv A outer s0 H vs E ds Z hr hv h => ?_)
  · obtain ⟨_, _, _, _, _, _, _, _, _, _, _, _, _, _, rfl, _⟩ := h
    rfl
  obtain ⟨code, r, R, S, paper, ins, ok, wf, hrows, hS, hcl, hil, hpl, cl, rfl, rfl⟩ := h
  obtain _ | ⟨h1, _ | ⟨h2, _ | ⟨h3, _ | _⟩⟩⟩ := hv
  rename_i v0 v1 v2
  have h12 := ok.sides
  have hne : 0 < code.length := List.length_pos_iff.mpr wf.ne
  refine ⟨_, (pss_cons (ps_setLc (i := 3) (own := [("_law_k", 4)]) rfl sc_law_broken.nd rfl rfl (sw_true rfl rfl rfl (by decide +kernel)) (pi_range1 rfl (T.free "range" (by decide)) (pa_cons (pe_kn K_law_slots (hr.mono (by decide)) rfl (pa_cons (pv 0) (pa_nil))) (pa_nil))) (blkOk_by (N := ["_law_code_here", "_law_rule_here", "_law_inputs_here", "_law_slots_here", "_law_k", "_law_things", "_law_many", "_law_broken_here", "_law_at", "_law_used", "_law_count", "_law_row"]) (sc := defScope (top 55)) (by decide +kernel)) (fun _ _ _ _ _ => pg_name (i := 4) sc_law_broken.nd rfl (Or.inl rfl)) (fun _ _ _ _ _ => pts_nil) (fun _ _ _ _ _ => pe_non)) (pss_cons (ps_set (i := 5) sc_law_broken.nd rfl (Or.inl rfl) (pe_lst (pa_nil))) (pss_cons (ps_set (i := 6) sc_law_broken.nd rfl (Or.inl rfl) (pe_int)) (pss_cons (ps_set (i := 7) sc_law_broken.nd rfl (Or.inl rfl) (pe_lst (pa_nil))) (pss_cons (ps_set (i := 8) sc_law_broken.nd rfl (Or.inl rfl) (pe_int)) (pss_cons (ps_set (i := 9) sc_law_broken.nd rfl (Or.inl rfl) (pe_int)) (pss_cons (ps_for PassesOwn.never rfl (pi_range1 rfl (T.free "range" (by decide)) (pa_cons (pe_op op_mul (pe_callB call_ln (by rfl) (T.free "len" (by decide)) PySem.boot_len (pa_cons (pv 0) (pa_nil))) (pe_op op_addU (pe_callB call_ln (by rfl) (T.free "len" (by decide)) PySem.boot_len (pa_cons (pv 2) (pa_nil))) (pe_int))) (pa_nil))) (pg_name (i := 10) sc_law_broken.nd rfl (.inl rfl)) (pss_cons (ps_set (i := 11) sc_law_broken.nd rfl (Or.inl rfl) (pe_ix ix_seq (pv 0) (pv 8) (fun _ _ => rfl))) (pss_cons (ps_if (pt_val (pe_kn K_law_done (hr.mono (by decide)) rfl (pa_cons (pv 1) (pa_cons (pv 11) (pa_cons (pv 3) (pa_cons (pv 5) (pa_cons (pv 6) (pa_nil)))))))) (pss_one (ps_expr (pe_bm PySem.F.plainAttrs_list PySem.F.slot_list_append PySem.F.type_list_append mt_append (pv 7) (pa_cons (pv 8) (pa_nil))))) (pss_nil)) (pss_cons (ps_set (i := 6) sc_law_broken.nd rfl (Or.inl rfl) (pe_op op_addU (pv 6) (pe_callTy call_int1 (by rfl) (T.free "int" (by decide)) (by decide +kernel) (pa_cons (pe_cmpR op_eq (pe_ix ix_seq (pv 11) (pe_int) (fun _ _ => rfl)) (pe_str) (nomark _)) (pa_nil))))) (pss_cons (ps_set (i := 8) sc_law_broken.nd rfl (Or.inl rfl) (pe_op op_addU (pv 8) (pe_int))) (pss_cons (ps_if (pt_cmpR op_eq (pe_ix ix_seq (pv 11) (pe_int) (fun _ _ => rfl)) (pe_str) (nomark _)) (pss_one (ps_ret (pv 7))) (pss_nil)) (pss_cons (ps_if (pt_cmpR op_eq (pe_ix ix_seq (pv 11) (pe_int) (fun _ _ => rfl)) (pe_str) (nomark _)) (pss_one (ps_set (i := 8) sc_law_broken.nd rfl (Or.inl rfl) (pe_ix ix_seq (pv 11) (pe_int) (fun _ _ => rfl)))) (pss_nil)) (pss_one (ps_if (pt_cmpR op_eq (pe_ix ix_seq (pv 11) (pe_int) (fun _ _ => rfl)) (pe_str) (nomark _)) (pss_cons (ps_if (PW.pt (pw_or (pt_cmpR op_eq (pv 9) (pe_callB call_ln (by rfl) (T.free "len" (by decide)) PySem.boot_len (pa_cons (pv 2) (pa_nil))) (nomark _)) (pw_or1 (pt_cmpR op_le (pe_ix ix_seq (pv 2) (pv 9) (fun _ _ => rfl)) (pe_ix ix_seq (pv 11) (pe_int) (fun _ _ => rfl)) (nomark _))))) (pss_one (ps_set (i := 8) sc_law_broken.nd rfl (Or.inl rfl) (pe_ix ix_seq (pv 11) (pe_int) (fun _ _ => rfl)))) (pss_nil)) (pss_one (ps_set (i := 9) sc_law_broken.nd rfl (Or.inl rfl) (pe_callB (call_min2 rfl) (by rfl) (T.free "min" (by decide)) (by decide +kernel) (pa_cons (pe_op op_addU (pv 9) (pe_int)) (pa_cons (pe_callB call_ln (by rfl) (T.free "len" (by decide)) PySem.boot_len (pa_cons (pv 2) (pa_nil))) (pa_nil))))))) (pss_nil)))))))))) (pss_one (ps_ret (pv 7)))))))))), fun Q q => ?_⟩
  refine q_asgR ?_
  refine (gn_call (K := K) (ds := [encCode code]) (ga_cons (gd_var rfl h1) ga_nil) ⟨code, S, hrows, rfl, rfl⟩) H (Same.refl _) _ fun vm H1 dm zm s1 dvm => ?_
  obtain ⟨M, rfl, hM, hrM⟩ := zm
  have em := dp_int dvm
  subst em
  refine ⟨M, rfl, by omega, by omega, fun sp hsp => lc_range (lo := 0) (n := M) (fun i H' => H' sp = some (.lst ((List.replicate i (none : Option Nat)).map slV)) ∧ Same H1 H') ⟨upd_same, same_new hsp⟩ (fun i H' hi hP => ?_) fun H2 hP => ?_⟩
  · obtain ⟨e1, e2⟩ := hP
    refine ⟨rfl, iteT (B := False) ⟨_, e1, small_lt (by rw [List.length_map, List.length_replicate]; omega), ?_, same_mut e2 hsp⟩⟩
    rw [upd_same, List.replicate_succ', List.map_append]
    rfl
  obtain ⟨a2, s2⟩ := hP
  have nsp : H sp = none := s1.free hsp
  have s02 : Same H H2 := s1.trans s2
  refine q_asgF (gf_lst (K := K) (Z := fun es => es = []) ga_nil (Nat.zero_le _) rfl) fun p H3 xs es z s3 n3 l3 d3 => ?_
  subst z
  cases d3
  have s03 := s02.trans s3
  have np : H p = none := s02.free n3
  have sp_p : sp ≠ p := fun e => by rw [e, n3] at a2; cases a2
  refine q_asg (K := K) (d := .int 0) gd_int fun v6 H4 s4 d4 => ?_
  have e4 := dp_int d4
  subst e4
  refine q_asgF (gf_lst (K := K) (Z := fun es => es = []) ga_nil (Nat.zero_le _) rfl) fun bp H5 xs es z s5 n5 l5 d5 => ?_
  subst z
  cases d5
  have s05 := (s03.trans s4).trans s5
  have nbp : H bp = none := (s03.trans s4).free n5
  have p_bp : p ≠ bp := fun e => by rw [e] at l3; rw [s4 _ _ l3] at n5; cases n5
  have sp_bp : sp ≠ bp := fun e => by rw [e] at a2; rw [(s3.trans s4) _ _ a2] at n5; cases n5
  refine q_asg (K := K) (d := .int 0) gd_int fun v8 H6 s6 d6 => ?_
  have e6 := dp_int d6
  subst e6
  refine q_asg (K := K) (d := .int 0) gd_int fun v9 H7 s7 d7 => ?_
  have e7 := dp_int d7
  subst e7
  have s07 := (s05.trans s6).trans s7
  have lnC : ∀ {σ : L2.St} {H' : Hp}, Same H H' → σ[0]? = some (some v0) → Gd K (tCB (rLn K) (tCons (tVar 0) tNil)) σ H' (.int code.length) := fun s e => gd_is (gd_cb (ga_cons (gd_var e (dp_mono s h1)) ga_nil) rc_lnL) (by rw [List.length_map])
  have lnI : ∀ {σ : L2.St} {H' : Hp}, Same H H' → σ[2]? = some (some v2) → Gd K (tCB (rLn K) (tCons (tVar 2) tNil)) σ H' (.int ins.length) := fun s e => gd_is (gd_cb (ga_cons (gd_var e (dp_mono s h3)) ga_nil) rc_lnL) (by rw [List.length_map])
  have hn : code.length * (ins.length + 1) ≤ 2200 := Nat.le_trans (Nat.mul_le_mul hcl (Nat.succ_le_succ hil)) (by decide)
  refine q_forR (K := K) (n := code.length * (ins.length + 1)) (ga_cons (gd_is (gd_op (lnC s07 rfl) (gd_op (lnI s07 rfl) gd_int r2_addI) (r2_mulL (by omega) (by omega))) (congrArg PyData.int (by push_cast; rfl))) ga_nil) (by omega) fun H8 s8 => ?_
  have s08 := s07.trans s8
  refine ⟨fun c σ' H' => ∃ (at_ used many : Nat) (sl : List (Option Nat)) (ts : List Thg) (L : List Nat) (o10 o11 : Option V), BA K H H' sp p bp sl ts L ∧ Sim r paper M at_ sl ts many ∧ at_ < code.length ∧ used ≤ ins.length ∧ many ≤ c ∧ ts.length ≤ c ∧ L.length ≤ c ∧ (∀ t ∈ ts, ∀ k, t.room = some k → k < R) ∧ (∀ a ∈ L, a < code.length ∧ brk r code paper a = true) ∧
    σ' = [some v0, some v1, some v2, some (.ref sp), none, some (.ref p), some (.int many), some (.ref bp), some (.int at_), some (.int used), o10, o11], ?_, fun c σ' H' hc hP => ?_, fun σ' H' hP => ?_⟩
  · have s27 := (((((s3.trans s4).trans s5).trans s6).trans s7).trans s8)
    have s37 := ((((s4.trans s5).trans s6).trans s7).trans s8)
    exact ⟨0, 0, 0, List.replicate M none, [], [], _, _, ⟨s08, s27 _ _ a2, ⟨[], s37 _ _ l3, .nil⟩, ((s6.trans s7).trans s8) _ _ l5⟩, Sim.start r paper M, hne, Nat.zero_le _, Nat.le_refl _, Nat.le_refl _, Nat.le_refl _, fun _ h => (nomatch h), fun _ h => (nomatch h), rfl⟩
  · obtain ⟨at_, used, many, sl, ts, L, o10, o11, ba, sim, hat, hu, hm, htl, hLl, hR, hLb, rfl⟩ := hP
    have hrow : code[at_]? = some code[at_] := List.getElem?_eq_getElem hat
    generalize code[at_] = row at hrow
    have hok : row.Ok sl.length := by rw [sim.len]; exact hrM row (List.mem_of_getElem? hrow)
    refine q_asg (K := K) (gd_op (gd_var rfl (dp_mono ba.same h1)) (gd_var rfl (.int _)) (r2_ixl (at_map hrow))) fun v11 H9 s9 d9 => ?_
    have ba9 := ba.mono s9
    refine ⟨_, rfl, _, rfl, _, rfl, _, rfl, _, rfl, v1, v11, sp, p, many, r, R, row, sl, ts, rfl, ⟨ba9.hs, ba9.ht, dp_mono (off2_new ba9.same nsp np) h2, d9, sp_p⟩, ok, hR, by omega, by omega, hok, fun H10 sx10 hs10 ht10 => ⟨_, rfl, ?_⟩⟩
    have same10 : Same H H10 := fun b o hb => sx10 b o (ba9.same b o hb) (fun e => by rw [e, nsp] at hb; cases hb) (fun e => by rw [e, np] at hb; cases hb)
    have d10 : Dp K H10 v11 row.enc := dp_keepT (fun b xs z => by
      have hb1 : b ≠ sp := fun e => by
        subst e
        rcases z with z | ⟨u, z⟩
        · rw [ba9.hs] at z
          cases z
        · rw [ba9.hs] at z
          cases z
      have hb2 : b ≠ p := fun e => by
        obtain ⟨ys, h1, _⟩ := ba9.ht
        subst e
        rcases z with z | ⟨u, z⟩
        · rw [h1] at z
          cases z
        · rw [h1] at z
          cases z
      rcases z with z | ⟨u, z⟩
      · exact .inl (sx10 _ _ z hb1 hb2)
      · exact .inr ⟨u, sx10 _ _ z hb1 hb2⟩) (row_nol row) d9
    refine if_mid (fun H' => ∃ L' : List Nat, Same H H' ∧ H' sp = some (.lst ((doneS many sl row).map slV)) ∧ (isFin row = false → ThAt K H' p (doneT r many sl ts row)) ∧ H' bp = some (.lst (L'.map fun a : Nat => V.int a)) ∧ Dp K H' v11 row.enc ∧ L'.length ≤ c + 1 ∧ ∀ a ∈ L', a < code.length ∧ brk r code paper a = true) (fun H11 hJ => ?_) (fun hb k => ?_) fun hb => ⟨L, same10, hs10, ht10, sx10 _ _ ba9.hb (Ne.symm sp_bp) (Ne.symm p_bp), d10, Nat.le_succ_of_le hLl, hLb⟩
    · obtain ⟨L', sm, f1, f2, f3, dw, f5, f6⟩ := hJ
      have tg : ∀ {σ : L2.St} {H' : Hp} (x : Str) (b : Bool), decide (V.str row.tag = V.str x) = b → σ[11]? = some (some v11) → Same H11 H' → Gt (tTest (tOp rEq (tOp (rIx K) (tVar 11) (tC (.int 0))) (tC (.str x)))) σ H' b := fun x b e hv s => gt_tag (K := K) (gd_var hv (dp_mono s dw)) e
      refine q_asg (K := K) (d := .int ((many + opens row : Nat) : Int)) (gd_is (gd_op (gd_var rfl (.int _)) (gd_cb (ga_cons (ds := []) (d := .bool (decide (V.str row.tag = V.str "open"))) (gd_op (gd_tag (gd_var rfl dw)) gd_str (r2_eq rfl rfl rfl rfl)) ga_nil) rc_intB) r2_addI) (congrArg PyData.int (by rw [tag_opens]; rfl))) fun w6 H12 s12 d12 => ?_
      have e12 := dp_int d12
      subst e12
      refine q_asg (K := K) (d := .int ((at_ + 1 : Nat) : Int)) (gd_is (gd_op (gd_var rfl (.int _)) gd_int r2_addI) rfl) fun w8 H13 s13 d13 => ?_
      have e13 := dp_int d13
      subst e13
      have s113 := s12.trans s13
      have fin : isFin row = false → ∀ (to used' : Nat) (H' : Hp), Same H11 H' → to ∈ after at_ row → used' ≤ ins.length → ∃ (at_ used mn : Nat) (sl : List (Option Nat)) (ts : List Thg) (L : List Nat) (o10 o11 : Option V), BA K H H' sp p bp sl ts L ∧ Sim r paper M at_ sl ts mn ∧ at_ < code.length ∧ used ≤ ins.length ∧ mn ≤ c + 1 ∧ ts.length ≤ c + 1 ∧ L.length ≤ c + 1 ∧ (∀ t ∈ ts, ∀ k, t.room = some k → k < R) ∧ (∀ a ∈ L, a < code.length ∧ brk r code paper a = true) ∧
        [some v0, some v1, some v2, some (.ref sp), none, some (.ref p), some (.int ((many + opens row : Nat) : Int)), some (.ref bp), some (.int to), some (.int used'), some (.int c), some v11] = [some v0, some v1, some v2, some (.ref sp), none, some (.ref p), some (.int mn), some (.ref bp), some (.int at_), some (.int used), o10, o11] := fun nf to used' H' s hto hus => by
        have ho1 : opens row ≤ 1 := by cases row <;> first | exact Nat.le_refl _ | exact Nat.zero_le _
        have hdl := done_len (r := r) (many := many) (sl := sl) (ts := ts) (row := row)
        exact ⟨to, used', many + opens row, doneS many sl row, doneT r many sl ts row, L', _, _, ⟨sm.trans s, s _ _ f1, (f2 nf).mono s, s _ _ f3⟩, Sim.done h12 sim cl hpl hrow hok hto, wf.to at_ row hrow to hto, hus, by omega, by omega, f5, done_lt ok hR, f6, rfl⟩
      cases row with
      | fin l =>
        refine q_yes (tg "end" true rfl rfl s113) fun H14 s14 => ?_
        exact l_ret (K := K) (gd_var rfl (.lst (SqL.of ((s113.trans s14) _ _ f3)) (dps_nats L'))) fun v H15 s15 d15 => q v H15 _ ⟨L', rfl, by omega, f6⟩ (sm.trans ((s113.trans s14).trans s15)) d15
      | tst l n to =>
        refine q_no (tg "end" false rfl rfl s113) fun H14 s14 => ?_
        refine q_no (tg "jump" false rfl rfl (s113.trans s14)) fun H15 s15 => ?_
        refine l_yes (tg "test" true rfl rfl ((s113.trans s14).trans s15)) fun H16 s16 => ?_
        have s116 := ((s113.trans s14).trans s15).trans s16
        have hun : ∀ {σ : L2.St} {H' : Hp} {D : Ends}, Same H11 H' → σ[9]? = some (some (.int used)) → σ[2]? = some (some v2) → (∀ (u' : Nat) (H'' : Hp), Same H11 H'' → u' ≤ ins.length → D.nx (σ.set 9 (some (.int u'))) H'') → tAsg (tCB (fun xs H Q => ∃ i j, xs = [.int i, .int j] ∧ Q (.int (if j < i then j else i)) H) (tCons (tOp (rAddU K) (tVar 9) (tC (.int 1))) (tCons (tCB (rLn K) (tCons (tVar 2) tNil)) tNil))) (gName 9) D σ H' := fun {σ H' D} s e9 e2 k => by
          refine l_asg (K := K) (d := .int ((min (used + 1) ins.length : Nat) : Int)) (gd_is (gd_cb (ga_cons (gd_op (gd_var e9 (.int _)) gd_int r2_addI) (ga_cons (lnI (sm.trans s) e2) ga_nil)) rc_min2) (congrArg PyData.int (by split <;> omega))) fun v H2 s2 d2 => ?_
          have e := dp_int d2
          subst e
          exact k _ H2 (s.trans s2) (Nat.min_le_right _ _)
        refine q_if0 (a := decide ((used : Int) = ins.length) || decide ((ins.getD used 0) ≤ n)) (gt_or (gt_test (K := K) (gd_op (gd_var rfl (.int _)) (lnI (sm.trans s116) rfl) (r2_eq rfl rfl rfl dec_int2))) fun hne => gt_test (K := K) (gd_op (gd_op (gd_var rfl (dp_mono (sm.trans s116) h3)) (gd_var rfl (.int _)) (r2_ixl (at_map (x := ins.getD used 0) ?_))) (gd_op (gd_var rfl (dp_mono s116 dw)) gd_int (r2_ixt rfl)) r2_B0)) (fun _ H17 s17 => ?_) fun _ H17 s17 => ?_
        · have hlt : used < ins.length := by
            have := of_decide_eq_false hne
            omega
          rw [List.getD_eq_getElem?_getD, List.getElem?_eq_getElem hlt]
          rfl
        · refine l_asg (K := K) (gd_op (gd_var rfl (dp_mono (s116.trans s17) dw)) gd_int (r2_ixt rfl)) fun v H18 s18 d18 => ?_
          have e18 := dp_int (i := (to : Nat)) d18
          subst e18
          exact hun ((s116.trans s17).trans s18) rfl rfl fun u' H19 s19 hu' => fin rfl to u' H19 s19 (List.mem_cons_of_mem _ List.mem_cons_self) hu'
        · exact hun (s116.trans s17) rfl rfl fun u' H19 s19 hu' => fin rfl (at_ + 1) u' H19 s19 List.mem_cons_self hu'
      | jmp l to =>
        refine q_no (tg "end" false rfl rfl s113) fun H14 s14 => ?_
        refine q_yes (tg "jump" true rfl rfl (s113.trans s14)) fun H15 s15 => ?_
        have s115 := (s113.trans s14).trans s15
        refine l_asg (K := K) (gd_op (gd_var rfl (dp_mono s115 dw)) gd_int (r2_ixt rfl)) fun v H18 s18 d18 => ?_
        have e18 := dp_int (i := (to : Nat)) d18
        subst e18
        refine l_no (tg "test" false rfl rfl (s115.trans s18)) fun H19 s19 => ?_
        exact fin rfl to used H19 ((s115.trans s18).trans s19) List.mem_cons_self hu
      | opn l s =>
        refine q_no (tg "end" false rfl rfl s113) fun H14 s14 => ?_
        refine q_no (tg "jump" false rfl rfl (s113.trans s14)) fun H15 s15 => ?_
        refine l_no (tg "test" false rfl rfl ((s113.trans s14).trans s15)) fun H16 s16 => ?_
        exact fin rfl (at_ + 1) used H16 (((s113.trans s14).trans s15).trans s16) List.mem_cons_self hu
      | act l s w =>
        refine q_no (tg "end" false rfl rfl s113) fun H14 s14 => ?_
        refine q_no (tg "jump" false rfl rfl (s113.trans s14)) fun H15 s15 => ?_
        refine l_no (tg "test" false rfl rfl ((s113.trans s14).trans s15)) fun H16 s16 => ?_
        exact fin rfl (at_ + 1) used H16 (((s113.trans s14).trans s15).trans s16) List.mem_cons_self hu
      | cpy l s t =>
        refine q_no (tg "end" false rfl rfl s113) fun H14 s14 => ?_
        refine q_no (tg "jump" false rfl rfl (s113.trans s14)) fun H15 s15 => ?_
        refine l_no (tg "test" false rfl rfl ((s113.trans s14).trans s15)) fun H16 s16 => ?_
        exact fin rfl (at_ + 1) used H16 (((s113.trans s14).trans s15).trans s16) List.mem_cons_self hu
      | drp l s =>
        refine q_no (tg "end" false rfl rfl s113) fun H14 s14 => ?_
        refine q_no (tg "jump" false rfl rfl (s113.trans s14)) fun H15 s15 => ?_
        refine l_no (tg "test" false rfl rfl ((s113.trans s14).trans s15)) fun H16 s16 => ?_
        exact fin rfl (at_ + 1) used H16 (((s113.trans s14).trans s15).trans s16) List.mem_cons_self hu
      | tie l s t =>
        refine q_no (tg "end" false rfl rfl s113) fun H14 s14 => ?_
        refine q_no (tg "jump" false rfl rfl (s113.trans s14)) fun H15 s15 => ?_
        refine l_no (tg "test" false rfl rfl ((s113.trans s14).trans s15)) fun H16 s16 => ?_
        exact fin rfl (at_ + 1) used H16 (((s113.trans s14).trans s15).trans s16) List.mem_cons_self hu
    · refine gd_append (K := K) (d := .int at_) rfl (gd_var rfl (.int _)) (by rw [List.length_map]; omega) (sx10 _ _ ba9.hb (Ne.symm sp_bp) (Ne.symm p_bp)) fun v H11 s11 d11 => k _ ?_
      have e11 := dp_int d11
      subst e11
      have b11 : H11 bp = some (.lst (L.map fun a : Nat => V.int a)) := s11 _ _ (sx10 _ _ ba9.hb (Ne.symm sp_bp) (Ne.symm p_bp))
      refine ⟨L ++ [at_], same_mut (same10.trans s11) nbp, (upd_ne sp_bp).trans (s11 _ _ hs10), fun nf => ((ht10 nf).mono s11).at p_bp b11 rfl, by rw [List.map_append]; exact upd_same, dp_keepT (SameT.upd b11 rfl) (row_nol row) (dp_mono s11 d10), by rw [List.length_append]; exact Nat.succ_le_succ hLl, fun a ha => ?_⟩
      rcases List.mem_append.mp ha with ha | ha
      · exact hLb a ha
      · rw [List.mem_singleton.mp ha]
        exact ⟨hat, Sim.doneB h12 sim cl hpl hrow hok hb⟩
  · obtain ⟨at_, used, many, sl, ts, L, o10, o11, ba, sim, hat, hu, hm, htl, hLl, hR, hLb, rfl⟩ := hP
    exact l_ret (K := K) (gd_var rfl (.lst (SqL.of ba.hb) (dps_nats L))) fun v H9 s9 d9 => q v H9 _ ⟨L, rfl, by omega, hLb⟩ (ba.same.trans s9) d9
end
end Uw
/-! text P5 -/
/-! Plain: programs that are piled up: heads, frames, sizes. -/
namespace Uw
open PySem
theorem deps_app : ∀ p r : List Stp, deps (p ++ r) = max (deps p) (deps r)
  | [], r => by
    show deps r = max 0 (deps r)
    omega
  | s :: p, r => by
    show max s.dep (deps (p ++ r)) = max (max s.dep (deps p)) (deps r)
    rw [deps_app p r]
    omega
theorem lendsL_app : ∀ p r : List Stp, lendsL (p ++ r) = lendsL p + lendsL r
  | [], r => by
    show lendsL r = 0 + lendsL r
    omega
  | s :: p, r => by
    show s.lends + lendsL (p ++ r) = s.lends + lendsL p + lendsL r
    rw [lendsL_app p r]
    omega
theorem goods_app : ∀ {p r : List Stp}, Goods p → Goods r → Goods (p ++ r)
  | [], r, _, h => h
  | s :: p, r, h, q => ⟨h.1, goods_app h.2 q⟩
theorem encs_app (p r : List Stp) : encs (p ++ r) = encs p ++ encs r := by
  rw [encs_map, encs_map, encs_map, List.map_append]
def cap : Nat → Nat
  | 0 => 1
  | 1 => 6
  | _ => 12
mutual
theorem Stp.wt_le : ∀ (s : Stp), s.dep ≤ 2 → s.wt ≤ cap s.dep * s.sz
  | .opn _, _ => Nat.le_refl _
  | .act _ _, _ => Nat.le_refl _
  | .cpy _ _, _ => Nat.le_refl _
  | .drp _, _ => Nat.le_refl _
  | .tie _ _, _ => Nat.le_refl _
  | .lend _ _ b, h => by
    have h : deps b + 1 ≤ 2 := h
    have z := wts_le b (by omega)
    show wts b + 6 ≤ cap (deps b + 1) * (szs b + 1)
    rcases (show deps b = 0 ∨ deps b = 1 by omega) with e | e <;> rw [e] at z ⊢ <;> simp only [cap] at z ⊢ <;> omega
  | .ite _ a b, h => by
    have h : max (deps a) (deps b) + 1 ≤ 2 := h
    have z := wts_le a (by omega)
    have z' := wts_le b (by omega)
    show wts a + wts b + 2 ≤ cap (max (deps a) (deps b) + 1) * (szs a + szs b + 1)
    rcases (show deps a = 0 ∨ deps a = 1 by omega) with e | e <;> rcases (show deps b = 0 ∨ deps b = 1 by omega) with e' | e' <;> rw [e] at z <;> rw [e'] at z' <;> rw [e, e'] <;> simp only [cap, Nat.max_self, Nat.zero_max, Nat.max_zero] at z z' ⊢ <;> omega
  | .whl _ b, h => by
    have h : deps b + 1 ≤ 2 := h
    have z := wts_le b (by omega)
    show 2 * wts b + 3 ≤ cap (deps b + 1) * (szs b + 1)
    rcases (show deps b = 0 ∨ deps b = 1 by omega) with e | e <;> rw [e] at z ⊢ <;> simp only [cap] at z ⊢ <;> omega
theorem wts_le : ∀ (p : List Stp), deps p ≤ 2 → wts p ≤ cap (deps p) * szs p
  | [], _ => Nat.zero_le _
  | s :: r, h => by
    have h : max s.dep (deps r) ≤ 2 := h
    have z := s.wt_le (by omega)
    have z' := wts_le r (by omega)
    show s.wt + wts r ≤ cap (max s.dep (deps r)) * (s.sz + szs r)
    rw [Nat.mul_add]
    have mono : ∀ a b, a ≤ b → b ≤ 2 → cap a ≤ cap b := fun a b h1 h2 => by
      rcases (show b = 0 ∨ b = 1 ∨ b = 2 by omega) with e | e | e <;> subst e <;> rcases (show a = 0 ∨ a = 1 ∨ a = 2 by omega) with e | e | e <;> subst e <;> first | decide | omega
    exact Nat.add_le_add (Nat.le_trans z (Nat.mul_le_mul_right _ (mono _ _ (Nat.le_max_left _ _) h))) (Nat.le_trans z' (Nat.mul_le_mul_right _ (mono _ _ (Nat.le_max_right _ _) h)))
end
theorem wts_12 (p : List Stp) (h : deps p ≤ 2) : wts p ≤ 12 * szs p := by
  refine Nat.le_trans (wts_le p h) (Nat.mul_le_mul_right _ ?_)
  rcases (show deps p = 0 ∨ deps p = 1 ∨ deps p = 2 by omega) with e | e | e <;> rw [e] <;> decide
/-- what a frame begins with -/
inductive Hd where
  | top
  | lend (x y : Str)
  | ite (n : Int)
  | whl (n : Int)
def Hd.items : Hd → List PyData
  | .top => [.str "top"]
  | .lend x y => [.str "lend", .str x, .str y]
  | .ite n => [.str "if", .int n]
  | .whl n => [.str "while", .int n]
def Hd.enc (h : Hd) : PyData := .tuple h.items
def Hd.tag : Hd → Str
  | .top => "top"
  | .lend _ _ => "lend"
  | .ite _ => "if"
  | .whl _ => "while"
def Hd.lends : Hd → Nat
  | .lend _ _ => 1
  | _ => 0
def Hd.Ok (nm : List Str) : Hd → Prop
  | .top => False
  | .lend x y => Wd x ∧ Wd y ∧ x ∈ nm ∧ y ∈ nm
  | .ite n => n.natAbs < 10 ^ 100
  | .whl n => n.natAbs < 10 ^ 100
def Hd.mk : Hd → List Stp → List Stp → Stp
  | .lend x y, a, _ => .lend x y a
  | .ite n, a, b => .ite n a b
  | .whl n, a, _ => .whl n a
  | .top, _, _ => .opn ""
structure POk (nm : List Str) (k : Nat) (p : List Stp) : Prop where
  good : Goods p
  dep : deps p + k ≤ 2
  names : ∀ y ∈ namesL p, y ∈ nm
theorem POk.nil {nm : List Str} {k : Nat} (h : k ≤ 2) : POk nm k [] := ⟨trivial, by show 0 + k ≤ 2; omega, fun _ h => nomatch h⟩
theorem POk.app {nm : List Str} {k : Nat} {p : List Stp} {s : Stp} (h : POk nm k p) (hg : s.Good) (hd : s.dep + k ≤ 2) (hn : ∀ y ∈ s.names, y ∈ nm) : POk nm k (p ++ [s]) := by
  refine ⟨goods_app h.good ⟨hg, trivial⟩, ?_, fun y hy => ?_⟩
  · rw [deps_app]
    have := h.dep
    show max (deps p) (max s.dep 0) + k ≤ 2
    omega
  · rw [namesL_app] at hy
    rcases List.mem_append.mp hy with hy | hy
    · exact h.names y hy
    · have hy : y ∈ s.names ++ [] := hy
      rw [List.append_nil] at hy
      exact hn y hy
theorem Hd.mk_ok {nm : List Str} {k : Nat} {h : Hd} {a b : List Stp} (ho : h.Ok nm) (ha : POk nm (k + 1) a) (hb : POk nm (k + 1) b) : (h.mk a b).Good ∧ (h.mk a b).dep + k ≤ 2 ∧ (∀ y ∈ (h.mk a b).names, y ∈ nm) ∧ (h.mk a b).sz ≤ szs a + szs b + 1 ∧ (h.mk a b).lends ≤ lendsL a + lendsL b + h.lends := by
  have h1 := ha.dep
  have h2 := hb.dep
  cases h with
  | top => exact ho.elim
  | lend x y =>
    obtain ⟨o1, o2, o3, o4⟩ := ho
    refine ⟨⟨o1, o2, ha.good⟩, ?_, fun z hz => ?_, ?_, ?_⟩
    · show deps a + 1 + k ≤ 2
      omega
    · have hz : z ∈ [x, y] ++ namesL a := hz
      rcases List.mem_append.mp hz with hz | hz
      · rcases List.mem_cons.mp hz with e | e
        · rw [e]; exact o3
        · rw [List.mem_singleton.mp e]; exact o4
      · exact ha.names z hz
    · show szs a + 1 ≤ _
      omega
    · show lendsL a + 1 ≤ lendsL a + lendsL b + 1
      omega
  | ite n =>
    refine ⟨⟨ho, ha.good, hb.good⟩, ?_, fun z hz => ?_, Nat.le_refl _, Nat.le_refl _⟩
    · show max (deps a) (deps b) + 1 + k ≤ 2
      omega
    · have hz : z ∈ namesL a ++ namesL b := hz
      rcases List.mem_append.mp hz with hz | hz
      · exact ha.names z hz
      · exact hb.names z hz
  | whl n =>
    refine ⟨⟨ho, ha.good⟩, ?_, ha.names, ?_, ?_⟩
    · show deps a + 1 + k ≤ 2
      omega
    · show szs a + 1 ≤ _
      omega
    · show lendsL a ≤ lendsL a + lendsL b + 0
      omega
end Uw
/-! text T34 -/
namespace Uw
open PySem PySem.Spec PyProof.Rows L2
/-! the pile: _law_put, _law_close -/
structure Fr where
  f : Addr
  a : Addr
  b : Addr
  hv : V
  hd : Hd
  A : List Stp
  B : List Stp
  side : Nat
def Fr.at (x : Fr) : List Addr := [x.f, x.a, x.b]
def hot (p : Addr) (frs : List Fr) : List Addr := p :: frs.flatMap Fr.at
def offS (S : List Addr) (H : Hp) : Hp := fun b => if b ∈ S then none else H b
theorem offS_some {S : List Addr} {H : Hp} {b : Addr} {o : HO} : offS S H b = some o ↔ b ∉ S ∧ H b = some o := by
  unfold offS
  by_cases e : b ∈ S
  · simp [e]
  · simp [e]
theorem offS_le {S : List Addr} {H : Hp} : Same (offS S H) H := fun b o h => (offS_some.mp h).2
def SS (S : List Addr) (H H' : Hp) : Prop := ∀ b o, H b = some o → b ∉ S → H' b = some o
theorem SS.of {S : List Addr} {H H' : Hp} (s : Same H H') : SS S H H' := fun b o h _ => s b o h
theorem SS.trans {S : List Addr} {H H1 H2 : Hp} (a : SS S H H1) (b : SS S H1 H2) : SS S H H2 := fun c o h n => b c o (a c o h n) n
theorem SS.off {S : List Addr} {H H' : Hp} (s : SS S H H') : Same (offS S H) (offS S H') := fun b o h => offS_some.mpr ⟨(offS_some.mp h).1, s b o (offS_some.mp h).2 (offS_some.mp h).1⟩
theorem SS.upd {S : List Addr} {H : Hp} {x : Addr} {o : HO} (h : x ∈ S) : SS S H (upd H x o) := fun b u e n => (upd_ne fun z => n (by rw [z]; exact h)).trans e
theorem SS.sub {S S' : List Addr} {H H' : Hp} (s : SS S H H') (h : ∀ x ∈ S, x ∈ S') : SS S' H H' := fun b o e n => s b o e fun z => n (h _ z)
theorem off_sub {S S' : List Addr} {H : Hp} (h : ∀ x ∈ S', x ∈ S) : Same (offS S H) (offS S' H) := fun b o e => offS_some.mpr ⟨fun z => (offS_some.mp e).1 (h _ z), (offS_some.mp e).2⟩
structure FrAt (K : PySem.W.Frag) (S : List Addr) (H : Hp) (x : Fr) : Prop where
  f : H x.f = some (.lst [x.hv, .ref x.a, .ref x.b, .int (x.side : Nat)])
  h : Dp K (offS S H) x.hv x.hd.enc
  a : ∃ xs, H x.a = some (.lst xs) ∧ DpAll K (offS S H) xs (encs x.A)
  b : ∃ xs, H x.b = some (.lst xs) ∧ DpAll K (offS S H) xs (encs x.B)
structure Pile (K : PySem.W.Frag) (H : Hp) (p : Addr) (frs : List Fr) : Prop where
  ps : H p = some (.lst (frs.map fun x => V.ref x.f))
  nd : (hot p frs).Nodup
  fr : ∀ x ∈ frs, FrAt K (hot p frs) H x
theorem FrAt.mono {K : PySem.W.Frag} {S S' : List Addr} {H H' : Hp} {x : Fr} (h : FrAt K S H x) (s : Same (offS S H) (offS S' H')) (k : ∀ y ∈ x.at, ∀ o, H y = some o → H' y = some o) : FrAt K S' H' x := by
  obtain ⟨xs, a1, a2⟩ := h.a
  obtain ⟨ys, b1, b2⟩ := h.b
  exact ⟨k _ List.mem_cons_self _ h.f, dp_mono s h.h, ⟨xs, k _ (List.mem_cons_of_mem _ List.mem_cons_self) _ a1, dps_mono s a2⟩, ⟨ys, k _ (List.mem_cons_of_mem _ (List.mem_cons_of_mem _ List.mem_cons_self)) _ b1, dps_mono s b2⟩⟩
theorem Pile.mono {K : PySem.W.Frag} {H H' : Hp} {p : Addr} {frs : List Fr} (h : Pile K H p frs) (s : Same H H') : Pile K H' p frs := ⟨s _ _ h.ps, h.nd, fun x hx => (h.fr x hx).mono (SS.of s).off fun y _ o e => s y o e⟩
def Fr.put (x : Fr) (s : Stp) : Fr := if x.side = 0 then { x with A := x.A ++ [s] } else { x with B := x.B ++ [s] }
theorem put_f (x : Fr) (s : Stp) : (x.put s).f = x.f ∧ (x.put s).at = x.at ∧ (x.put s).hd = x.hd ∧ (x.put s).side = x.side := by
  unfold Fr.put
  split <;> exact ⟨rfl, rfl, rfl, rfl⟩
theorem hot_snoc (p : Addr) (frs : List Fr) (x : Fr) : hot p (frs ++ [x]) = hot p frs ++ x.at := by
  unfold hot
  rw [List.flatMap_append]
  show p :: (frs.flatMap Fr.at ++ (x.at ++ [])) = _
  rw [List.append_nil]
  rfl
theorem hot_put (p : Addr) (frs : List Fr) (x : Fr) (s : Stp) : hot p (frs ++ [x.put s]) = hot p (frs ++ [x]) := by rw [hot_snoc, hot_snoc, (put_f x s).2.1]
theorem map_put (frs : List Fr) (x : Fr) (s : Stp) : ((frs ++ [x.put s]).map fun x => V.ref x.f) = (frs ++ [x]).map fun x => V.ref x.f := by
  rw [List.map_append, List.map_append]
  show _ ++ [V.ref (x.put s).f] = _ ++ [V.ref x.f]
  rw [(put_f x s).1]
theorem mem_hot {p : Addr} {frs : List Fr} {x : Fr} {u : Addr} (hx : x ∈ frs) (hu : u ∈ x.at) : u ∈ hot p frs := List.mem_cons_of_mem _ (List.mem_flatMap.mpr ⟨x, hx, hu⟩)
theorem hot_ne {p : Addr} {frs : List Fr} {x : Fr} (nd : (hot p (frs ++ [x])).Nodup) : (hot p frs).Nodup ∧ x.at.Nodup ∧ ∀ u ∈ hot p frs, ∀ t ∈ x.at, u ≠ t := by
  rw [hot_snoc] at nd
  obtain ⟨a, b, c⟩ := List.nodup_append.mp nd
  exact ⟨a, b, c⟩
theorem hot_some {K : PySem.W.Frag} {H : Hp} {p : Addr} {frs : List Fr} (h : Pile K H p frs) {u : Addr} (hu : u ∈ hot p frs) : ∃ xs, H u = some (.lst xs) := by
  rcases List.mem_cons.mp hu with e | hu
  · rw [e]
    exact ⟨_, h.ps⟩
  · obtain ⟨x, hx, hu⟩ := List.mem_flatMap.mp hu
    have F := h.fr x hx
    rcases List.mem_cons.mp hu with e | hu
    · rw [e]
      exact ⟨_, F.f⟩
    · rcases List.mem_cons.mp hu with e | hu
      · obtain ⟨xs, a, _⟩ := F.a
        rw [e]
        exact ⟨xs, a⟩
      · obtain ⟨xs, a, _⟩ := F.b
        rw [List.mem_singleton.mp hu]
        exact ⟨xs, a⟩
/-- the hot places hold no tuples -/
theorem hot_T {K : PySem.W.Frag} {H H' : Hp} {p : Addr} {frs : List Fr} (h : Pile K H p frs) (s : SS (hot p frs) H H') : SameT H (offS (hot p frs) H') := fun b xs z => by
  have hb : b ∉ hot p frs := fun e => by
    obtain ⟨ys, q⟩ := hot_some h e
    rcases z with z | ⟨u, z⟩
    · rw [q] at z
      cases z
    · rw [q] at z
      cases z
  rcases z with z | ⟨u, z⟩
  · exact .inl (offS_some.mpr ⟨hb, s _ _ z hb⟩)
  · exact .inr ⟨u, offS_some.mpr ⟨hb, s _ _ z hb⟩⟩
theorem Pile.add {K : PySem.W.Frag} {H : Hp} {p t : Addr} {frs : List Fr} {x : Fr} {s : Stp} {xs : List V} {v : V} (h : Pile K H p (frs ++ [x])) (dv : Dp K (offS (hot p (frs ++ [x])) H) v s.enc) (ht : (x.side = 0 ∧ t = x.a) ∨ (x.side ≠ 0 ∧ t = x.b)) (hx : H t = some (.lst xs)) :
    Pile K (upd H t (.lst (xs ++ [v]))) p (frs ++ [x.put s]) := by
  obtain ⟨n1, n2, n3⟩ := hot_ne h.nd
  have F := h.fr x (List.mem_append_right _ List.mem_cons_self)
  have tm : t ∈ x.at := by
    rcases ht with ⟨_, e⟩ | ⟨_, e⟩ <;> rw [e]
    · exact List.mem_cons_of_mem _ List.mem_cons_self
    · exact List.mem_cons_of_mem _ (List.mem_cons_of_mem _ List.mem_cons_self)
  have th : t ∈ hot p (frs ++ [x]) := mem_hot (List.mem_append_right _ List.mem_cons_self) tm
  have tp : p ≠ t := n3 p List.mem_cons_self t tm
  have sm : Same (offS (hot p (frs ++ [x])) H) (offS (hot p (frs ++ [x])) (upd H t (.lst (xs ++ [v])))) := (SS.upd th).off
  refine ⟨?_, by rw [hot_put]; exact h.nd, fun y hy => ?_⟩
  · rw [map_put]
    exact (upd_ne tp).trans h.ps
  · rw [hot_put]
    rcases List.mem_append.mp hy with hy | hy
    · refine (h.fr y (List.mem_append_left _ hy)).mono sm fun u hu o e => (upd_ne (n3 u (mem_hot hy hu) t tm)).trans e
    · rw [List.mem_singleton.mp hy]
      have nf : x.f ≠ x.a ∧ x.f ≠ x.b ∧ x.a ≠ x.b := by
        unfold Fr.at at n2
        simp only [List.nodup_cons, List.mem_cons, List.not_mem_nil, or_false, not_or] at n2
        exact ⟨n2.1.1, n2.1.2, n2.2.1⟩
      obtain ⟨as, a1, a2⟩ := F.a
      obtain ⟨bs, b1, b2⟩ := F.b
      unfold Fr.put
      rcases ht with ⟨e0, e⟩ | ⟨e0, e⟩
      · subst e
        rw [if_pos e0]
        rw [a1] at hx
        cases hx
        exact ⟨(upd_ne nf.1).trans F.f, dp_mono sm F.h, ⟨_, upd_same, by rw [encs_app]; exact dps_snoc (dps_mono sm a2) (dp_mono sm dv)⟩, ⟨bs, (upd_ne (Ne.symm nf.2.2)).trans b1, dps_mono sm b2⟩⟩
      · subst e
        rw [if_neg e0]
        rw [b1] at hx
        cases hx
        exact ⟨(upd_ne nf.2.1).trans F.f, dp_mono sm F.h, ⟨as, (upd_ne nf.2.2).trans a1, dps_mono sm a2⟩, ⟨_, upd_same, by rw [encs_app]; exact dps_snoc (dps_mono sm b2) (dp_mono sm dv)⟩⟩
theorem Pile.pop {K : PySem.W.Frag} {H : Hp} {p : Addr} {frs : List Fr} {x : Fr} (h : Pile K H p (frs ++ [x])) : Pile K (upd H p (.lst (frs.map fun x => V.ref x.f))) p frs ∧ FrAt K (hot p frs) (upd H p (.lst (frs.map fun x => V.ref x.f))) x ∧ ∀ t ∈ x.at, t ∉ hot p frs := by
  obtain ⟨n1, n2, n3⟩ := hot_ne h.nd
  have sb : ∀ u ∈ hot p frs, u ∈ hot p (frs ++ [x]) := fun u hu => by
    rw [hot_snoc]
    exact List.mem_append_left _ hu
  have sm : Same (offS (hot p (frs ++ [x])) H) (offS (hot p frs) (upd H p (.lst (frs.map fun x => V.ref x.f)))) := (off_sub sb).trans (SS.upd List.mem_cons_self).off
  have hp : p ∉ frs.flatMap Fr.at := (List.nodup_cons.mp n1).1
  refine ⟨⟨upd_same, n1, fun y hy => (h.fr y (List.mem_append_left _ hy)).mono sm fun u hu o e => (upd_ne fun z => hp (by rw [← z]; exact List.mem_flatMap.mpr ⟨y, hy, hu⟩)).trans e⟩, (h.fr x (List.mem_append_right _ List.mem_cons_self)).mono sm fun u hu o e => (upd_ne (Ne.symm (n3 p List.mem_cons_self u hu))).trans e, fun t ht hh => n3 t hh t ht rfl⟩
/-! ### reading -/
theorem atI_last {α : Type} {xs : List α} {x : α} : atI (xs ++ [x]) (-1) = some x := by
  unfold atI ixN
  rw [if_neg (by decide), List.length_append, if_pos (by show -((xs.length + 1 : Nat) : Int) ≤ -1; omega)]
  show (xs ++ [x])[(-1 + ((xs.length + 1 : Nat) : Int)).toNat]? = _
  rw [show (-1 + ((xs.length + 1 : Nat) : Int)).toNat = xs.length by omega, List.getElem?_append_right (Nat.le_refl _), Nat.sub_self]
  rfl
section
variable {K : PySem.W.Frag} {σ : L2.St} {H : Hp} {p : Addr} {frs : List Fr} {x : Fr} {n : Nat}
abbrev tLast (K : PySem.W.Frag) (n : Nat) : TE := tOp (rIx K) (tVar n) (tUn (rU fun i => .int (-i)) (tC (.int 1)))
theorem rs_last (hv : σ[n]? = some (some (.ref p))) (h : Pile K H p (frs ++ [x])) : Rs (tLast K n) σ H (.ref x.f) := fun Q q =>
  ⟨_, hv, 1, rfl, .inl ⟨p, _, -1, _, rfl, rfl, SqL.of h.ps, by rw [List.map_append]; exact atI_last, q⟩⟩
theorem rs_side (hv : σ[n]? = some (some (.ref p))) (h : Pile K H p (frs ++ [x])) : Rs (tOp (rIx K) (tLast K n) (tC (.int 3))) σ H (.int (x.side : Nat)) :=
  rs_ixl (m := 3) (rs_last hv h) rs_int (SqL.of (h.fr x (List.mem_append_right _ List.mem_cons_self)).f) rfl
theorem rs_head (hv : σ[n]? = some (some (.ref p))) (h : Pile K H p (frs ++ [x])) : Rs (tOp (rIx K) (tLast K n) (tC (.int 0))) σ H x.hv :=
  rs_ixl (m := 0) (rs_last hv h) rs_int (SqL.of (h.fr x (List.mem_append_right _ List.mem_cons_self)).f) rfl
end
def spPut (K : PySem.W.Frag) : Sp := fun vs H Q _ => ∃ p sv frs x s, vs = [.ref p, sv] ∧ Pile K H p (frs ++ [x]) ∧ Dp K (offS (hot p (frs ++ [x])) H) sv s.enc ∧ x.side ≤ 1 ∧ x.A.length ≤ 1000 ∧ x.B.length ≤ 1000 ∧
  ∀ H', SS (hot p (frs ++ [x])) H H' → Pile K H' p (frs ++ [x.put s]) → Q .non H'
def spClose (K : PySem.W.Frag) : Sp := fun vs H Q _ => ∃ p frs x y nm, vs = [.ref p] ∧ Pile K H p (frs ++ [x] ++ [y]) ∧ y.hd.Ok nm ∧ x.side ≤ 1 ∧ x.A.length ≤ 1000 ∧ x.B.length ≤ 1000 ∧
  ∀ H', SS (hot p (frs ++ [x] ++ [y])) H H' → Pile K H' p (frs ++ [x.put (y.hd.mk y.A y.B)]) → Q .non H'
section
variable {P : Program} {w : World} {K : PySem.W.Frag} {mg : Str → Option Value} {base : Heap}
theorem sc_law_put : FnScope ["_law_pile", "_law_step_here"] ["_law_pile", "_law_step_here"] (defScope (top 45)) := ⟨rfl, rfl, rfl, by decide +kernel, rfl, by decide +kernel, by decide +kernel⟩
theorem kn_put (T : Tx K mg) : Kn P w K mg base 1 "_law_put" ["_law_pile", "_law_step_here"] (spPut K) := by
  refine kn_mk (T.fn2 (("_law_put" : Str), 45) (by decide +kernel)) sc_law_put (fun _ _ _ _ _ _ us hl => match us, hl with | [_, _], _ => rfl) (fun vs H Q E h => ?_) (fun f cdv A outer s0 H vs Q E hr h => ?_)
  · obtain ⟨_, _, _, _, _, rfl, _⟩ := h
    rfl
  obtain ⟨p, sv, frs, x, s, rfl, hP, ds, hs, ha, hb, q⟩ := h
  have F := hP.fr x (List.mem_append_right _ List.mem_cons_self)
  obtain ⟨as, a1, a2⟩ := F.a
  obtain ⟨bs, b1, b2⟩ := F.b
  have la : as.length = x.A.length := by rw [dps_len a2, encs_map, List.length_map]
  have lb : bs.length = x.B.length := by rw [dps_len b2, encs_map, List.length_map]
  have gi : ∀ Q : VK, Q (.int ((1 + x.side : Nat) : Int)) H → (tOp (rAddU K) (tC (.int 1)) (tOp (rIx K) (tLast K 0) (tC (.int 3)))) (L2.start ["_law_pile", "_law_step_here"] [.ref p, sv]) H Q := fun Q q => by
    refine rs_side (n := 0) (x := x) rfl hP _ ?_
    refine .inl ⟨1, x.side, rfl, rfl, ?_⟩
    have e : (1 : Int) + (x.side : Nat) = ((1 + x.side : Nat) : Int) := by omega
    show Q (.int ((1 : Int) + (x.side : Nat))) H
    rw [e]
    exact q
  refine ⟨_, (pss_one (ps_expr (pe_bm PySem.F.plainAttrs_list PySem.F.slot_list_append PySem.F.type_list_append mt_append (pe_ix ix_seq (pe_ix ix_seq (pv 0) (pe_un un_neg (pe_int)) (fun _ _ => rfl)) (pe_op op_addU (pe_int) (pe_ix ix_seq (pe_ix ix_seq (pv 0) (pe_un un_neg (pe_int)) (fun _ _ => rfl)) (pe_int) (fun _ _ => rfl))) (fun _ _ => rfl)) (pa_cons (pv 1) (pa_nil))))), ?_⟩
  show tBM K "list" rAppend _ _ _ _ _
  rcases (show x.side = 0 ∨ x.side = 1 by omega) with e | e
  · refine rs_ixl (m := 1 + x.side) (x := .ref x.a) (rs_last rfl hP) gi (SqL.of F.f) (by rw [e]; rfl) _ ⟨.inl ⟨rfl, as, SqL.of a1⟩, _, rfl, x.a, as, sv, rfl, rfl, a1, small_lt (by omega), ?_⟩
    exact q _ (SS.upd (mem_hot (List.mem_append_right _ List.mem_cons_self) (List.mem_cons_of_mem _ List.mem_cons_self))) (hP.add ds (.inl ⟨e, rfl⟩) a1)
  · refine rs_ixl (m := 1 + x.side) (x := .ref x.b) (rs_last rfl hP) gi (SqL.of F.f) (by rw [e]; rfl) _ ⟨.inl ⟨rfl, bs, SqL.of b1⟩, _, rfl, x.b, bs, sv, rfl, rfl, b1, small_lt (by omega), ?_⟩
    exact q _ (SS.upd (mem_hot (List.mem_append_right _ List.mem_cons_self) (List.mem_cons_of_mem _ (List.mem_cons_of_mem _ List.mem_cons_self)))) (hP.add ds (.inr ⟨by omega, rfl⟩) b1)
end
end Uw
/-! text T35 -/
namespace Uw
open PySem PySem.Spec PyProof.Rows L2
/-! _law_close -/
theorem Hd.mk_items {h : Hd} {nm : List Str} {a b : List Stp} (ho : h.Ok nm) : (h.mk a b).enc = .tuple (h.items ++ if h.tag = "if" then [.list (encs a), .list (encs b)] else [.list (encs a)]) := by
  cases h with
  | top => exact ho.elim
  | lend x y => rw [show (Hd.lend x y).tag = "lend" from rfl, if_neg (show ¬ ("lend" : Str) = "if" by decide +kernel)]; rfl
  | ite n => rw [show (Hd.ite n).tag = "if" from rfl, if_pos (show ("if" : Str) = "if" from rfl)]; rfl
  | whl n => rw [show (Hd.whl n).tag = "while" from rfl, if_neg (show ¬ ("while" : Str) = "if" by decide +kernel)]; rfl
section
variable {K : PySem.W.Frag} {σ : L2.St} {H : Hp} {p : Addr} {frs : List Fr} {te : TE}
theorem gd_htag {h : Hd} (g : Gd K te σ H h.enc) : Gd K (tOp (rIx K) te (tC (.int 0))) σ H (.str h.tag) := gd_op g gd_int (by cases h <;> exact r2_ixt rfl)
theorem gt_htag {h : Hd} {x : Str} (g : Gd K te σ H h.enc) : Gt (tTest (tOp rEq (tOp (rIx K) te (tC (.int 0))) (tC (.str x)))) σ H (decide (h.tag = x)) := gt_test (gd_op (gd_htag g) gd_str (r2_eq rfl rfl rfl dec_str2))
/-- head + (the blocks): a new step -/
theorem new_step {hv : V} {hd : Hd} {ds : List PyData} {vs : List V} {Q : VK} {i : Nat} {ta : TA} (hv1 : σ[i]? = some (some hv)) (hP : Pile K H p frs) (dh : Dp K (offS (hot p frs) H) hv hd.enc) (hn : hd.items ≠ []) (hne : ds ≠ []) (hl : hd.items.length ≤ 10) (hl2 : ds.length ≤ 10)
    (ha : ∀ (R : List V → Hp → Prop), R vs H → ta σ H R) (dv : DpAll K (offS (hot p frs) H) vs ds) (k : ∀ v H', Same H H' → Dp K (offS (hot p frs) H') v (.tuple (hd.items ++ ds)) → Q v H') : tOp (rAddU K) (tVar i) (tTup ta) σ H Q := by
  refine ⟨_, hv1, ha _ ⟨small_le (by rw [dps_len dv]; omega), fun u hu => ?_⟩⟩
  obtain ⟨a, xs, rfl, sq, dx⟩ := dp_tup (ds := hd.items) dh
  have sm := same_new (o := .tup vs) hu
  have lx := dps_len dx
  have lv := dps_len dv
  refine .inr (.inr (.inr ⟨a, u, xs, vs, rfl, rfl, same_sqT (offS_le.trans sm) sq, SqT.of upd_same, small_le (by omega), fun e => ?_, fun _ e => ?_, fun _ _ w hw => ?_⟩))
  · rw [e] at lx
    exact absurd (List.eq_nil_of_length_eq_zero lx.symm) hn
  · rw [e] at lv
    exact absurd (List.eq_nil_of_length_eq_zero lv.symm) hne
  · have s2 := sm.trans (same_new (o := .tup (xs ++ vs)) hw)
    have so := (SS.of (S := hot p frs) s2).off
    refine k _ _ s2 (.tup (SqT.of (offS_some.mpr ⟨fun e => ?_, upd_same⟩)) (dps_append (dps_mono so dx) (dps_mono so dv)))
    obtain ⟨zs, q⟩ := hot_some (hP.mono sm) e
    rw [q] at hw
    cases hw
end
section
variable {P : Program} {w : World} {K : PySem.W.Frag} {mg : Str → Option Value} {base : Heap}
theorem sc_law_close : FnScope ["_law_pile", "_law_head", "_law_first", "_law_second", "_law_side"] ["_law_pile"] (defScope (top 46)) := ⟨rfl, rfl, rfl, by decide +kernel, rfl, by decide +kernel, by decide +kernel⟩
theorem kn_close (T : Tx K mg) : Kn P w K mg base 2 "_law_close" ["_law_pile"] (spClose K) := by
  have K_law_put := kn_put (P := P) (w := w) (base := base) T
  refine kn_mk (T.fn2 (("_law_close" : Str), 46) (by decide +kernel)) sc_law_close (fun _ _ _ _ _ _ us hl => match us, hl with | [_], _ => rfl) (fun vs H Q E h => ?_) (fun f cdv A outer s0 H vs Q E hr h => ?_)
  · obtain ⟨_, _, _, _, _, rfl, _⟩ := h
    rfl
  obtain ⟨p, frs, x, y, nm, rfl, hP, ho, hs, ha, hb, q⟩ := h
  refine ⟨_, (pss_cons (ps_asg (pe_bm0 PySem.F.plainAttrs_list PySem.F.slot_list_pop PySem.F.type_list_pop mt_pop (pv 0)) (pg_unl rfl (pgs_cons (pg_name (i := 1) sc_law_close.nd rfl (.inl rfl)) (pgs_cons (pg_name (i := 2) sc_law_close.nd rfl (.inl rfl)) (pgs_cons (pg_name (i := 3) sc_law_close.nd rfl (.inl rfl)) (pgs_cons (pg_name (i := 4) sc_law_close.nd rfl (.inl rfl)) (pgs_nil))))))) (pss_one (ps_if (pt_cmpR op_eq (pe_ix ix_seq (pv 1) (pe_int) (fun _ _ => rfl)) (pe_str) (nomark _)) (pss_one (ps_expr (pe_kn K_law_put (hr.mono (by decide)) rfl (pa_cons (pv 0) (pa_cons (pe_op op_addU (pv 1) (pe_tup (pa_cons (pv 2) (pa_cons (pv 3) (pa_nil))))) (pa_nil)))))) (pss_one (ps_expr (pe_kn K_law_put (hr.mono (by decide)) rfl (pa_cons (pv 0) (pa_cons (pe_op op_addU (pv 1) (pe_tup (pa_cons (pv 2) (pa_nil)))) (pa_nil))))))))), ?_⟩
  obtain ⟨P1, F, nh⟩ := hP.pop
  have hps : H p = some (.lst (((frs ++ [x]).map fun x => V.ref x.f) ++ [V.ref y.f])) := by rw [hP.ps, List.map_append]; rfl
  refine q_seq (show tAsg _ _ _ _ _ from ?_)
  refine ⟨_, rfl, .inl ⟨rfl, _, SqL.of hps⟩, p, _, V.ref y.f, rfl, rfl, hps, by rw [List.length_append]; exact (List.getElem?_append_right (Nat.le_refl _)).trans (by rw [Nat.sub_self]; rfl), ?_⟩
  rw [List.dropLast_concat]
  have sx : SS (hot p (frs ++ [x] ++ [y])) H (upd H p (.lst ((frs ++ [x]).map fun x => V.ref x.f))) := SS.upd List.mem_cons_self
  generalize upd H p (.lst ((frs ++ [x]).map fun x => V.ref x.f)) = H1 at P1 F sx ⊢
  refine ⟨y.f, _, rfl, SqL.of F.f, rfl, _, _, rfl, _, _, rfl, _, _, rfl, _, _, rfl, rfl, ?_⟩
  obtain ⟨as, a1, a2⟩ := F.a
  obtain ⟨bs, b1, b2⟩ := F.b
  have da : Dp K (offS (hot p (frs ++ [x])) H1) (.ref y.a) (.list (encs y.A)) := .lst (SqL.of (offS_some.mpr ⟨nh _ (List.mem_cons_of_mem _ List.mem_cons_self), a1⟩)) a2
  have db : Dp K (offS (hot p (frs ++ [x])) H1) (.ref y.b) (.list (encs y.B)) := .lst (SqL.of (offS_some.mpr ⟨nh _ (List.mem_cons_of_mem _ (List.mem_cons_of_mem _ List.mem_cons_self)), b1⟩)) b2
  have hn : y.hd.items ≠ [] := by cases y.hd <;> exact fun e => nomatch e
  have hl : y.hd.items.length ≤ 10 := by cases y.hd <;> exact Nat.le_of_ble_eq_true rfl
  have sub : ∀ u ∈ hot p (frs ++ [x]), u ∈ hot p (frs ++ [x] ++ [y]) := fun u hu => by
    rw [hot_snoc p (frs ++ [x]) y]
    exact List.mem_append_left _ hu
  refine l_if (gt_htag (K := K) (x := "if") (gd_var rfl (dp_mono offS_le F.h))) (fun c H2 s2 => ?_) fun c H2 s2 => ?_
  · have so := (SS.of (S := hot p (frs ++ [x])) s2).off
    refine show tDrop _ _ _ _ from ?_
    refine ⟨_, rfl, new_step (ds := [.list (encs y.A), .list (encs y.B)]) (vs := [.ref y.a, .ref y.b]) rfl (P1.mono s2) (dp_mono so F.h) hn (fun e => nomatch e) hl (Nat.le_of_ble_eq_true rfl) (fun R r => ⟨_, rfl, _, rfl, r⟩) (.cons (dp_mono so da) (.cons (dp_mono so db) .nil)) fun v H3 s3 dv => ?_⟩
    refine ⟨p, v, frs, x, y.hd.mk y.A y.B, rfl, (P1.mono s2).mono s3, ?_, hs, ha, hb, fun H' sx' hP' => q H' ((sx.trans (SS.of (s2.trans s3))).trans (sx'.sub sub)) hP'⟩
    rw [Hd.mk_items ho, if_pos (of_decide_eq_true c)]
    exact dv
  · have so := (SS.of (S := hot p (frs ++ [x])) s2).off
    refine show tDrop _ _ _ _ from ?_
    refine ⟨_, rfl, new_step (ds := [.list (encs y.A)]) (vs := [.ref y.a]) rfl (P1.mono s2) (dp_mono so F.h) hn (fun e => nomatch e) hl (Nat.le_of_ble_eq_true rfl) (fun R r => ⟨_, rfl, r⟩) (.cons (dp_mono so da) .nil) fun v H3 s3 dv => ?_⟩
    refine ⟨p, v, frs, x, y.hd.mk y.A y.B, rfl, (P1.mono s2).mono s3, ?_, hs, ha, hb, fun H' sx' hP' => q H' ((sx.trans (SS.of (s2.trans s3))).trans (sx'.sub sub)) hP'⟩
    rw [Hd.mk_items ho, if_neg (of_decide_eq_false c)]
    exact dv
end
end Uw
/-! text T36 -/
namespace Uw
open PySem PySem.Spec PyProof.Rows L2
/-! _law_program -/
def Fr.sz (x : Fr) : Nat := szs x.A + szs x.B + 1
def Fr.ld (x : Fr) : Nat := lendsL x.A + lendsL x.B + x.hd.lends
structure FrOk (nm : List Str) (k : Nat) (x : Fr) : Prop where
  A : POk nm k x.A
  B : POk nm k x.B
  top : k = 0 → x.hd = .top
  hd : 0 < k → x.hd.Ok nm
  side : x.side ≤ 1
structure PIn (nm : List Str) (L0 lends c : Nat) (frs : List Fr) : Prop where
  len : frs.length ≤ 3
  ne : 0 < frs.length
  ok : ∀ i x, frs[i]? = some x → FrOk nm i x
  sz : (frs.map Fr.sz).sum ≤ c + 1
  ld : (frs.map Fr.ld).sum + lends ≤ L0
theorem len_szs : ∀ p : List Stp, p.length ≤ szs p
  | [] => Nat.le_refl _
  | s :: r => by
    have z := len_szs r
    have h1 : 1 ≤ s.sz := by cases s <;> first | exact Nat.le_refl _ | exact Nat.le_add_left _ _
    show r.length + 1 ≤ s.sz + szs r
    omega
section
variable {nm : List Str} {L0 l c : Nat} {frs : List Fr} {x y : Fr} {s : Stp}
theorem PIn.last (h : PIn nm L0 l c (frs ++ [x])) : FrOk nm frs.length x := h.ok _ _ (by rw [List.getElem?_append_right (Nat.le_refl _), Nat.sub_self]; rfl)
theorem PIn.lens (h : PIn nm L0 l c (frs ++ [x])) : x.A.length ≤ c ∧ x.B.length ≤ c := by
  have z := h.sz
  rw [List.map_append, List.sum_append] at z
  have z : (frs.map Fr.sz).sum + (szs x.A + szs x.B + 1 + 0) ≤ c + 1 := z
  have a := len_szs x.A
  have b := len_szs x.B
  omega
theorem PIn.mono {c' : Nat} (h : PIn nm L0 l c frs) (hc : c ≤ c') : PIn nm L0 l c' frs := ⟨h.len, h.ne, h.ok, Nat.le_trans h.sz (Nat.succ_le_succ hc), h.ld⟩
theorem put_sz (x : Fr) (s : Stp) : (x.put s).sz = x.sz + s.sz ∧ (x.put s).ld = x.ld + s.lends := by
  unfold Fr.put
  split
  · refine ⟨?_, ?_⟩
    · show szs (x.A ++ [s]) + szs x.B + 1 = szs x.A + szs x.B + 1 + s.sz
      rw [szs_app]
      show szs x.A + (s.sz + 0) + _ + 1 = _
      omega
    · show lendsL (x.A ++ [s]) + lendsL x.B + x.hd.lends = lendsL x.A + lendsL x.B + x.hd.lends + s.lends
      rw [lendsL_app]
      show lendsL x.A + (s.lends + 0) + _ + _ = _
      omega
  · refine ⟨?_, ?_⟩
    · show szs x.A + szs (x.B ++ [s]) + 1 = szs x.A + szs x.B + 1 + s.sz
      rw [szs_app]
      show _ + (szs x.B + (s.sz + 0)) + 1 = _
      omega
    · show lendsL x.A + lendsL (x.B ++ [s]) + x.hd.lends = lendsL x.A + lendsL x.B + x.hd.lends + s.lends
      rw [lendsL_app]
      show _ + (lendsL x.B + (s.lends + 0)) + _ = _
      omega
theorem FrOk.put {k : Nat} (h : FrOk nm k x) (hg : s.Good) (hd : s.dep + k ≤ 2) (hn : ∀ y ∈ s.names, y ∈ nm) : FrOk nm k (x.put s) := by
  obtain ⟨_, _, e3, e4⟩ := put_f x s
  refine ⟨?_, ?_, by rw [e3]; exact h.top, by rw [e3]; exact h.hd, by rw [e4]; exact h.side⟩
  · unfold Fr.put
    split
    · exact h.A.app hg hd hn
    · exact h.A
  · unfold Fr.put
    split
    · exact h.B
    · exact h.B.app hg hd hn
theorem sum_snoc (f : Fr → Nat) (frs : List Fr) (x : Fr) : ((frs ++ [x]).map f).sum = (frs.map f).sum + f x := by
  rw [List.map_append, List.sum_append]
  show _ + (f x + 0) = _
  omega
theorem snoc_at {i : Nat} {z : Fr} (h : (frs ++ [y])[i]? = some z) : (i < frs.length ∧ frs[i]? = some z) ∨ (i = frs.length ∧ z = y) := by
  by_cases hi : i < frs.length
  · rw [List.getElem?_append_left hi] at h
    exact .inl ⟨hi, h⟩
  · rw [List.getElem?_append_right (by omega)] at h
    cases q : i - frs.length with
    | zero =>
      rw [q] at h
      exact .inr ⟨by omega, (Option.some.inj h).symm⟩
    | succ k =>
      rw [q] at h
      simp at h
theorem PIn.put (h : PIn nm L0 l c (frs ++ [x])) (hg : s.Good) (hd : s.dep = 0) (hn : ∀ y ∈ s.names, y ∈ nm) (h1 : s.sz = 1) (h2 : s.lends = 0) : PIn nm L0 l (c + 1) (frs ++ [x.put s]) := by
  have z := h.sz
  have z2 := h.ld
  have z3 := h.len
  obtain ⟨p1, p2⟩ := put_sz x s
  rw [sum_snoc] at z z2
  rw [List.length_append] at z3
  have z3 : frs.length + 1 ≤ 3 := z3
  refine ⟨by rw [List.length_append]; exact z3, by rw [List.length_append]; exact Nat.succ_pos _, fun i y hy => ?_, by rw [sum_snoc, p1]; omega, by rw [sum_snoc, p2]; omega⟩
  rcases snoc_at hy with ⟨hi, hy⟩ | ⟨rfl, rfl⟩
  · exact h.ok i y (by rw [List.getElem?_append_left hi]; exact hy)
  · exact h.last.put hg (by omega) hn
theorem PIn.close (h : PIn nm L0 l c (frs ++ [x] ++ [y])) : PIn nm L0 l c (frs ++ [x.put (y.hd.mk y.A y.B)]) ∧ y.hd.Ok nm ∧ x.side ≤ 1 := by
  have z := h.sz
  have z2 := h.ld
  have z3 := h.len
  have oy := h.last
  have ox : FrOk nm frs.length x := h.ok _ _ (by rw [List.getElem?_append_left (by rw [List.length_append]; exact Nat.lt_succ_self _), List.getElem?_append_right (Nat.le_refl _), Nat.sub_self]; rfl)
  rw [List.length_append] at oy
  have oy : FrOk nm (frs.length + 1) y := oy
  rw [sum_snoc, sum_snoc] at z z2
  rw [List.length_append, List.length_append] at z3
  have z3 : frs.length + 1 + 1 ≤ 3 := z3
  have hy := oy.hd (Nat.succ_pos _)
  obtain ⟨m1, m2, m3, m4, m5⟩ := Hd.mk_ok hy oy.A oy.B
  obtain ⟨p1, p2⟩ := put_sz x (y.hd.mk y.A y.B)
  refine ⟨⟨by rw [List.length_append]; show frs.length + 1 ≤ 3; omega, by rw [List.length_append]; exact Nat.succ_pos _, fun i u hu => ?_, ?_, ?_⟩, hy, ox.side⟩
  · rcases snoc_at hu with ⟨hi, hu⟩ | ⟨rfl, rfl⟩
    · exact h.ok i u (by rw [List.getElem?_append_left (by rw [List.length_append]; exact Nat.lt_succ_of_lt hi), List.getElem?_append_left hi]; exact hu)
    · exact ox.put m1 m2 m3
  · rw [sum_snoc, p1]
    have : y.sz = szs y.A + szs y.B + 1 := rfl
    omega
  · rw [sum_snoc, p2]
    have : y.ld = lendsL y.A + lendsL y.B + y.hd.lends := rfl
    omega
theorem PIn.side1 (h : PIn nm L0 l c (frs ++ [x])) : PIn nm L0 l c (frs ++ [{ x with side := 1 }]) := by
  have z := h.sz
  have z2 := h.ld
  rw [sum_snoc] at z z2
  refine ⟨by have := h.len; rw [List.length_append] at this ⊢; exact this, by rw [List.length_append]; exact Nat.succ_pos _, fun i y hy => ?_, by rw [sum_snoc]; exact z, by rw [sum_snoc]; exact z2⟩
  rcases snoc_at hy with ⟨hi, hy⟩ | ⟨rfl, rfl⟩
  · exact h.ok i y (by rw [List.getElem?_append_left hi]; exact hy)
  · have o := h.last
    exact ⟨o.A, o.B, o.top, o.hd, Nat.le_refl _⟩
theorem PIn.push {f a b : Addr} {hv : V} {hd : Hd} {l' : Nat} (h : PIn nm L0 l c frs) (ho : hd.Ok nm) (hl : frs.length ≤ 2) (h2 : hd.lends + l' ≤ l) : PIn nm L0 l' (c + 1) (frs ++ [⟨f, a, b, hv, hd, [], [], 0⟩]) := by
  have z := h.sz
  have z2 := h.ld
  have z3 := h.ne
  refine ⟨by rw [List.length_append]; exact Nat.succ_le_succ hl, by rw [List.length_append]; exact Nat.succ_pos _, fun i y hy => ?_, ?_, ?_⟩
  · rcases snoc_at hy with ⟨hi, hy⟩ | ⟨rfl, rfl⟩
    · exact h.ok i y hy
    · exact ⟨.nil hl, .nil hl, fun e => by omega, fun _ => ho, Nat.zero_le _⟩
  · rw [sum_snoc]
    show _ + (0 + 0 + 1) ≤ _
    omega
  · rw [sum_snoc]
    show _ + (0 + 0 + hd.lends) + _ ≤ _
    omega
end
/-! the pile's heap -/
section
variable {K : PySem.W.Frag} {H H' : Hp} {p : Addr} {frs : List Fr} {x : Fr}
theorem pile_new {f a b : Addr} {hv : V} {hd : Hd} (nd : (hot p frs).Nodup) (old : ∀ y ∈ frs, FrAt K (hot p frs) H y) (s : ∀ b o, H b = some o → b ≠ p → H' b = some o) (ps : H' p = some (.lst ((frs.map fun x => V.ref x.f) ++ [.ref f]))) (n : ∀ u ∈ hot p frs, u ≠ f ∧ u ≠ a ∧ u ≠ b) (fa : f ≠ a) (fb : f ≠ b) (ab : a ≠ b) (hf : H f = none) (ha : H a = none) (hb : H b = none)
    (h1 : H' f = some (.lst [hv, .ref a, .ref b, .int 0])) (h2 : H' a = some (.lst [])) (h3 : H' b = some (.lst [])) (dh : Dp K (offS (hot p frs) H) hv hd.enc) : Pile K H' p (frs ++ [⟨f, a, b, hv, hd, [], [], 0⟩]) := by
  have sm : Same (offS (hot p frs) H) (offS (hot p (frs ++ [⟨f, a, b, hv, hd, [], [], 0⟩])) H') := fun u o e => by
    obtain ⟨e1, e2⟩ := offS_some.mp e
    refine offS_some.mpr ⟨fun z => ?_, s u o e2 fun q => e1 (by rw [q]; exact List.mem_cons_self)⟩
    rw [hot_snoc] at z
    rcases List.mem_append.mp z with z | z
    · exact e1 z
    · have z : u ∈ [f, a, b] := z
      simp only [List.mem_cons, List.not_mem_nil, or_false] at z
      rcases z with q | q | q <;> rw [q] at e2
      · rw [hf] at e2
        cases e2
      · rw [ha] at e2
        cases e2
      · rw [hb] at e2
        cases e2
  have hp : p ∉ frs.flatMap Fr.at := (List.nodup_cons.mp nd).1
  refine ⟨by rw [List.map_append]; exact ps, ?_, fun y hy => ?_⟩
  · rw [hot_snoc]
    refine List.nodup_append.mpr ⟨nd, ?_, fun u hu t ht => ?_⟩
    · show [f, a, b].Nodup
      simp only [List.nodup_cons, List.mem_cons, List.not_mem_nil, or_false, not_or, not_false_eq_true, List.nodup_nil, and_true]
      exact ⟨⟨fa, fb⟩, ab⟩
    · have ht : t ∈ [f, a, b] := ht
      obtain ⟨n1, n2, n3⟩ := n u hu
      simp only [List.mem_cons, List.not_mem_nil, or_false] at ht
      rcases ht with q | q | q <;> rw [q] <;> assumption
  · rcases List.mem_append.mp hy with hy | hy
    · exact (old y hy).mono sm fun u hu o e => s u o e fun q => hp (by rw [← q]; exact List.mem_flatMap.mpr ⟨y, hy, hu⟩)
    · rw [List.mem_singleton.mp hy]
      exact ⟨h1, dp_mono sm dh, ⟨[], h2, .nil⟩, ⟨[], h3, .nil⟩⟩
theorem new_fr {σ : L2.St} {H1 : Hp} {hv : V} {Q : VK} (k : ∀ a b f H', Same H1 H' → H1 a = none → H1 b = none → H1 f = none → a ≠ b → f ≠ a → f ≠ b → H' a = some (.lst []) → H' b = some (.lst []) → H' f = some (.lst [hv, .ref a, .ref b, .int 0]) → Q (.ref f) H') :
    (tCons (tLst tNil) (tCons (tLst tNil) (tCons (tC (.int 0)) tNil))) σ H1 fun xs H2 => (hv :: xs).length ≤ sizeLine ∧ ∀ p, H2 p = none → Q (.ref p) (upd H2 p (.lst (hv :: xs))) := by
  refine ⟨small_le (Nat.zero_le _), fun a ha => ⟨small_le (Nat.zero_le _), fun b hb => ⟨small_le (Nat.le_of_ble_eq_true rfl), fun f hf => ?_⟩⟩⟩
  have s1 := same_new (o := .lst []) ha
  have s2 := same_new (o := .lst []) hb
  have s3 := same_new (o := .lst [hv, .ref a, .ref b, .int 0]) hf
  have ab : a ≠ b := fun e => by rw [← e, upd_same] at hb; cases hb
  have fb : f ≠ b := fun e => by rw [e, upd_same] at hf; cases hf
  have fa : f ≠ a := fun e => by rw [e, s2 _ _ upd_same] at hf; cases hf
  exact k a b f _ ((s1.trans s2).trans s3) ha (s1.free hb) ((s1.trans s2).free hf) ab fa fb (s3 _ _ (s2 _ _ upd_same)) (s3 _ _ upd_same) upd_same
theorem Pile.side1 (h : Pile K H p (frs ++ [x])) : Pile K (upd H x.f (.lst [x.hv, .ref x.a, .ref x.b, .int 1])) p (frs ++ [{ x with side := 1 }]) := by
  obtain ⟨n1, n2, n3⟩ := hot_ne h.nd
  have F := h.fr x (List.mem_append_right _ List.mem_cons_self)
  have fm : x.f ∈ x.at := List.mem_cons_self
  have eh : hot p (frs ++ [{ x with side := 1 }]) = hot p (frs ++ [x]) := by rw [hot_snoc, hot_snoc]; rfl
  have sm : Same (offS (hot p (frs ++ [x])) H) (offS (hot p (frs ++ [x])) (upd H x.f (.lst [x.hv, .ref x.a, .ref x.b, .int 1]))) := (SS.upd (mem_hot (List.mem_append_right _ List.mem_cons_self) fm)).off
  refine ⟨?_, by rw [eh]; exact h.nd, fun y hy => ?_⟩
  · have z := h.ps
    rw [List.map_append] at z ⊢
    exact (upd_ne (n3 p List.mem_cons_self _ fm)).trans z
  · rw [eh]
    rcases List.mem_append.mp hy with hy | hy
    · exact (h.fr y (List.mem_append_left _ hy)).mono sm fun u hu o e => (upd_ne (n3 u (mem_hot hy hu) _ fm)).trans e
    · rw [List.mem_singleton.mp hy]
      have nf : x.f ≠ x.a ∧ x.f ≠ x.b ∧ x.a ≠ x.b := by
        unfold Fr.at at n2
        simp only [List.nodup_cons, List.mem_cons, List.not_mem_nil, or_false, not_or] at n2
        exact ⟨n2.1.1, n2.1.2, n2.2.1⟩
      obtain ⟨as, a1, a2⟩ := F.a
      obtain ⟨bs, b1, b2⟩ := F.b
      exact ⟨upd_same, dp_mono sm F.h, ⟨as, (upd_ne (Ne.symm nf.1)).trans a1, dps_mono sm a2⟩, ⟨bs, (upd_ne (Ne.symm nf.2.1)).trans b1, dps_mono sm b2⟩⟩
theorem ss_same {S : List Addr} {H0 H H' : Hp} (s : Same H0 H) (k : SS S H H') (n : ∀ u ∈ S, H0 u = none) : Same H0 H' := fun b o e => k b o (s b o e) fun z => by
  rw [n b z] at e
  cases e
theorem gd_len {σ : L2.St} {n : Nat} (hv : σ[n]? = some (some (.ref p))) (h : Pile K H p frs) : Gd K (tCB (rLn K) (tCons (tVar n) tNil)) σ H (.int (frs.length : Nat)) := gd_rs (v := .int (frs.length : Nat)) (fun H1 s Q q => ⟨_, hv, p, _, rfl, .inl (SqL.of (h.mono s).ps), by rw [List.length_map]; exact q⟩) (.int _)
theorem gd_last {σ : L2.St} {n : Nat} (hv : σ[n]? = some (some (.ref p))) (h : Pile K H p (frs ++ [x])) : Gd K (tOp (rIx K) (tLast K n) (tC (.int 0))) σ H x.hd.enc := gd_rs (fun H1 s => rs_head hv (h.mono s)) (dp_mono offS_le (h.fr x (List.mem_append_right _ List.mem_cons_self)).h)
theorem gd_side {σ : L2.St} {n : Nat} (hv : σ[n]? = some (some (.ref p))) (h : Pile K H p (frs ++ [x])) : Gd K (tOp (rIx K) (tLast K n) (tC (.int 3))) σ H (.int (x.side : Nat)) := gd_rs (fun H1 s => rs_side hv (h.mono s)) (.int _)
end
/-! the kinds of steps -/
theorem step_kinds {nm : List Str} {d : PyData} (z : StepZ nm d) : (∃ (s : Stp) (tg : Str) (ds : List PyData), d = s.enc ∧ d = .tuple (.str tg :: ds) ∧ ([PyData.str "other", .str "close"].any fun x => eqF x (.str tg)) = false ∧ (!([PyData.str "lend", .str "if", .str "while"].any fun x => eqF x (.str tg))) = true ∧ s.Good ∧ s.dep = 0 ∧ (∀ y ∈ s.names, y ∈ nm) ∧ s.sz = 1 ∧ s.lends = 0) ∨
    (∃ hd : Hd, d = hd.enc ∧ hd.Ok nm ∧ ([PyData.str "other", .str "close"].any fun x => eqF x (.str hd.tag)) = false ∧ (!([PyData.str "lend", .str "if", .str "while"].any fun x => eqF x (.str hd.tag))) = false) ∨ d = .tuple [.str "other"] ∨ d = .tuple [.str "close"] := by
  have two : ∀ {x y : Str}, x ∈ nm → y ∈ nm → ∀ z ∈ [x, y], z ∈ nm := fun hx hy z hz => by
    rcases List.mem_cons.mp hz with e | e
    · rw [e]; exact hx
    · rw [List.mem_singleton.mp e]; exact hy
  have one : ∀ {x : Str}, x ∈ nm → ∀ z ∈ [x], z ∈ nm := fun hx z hz => by rw [List.mem_singleton.mp hz]; exact hx
  cases z with
  | opn x a b => exact .inl ⟨.opn x, "open", _, rfl, rfl, by decide +kernel, by decide +kernel, a, rfl, one b, rfl, rfl⟩
  | act w x a b c => exact .inl ⟨.act w x, "do", _, rfl, rfl, by decide +kernel, by decide +kernel, ⟨a, b⟩, rfl, one c, rfl, rfl⟩
  | cpy x y a b c e => exact .inl ⟨.cpy x y, "copy", _, rfl, rfl, by decide +kernel, by decide +kernel, ⟨a, b⟩, rfl, two c e, rfl, rfl⟩
  | drp x a b => exact .inl ⟨.drp x, "drop", _, rfl, rfl, by decide +kernel, by decide +kernel, a, rfl, one b, rfl, rfl⟩
  | tie x y a b c e => exact .inl ⟨.tie x y, "tie", _, rfl, rfl, by decide +kernel, by decide +kernel, ⟨a, b⟩, rfl, two c e, rfl, rfl⟩
  | lend x y a b c e => exact .inr (.inl ⟨.lend x y, rfl, ⟨a, b, c, e⟩, show ([PyData.str "other", .str "close"].any fun x => eqF x (.str "lend")) = false by decide +kernel, show (!([PyData.str "lend", .str "if", .str "while"].any fun x => eqF x (.str "lend"))) = false by decide +kernel⟩)
  | ite n a => exact .inr (.inl ⟨.ite n, rfl, a, show ([PyData.str "other", .str "close"].any fun x => eqF x (.str "if")) = false by decide +kernel, show (!([PyData.str "lend", .str "if", .str "while"].any fun x => eqF x (.str "if"))) = false by decide +kernel⟩)
  | whl n a => exact .inr (.inl ⟨.whl n, rfl, a, show ([PyData.str "other", .str "close"].any fun x => eqF x (.str "while")) = false by decide +kernel, show (!([PyData.str "lend", .str "if", .str "while"].any fun x => eqF x (.str "while"))) = false by decide +kernel⟩)
  | oth => exact .inr (.inr (.inl rfl))
  | cls => exact .inr (.inr (.inr rfl))
theorem step_nol {nm : List Str} {d : PyData} (z : StepZ nm d) : nol d = true := by cases z <;> rfl
end Uw
/-! text T37 -/
namespace Uw
open PySem PySem.Spec PyProof.Rows L2
/-! _law_program: the walk -/
abbrev tFrame (te : TE) : TE := tLst (tCons te (tCons (tLst tNil) (tCons (tLst tNil) (tCons (tC (.int 0)) tNil))))
def MonoE (te : TE) (σ : L2.St) (H : Hp) : Prop := ∀ Q Q' : VK, (∀ v H, Q v H → Q' v H) → te σ H Q → te σ H Q'
theorem al_fr {te : TE} {σ : L2.St} {H : Hp} {Q : VK} (m : MonoE te σ H) (h : te σ H fun hv H1 => ∀ a b f H', Same H1 H' → H1 a = none → H1 b = none → H1 f = none → a ≠ b → f ≠ a → f ≠ b → H' a = some (.lst []) → H' b = some (.lst []) → H' f = some (.lst [hv, .ref a, .ref b, .int 0]) → Q (.ref f) H') : tFrame te σ H Q :=
  m _ _ (fun hv H1 q => new_fr q) h
theorem mono_fr {te : TE} {σ : L2.St} {H : Hp} (m : MonoE te σ H) : MonoE (tFrame te) σ H := fun Q Q' i h => m _ _ (fun hv H1 ⟨l1, k1⟩ => ⟨l1, fun a ha => ⟨(k1 a ha).1, fun b hb => ⟨((k1 a ha).2 b hb).1, fun f hf => i _ _ (((k1 a ha).2 b hb).2 f hf)⟩⟩⟩) h
theorem lst_one {te : TE} {σ : L2.St} {H : Hp} {Q : VK} (m : MonoE te σ H) (h : te σ H fun x H1 => ∀ p, H1 p = none → Q (.ref p) (upd H1 p (.lst [x]))) : tLst (tCons te tNil) σ H Q := m _ _ (fun v H q => ⟨small_le (Nat.le_of_ble_eq_true rfl), q⟩) h
theorem mono_top {σ : L2.St} {H : Hp} : MonoE (tTup (tCons (tC (.str "top")) tNil)) σ H := fun Q Q' i h => ⟨h.1, fun p hp => i _ _ (h.2 p hp)⟩
theorem mono_var {σ : L2.St} {H : Hp} {n : Nat} : MonoE (tVar n) σ H := fun Q Q' i ⟨v, e, q⟩ => ⟨v, e, i _ _ q⟩
section
variable {P : Program} {w : World} {K : PySem.W.Frag} {mg : Str → Option Value} {base : Heap}
def R_program (ds : List PyData) (Z : PyData → Prop) : Prop := ∃ (cells : List Int) (nm ws : List Str) (L0 : Nat), nm ≠ [] ∧ ws ≠ [] ∧ (∀ x ∈ nm, Wd x) ∧ (∀ x ∈ ws, Wd x) ∧ cells.length ≤ 100 ∧
  ds = [.list (cells.map PyData.int), .list (nm.map PyData.str), .list (ws.map PyData.str), .int (L0 : Nat), .int 2] ∧ Z = fun d => ∃ q : List Stp, d = .list (encs q) ∧ Goods q ∧ deps q ≤ 2 ∧ szs q ≤ cells.length ∧ (∀ y ∈ namesL q, y ∈ nm) ∧ lendsL q ≤ L0
/-- the pile stands, all of it new -/
structure PHp (K : PySem.W.Frag) (H0 H : Hp) (p : Addr) (frs : List Fr) : Prop where
  same : Same H0 H
  pile : Pile K H p frs
  free : ∀ u ∈ hot p frs, H0 u = none
theorem PHp.mono {H0 H H' : Hp} {p : Addr} {frs : List Fr} (h : PHp K H0 H p frs) (s : Same H H') : PHp K H0 H' p frs := ⟨h.same.trans s, h.pile.mono s, h.free⟩
theorem snoc_of {frs : List Fr} (h : 0 < frs.length) : ∃ f0 x, frs = f0 ++ [x] := ⟨frs.dropLast, frs.getLast (List.length_pos_iff.mp h), (List.dropLast_concat_getLast _).symm⟩
theorem call_close {σ : L2.St} {n : Nat} {H0 H : Hp} {p : Addr} {frs : List Fr} {x y : Fr} {E : XK} {Q : VK} {nm : List Str} {L0 l c : Nat} (hv : σ[n]? = some (some (.ref p))) (h : PHp K H0 H p (frs ++ [x] ++ [y])) (hi : PIn nm L0 l c (frs ++ [x] ++ [y])) (hc : c ≤ 200)
    (k : ∀ H', PHp K H0 H' p (frs ++ [x.put (y.hd.mk y.A y.B)]) → PIn nm L0 l c (frs ++ [x.put (y.hd.mk y.A y.B)]) → Q .non H') : tCall (spClose K) [] E (tCons (tVar n) tNil) σ H Q := by
  obtain ⟨c1, c2, c3⟩ := hi.close
  have hz := hi.sz
  rw [sum_snoc, sum_snoc] at hz
  have a := len_szs x.A
  have b := len_szs x.B
  have e : x.sz = szs x.A + szs x.B + 1 := rfl
  refine ⟨_, hv, p, frs, x, y, nm, rfl, h.pile, c2, c3, by omega, by omega, fun H' sx hP => k H' ⟨ss_same h.same sx h.free, hP, fun u hu => ?_⟩ c1⟩
  refine h.free u ?_
  rw [hot_put] at hu
  rw [hot_snoc p (frs ++ [x])]
  exact List.mem_append_left _ hu
theorem sc_law_program : FnScope ["_law_cells", "_law_names", "_law_words_here", "_law_lends", "_law_deep", "_law_pile", "_law_cell", "_law_step_here"] ["_law_cells", "_law_names", "_law_words_here", "_law_lends", "_law_deep"] (defScope (top 47)) := ⟨rfl, rfl, rfl, by decide +kernel, rfl, by decide +kernel, by decide +kernel⟩
theorem kn_program (T : Tx K mg) : Kn P w K mg base 3 "_law_program" ["_law_cells", "_law_names", "_law_words_here", "_law_lends", "_law_deep"] (spN K R_program) := by
  have K_law_step := kn_step (P := P) (w := w) (base := base) T
  have K_law_put := kn_put (P := P) (w := w) (base := base) T
  have K_law_close := kn_close (P := P) (w := w) (base := base) T
  refine kn_N (T.fn2 (("_law_program" : Str), 47) (by decide +kernel)) sc_law_program (fun _ _ _ _ _ _ us hl => match us, hl with | [_, _, _, _, _], _ => rfl) (fun ds d h => ?_) (fun f cdv A outer s0 H vs E ds Z hr hv h => ?_)
  · obtain ⟨_, _, _, _, _, _, _, _, _, rfl, _⟩ := h
    rfl
  obtain ⟨cells, nm, ws, L0, n1, n2, w1, w2, hcl, rfl, rfl⟩ := h
  obtain _ | ⟨h1, _ | ⟨h2, _ | ⟨h3, _ | ⟨h4, _ | ⟨h5, _ | _⟩⟩⟩⟩⟩ := hv
  have e4 := dp_int h4
  have e5 := dp_int h5
  subst e4 e5
  rename_i v0 v1 v2
  refine ⟨_, (pss_cons (ps_set (i := 5) sc_law_program.nd rfl (Or.inl rfl) (pe_lst (pa_cons (pe_lst (pa_cons (pe_tup (pa_cons (pe_str) (pa_nil))) (pa_cons (pe_lst (pa_nil)) (pa_cons (pe_lst (pa_nil)) (pa_cons (pe_int) (pa_nil)))))) (pa_nil)))) (pss_cons (ps_for PassesOwn.never rfl (pi_list (pv 0)) (pg_name (i := 6) sc_law_program.nd rfl (.inl rfl)) (pss_cons (ps_set (i := 7) sc_law_program.nd rfl (Or.inl rfl) (pe_kn K_law_step (hr.mono (by decide)) rfl (pa_cons (pv 6) (pa_cons (pv 1) (pa_cons (pv 2) (pa_nil)))))) (pss_one (ps_if (pt_cmpR op_in_seq (pe_ix ix_seq (pv 7) (pe_int) (fun _ _ => rfl)) (pe_tup (pa_cons (pe_str) (pa_cons (pe_str) (pa_nil)))) (by rfl)) (pss_one (ps_if (PW.pt (pw_and (pt_cmpR op_gt (pe_callB call_ln (by rfl) (T.free "len" (by decide)) PySem.boot_len (pa_cons (pv 5) (pa_nil))) (pe_int) (nomark _)) (pw_and (pt_cmpR op_eq (pe_ix ix_seq (pv 7) (pe_int) (fun _ _ => rfl)) (pe_str) (nomark _)) (pw_and (pt_cmpR op_eq (pe_ix ix_seq (pe_ix ix_seq (pe_ix ix_seq (pv 5) (pe_un un_neg (pe_int)) (fun _ _ => rfl)) (pe_int) (fun _ _ => rfl)) (pe_int) (fun _ _ => rfl)) (pe_str) (nomark _)) (pw_and1 (pt_cmpR op_eq (pe_ix ix_seq (pe_ix ix_seq (pv 5) (pe_un un_neg (pe_int)) (fun _ _ => rfl)) (pe_int) (fun _ _ => rfl)) (pe_int) (nomark _))))))) (pss_one (ps_asg (pe_int) (pg_sub (pe_ix ix_seq (pv 5) (pe_un un_neg (pe_int)) (fun _ _ => rfl)) (pe_int) set_list))) (pss_one (ps_if (pt_cmpR op_gt (pe_callB call_ln (by rfl) (T.free "len" (by decide)) PySem.boot_len (pa_cons (pv 5) (pa_nil))) (pe_int) (nomark _)) (pss_one (ps_expr (pe_kn K_law_close (hr.mono (by decide)) rfl (pa_cons (pv 5) (pa_nil))))) (pss_nil))))) (pss_one (ps_if (pt_cmpR op_notIn_seq (pe_ix ix_seq (pv 7) (pe_int) (fun _ _ => rfl)) (pe_tup (pa_cons (pe_str) (pa_cons (pe_str) (pa_cons (pe_str) (pa_nil))))) (by rfl)) (pss_one (ps_expr (pe_kn K_law_put (hr.mono (by decide)) rfl (pa_cons (pv 5) (pa_cons (pv 7) (pa_nil)))))) (pss_one (ps_if (PW.pt (pw_and (pt_cmpR op_le (pe_callB call_ln (by rfl) (T.free "len" (by decide)) PySem.boot_len (pa_cons (pv 5) (pa_nil))) (pv 4) (nomark _)) (pw_and1 (PW.pt (pw_or (pt_cmpR op_ne (pe_ix ix_seq (pv 7) (pe_int) (fun _ _ => rfl)) (pe_str) (nomark _)) (pw_or1 (pt_cmpR op_gt (pv 3) (pe_int) (nomark _)))))))) (pss_cons (ps_set (i := 3) sc_law_program.nd rfl (Or.inl rfl) (pe_op op_sub (pv 3) (pe_callTy call_int1 (by rfl) (T.free "int" (by decide)) (by decide +kernel) (pa_cons (pe_cmpR op_eq (pe_ix ix_seq (pv 7) (pe_int) (fun _ _ => rfl)) (pe_str) (nomark _)) (pa_nil))))) (pss_one (ps_expr (pe_bm PySem.F.plainAttrs_list PySem.F.slot_list_append PySem.F.type_list_append mt_append (pv 5) (pa_cons (pe_lst (pa_cons (pv 7) (pa_cons (pe_lst (pa_nil)) (pa_cons (pe_lst (pa_nil)) (pa_cons (pe_int) (pa_nil)))))) (pa_nil)))))) (pss_nil))))))))) (pss_cons (ps_while PassesOwn.never (pt_cmpR op_gt (pe_callB call_ln (by rfl) (T.free "len" (by decide)) PySem.boot_len (pa_cons (pv 5) (pa_nil))) (pe_int) (nomark _)) (pss_one (ps_expr (pe_kn K_law_close (hr.mono (by decide)) rfl (pa_cons (pv 5) (pa_nil)))))) (pss_one (ps_ret (pe_ix ix_seq (pe_ix ix_seq (pv 5) (pe_int) (fun _ _ => rfl)) (pe_int) (fun _ _ => rfl))))))), fun Q q => ?_⟩
  refine q_asgR ?_
  refine lst_one (mono_fr mono_top) (al_fr mono_top ⟨small_le (Nat.le_of_ble_eq_true rfl), fun t ht a b g H1 s1 na nb ng ab ga gb ea eb eg p hp => ?_⟩)
  have st := same_new (o := .tup [.str "top"]) ht
  have sp := same_new (o := .lst [.ref g]) hp
  have s02 := (st.trans s1).trans sp
  have pg : p ≠ g := fun e => by rw [e, eg] at hp; cases hp
  have pa : p ≠ a := fun e => by rw [e, ea] at hp; cases hp
  have pb : p ≠ b := fun e => by rw [e, eb] at hp; cases hp
  have P0 : PHp K H (upd H1 p (.lst [.ref g])) p [⟨g, a, b, .ref t, .top, [], [], 0⟩] := by
    refine ⟨s02, pile_new (frs := []) (H := upd H t (.tup [.str "top"])) (List.nodup_cons.mpr ⟨List.not_mem_nil, List.nodup_nil⟩) (fun _ h => (nomatch h)) (fun u o e n => (s1.trans sp) _ _ e) upd_same (fun u hu => by rw [List.mem_singleton.mp hu]; exact ⟨pg, pa, pb⟩) ga gb ab ng na nb (sp _ _ eg) (sp _ _ ea) (sp _ _ eb) (.tup (SqT.of (offS_some.mpr ⟨fun e => ?_, upd_same⟩)) (.cons (.str _) .nil)), fun u hu => ?_⟩
    · have e := List.mem_singleton.mp e
      rw [← e, s1 _ _ upd_same] at hp
      cases hp
    · have hu : u ∈ [p, g, a, b] := hu
      simp only [List.mem_cons, List.not_mem_nil, or_false] at hu
      rcases hu with e | e | e | e <;> rw [e]
      · exact (st.trans s1).free hp
      · exact st.free ng
      · exact st.free na
      · exact st.free nb
  have I0 : PIn nm L0 L0 0 [⟨g, a, b, .ref t, .top, [], [], 0⟩] := by
    refine ⟨Nat.le_of_ble_eq_true rfl, Nat.succ_pos _, fun i x hx => ?_, Nat.le_refl _, by show 0 + 0 + 0 + 0 + L0 ≤ L0; omega⟩
    cases i with
    | zero =>
      cases hx
      exact ⟨.nil (by decide), .nil (by decide), fun _ => rfl, fun h => absurd h (by decide), Nat.zero_le _⟩
    | succ i => simp at hx
  generalize upd H1 p (.lst [.ref g]) = H2 at P0 s02 ⊢
  refine q_forV (K := K) (H0 := H) (fun c σ' H' => ∃ (frs : List Fr) (l : Nat) (o6 o7 : Option V), PHp K H H' p frs ∧ PIn nm L0 l c frs ∧ σ' = [some v0, some v1, some v2, some (.int (l : Nat)), some (.int 2), some (.ref p), o6, o7]) rfl h1 s02 ⟨_, _, _, _, P0, I0, rfl⟩ (fun i σ' H' hP => ?_) (fun c d v σ' H' hd hP dv => ?_) fun σ' H' hP => ?_
  · obtain ⟨_, _, _, _, ph, _⟩ := hP
    exact ph.same
  · obtain ⟨frs, l, o6, o7, ph, pin, rfl⟩ := hP
    obtain ⟨cell, hcell, rfl⟩ := dps_of hd
    have ev := dp_int dv
    subst ev
    have hcc : c < cells.length := (List.getElem?_eq_some_iff.mp hcell).1
    refine q_asgN (gn_call (K := K) (ds := [.int cell, .list (nm.map PyData.str), .list (ws.map PyData.str)]) (ga_cons (gd_var rfl (.int _)) (ga_cons (gd_var rfl (dp_mono ph.same h2)) (ga_cons (gd_var rfl (dp_mono ph.same h3)) ga_nil))) ⟨cell, nm, ws, n1, n2, w1, w2, rfl, rfl⟩) fun v7 H3 d z s3 d7 => ?_
    have ph3 := ph.mono s3
    obtain ⟨f0, x, rfl⟩ := snoc_of pin.ne
    have nl := step_nol z
    have one : ∀ {σ : L2.St} {H' : Hp}, σ[5]? = some (some (.ref p)) → PHp K H H' p (f0 ++ [x]) → Gd K (tCB (rLn K) (tCons (tVar 5) tNil)) σ H' (.int (((f0 ++ [x]).length : Nat) : Int)) := fun e h => gd_len e h.pile
    -- the last way: close, if there is what to close
    have shut : ∀ {σ : L2.St} {D : Ends} (H' : Hp), σ[5]? = some (some (.ref p)) → PHp K H H' p (f0 ++ [x]) → (∀ H'' frs', PHp K H H'' p frs' → PIn nm L0 l (c + 1) frs' → D.nx σ H'') →
        tIfS (tTest (tOp (rI0 fun i j => .bl (decide (j < i))) (tCB (rLn K) (tCons (tVar 5) tNil)) (tC (.int 1)))) (tDrop (tCall (spClose K) [] E0 (tCons (tVar 5) tNil))) tNext D σ H' := fun {σ D} H' e h k => by
      refine l_if (gt_test (K := K) (gd_op (one e h) gd_int r2_B0)) (fun c1 H4 s4 => ?_) fun c1 H4 s4 => k H4 _ (h.mono s4) (pin.mono (Nat.le_succ _))
      have hl : 0 < f0.length := by
        have c1 := of_decide_eq_true c1
        rw [List.length_append] at c1
        have c1 : (1 : Int) < ((f0.length + 1 : Nat) : Int) := c1
        omega
      obtain ⟨f1, y, rfl⟩ := snoc_of hl
      refine show tCall _ _ _ _ _ _ _ from call_close (c := c) e (h.mono s4) pin (by omega) fun H5 ph5 pin5 => ?_
      exact k H5 _ ph5 (pin5.mono (Nat.le_succ _))
    have fin : ∀ (l' : Nat) (H' : Hp) (frs' : List Fr), PHp K H H' p frs' → PIn nm L0 l' (c + 1) frs' → ∃ (frs : List Fr) (l : Nat) (o6 o7 : Option V), PHp K H H' p frs ∧ PIn nm L0 l (c + 1) frs ∧ [some v0, some v1, some v2, some (.int (l' : Nat)), some (.int 2), some (.ref p), some (.int cell), some v7] = [some v0, some v1, some v2, some (.int (l : Nat)), some (.int 2), some (.ref p), o6, o7] := fun l' H' frs' a b => ⟨frs', l', _, _, a, b, rfl⟩
    rcases step_kinds z with ⟨s, tg, ds, rfl, e2, t1, t2, g1, g2, g3, g4, g5⟩ | ⟨hd, rfl, ho, t1, t2⟩ | hoc
    · have gt : ∀ {σ : L2.St} {H' : Hp}, Same H3 H' → σ[7]? = some (some v7) → Gd K (tOp (rIx K) (tVar 7) (tC (.int 0))) σ H' (.str tg) := fun s e => gd_op (gd_var e (dp_mono s (e2 ▸ d7))) gd_int (r2_ixt (atI_nat (j := 0) rfl))
      refine l_no (gt_test (K := K) (gd_op (gt (Same.refl _) rfl) (gd_tup (ga_cons gd_str (ga_cons gd_str ga_nil)) (Nat.le_of_ble_eq_true rfl)) (r2_int rfl rfl t1))) fun H4 s4 => ?_
      refine l_yes (gt_test (K := K) (gd_op (gt s4 rfl) (gd_tup (ga_cons gd_str (ga_cons gd_str (ga_cons gd_str ga_nil))) (Nat.le_of_ble_eq_true rfl)) (r2_nit rfl rfl t2))) fun H5 s5 => ?_
      have ph5 := ph3.mono (s4.trans s5)
      have hls := pin.lens
      refine ⟨_, rfl, _, rfl, p, v7, f0, x, s, rfl, ph5.pile, dp_keepT (hot_T ph5.pile (SS.of (Same.refl _))) nl (dp_mono (s4.trans s5) d7), pin.last.side, by omega, by omega, fun H6 sx hP => ?_⟩
      exact fin l H6 _ ⟨ss_same ph5.same sx ph5.free, hP, fun u hu => ph5.free u (by rw [hot_put] at hu; exact hu)⟩ (pin.put g1 g2 g3 g4 g5)
    · have gt : ∀ {σ : L2.St} {H' : Hp}, Same H3 H' → σ[7]? = some (some v7) → Gd K (tOp (rIx K) (tVar 7) (tC (.int 0))) σ H' (.str hd.tag) := fun s e => gd_htag (gd_var e (dp_mono s d7))
      refine l_no (gt_test (K := K) (gd_op (gt (Same.refl _) rfl) (gd_tup (ga_cons gd_str (ga_cons gd_str ga_nil)) (Nat.le_of_ble_eq_true rfl)) (r2_int rfl rfl t1))) fun H4 s4 => ?_
      refine l_no (gt_test (K := K) (gd_op (gt s4 rfl) (gd_tup (ga_cons gd_str (ga_cons gd_str (ga_cons gd_str ga_nil))) (Nat.le_of_ble_eq_true rfl)) (r2_nit rfl rfl t2))) fun H5 s5 => ?_
      have ph5 := ph3.mono (s4.trans s5)
      refine l_if (a := decide ((((f0 ++ [x]).length : Nat) : Int) ≤ 2) && (!decide (V.str hd.tag = V.str "lend") || decide ((0 : Int) < (l : Nat)))) (gt_and (gt_test (K := K) (gd_op (one rfl ph5) (gd_var rfl (.int _)) r2_B0)) fun _ => gt_or (gt_test (K := K) (gd_op (gt (s4.trans s5) rfl) gd_str (r2_ne rfl rfl rfl rfl))) fun _ => gt_test (K := K) (gd_op (gd_var rfl (.int _)) gd_int r2_B0)) (fun c1 H6 s6 => ?_) fun c1 H6 s6 => ?_
      · obtain ⟨c1, c2⟩ := Bool.and_eq_true_iff.mp c1
        have c1 := of_decide_eq_true c1
        have hle : hd.lends ≤ l := by
          cases hd with
          | lend x y =>
            have c2 : (!true || decide ((0 : Int) < (l : Nat))) = true := c2
            rw [Bool.not_true, Bool.false_or] at c2
            have := of_decide_eq_true c2
            show 1 ≤ l
            omega
          | _ => exact Nat.zero_le _
        have elt : (if decide (V.str hd.tag = V.str "lend") = true then (1 : Int) else 0) = (hd.lends : Nat) := by cases hd <;> rfl
        refine q_asg (K := K) (d := .int ((l - hd.lends : Nat) : Int)) (gd_is (gd_op (gd_var rfl (.int _)) (gd_cb (ga_cons (ds := []) (d := .bool (decide (V.str hd.tag = V.str "lend"))) (gd_op (gt ((s4.trans s5).trans s6) rfl) gd_str (r2_eq rfl rfl rfl rfl)) ga_nil) rc_intB) r2_I0) (congrArg PyData.int (by rw [elt]; omega))) fun w3 H7 s7 dw3 => ?_
        have ew := dp_int dw3
        subst ew
        have s37 := ((s4.trans s5).trans s6).trans s7
        have ph7 := ph3.mono s37
        have dh : Dp K (offS (hot p (f0 ++ [x])) H7) v7 hd.enc := dp_keepT (hot_T ph7.pile (SS.of (Same.refl _))) nl (dp_mono s37 d7)
        refine show tBM K "list" rAppend _ _ _ _ _ from ?_
        refine ⟨_, rfl, .inl ⟨rfl, _, SqL.of ph7.pile.ps⟩, ?_⟩
        refine show tFrame (tVar 7) _ _ _ from al_fr mono_var ⟨_, rfl, fun a b g H8 s8 na nb ng ab ga gb ea eb eg => ?_⟩
        have hl3 : ((f0 ++ [x]).map fun x => V.ref x.f).length ≤ 3 := by rw [List.length_map]; exact pin.len
        refine ⟨p, _, .ref g, rfl, rfl, s8 _ _ ph7.pile.ps, small_lt (by omega), ?_⟩
        have hne : ∀ u ∈ hot p (f0 ++ [x]), u ≠ g ∧ u ≠ a ∧ u ≠ b := fun u hu => by
          obtain ⟨xs, hx⟩ := hot_some ph7.pile hu
          refine ⟨fun e => ?_, fun e => ?_, fun e => ?_⟩ <;> rw [e] at hx
          · rw [ng] at hx
            cases hx
          · rw [na] at hx
            cases hx
          · rw [nb] at hx
            cases hx
        obtain ⟨q1, q2, q3⟩ := hne p List.mem_cons_self
        refine fin _ _ _ ⟨ss_same ph7.same ((SS.of s8).trans (SS.upd List.mem_cons_self)) ph7.free, pile_new (hd := hd) ph7.pile.nd ph7.pile.fr (fun u o e n => (upd_ne n).trans (s8 _ _ e)) upd_same hne ga gb ab ng na nb ((upd_ne (Ne.symm q1)).trans eg) ((upd_ne (Ne.symm q2)).trans ea) ((upd_ne (Ne.symm q3)).trans eb) dh, fun u hu => ?_⟩ (pin.push ho (by omega) (by omega))
        rw [hot_snoc] at hu
        rcases List.mem_append.mp hu with hu | hu
        · exact ph7.free u hu
        · have hu : u ∈ [g, a, b] := hu
          simp only [List.mem_cons, List.not_mem_nil, or_false] at hu
          rcases hu with e | e | e <;> rw [e]
          · exact ph7.same.free ng
          · exact ph7.same.free na
          · exact ph7.same.free nb
      · exact fin l H6 _ (ph5.mono s6) (pin.mono (Nat.le_succ _))
    · obtain ⟨tg, rfl, t1⟩ : ∃ tg : Str, d = .tuple [.str tg] ∧ ([PyData.str "other", .str "close"].any fun x => eqF x (.str tg)) = true := by
        rcases hoc with e | e
        · exact ⟨"other", e, by decide +kernel⟩
        · exact ⟨"close", e, by decide +kernel⟩
      have gt : ∀ {σ : L2.St} {H' : Hp}, Same H3 H' → σ[7]? = some (some v7) → Gd K (tOp (rIx K) (tVar 7) (tC (.int 0))) σ H' (.str tg) := fun s e => gd_op (gd_var e (dp_mono s d7)) gd_int (r2_ixt rfl)
      refine l_yes (gt_test (K := K) (gd_op (gt (Same.refl _) rfl) (gd_tup (ga_cons gd_str (ga_cons gd_str ga_nil)) (Nat.le_of_ble_eq_true rfl)) (r2_int rfl rfl t1))) fun H4 s4 => ?_
      have ph4 := ph3.mono s4
      refine l_if (gt_and (gt_test (K := K) (gd_op (one rfl ph4) gd_int r2_B0)) fun _ => gt_and (gt_test (K := K) (gd_op (gt s4 rfl) gd_str (r2_eq rfl rfl rfl rfl))) fun _ => gt_and (gt_htag (gd_last rfl ph4.pile)) fun _ => gt_test (K := K) (gd_op (gd_side rfl ph4.pile) gd_int (r2_eq rfl rfl rfl rfl))) (fun c1 H5 s5 => ?_) fun c1 H5 s5 => ?_
      · have ph5 := ph4.mono s5
        have F := ph5.pile.fr x (List.mem_append_right _ List.mem_cons_self)
        refine show tAsg (tC (.int 1)) _ _ _ _ from ?_
        refine rs_last rfl ph5.pile _ ⟨x.f, _, 3, 3, rfl, rfl, F.f, rfl, ?_⟩
        have pz := ph5.pile.side1
        have eh : hot p (f0 ++ [({ x with side := 1 } : Fr)]) = hot p (f0 ++ [x]) := by rw [hot_snoc, hot_snoc]; rfl
        have pw : PHp K H (upd H5 x.f (.lst [x.hv, .ref x.a, .ref x.b, .int 1])) p (f0 ++ [({ x with side := 1 } : Fr)]) := ⟨ss_same ph5.same (SS.upd (mem_hot (List.mem_append_right _ List.mem_cons_self) List.mem_cons_self)) ph5.free, pz, fun u hu => ph5.free u (by rw [eh] at hu; exact hu)⟩
        exact fin l _ _ pw (pin.side1.mono (Nat.le_succ _))
      · exact shut H5 rfl (ph4.mono s5) fun H6 frs' a b => fin l H6 frs' a b
  · obtain ⟨frs, l, o6, o7, ph, pin, rfl⟩ := hP
    rw [List.length_map] at pin
    refine q_seq ⟨fun m σ'' H'' => ∃ (frs : List Fr) (o6 o7 : Option V), frs.length = m ∧ PHp K H H'' p frs ∧ PIn nm L0 l cells.length frs ∧ σ'' = [some v0, some v1, some v2, some (.int (l : Nat)), some (.int 2), some (.ref p), o6, o7], ⟨_, frs, o6, o7, rfl, ph, pin, rfl⟩, fun m σ'' H'' hP => ?_⟩
    obtain ⟨frs, o6, o7, rfl, ph, pin, rfl⟩ := hP
    refine gt_test (K := K) (gd_op (gd_len rfl ph.pile) gd_int r2_B0) H'' (Same.refl _) _ fun H3 s3 => ?_
    have ph3 := ph.mono s3
    obtain ⟨f0, x, rfl⟩ := snoc_of pin.ne
    by_cases c1 : (1 : Int) < (((f0 ++ [x]).length : Nat) : Int)
    · rw [if_pos (decide_eq_true c1)]
      have hl : 0 < f0.length := by
        rw [List.length_append] at c1
        have c1 : (1 : Int) < ((f0.length + 1 : Nat) : Int) := c1
        omega
      obtain ⟨f1, y, rfl⟩ := snoc_of hl
      refine ⟨fun σ'' H'' => ∃ (frs : List Fr) (o6 o7 : Option V), frs.length + 1 = (f1 ++ [y] ++ [x]).length ∧ PHp K H H'' p frs ∧ PIn nm L0 l cells.length frs ∧ σ'' = [some v0, some v1, some v2, some (.int (l : Nat)), some (.int 2), some (.ref p), o6, o7], fun σ'' H'' hN => ?_, ?_⟩
      · obtain ⟨frs, a6, a7, b1, b2, b3, b4⟩ := hN
        exact ⟨frs.length, by omega, frs, a6, a7, rfl, b2, b3, b4⟩
      · refine show tCall _ _ _ _ _ _ _ from call_close (c := cells.length) rfl ph3 pin (by omega) fun H5 ph5 pin5 => ?_
        exact ⟨_, _, _, by rw [List.length_append, List.length_append, List.length_append]; rfl, ph5, pin5, rfl⟩
    · rw [if_neg fun e => c1 (of_decide_eq_true e)]
      have hl : f0 = [] := by
        rw [List.length_append] at c1
        have c1 : ¬ (1 : Int) < ((f0.length + 1 : Nat) : Int) := c1
        exact List.eq_nil_of_length_eq_zero (by omega)
      subst hl
      have F := ph3.pile.fr x List.mem_cons_self
      obtain ⟨as, a1, a2⟩ := F.a
      have o := pin.last
      have hz := pin.sz
      have hd := pin.ld
      refine show (tOp (rIx K) (tOp (rIx K) (tVar 5) (tC (.int 0))) (tC (.int 1))) _ _ _ from rs_ixl (m := 1) (rs_ixl (m := 0) (rs_var rfl) rs_int (SqL.of ph3.pile.ps) rfl) rs_int (SqL.of F.f) rfl _ ?_
      refine q _ H3 _ ⟨x.A, rfl, o.A.good, o.A.dep, ?_, o.A.names, ?_⟩ ph3.same (.lst (SqL.of a1) (dps_mono offS_le a2))
      · have hz : szs x.A + szs x.B + 1 + 0 ≤ cells.length + 1 := hz
        omega
      · have hd : lendsL x.A + lendsL x.B + x.hd.lends + 0 + l ≤ L0 := hd
        omega
end
end Uw
/-! text T38 -/
namespace Uw
open PySem PySem.Spec PyProof.Rows L2
/-! _law_code -/
theorem q_if2 {tt : TT} {t : TS} {t' : TS} {D : Ends} {σ : L2.St} {H : Hp} {a : Bool} (J : L2.St → Hp → Prop) (h : Gt tt σ H a) (h3 : ∀ σ' H', J σ' H' → t' D σ' H') (h1 : a = true → ∀ H1, Same H H1 → (∀ σ' H', J σ' H' → t' D σ' H') → t { D with nx := t' D } σ H1) (h2 : a = false → ∀ H1, Same H H1 → J σ H1) : tSeq (tIfS tt t tNext) t' D σ H :=
  q_if0 h (fun e H1 s => h1 e H1 s h3) fun e H1 s => h3 _ _ (h2 e H1 s)
theorem opens_ok : ∀ (nm all : List Str), (∀ x ∈ nm, Wd x ∧ x ∈ all) → Goods (nm.map Stp.opn) ∧ deps (nm.map Stp.opn) = 0 ∧ szs (nm.map Stp.opn) = nm.length ∧ lendsL (nm.map Stp.opn) = 0 ∧ ∀ y ∈ namesL (nm.map Stp.opn), y ∈ all
  | [], _, _ => ⟨trivial, rfl, rfl, rfl, fun _ h => nomatch h⟩
  | x :: nm, all, h => by
    obtain ⟨a, b, c, d, e⟩ := opens_ok nm all fun y hy => h y (List.mem_cons_of_mem _ hy)
    obtain ⟨h1, h2⟩ := h x List.mem_cons_self
    refine ⟨⟨h1, a⟩, ?_, ?_, ?_, fun y hy => ?_⟩
    · show max 0 (deps (nm.map Stp.opn)) = 0
      omega
    · show 1 + szs (nm.map Stp.opn) = nm.length + 1
      omega
    · show 0 + lendsL (nm.map Stp.opn) = 0
      omega
    · have hy : y ∈ [x] ++ namesL (nm.map Stp.opn) := hy
      rcases List.mem_append.mp hy with hy | hy
      · rw [List.mem_singleton.mp hy]
        exact h2
      · exact e y hy
structure POk2 (nm : List Str) (L0 n : Nat) (p : List Stp) : Prop where
  good : Goods p
  dep : deps p ≤ 2
  sz : szs p ≤ n
  names : ∀ y ∈ namesL p, y ∈ nm
  lends : lendsL p ≤ L0
theorem POk2.pre {nm : List Str} {L0 n : Nat} {p : List Stp} {x y : Str} (h : POk2 nm L0 n p) (hw : ∀ x ∈ nm, Wd x) (hx : x ∈ nm) (hy : y ∈ nm) : POk2 nm L0 (nm.length + 1 + n) (nm.map Stp.opn ++ [.tie x y] ++ p) := by
  obtain ⟨a, b, c, d, e⟩ := opens_ok nm nm fun z hz => ⟨hw z hz, hz⟩
  refine ⟨goods_app (goods_app a ⟨⟨hw x hx, hw y hy⟩, trivial⟩) h.good, ?_, ?_, fun z hz => ?_, ?_⟩
  · rw [deps_app, deps_app, b]
    have := h.dep
    show max (max 0 (max 0 0)) _ ≤ 2
    omega
  · rw [szs_app, szs_app, c]
    have := h.sz
    show nm.length + (1 + 0) + _ ≤ _
    omega
  · rw [namesL_app, namesL_app] at hz
    rcases List.mem_append.mp hz with hz | hz
    · rcases List.mem_append.mp hz with hz | hz
      · exact e z hz
      · have hz : z ∈ [x, y] ++ [] := hz
        rw [List.append_nil] at hz
        rcases List.mem_cons.mp hz with q | q
        · rw [q]; exact hx
        · rw [List.mem_singleton.mp q]; exact hy
    · exact h.names z hz
  · rw [lendsL_app, lendsL_app, d]
    have := h.lends
    show 0 + (0 + 0) + _ ≤ _
    omega
section
variable {P : Program} {w : World} {K : PySem.W.Frag} {mg : Str → Option Value} {base : Heap} {C : Addr}
def R_code (ds : List PyData) (Z : PyData → Prop) : Prop := ∃ (cells : List Int) (first second : Int) (sides : Nat) (ws : List Str), cells.length ≤ 10 ∧ (sides = 1 ∨ sides = 2) ∧ ws ≠ [] ∧ (∀ x ∈ ws, Wd x) ∧
  ds = [.list (cells.map PyData.int), .int first, .int second, .int sides, .list (ws.map PyData.str)] ∧ Z = fun d => ∃ code, d = encCode code ∧ Wf code ∧ (∀ row ∈ code, row.Ok (7 - 2 * sides)) ∧ code.length ≤ 200
theorem sc_law_code : FnScope ["_law_cells", "_law_first", "_law_second", "_law_sides", "_law_words_here", "_law_names", "_law_program_here", "_law_name"] ["_law_cells", "_law_first", "_law_second", "_law_sides", "_law_words_here"] (defScope (top 51)) := ⟨rfl, rfl, rfl, by decide +kernel, rfl, by decide +kernel, by decide +kernel⟩
theorem kn_code (T : Tx K mg) (TMk : TM K mg C) : Kn P w K mg base 13 "_law_code" ["_law_cells", "_law_first", "_law_second", "_law_sides", "_law_words_here"] (spN K R_code) := by
  have K_law_words := kn_words (P := P) (w := w) (base := base) T
  have K_law_program := kn_program (P := P) (w := w) (base := base) T
  have Kturned_code := kn_turned (P := P) (w := w) (base := base) T TMk
  have Kcode_of := kn_code_of (P := P) (w := w) (base := base) T TMk
  refine kn_N (T.fn2 (("_law_code" : Str), 51) (by decide +kernel)) sc_law_code (fun _ _ _ _ _ _ us hl => match us, hl with | [_, _, _, _, _], _ => rfl) (fun ds d h => ?_) (fun f cdv A outer s0 H vs E ds Z hr hv h => ?_)
  · obtain ⟨_, _, _, _, _, _, _, _, _, rfl, _⟩ := h
    rfl
  obtain ⟨cells, first, second, sides, ws, hcl, h12, n2, w2, rfl, rfl⟩ := h
  obtain _ | ⟨h1, _ | ⟨h2, _ | ⟨h3, _ | ⟨h4, _ | ⟨h5, _ | _⟩⟩⟩⟩⟩ := hv
  have e2 := dp_int h2
  have e3 := dp_int h3
  have e4 := dp_int h4
  subst e2 e3 e4
  rename_i v0 v4
  refine ⟨_, (pss_cons (ps_set (i := 5) sc_law_code.nd rfl (Or.inl rfl) (pe_kn K_law_words (hr.mono (by decide)) rfl (pa_cons (pe_op op_fdiv (pv 1) (pe_int)) (pa_cons (pe_ix ix_seq (pe_lst (pa_cons (pe_op op_addU (pe_int) (pe_op op_mod (pv 1) (pe_int))) (pa_cons (pe_int) (pa_nil)))) (pe_op op_sub (pv 3) (pe_int)) (fun _ _ => rfl)) (pa_nil))))) (pss_cons (ps_set (i := 6) sc_law_code.nd rfl (Or.inl rfl) (pe_kn K_law_program (hr.mono (by decide)) rfl (pa_cons (pv 0) (pa_cons (pv 5) (pa_cons (pv 4) (pa_cons (pe_op op_sub (pe_int) (pv 3)) (pa_cons (pe_int) (pa_nil)))))))) (pss_cons (ps_if (pt_cmpR op_eq (pe_op op_mod (pe_op op_fdiv (pv 2) (pe_int)) (pe_int)) (pe_int) (nomark _)) (pss_one (ps_set (i := 6) sc_law_code.nd rfl (Or.inl rfl) (pe_op op_addU (pe_op op_addU (pe_lc (own := [("_law_name", 7)]) rfl sc_law_code.nd (pi_list (pv 5)) (blkOk_by (N := ["_law_cells", "_law_first", "_law_second", "_law_sides", "_law_words_here", "_law_names", "_law_program_here", "_law_name"]) (sc := defScope (top 51)) (by decide +kernel)) (fun _ _ _ _ _ => pg_name (i := 7) sc_law_code.nd rfl (Or.inl rfl)) (fun _ _ _ _ _ => pts_nil) (fun _ _ _ _ _ => pe_tup (pa_cons (pe_str) (pa_cons (pv 7) (pa_nil))))) (pe_lst (pa_cons (pe_tup (pa_cons (pe_str) (pa_cons (pe_ix ix_seq (pv 5) (pe_int) (fun _ _ => rfl)) (pa_cons (pe_ix ix_seq (pv 5) (pe_int) (fun _ _ => rfl)) (pa_nil))))) (pa_nil)))) (pv 6)))) (pss_nil)) (pss_cons (ps_if (pt_cmpR op_eq (pe_op op_mod (pv 2) (pe_int)) (pe_int) (nomark _)) (pss_one (ps_ret (pe_kn Kturned_code (hr.mono (by decide)) rfl (pa_cons (pv 6) (pa_nil))))) (pss_nil)) (pss_one (ps_ret (pe_kn Kcode_of (hr.mono (by decide)) rfl (pa_cons (pv 6) (pa_nil))))))))), fun Q q => ?_⟩
  obtain ⟨m, hm, gm⟩ : ∃ m : Nat, (2 ≤ m ∧ m + (3 - sides) ≤ 7 - 2 * sides) ∧ ∀ {σ : L2.St} {H' : Hp}, σ[1]? = some (some (.int first)) → σ[3]? = some (some (.int (sides : Nat))) → Gd K (tOp (rIx K) (tLst (tCons (tOp (rAddU K) (tC (.int 2)) (tOp (rI (fun _ j => 0 < j) fun i j => .int (i % j)) (tVar 1) (tC (.int 2)))) (tCons (tC (.int 2)) tNil))) (tOp (rI0 fun i j => .int (i - j)) (tVar 3) (tC (.int 1)))) σ H' (.int (m : Nat)) := by
    obtain ⟨e, he, he1⟩ : ∃ e : Nat, (e : Int) = first % 2 ∧ e ≤ 1 := ⟨(first % 2).toNat, by omega, by omega⟩
    rcases h12 with h | h
    · subst h
      refine ⟨2 + e, by omega, fun a b => gd_op (d := .list [.int ((2 + e : Nat) : Int), .int 2]) (gd_lst (ga_cons (gd_is (gd_op gd_int (gd_op (gd_var a (.int _)) gd_int (r2_mod (by decide))) r2_addI) (congrArg PyData.int (by omega))) (ga_cons gd_int ga_nil)) (Nat.le_of_ble_eq_true rfl)) (gd_op (gd_var b (.int _)) gd_int r2_I0) (r2_ixl rfl)⟩
    · subst h
      refine ⟨2, by omega, fun a b => gd_op (d := .list [.int ((2 + e : Nat) : Int), .int 2]) (gd_lst (ga_cons (gd_is (gd_op gd_int (gd_op (gd_var a (.int _)) gd_int (r2_mod (by decide))) r2_addI) (congrArg PyData.int (by omega))) (ga_cons gd_int ga_nil)) (Nat.le_of_ble_eq_true rfl)) (gd_op (gd_var b (.int _)) gd_int r2_I0) (r2_ixl rfl)⟩
  have hs2 : sides ≤ 2 ∧ 1 ≤ sides := by omega
  refine q_asgN (gn_call (K := K) (ds := [.int (first / 8), .int (m : Nat)]) (ga_cons (gd_op (gd_var rfl (.int _)) gd_int (r2_fdiv (by decide) (by decide))) (ga_cons (gm rfl rfl) ga_nil)) ⟨_, m, by omega, rfl, rfl⟩) fun v5 H1 d5 z5 s1 dv5 => ?_
  obtain ⟨nm, rfl, hnl, hnw⟩ := z5
  have nne : nm ≠ [] := fun e => by rw [e] at hnl; have : 0 = m := hnl; omega
  refine q_asgN (gn_call (K := K) (ds := [.list (cells.map PyData.int), .list (nm.map PyData.str), .list (ws.map PyData.str), .int ((3 - sides : Nat) : Int), .int 2]) (ga_cons (gd_var rfl (dp_mono s1 h1)) (ga_cons (gd_var rfl dv5) (ga_cons (gd_var rfl (dp_mono s1 h5)) (ga_cons (gd_is (gd_op gd_int (gd_var rfl (.int _)) r2_I0) (congrArg PyData.int (by omega))) (ga_cons gd_int ga_nil))))) ⟨cells, nm, ws, 3 - sides, nne, n2, hnw, w2, by omega, rfl, rfl⟩) fun v6 H2 d6 z6 s2 dv6 => ?_
  obtain ⟨p, rfl, g1, g2, g3, g4, g5⟩ := z6
  have p0 : POk2 nm (3 - sides) 10 p := ⟨g1, g2, Nat.le_trans g3 hcl, g4, g5⟩
  refine q_if2 (fun σ' H' => ∃ (v6 : V) (p : List Stp), σ' = [some v0, some (.int first), some (.int second), some (.int (sides : Nat)), some v4, some v5, some v6, none] ∧ Same H H' ∧ Dp K H' v6 (.list (encs p)) ∧ POk2 nm (3 - sides) 16 p) (gt_test (K := K) (gd_op (gd_op (gd_op (gd_var rfl (.int _)) gd_int (r2_fdiv (by decide) (by decide))) gd_int (r2_mod (by decide))) gd_int (r2_eq rfl rfl rfl rfl))) (fun σ' H' hJ => ?_) (fun c H3 s3 k => ?_) fun c H3 s3 => ⟨v6, p, rfl, (s1.trans s2).trans s3, dp_mono s3 dv6, ⟨p0.good, p0.dep, Nat.le_trans p0.sz (by decide), p0.names, p0.lends⟩⟩
  · obtain ⟨v6, p, rfl, sm, dv, ok⟩ := hJ
    have hw := wts_12 p ok.dep
    have hz := ok.sz
    have hd := ok.dep
    have hlen := ok.lends
    have rc : R_coded false [.list (encs p)] fun d => ∃ code, d = encCode code ∧ Wf code ∧ (∀ row ∈ code, row.Ok (7 - 2 * sides)) ∧ code.length ≤ wts p + 1 := ⟨p, nm, 7 - 2 * sides, true, ok.good, by omega, by omega, ok.names, by omega, by omega, by omega, rfl, rfl⟩
    refine q_if0 (gt_test (K := K) (gd_op (gd_op (gd_var rfl (.int _)) gd_int (r2_mod (by decide))) gd_int (r2_eq rfl rfl rfl rfl))) (fun _ H4 s4 => ?_) fun _ H4 s4 => ?_
    · exact l_retN (gn_call (K := K) (ds := [.list (encs p)]) (ga_cons (gd_var rfl (dp_mono s4 dv)) ga_nil) rc) fun v H5 d z s5 d5 => by
        obtain ⟨code, rfl, c1, c2, c3⟩ := z
        exact q v H5 _ ⟨code, rfl, c1, c2, by omega⟩ ((sm.trans s4).trans s5) d5
    · exact l_retN (gn_call (K := K) (ds := [.list (encs p)]) (ga_cons (gd_var rfl (dp_mono s4 dv)) ga_nil) rc) fun v H5 d z s5 d5 => by
        obtain ⟨code, rfl, c1, c2, c3⟩ := z
        exact q v H5 _ ⟨code, rfl, c1, c2, by omega⟩ ((sm.trans s4).trans s5) d5
  · obtain ⟨x, y, nr, rfl⟩ : ∃ x y nr, nm = x :: y :: nr := by
      match nm, hnl with
      | [], e => exact absurd (show 0 = m from e) (by omega)
      | [_], e => exact absurd (show 1 = m from e) (by omega)
      | x :: y :: nr, _ => exact ⟨x, y, nr, rfl⟩
    have s23 := s2.trans s3
    have gx : ∀ {σ : L2.St} {H' : Hp} (j : Nat) (z : Str), (x :: y :: nr)[j]? = some z → Same H3 H' → σ[5]? = some (some v5) → Gd K (tOp (rIx K) (tVar 5) (tC (.int j))) σ H' (.str z) := fun j z hz s e => gd_op (gd_var e (dp_mono (s23.trans s) dv5)) gd_int (r2_ixl (at_map hz))
    have hll : (encs p).length ≤ 10 := by
      rw [encs_map, List.length_map]
      exact Nat.le_trans (len_szs p) p0.sz
    have hnl' : (x :: y :: nr).length ≤ 5 := by omega
    refine l_asg (K := K) (d := .list (encs ((x :: y :: nr).map Stp.opn ++ [.tie x y] ++ p))) (gd_is (gd_op (gd_op (gd_lcM (α := Str) (g := PyData.str) (F := fun z => .tuple [.str "open", .str z]) (ts := x :: y :: nr) (gd_var rfl (dp_mono s23 dv5)) (fun _ => rfl) (fun _ _ => rfl) (by omega) fun z _ v H4 s4 d4 => gd_tup (ga_cons gd_str (ga_cons (gd_var rfl d4) ga_nil)) (Nat.le_of_ble_eq_true rfl)) (gd_lst (ga_cons (gd_tup (ga_cons gd_str (ga_cons (gx 0 x rfl (Same.refl _) rfl) (ga_cons (gx 1 y rfl (Same.refl _) rfl) ga_nil))) (Nat.le_of_ble_eq_true rfl)) ga_nil) (Nat.le_of_ble_eq_true rfl)) (r2_addL (by rw [List.length_map]; show _ + 1 ≤ _; omega))) (gd_var rfl (dp_mono s3 dv6)) (r2_addL (by rw [List.length_append, List.length_map]; show _ + 1 + _ ≤ _; omega))) ?_) fun w6 H4 s4 d4 => k _ _ ⟨w6, _, rfl, ((s1.trans s2).trans s3).trans s4, d4, ?_⟩
    · rw [encs_app, encs_app, encs_map (List.map _ _), List.map_map]
      rfl
    · have z := p0.pre (x := x) (y := y) hnw List.mem_cons_self (List.mem_cons_of_mem _ List.mem_cons_self)
      exact ⟨z.good, z.dep, Nat.le_trans z.sz (by omega), z.names, z.lends⟩
end
end Uw
/-! text T39 -/
namespace Uw
open PySem PySem.Spec PyProof.Rows L2
/-! xs[a:b:c] of a list -/
def pickL {α : Type} (xs : List α) (lo hi st : Option Int) : List α := (sliceRange (sliceBounds lo hi st xs.length).1 (sliceBounds lo hi st xs.length).2.1 (sliceBounds lo hi st xs.length).2.2).filterMap (xs[·]?)
theorem vals_places {xs : List V} {us : List Value} (r : Vals xs us) : ∀ js : List Nat, Vals (js.filterMap (xs[·]?)) (js.filterMap (us[·]?))
  | [] => .nil
  | j :: js => by
    have ih := vals_places r js
    cases hn : xs[j]? with
    | some n =>
      obtain ⟨t, hv, hr⟩ := r.get hn
      simp only [List.filterMap_cons, hn, hv]
      exact .cons hr ih
    | none =>
      have hv := r.none_of hn
      simp only [List.filterMap_cons, hn, hv]
      exact ih
theorem vals_pick {xs : List V} {us : List Value} (r : Vals xs us) (lo hi st : Option Int) : Vals (pickL xs lo hi st) (slicePick us.toArray lo hi st).toList := by
  have e : (slicePick us.toArray lo hi st).toList = (sliceRange (sliceBounds lo hi st xs.length).1 (sliceBounds lo hi st xs.length).2.1 (sliceBounds lo hi st xs.length).2.2).filterMap (us[·]?) := by
    simp [slicePick, r.length]
  rw [e]
  exact vals_places r _
def tSl3 (K : PySem.W.Frag) (te : TE) (tl th tk : TO) : TE := fun σ H Q => te σ H fun x H1 => tl σ H1 fun l H2 => th σ H2 fun u H3 => tk σ H3 fun c H4 => ∃ a xs, x = .ref a ∧ SqL K H4 a xs ∧ c ≠ some 0 ∧ ∀ p, H4 p = none → Q (.ref p) (upd H4 p (.lst (pickL xs l u c)))
theorem pe_sl3 {X : Cx} {e lo hi st : Expr} {te : TE} {tl th tk : TO} {p2 pos : Pos} (he : PE X e te) (hl : PO X (some lo) tl) (hu : PO X (some hi) th) (hk : PO X (some st) tk) : PE X (.Subscript e (.Slice (some lo) (some hi) (some st) p2) pos) (tSl3 X.K te tl th tk) := by
  refine ⟨fun pins s σ H Q I h => ?_⟩
  refine Subscript_ (thn (he.run pins s σ H _ I h) fun v s1 ⟨x, H1, I1, r1, q1⟩ => ?_)
  refine wpAny_Slice (thn (hl.run pins s1 σ H1 _ I1 q1) fun vl s2 ⟨l, H2, I2, pl, q2⟩ => thn (hu.run pins s2 σ H2 _ I2 q2) fun vu s3 ⟨u, H3, I3, pu, q3⟩ => thn (hk.run pins s3 σ H3 _ I3 q3) fun vk s4 ⟨c, H4, I4, pk, q4⟩ => ?_)
  obtain ⟨a, xs, rfl, hx, h0, q⟩ := q4
  cases r1
  have I5 : Inv X pins σ H4 { s4 with heap := s4.heap.push { cls := .type "slice", data := .fields #[vl, vu, vk] } } := I4.kept (t' := s4.toks) fun b ob q => Heap.get?_push_of_some _ q
  obtain ⟨its, r, ht, hz⟩ := I5.list hx
  have hlen := r.length
  show wpAny (model X.prog X.w) X.A (subscriptTail e (.Slice (some lo) (some hi) (some st) p2) (.ref a) (.ref s4.heap.objs.size)) (EP X pins σ Q) X.xe { s4 with heap := s4.heap.push { cls := .type "slice", data := .fields #[vl, vu, vk] } }
  refine tail_any (ops := [.ref a, .ref s4.heap.objs.size]) ht.isList.typeIs slot_list_getitem.lookup (wpAny_getItem_list_slice ht.isList (Heap.IsSliceOf.new ..) pl pu pk h0 ?_ (by rw [List.size_toArray]; omega)) (by with_unfolding_all rfl)
  refine ⟨.ref (s4.heap.push _).objs.size, _, I5.laid (t' := s4.toks) (o := .lst (pickL xs l u c)) (fun b ob q => Heap.get?_push_of_some _ q) (Nat.le_refl _) ?_, rfl, q _ (I5.hok.fresh (Nat.le_refl _))⟩
  have rp := vals_pick r l u c
  have hsz : (slicePick its.toArray l u c).size ≤ its.length := Nat.le_trans (slicePick_size_le its.toArray l u c) (Nat.le_of_eq List.size_toArray)
  have hpl : (pickL xs l u c).length = (slicePick its.toArray l u c).size := rp.length
  exact ⟨by omega, _, 0, rp, Heap.get?_push_size _ rfl⟩
theorem pick_map {α β : Type} (f : α → β) (xs : List α) (lo hi st : Option Int) : pickL (xs.map f) lo hi st = (pickL xs lo hi st).map f := by
  unfold pickL
  rw [List.length_map, List.map_filterMap]
  congr 1
  funext j
  rw [List.getElem?_map]
theorem pick_len {α : Type} (xs : List α) (lo hi : Nat) : (pickL xs (some (lo : Int)) (some (hi : Int)) (some 2)).length ≤ (hi - lo + 1) / 2 := by
  unfold pickL
  refine Nat.le_trans (List.length_filterMap_le _ _) ?_
  have h1 : ¬ (lo : Int) < 0 := by omega
  have h2 : ¬ (hi : Int) < 0 := by omega
  simp only [sliceBounds, sliceRange, List.length_map, List.length_range, Option.getD_some, if_neg h1, if_neg h2, show (2 : Int) > 0 from by decide, if_true]
  split <;> omega
section
variable {K : PySem.W.Frag} {σ : L2.St} {H : Hp} {te : TE} {tl th tk : TO} {ns : List Int} {lo hi st : Int}
theorem gd_sl3 (h : Gd K te σ H (.list (ns.map PyData.int))) (h1 : Go tl σ H (some lo)) (h2 : Go th σ H (some hi)) (h3 : Go tk σ H (some st)) (h0 : st ≠ 0) : Gd K (tSl3 K te tl th tk) σ H (.list ((pickL ns (some lo) (some hi) (some st)).map PyData.int)) := fun H1 s Q q =>
  h H1 s _ fun v H2 s2 dv => h1 H2 (s.trans s2) _ fun H3 s3 => h2 H3 ((s.trans s2).trans s3) _ fun H4 s4 => h3 H4 (((s.trans s2).trans s3).trans s4) _ fun H5 s5 => by
    obtain ⟨a, xs, rfl, hl, hx⟩ := dp_list (dp_mono ((s3.trans s4).trans s5) dv)
    have e := dps_ints_eq hx
    subst e
    refine ⟨a, _, rfl, hl, fun z => h0 (Option.some.inj z), fun p hp => ?_⟩
    rw [pick_map]
    exact q _ _ ((((s2.trans s3).trans s4).trans s5).trans (same_new hp)) (.lst (SqL.of upd_same) (dps_ints _))
end
end Uw
/-! text T40 -/
namespace Uw
open PySem PySem.Spec PyProof.Rows L2
/-! law -/
section
variable {K : PySem.W.Frag} {σ : L2.St} {H : Hp} {ta tb tl te : TE} {lo hi : Option Int} {tlo thi : TO} {Y W : PyData → Prop} {Z : List PyData → Prop} {e d : PyData} {D : Ends} {u : TS} {j : Nat}
theorem gn_op1 {r : R2} (ha : Gn K ta σ H Y) (hb : Gd K tb σ H e) (hr : ∀ d, Y d → ∃ z, W z ∧ Rd2 K r d e H z) : Gn K (tOp r ta tb) σ H W := fun H1 s Q q =>
  ha H1 s _ fun x H2 d z s2 dx => hb H2 (s.trans s2) _ fun y H3 s3 dy => by
    obtain ⟨z', w', h⟩ := hr d z
    exact h H3 ((s.trans s2).trans s3) x y (dp_mono s3 dx) dy Q fun v H4 s4 dv => q v H4 z' w' ((s2.trans s3).trans s4) dv
theorem gn_slL (h : Gf K te σ H Z) (h1 : Go tlo σ H lo) (h2 : Go thi σ H hi) : Gn K (tSl (rSlU K) te tlo thi) σ H (fun d => ∃ es, Z es ∧ d = .list (cutL es lo hi)) := fun H1 s Q q =>
  h H1 s _ fun p H2 xs es z s2 _ l2 d2 => h1 H2 (s.trans s2) _ fun H3 s3 => h2 H3 ((s.trans s2).trans s3) _ fun H4 s4 =>
    .inl ⟨p, xs, rfl, (s3.trans s4).seq (SqL.of l2), fun u hu => q _ _ _ ⟨es, z, rfl⟩ (((s2.trans s3).trans s4).trans (same_new hu)) (.lst (SqL.of upd_same) (dps_mono (same_new hu) (cut_dps (dps_mono (s3.trans s4) d2) lo hi)))⟩
theorem cutL_mem {α : Type} {xs : List α} {x : α} (h : x ∈ cutL xs lo hi) : x ∈ xs := List.mem_of_mem_drop (List.mem_of_mem_take h)
theorem q_forN {Zd : List PyData → Prop} {t : TS} (h : Gn K tl σ H (fun d => ∃ ds, d = .list ds ∧ Zd ds))
    (k : ∀ ds H1, Zd ds → Same H H1 → ∃ Pv : Nat → L2.St → Hp → Prop, Pv 0 σ H1 ∧ (∀ i σ' H', Pv i σ' H' → Same H1 H') ∧
      (∀ i d v σ' H', ds[i]? = some d → Pv i σ' H' → Dp K H' v d → t { D with nx := Pv (i + 1), ct := Pv (i + 1), bk := u D } (σ'.set j (some v)) H') ∧ ∀ σ' H', Pv ds.length σ' H' → u D σ' H') :
    tSeq (tFor (iList K tl) (gName j) t) u D σ H := h H (Same.refl _) _ fun v H1 d z s1 dv => by
  obtain ⟨ds, rfl, z⟩ := z
  obtain ⟨a, xs, rfl, h1, h2⟩ := dp_list dv
  obtain ⟨Pv, p0, pl, pt, pe⟩ := k ds H1 z s1
  refine ⟨a, rfl, ⟨xs, h1⟩, for_list (K := K) (a := a) (xs := xs) Pv p0 (fun i σ' H' _ p => (pl i σ' H' p).seq h1) (fun i x σ' H' hx p => ?_) fun σ' H' p => pe σ' H' (by rw [← dps_len h2]; exact p)⟩
  obtain ⟨d', e', q⟩ := dps_get' h2 hx
  exact pt i d' x σ' H' e' p (dp_mono (pl i σ' H' p) q)
theorem gd_orN (h1 : Gn K ta σ H fun d => ∃ b, d = .bool b) (h2 : Gd K tb σ H (.bool true)) : Gd K (tOrV ta tb) σ H (.bool true) := fun H1 s Q q => h1 H1 s _ fun v H2 d z s2 dv => by
  obtain ⟨b, rfl⟩ := z
  have e := dp_bl dv
  subst e
  refine ⟨b, rfl, ?_⟩
  cases b with
  | true =>
    show Q (.bl true) H2
    exact q _ H2 s2 (.bl _)
  | false =>
    show tb σ H2 Q
    exact h2 H2 (s.trans s2) Q fun v H3 s3 d3 => q v H3 (s2.trans s3) d3
theorem r2_eqD (sd : SeqAt.shaped d = true) (se : SeqAt.shaped e = true) : Rd2 K (rEqD K) d e H (.bool (PyData.eqv d e)) := fun H1 _ x y hx hy Q q => ⟨d, e, hx, hy, sd, se, q _ H1 (Same.refl _) (.bl _)⟩
end
theorem fn_mk {P : Program} {w : World} {K : PySem.W.Frag} {mg : Str → Option Value} {base : Heap} {x : Str} {st : Stmt} {N ps : List Str} {k : Nat} {sp : Sp} {f : Addr} {fd : FuncData} (F : FunD K x x (defArgs st) (defBody st) (defScope st) [] [] f fd) (S : FnScope N ps (defScope st))
    (len : ∀ vs H Q E, sp vs H Q E → vs.length = ps.length)
    (hbody : ∀ (f : Addr) (cdv : Value) (A : Around) (outer : List Env) (s : Shared) (H : Hp) (vs : List V) (Q : VK) (E : XK), Room k (A.deeper (envOfC x (defScope st) s.heap.objs.size f cdv)) → sp vs H Q E →
      ∃ t, PSs (cxOf CX0 P w K mg base N x (defScope st) f cdv A outer s H E).nox (defBody st) t ∧ t { nx := fun _ H' => Q .non H', rt := Q } (start N vs) H) : FnOk P w K mg base CX0 (k + 1) f fd ps sp :=
  F.ok S len fun cdv A outer s H vs Q E hr h => by
    obtain ⟨t, h1, h2⟩ := hbody f cdv A outer s H vs Q E hr h
    exact ⟨t, h1.nox, h2⟩
def spLaw (K : PySem.W.Frag) : Sp := fun vs H Q _ => ∃ (a : Addr) (ns : List Int), vs = [.ref a] ∧ SqL K H a (ns.map V.int) ∧ ∀ H', Q (.bl true) H'
section
variable {P : Program} {w : World} {K : PySem.W.Frag} {mg : Str → Option Value} {base : Heap} {C : Addr}
theorem sc_law : FnScope ["_law_script", "_law_second", "_law_words_here", "_law_cells", "_law_k", "_law_sides", "_law_rule_here", "_law_many", "_law_code_here", "_law_inputs_here", "_law_paper", "_law_broken_here", "_law_at", "_law_row"] ["_law_script"] (defScope (top 58)) := ⟨rfl, rfl, rfl, by decide +kernel, rfl, by decide +kernel, by decide +kernel⟩
theorem ok_law (T : Tx K mg) (TMk : TM K mg C) {ff : Addr} {fd : FuncData} (F : FunD K "law" "law" (defArgs (top 58)) (defBody (top 58)) (defScope (top 58)) [] [] ff fd) : FnOk P w K mg base CX0 14 ff fd ["_law_script"] (spLaw K) := by
  have K_law_cell_at := kn_cell_at (P := P) (w := w) (base := base) T
  have K_law_words := kn_words (P := P) (w := w) (base := base) T
  have K_law_rule := kn_rule (P := P) (w := w) (base := base) T
  have K_law_code := kn_code (P := P) (w := w) (base := base) T TMk
  have K_law_inputs := kn_inputs (P := P) (w := w) (base := base) T
  have Kpaper_of := kn_paper_of (P := P) (w := w) (base := base) T
  have K_law_broken := kn_broken (P := P) (w := w) (base := base) T
  have K_law_right := kn_right (P := P) (w := w) (base := base) T
  have Klets_by := kn_lets_by (P := P) (w := w) (base := base) T
  refine fn_mk F sc_law (fun vs H Q E h => ?_) (fun f cdv A outer s0 H vs Q E hr h => ?_)
  · obtain ⟨_, _, rfl, _⟩ := h
    rfl
  obtain ⟨a, ns, rfl, hS, q⟩ := h
  refine ⟨_, (pss_cons (ps_set (i := 1) sc_law.nd rfl (Or.inl rfl) (pe_kn K_law_cell_at (hr.mono (by decide)) rfl (pa_cons (pv 0) (pa_cons (pe_int) (pa_nil))))) (pss_cons (ps_set (i := 2) sc_law.nd rfl (Or.inl rfl) (pe_op op_addU (pe_kn K_law_words (hr.mono (by decide)) rfl (pa_cons (pe_op op_fdiv (pv 1) (pe_int)) (pa_cons (pe_int) (pa_nil)))) (pe_lst (pa_cons (pe_str) (pa_cons (pe_str) (pa_cons (pe_str) (pa_cons (pe_str) (pa_nil)))))))) (pss_cons (ps_setLc (i := 3) (own := [("_law_k", 4)]) rfl sc_law.nd rfl rfl (sw_true rfl rfl rfl (by decide +kernel)) (pi_range1 rfl (T.free "range" (by decide)) (pa_cons (pe_int) (pa_nil))) (blkOk_by (N := ["_law_script", "_law_second", "_law_words_here", "_law_cells", "_law_k", "_law_sides", "_law_rule_here", "_law_many", "_law_code_here", "_law_inputs_here", "_law_paper", "_law_broken_here", "_law_at", "_law_row"]) (sc := defScope (top 58)) (by decide +kernel)) (fun _ _ _ _ _ => pg_name (i := 4) sc_law.nd rfl (Or.inl rfl)) (fun _ _ _ _ _ => pts_nil) (fun _ _ _ _ _ => pe_kn K_law_cell_at (hr.mono (by decide)) rfl (pa_cons (pv 0) (pa_cons (pe_op (show OpR _ (binaryOp .Add) (rAddU K) from op_addU) (pe_int) (pv 4)) (pa_nil))))) (pss_cons (ps_set (i := 5) sc_law.nd rfl (Or.inl rfl) (pe_op op_addU (pe_int) (pe_op op_mod (pe_op op_fdiv (pe_ix ix_seq (pv 3) (pe_int) (fun _ _ => rfl)) (pe_int)) (pe_int)))) (pss_cons (ps_set (i := 6) sc_law.nd rfl (Or.inl rfl) (pe_kn K_law_rule (hr.mono (by decide)) rfl (pa_cons (pv 3) (pa_cons (pv 5) (pa_cons (pv 2) (pa_cons (pe_op op_sub (pe_int) (pv 5)) (pa_nil))))))) (pss_cons (ps_set (i := 7) sc_law.nd rfl (Or.inl rfl) (pe_ix ix_seq (pe_lst (pa_cons (pe_int) (pa_cons (pe_int) (pa_nil)))) (pe_op op_sub (pv 5) (pe_int)) (fun _ _ => rfl))) (pss_cons (ps_set (i := 8) sc_law.nd rfl (Or.inl rfl) (pe_kn K_law_code (hr.mono (by decide)) rfl (pa_cons (pe_sl3 (pv 0) (po_some (pe_int)) (po_some (pe_op op_addU (pe_int) (pe_op op_mul (pe_int) (pv 7)))) (po_some (pe_int))) (pa_cons (pe_kn K_law_cell_at (hr.mono (by decide)) rfl (pa_cons (pv 0) (pa_cons (pe_int) (pa_nil)))) (pa_cons (pv 1) (pa_cons (pv 5) (pa_cons (pv 2) (pa_nil)))))))) (pss_cons (ps_set (i := 9) sc_law.nd rfl (Or.inl rfl) (pe_kn K_law_inputs (hr.mono (by decide)) rfl (pa_cons (pe_sl3 (pv 0) (po_some (pe_int)) (po_some (pe_op op_addU (pe_int) (pe_op op_mul (pe_int) (pv 7)))) (po_some (pe_int))) (pa_cons (pv 8) (pa_nil))))) (pss_cons (ps_set (i := 10) sc_law.nd rfl (Or.inl rfl) (pe_kn Kpaper_of (hr.mono (by decide)) rfl (pa_cons (pv 8) (pa_cons (pv 6) (pa_nil))))) (pss_cons (ps_set (i := 11) sc_law.nd rfl (Or.inl rfl) (pe_kn K_law_broken (hr.mono (by decide)) rfl (pa_cons (pv 8) (pa_cons (pv 6) (pa_cons (pv 9) (pa_nil)))))) (pss_cons (ps_for PassesOwn.never rfl (pi_list (pe_slice sl_U (pe_callB (cr_so rfl hr.units) (by rfl) (T.free "sorted" (by decide)) (by decide +kernel) (pa_cons (pe_callTy (cr_set rfl hr.units) (by rfl) (T.free "set" (by decide)) (by decide +kernel) (pa_cons (pv 11) (pa_nil))) (pa_nil))) po_none (po_some (pe_int)))) (pg_name (i := 12) sc_law.nd rfl (.inl rfl)) (pss_one (ps_if (pt_not (pt_val (pe_kn K_law_right (hr.mono (by decide)) rfl (pa_cons (pv 8) (pa_cons (pv 6) (pa_cons (pv 10) (pa_cons (pv 12) (pa_nil)))))))) (pss_one (ps_ret (pe_bl))) (pss_nil)))) (pss_cons (ps_if (pt_cmpR op_notBl (pe_kn Klets_by (hr.mono (by decide)) rfl (pa_cons (pv 8) (pa_cons (pv 6) (pa_cons (pv 10) (pa_cons (pe_lc (own := [("_law_row", 13)]) rfl sc_law.nd (pi_list (pv 8)) (blkOk_by (N := ["_law_script", "_law_second", "_law_words_here", "_law_cells", "_law_k", "_law_sides", "_law_rule_here", "_law_many", "_law_code_here", "_law_inputs_here", "_law_paper", "_law_broken_here", "_law_at", "_law_row"]) (sc := defScope (top 58)) (by decide +kernel)) (fun _ _ _ _ _ => pg_name (i := 13) sc_law.nd rfl (Or.inl rfl)) (fun _ _ _ _ _ => pts_nil) (fun _ _ _ _ _ => pe_str)) (pa_nil)))))) (pe_bl) (nomark _)) (pss_one (ps_ret (pe_bl))) (pss_nil)) (pss_one (ps_ret (pe_or (pe_cmpR op_isBl (pe_kn Klets_by (hr.mono (by decide)) rfl (pa_cons (pv 8) (pa_cons (pv 6) (pa_cons (pv 10) (pa_cons (pe_lc (own := [("_law_row", 13)]) rfl sc_law.nd (pi_list (pv 8)) (blkOk_by (N := ["_law_script", "_law_second", "_law_words_here", "_law_cells", "_law_k", "_law_sides", "_law_rule_here", "_law_many", "_law_code_here", "_law_inputs_here", "_law_paper", "_law_broken_here", "_law_at", "_law_row"]) (sc := defScope (top 58)) (by decide +kernel)) (fun _ _ _ _ _ => pg_name (i := 13) sc_law.nd rfl (Or.inl rfl)) (fun _ _ _ _ _ => pts_nil) (fun _ _ _ _ _ => pe_str)) (pa_nil)))))) (pe_bl) (nomark _)) (pe_one (pe_cmpR (op_eqD hr.units) (pv 11) (pe_lst (pa_nil)) (nomark _)))))))))))))))))), ?_⟩
  have h0 : Dp K H (.ref a) (.list (ns.map PyData.int)) := .lst hS (dps_ints ns)
  have gc : ∀ {σ : L2.St} {H' : Hp} {te : TE} (k : Nat), Same H H' → σ[0]? = some (some (.ref a)) → Gd K te σ H' (.int (k : Nat)) → Gd K (tCall (spD K R_cell_at) [] E0 (tCons (tVar 0) (tCons te tNil))) σ H' (.int (ns.getD k 0)) := fun k s e g => gd_call (ds := [.list (ns.map PyData.int), .int (k : Nat)]) (ga_cons (gd_var e (dp_mono s h0)) (ga_cons g ga_nil)) ⟨ns, k, rfl, rfl⟩
  show tSeq _ _ _ _ _
  refine q_asg (K := K) (gc 1 (Same.refl _) rfl gd_int) fun v1 H1 s1 d1 => ?_
  have e1 := dp_int d1
  subst e1
  generalize ns.getD 1 0 = second
  refine q_asgN (K := K) (Y := fun d => ∃ ws : List Str, d = .list (ws.map PyData.str) ∧ ws.length = 6 ∧ ∀ x ∈ ws, Wd x) (gn_op1 (gn_call (ds := [.int (second / 4), .int 2]) (ga_cons (gd_op (gd_var rfl (.int _)) gd_int (r2_fdiv (by decide) (by decide))) (ga_cons gd_int ga_nil)) ⟨_, 2, by decide, rfl, rfl⟩) (gd_lst (ga_cons gd_str (ga_cons gd_str (ga_cons gd_str (ga_cons gd_str ga_nil)))) (Nat.le_of_ble_eq_true rfl)) fun d z => ?_) fun v2 H2 d2 z2 s2 dv2 => ?_
  · obtain ⟨ws, rfl, hl, hw⟩ := z
    refine ⟨_, ⟨ws ++ ([("open" : Str), "lend", "back", "end"] : List Str), ?_, by rw [List.length_append, hl]; rfl, fun x hx => ?_⟩, r2_addL (by rw [List.length_map, hl]; exact Nat.le_of_ble_eq_true rfl)⟩
    · rw [List.map_append]
      rfl
    · rcases List.mem_append.mp hx with hx | hx
      · exact hw x hx
      · simp only [List.mem_cons, List.not_mem_nil, or_false] at hx
        rcases hx with e | e | e | e <;> subst e <;> exact ⟨by decide +kernel, by decide +kernel⟩
  obtain ⟨ws, rfl, hwl, hww⟩ := z2
  have s02 := s1.trans s2
  refine q_asg (K := K) (d := .list (((List.range 6).map fun i => ns.getD (2 + i) 0).map PyData.int)) (gd_is (gd_lcR (K := K) (n := 6) (F := fun i => .int (ns.getD (2 + i) 0)) (ga_cons gd_int ga_nil) (fun _ => rfl) (fun _ => rfl) (by decide) (by decide) fun i hi H' s' => gc (2 + i) (s02.trans s') rfl (gd_is (gd_op gd_int (gd_var rfl (.int _)) r2_addI) (congrArg PyData.int (by omega)))) (by rw [List.map_map]; rfl)) fun v3 H3 s3 d3 => ?_
  have s03 := s02.trans s3
  have hcl : ((List.range 6).map fun i => ns.getD (2 + i) 0).length = 6 := by rw [List.length_map, List.length_range]
  generalize ((List.range 6).map fun i => ns.getD (2 + i) 0) = cells at d3 hcl
  obtain ⟨sides, hsd, h12⟩ : ∃ sides : Nat, (sides : Int) = 1 + cells[1] / 2048 % 2 ∧ (sides = 1 ∨ sides = 2) := ⟨(1 + cells[1] / 2048 % 2).toNat, by omega, by omega⟩
  refine q_asg (K := K) (d := .int (sides : Nat)) (gd_is (gd_op gd_int (gd_op (gd_op (gd_op (gd_var rfl d3) gd_int (r2_ixl (at_map (j := 1) (List.getElem?_eq_getElem (by omega))))) gd_int (r2_fdiv (by decide) (by decide))) gd_int (r2_mod (by decide))) r2_addI) (congrArg PyData.int hsd.symm)) fun v5 H4 s4 d5 => ?_
  have e5 := dp_int d5
  subst e5
  have s04 := s03.trans s4
  have dws : ∀ {H' : Hp}, Same H2 H' → Dp K H' v2 (.list (ws.map PyData.str)) := fun s => dp_mono s dv2
  refine q_asgN (gn_call (K := K) (ds := [.list (cells.map PyData.int), .int (sides : Nat), .list (ws.map PyData.str), .int ((5 - sides : Nat) : Int)]) (ga_cons (gd_var rfl (dp_mono s4 d3)) (ga_cons (gd_var rfl (.int _)) (ga_cons (gd_var rfl (dws (s3.trans s4))) (ga_cons (gd_is (gd_op gd_int (gd_var rfl (.int _)) r2_I0) (congrArg PyData.int (by omega))) ga_nil)))) ⟨cells, sides, 5 - sides, ws, hcl, h12, by omega, fun x hx => (hww x hx).2, by omega, by omega, rfl, rfl⟩) fun v6 H5 d6 z6 s5 dv6 => ?_
  obtain ⟨r, R, rfl, ok, hrs, hR⟩ := z6
  have s05 := s04.trans s5
  refine q_asg (K := K) (d := .int ((11 - 2 * sides : Nat) : Int)) (gd_op (d := .list [.int 9, .int 7]) (gd_lst (ga_cons gd_int (ga_cons gd_int ga_nil)) (Nat.le_of_ble_eq_true rfl)) (gd_op (gd_var rfl (.int _)) gd_int r2_I0) (r2_ixl (by rcases h12 with e | e <;> subst e <;> rfl))) fun v7 H6 s6 d7 => ?_
  have e7 := dp_int d7
  subst e7
  have s06 := s05.trans s6
  have gsl : ∀ {σ : L2.St} {H' : Hp} (lo : Nat), Same H H' → σ[0]? = some (some (.ref a)) → σ[7]? = some (some (.int ((11 - 2 * sides : Nat) : Int))) → Gd K (tSl3 K (tVar 0) (tPart (tC (.int lo))) (tPart (tOp (rAddU K) (tC (.int lo)) (tOp (rI CMul fun i j => .int (i * j)) (tC (.int 2)) (tVar 7)))) (tPart (tC (.int 2)))) σ H' (.list ((pickL ns (some (lo : Int)) (some ((lo + 2 * (11 - 2 * sides) : Nat) : Int)) (some 2)).map PyData.int)) := fun lo s e0 e7 =>
    gd_sl3 (gd_var e0 (dp_mono s h0)) (go_some (K := K) gd_int) (go_some (K := K) (gd_is (gd_op gd_int (gd_op gd_int (gd_var e7 (.int _)) (r2_mulL (by decide) (by decide))) r2_addI) (congrArg PyData.int (by omega)))) (go_some (K := K) gd_int) (by decide)
  have pl : ∀ lo : Nat, (pickL ns (some (lo : Int)) (some ((lo + 2 * (11 - 2 * sides) : Nat) : Int)) (some 2)).length ≤ 9 := fun lo => Nat.le_trans (pick_len ns lo (lo + 2 * (11 - 2 * sides))) (by omega)
  refine q_asgN (gn_call (K := K) (ds := [.list ((pickL ns (some ((8 : Nat) : Int)) (some ((8 + 2 * (11 - 2 * sides) : Nat) : Int)) (some 2)).map PyData.int), .int (ns.getD 0 0), .int second, .int (sides : Nat), .list (ws.map PyData.str)]) (ga_cons (gsl 8 s06 rfl rfl) (ga_cons (gc 0 s06 rfl gd_int) (ga_cons (gd_var rfl (.int _)) (ga_cons (gd_var rfl (.int _)) (ga_cons (gd_var rfl (dws (((s3.trans s4).trans s5).trans s6))) ga_nil))))) ⟨_, _, _, sides, ws, Nat.le_trans (pl 8) (by decide), h12, (fun e => by rw [e] at hwl; cases hwl), hww, rfl, rfl⟩) fun v8 H7 d8 z8 s7 dv8 => ?_
  obtain ⟨code, rfl, wf, hrows, hcode⟩ := z8
  have s07 := s06.trans s7
  refine q_asgN (gn_call (K := K) (ds := [.list ((pickL ns (some ((9 : Nat) : Int)) (some ((9 + 2 * (11 - 2 * sides) : Nat) : Int)) (some 2)).map PyData.int), encCode code]) (ga_cons (gsl 9 s07 rfl rfl) (ga_cons (gd_var rfl dv8) ga_nil)) ⟨_, code, Nat.le_trans (pl 9) (by decide), by omega, rfl, rfl⟩) fun v9 H8 d9 z9 s8 dv9 => ?_
  obtain ⟨ins, rfl, hins⟩ := z9
  have hin9 : ins.length ≤ 9 := by rw [hins]; exact pl 9
  have fit : Fit ⟨sides, 7 - 2 * sides, R⟩ r code := ⟨ok, hrs, by show 7 - 2 * sides ≤ 60; omega, hrows, by omega⟩
  have small : Small ⟨sides, 7 - 2 * sides, R⟩ := by
    rcases h12 with e | e <;> subst e
    · exact small_of (small_one R hR)
    · exact small_of (small_two R hR)
  have d6' := dp_mono ((s6.trans s7).trans s8) dv6
  refine q_asgN (gn_call (K := K) (ds := [encCode code, r.enc]) (ga_cons (gd_var rfl (dp_mono s8 dv8)) (ga_cons (gd_var rfl d6') ga_nil)) ⟨_, r, code, fit, small, wf, by omega, rfl, rfl⟩) fun v10 H9 d10 z10 s9 dv10 => ?_
  obtain ⟨paper, rfl, pfit, closed⟩ := z10
  refine q_asgN (gn_call (K := K) (ds := [encCode code, r.enc, .list (ins.map PyData.int)]) (ga_cons (gd_var rfl (dp_mono (s8.trans s9) dv8)) (ga_cons (gd_var rfl (dp_mono s9 d6')) (ga_cons (gd_var rfl (dp_mono s9 dv9)) ga_nil))) ⟨code, r, R, 7 - 2 * sides, paper, ins, ok, wf, hrows, by omega, hcode, by omega, pfit.len, closed, rfl, rfl⟩) fun v11 H10 d11 z11 s10 dv11 => ?_
  obtain ⟨L, rfl, hLl, hL⟩ := z11
  have dcode : ∀ {H' : Hp}, Same H10 H' → Dp K H' v8 (encCode code) := fun s => dp_mono (((s8.trans s9).trans s10).trans s) dv8
  have drule : ∀ {H' : Hp}, Same H10 H' → Dp K H' v6 r.enc := fun s => dp_mono ((s9.trans s10).trans s) d6'
  have dpaper : ∀ {H' : Hp}, Same H10 H' → Dp K H' v10 (encPaper paper) := fun s => dp_mono (s10.trans s) dv10
  refine q_forN (K := K) (Zd := fun ds => ∀ d ∈ ds, ∃ a ∈ L, d = .int (a : Nat)) (gn_imp (gn_slL (gf_setI (ns := L.map fun a : Nat => (a : Int)) (gd_is (gd_var rfl dv11) (by rw [List.map_map]; rfl)) (by rw [List.length_map]; omega)) go_none (go_some (K := K) gd_int)) fun d z => ?_) fun ds H11 hds s11 => ?_
  · obtain ⟨es, ⟨M, rfl, hM⟩, rfl⟩ := z
    refine ⟨_, rfl, fun d hd => ?_⟩
    obtain ⟨i, hi, rfl⟩ := List.mem_map.mp (cutL_mem hd)
    obtain ⟨a, ha, rfl⟩ := List.mem_map.mp ((hM i).mp hi)
    exact ⟨a, ha, rfl⟩
  refine ⟨fun i σ' H' => Same H11 H' ∧ ∃ o12 o13, σ' = [some (.ref a), some (.int second), some v2, some v3, none, some (.int (sides : Nat)), some v6, some (.int ((11 - 2 * sides : Nat) : Int)), some v8, some v9, some v10, some v11, o12, o13], ⟨Same.refl _, _, _, rfl⟩, fun _ _ _ h => h.1, fun i d v σ' H' hd hP dv => ?_, fun σ' H' hP => ?_⟩
  · obtain ⟨sm, o12, o13, rfl⟩ := hP
    obtain ⟨x, hx, rfl⟩ := hds d (List.mem_of_getElem? hd)
    have ss := s11.trans sm
    refine l_no (gt_is (gt_not (gt_B (K := K) (gd_call (ds := [encCode code, r.enc, encPaper paper, .int (x : Nat)]) (ga_cons (gd_var rfl (dcode ss)) (ga_cons (gd_var rfl (drule ss)) (ga_cons (gd_var rfl (dpaper ss)) (ga_cons (gd_var rfl dv) ga_nil)))) ⟨_, r, code, paper, x, fit, pfit, closed, (hL x hx).2, rfl, rfl⟩))) rfl) fun H12 s12 => ⟨sm.trans s12, _, _, rfl⟩
  · obtain ⟨sm, o12, o13, rfl⟩ := hP
    have ss := s11.trans sm
    have lets : ∀ {H' : Hp} (c : Str), Same H10 H' → Gn K (tCall (spN K R_lets_by) [] E0 (tCons (tVar 8) (tCons (tVar 6) (tCons (tVar 10) (tCons (tLc (iList K (tVar 8)) (gName 13) tYes (tC (.str c)) [13]) tNil))))) [some (.ref a), some (.int second), some v2, some v3, none, some (.int (sides : Nat)), some v6, some (.int ((11 - 2 * sides : Nat) : Int)), some v8, some v9, some v10, some v11, o12, o13] H' (fun d => ∃ b, d = .bool b ∧ LetsZ r code paper (code.map fun _ => c) b) := fun {H'} c s =>
      gn_call (K := K) (ds := [encCode code, r.enc, encPaper paper, .list ((code.map fun _ => c).map PyData.str)]) (ga_cons (gd_var rfl (dcode s)) (ga_cons (gd_var rfl (drule s)) (ga_cons (gd_var rfl (dpaper s)) (ga_cons (gd_is (gd_lcM (g := Row.enc) (F := fun _ => .str c) (ts := code) (gd_var rfl (dcode s)) (fun _ => rfl) (fun _ _ => rfl) (by omega) fun _ _ _ _ _ _ => gd_str) (by rw [List.map_map]; rfl)) ga_nil)))) ⟨_, r, code, paper, _, fit, pfit, closed, wf.ne, by rw [List.length_map], rfl, rfl⟩
    refine q_no (gt_is (gt_test (K := K) (gd_op (gd_n (d := .bool true) (lets "look" ss) fun x hx => ?_) gd_bl (r2_notB (a := true) (b := true)))) rfl) fun H12 s12 => ?_
    · obtain ⟨b, rfl, hz, _⟩ := hx
      rw [hz fun c hc => by obtain ⟨_, _, rfl⟩ := List.mem_map.mp hc; rfl]
    · have fin : Gd K (tOrV (tOp rIsB (tCall (spN K R_lets_by) [] E0 (tCons (tVar 8) (tCons (tVar 6) (tCons (tVar 10) (tCons (tLc (iList K (tVar 8)) (gName 13) tYes (tC (.str "none")) [13]) tNil))))) (tC (.bl false))) (tOp (rEqD K) (tVar 11) (tLst tNil))) [some (.ref a), some (.int second), some v2, some v3, none, some (.int (sides : Nat)), some v6, some (.int ((11 - 2 * sides : Nat) : Int)), some v8, some v9, some v10, some v11, o12, o13] H12 (.bool true) := by
        have ss2 := ss.trans s12
        cases L with
        | nil =>
          refine gd_orN (gn_op1 (lets "none" ss2) gd_bl fun d z => ?_) (gd_is (gd_op (d := .list []) (e := .list []) (gd_var rfl (dp_mono ss2 dv11)) (gd_lst ga_nil (Nat.zero_le _)) (r2_eqD rfl rfl)) rfl)
          obtain ⟨b, rfl, _⟩ := z
          exact ⟨_, ⟨_, rfl⟩, r2_isB (b := false)⟩
        | cons x L =>
          obtain ⟨hx1, hx2⟩ := hL x List.mem_cons_self
          refine gd_is (gd_or (a := true) (b := true) (gd_is (gd_op (gd_n (d := .bool false) (lets "none" ss2) fun d hd => ?_) gd_bl (r2_isB (a := false) (b := false))) rfl) fun z => (nomatch z)) rfl
          obtain ⟨b, rfl, _, hz⟩ := hd
          rw [hz ⟨x, "none", by rw [List.getElem?_map, List.getElem?_eq_getElem hx1]; rfl, by decide +kernel, hx2⟩]
      exact l_ret fin fun v H13 s13 d13 => by
        have e := dp_bl d13
        subst e
        exact q H13
end
end Uw
/-! text H1 -/
namespace Uw
open PySem PySem.Spec PyProof.Rows L2
def defs : List He.DefD := [
  ⟨("next_room", none), "next_room", "next_room", defArgs (top 1), defBody (top 1), defScope (top 1), [], []⟩,
  ⟨("has_slot", none), "has_slot", "has_slot", defArgs (top 3), defBody (top 3), defScope (top 3), [], []⟩,
  ⟨("with_slot", none), "with_slot", "with_slot", defArgs (top 4), defBody (top 4), defScope (top 4), [], []⟩,
  ⟨("without_slot", none), "without_slot", "without_slot", defArgs (top 5), defBody (top 5), defScope (top 5), [], []⟩,
  ⟨("sums_in", none), "sums_in", "sums_in", defArgs (top 6), defBody (top 6), defScope (top 6), [], []⟩,
  ⟨("has_room", none), "has_room", "has_room", defArgs (top 7), defBody (top 7), defScope (top 7), [], []⟩,
  ⟨("copied_slot", none), "copied_slot", "copied_slot", defArgs (top 8), defBody (top 8), defScope (top 8), [], []⟩,
  ⟨("slots_behind", none), "slots_behind", "slots_behind", defArgs (top 9), defBody (top 9), defScope (top 9), [], []⟩,
  ⟨("texts_at", none), "texts_at", "texts_at", defArgs (top 10), defBody (top 10), defScope (top 10), [], []⟩,
  ⟨("room_behind", none), "room_behind", "room_behind", defArgs (top 11), defBody (top 11), defScope (top 11), [], []⟩,
  ⟨("behind_at", none), "behind_at", "behind_at", defArgs (top 12), defBody (top 12), defScope (top 12), [], []⟩,
  ⟨("begun_by_open", none), "begun_by_open", "begun_by_open", defArgs (top 13), defBody (top 13), defScope (top 13), [], []⟩,
  ⟨("begun_by_tie", none), "begun_by_tie", "begun_by_tie", defArgs (top 14), defBody (top 14), defScope (top 14), [], []⟩,
  ⟨("begins_at", none), "begins_at", "begins_at", defArgs (top 15), defBody (top 15), defScope (top 15), [], []⟩,
  ⟨("breaks_at", none), "breaks_at", "breaks_at", defArgs (top 16), defBody (top 16), defScope (top 16), [], []⟩,
  ⟨("rows_behind", none), "rows_behind", "rows_behind", defArgs (top 17), defBody (top 17), defScope (top 17), [], []⟩,
  ⟨("breaks_some", none), "breaks_some", "breaks_some", defArgs (top 18), defBody (top 18), defScope (top 18), [], []⟩,
  ⟨("moves_some", none), "moves_some", "moves_some", defArgs (top 19), defBody (top 19), defScope (top 19), [], []⟩,
  ⟨("known_in", none), "known_in", "known_in", defArgs (top 21), defBody (top 21), defScope (top 21), [], []⟩,
  ⟨("is_closed", none), "is_closed", "is_closed", defArgs (top 22), defBody (top 22), defScope (top 22), [], []⟩,
  ⟨("lets_by", none), "lets_by", "lets_by", defArgs (top 23), defBody (top 23), defScope (top 23), [], []⟩,
  ⟨("lines_of_step", none), "lines_of_step", "lines_of_step", defArgs (top 25), defBody (top 25), defScope (top 25), [], []⟩,
  ⟨("lines_of", none), "lines_of", "lines_of", defArgs (top 26), defBody (top 26), defScope (top 26), [], []⟩,
  ⟨("names_in", none), "names_in", "names_in", defArgs (top 27), defBody (top 27), defScope (top 27), [], []⟩,
  ⟨("names_of", none), "names_of", "names_of", defArgs (top 28), defBody (top 28), defScope (top 28), [], []⟩,
  ⟨("Marker", some "__init__"), "__init__", "Marker.__init__", defArgs (inClass (top 30) 0), defBody (inClass (top 30) 0), defScope (inClass (top 30) 0), [], []⟩,
  ⟨("Marker", some "next_line"), "next_line", "Marker.next_line", defArgs (inClass (top 30) 1), defBody (inClass (top 30) 1), defScope (inClass (top 30) 1), [], []⟩,
  ⟨("Marker", some "marked"), "marked", "Marker.marked", defArgs (inClass (top 30) 2), defBody (inClass (top 30) 2), defScope (inClass (top 30) 2), [], []⟩,
  ⟨("Marker", some "marked_step"), "marked_step", "Marker.marked_step", defArgs (inClass (top 30) 3), defBody (inClass (top 30) 3), defScope (inClass (top 30) 3), [], []⟩,
  ⟨("put_lend", none), "put_lend", "put_lend", defArgs (top 31), defBody (top 31), defScope (top 31), [], []⟩,
  ⟨("put_if", none), "put_if", "put_if", defArgs (top 32), defBody (top 32), defScope (top 32), [], []⟩,
  ⟨("put_while", none), "put_while", "put_while", defArgs (top 33), defBody (top 33), defScope (top 33), [], []⟩,
  ⟨("put_steps", none), "put_steps", "put_steps", defArgs (top 34), defBody (top 34), defScope (top 34), [], []⟩,
  ⟨("coded", none), "coded", "coded", defArgs (top 35), defBody (top 35), defScope (top 35), [], []⟩,
  ⟨("code_of", none), "code_of", "code_of", defArgs (top 36), defBody (top 36), defScope (top 36), [], []⟩,
  ⟨("turned_code", none), "turned_code", "turned_code", defArgs (top 37), defBody (top 37), defScope (top 37), [], []⟩,
  ⟨("all_behind", none), "all_behind", "all_behind", defArgs (top 39), defBody (top 39), defScope (top 39), [], []⟩,
  ⟨("paper_of", none), "paper_of", "paper_of", defArgs (top 40), defBody (top 40), defScope (top 40), [], []⟩,
  ⟨("_law_cell_at", none), "_law_cell_at", "_law_cell_at", defArgs (top 42), defBody (top 42), defScope (top 42), [], []⟩,
  ⟨("_law_words", none), "_law_words", "_law_words", defArgs (top 43), defBody (top 43), defScope (top 43), [], []⟩,
  ⟨("_law_step", none), "_law_step", "_law_step", defArgs (top 44), defBody (top 44), defScope (top 44), [], []⟩,
  ⟨("_law_put", none), "_law_put", "_law_put", defArgs (top 45), defBody (top 45), defScope (top 45), [], []⟩,
  ⟨("_law_close", none), "_law_close", "_law_close", defArgs (top 46), defBody (top 46), defScope (top 46), [], []⟩,
  ⟨("_law_program", none), "_law_program", "_law_program", defArgs (top 47), defBody (top 47), defScope (top 47), [], []⟩,
  ⟨("_law_rule", none), "_law_rule", "_law_rule", defArgs (top 48), defBody (top 48), defScope (top 48), [], []⟩,
  ⟨("_law_slots", none), "_law_slots", "_law_slots", defArgs (top 49), defBody (top 49), defScope (top 49), [], []⟩,
  ⟨("_law_next", none), "_law_next", "_law_next", defArgs (top 50), defBody (top 50), defScope (top 50), [], []⟩,
  ⟨("_law_code", none), "_law_code", "_law_code", defArgs (top 51), defBody (top 51), defScope (top 51), [], []⟩,
  ⟨("_law_inputs", none), "_law_inputs", "_law_inputs", defArgs (top 52), defBody (top 52), defScope (top 52), [], []⟩,
  ⟨("_law_deed", none), "_law_deed", "_law_deed", defArgs (top 53), defBody (top 53), defScope (top 53), [], []⟩,
  ⟨("_law_done", none), "_law_done", "_law_done", defArgs (top 54), defBody (top 54), defScope (top 54), [], []⟩,
  ⟨("_law_broken", none), "_law_broken", "_law_broken", defArgs (top 55), defBody (top 55), defScope (top 55), [], []⟩,
  ⟨("_law_told", none), "_law_told", "_law_told", defArgs (top 56), defBody (top 56), defScope (top 56), [], []⟩,
  ⟨("_law_right", none), "_law_right", "_law_right", defArgs (top 57), defBody (top 57), defScope (top 57), [], []⟩,
  ⟨("law", none), "law", "law", defArgs (top 58), defBody (top 58), defScope (top 58), [], []⟩]
def facts : List He.Fa := [.glo "next_room", .glo "has_slot", .glo "with_slot", .glo "without_slot", .glo "sums_in", .glo "has_room", .glo "copied_slot", .glo "slots_behind", .glo "texts_at", .glo "room_behind", .glo "behind_at", .glo "begun_by_open", .glo "begun_by_tie", .glo "begins_at", .glo "breaks_at", .glo "rows_behind", .glo "breaks_some", .glo "moves_some", .glo "known_in", .glo "is_closed", .glo "lets_by", .glo "lines_of_step", .glo "lines_of", .glo "names_in", .glo "names_of", .glo "put_lend", .glo "put_if", .glo "put_while", .glo "put_steps", .glo "coded", .glo "code_of", .glo "turned_code", .glo "all_behind", .glo "paper_of", .glo "_law_cell_at", .glo "_law_words", .glo "_law_step", .glo "_law_put", .glo "_law_close", .glo "_law_program", .glo "_law_rule", .glo "_law_slots", .glo "_law_next", .glo "_law_code", .glo "_law_inputs", .glo "_law_deed", .glo "_law_done", .glo "_law_broken", .glo "_law_told", .glo "_law_right", .glo "law", .free "any", .free "int", .free "len", .free "list", .free "max", .free "min", .free "range", .free "set", .free "sorted", .free "str", .free "tuple", .glo "Marker", .cls "Marker", .mkr "Marker", .meth "Marker" "next_line", .meth "Marker" "marked", .meth "Marker" "marked_step", .noat "Marker" "slots", .noat "Marker" "line", .noat "Marker" "lent"]

def loose1 : List Str := ["__name__", "next_room", "has_slot", "with_slot", "without_slot", "sums_in", "has_room", "copied_slot", "slots_behind", "texts_at", "room_behind", "behind_at", "begun_by_open", "begun_by_tie", "begins_at", "breaks_at", "rows_behind", "breaks_some", "moves_some", "known_in", "is_closed", "lets_by", "lines_of_step", "lines_of", "names_in", "names_of", "Marker", "put_lend", "put_if", "put_while"]
def loose2 : List Str := ["put_steps", "coded", "code_of", "turned_code", "all_behind", "paper_of", "_law_cell_at", "_law_words", "_law_step", "_law_put", "_law_close", "_law_program", "_law_rule", "_law_slots", "_law_next", "_law_code", "_law_inputs", "_law_deed", "_law_done", "_law_broken", "_law_told", "_law_right"]
abbrev R : PySem.W.OpenRow := PySem.W.OpenLaw.row PySem.Challenge.rw_usewarden_k62_whole_what_breaks_is_not_l
abbrev hk : PySem.W.Hook := He.hookD 4 facts defs
def ob (s : PySem.W.SharedT) : He.AlD := He.obsDG 4 facts defs (HandSHeadRun.getT s)
theorem ob_eq (s : PySem.W.SharedT) : ob s = hk.obs s.abs := He.obsDG_eq (HandSHeadRun.getT_eq s)
theorem run (w : World) : HandSHeadRun.RunEq R (PySem.W.view R.prog [58]) hk ob 2000 (loose1 ++ loose2) w := by
  intro os
  kernel_rfl
def dd : He.DefD := ⟨("", none), "", "", defArgs (top 0), [], defScope (top 0), [], []⟩
section
variable {K : PySem.W.Frag} {h : Heap} {mg : Str → Option Value}
theorem tx_fnames1 (X : K.In h) (G : h.Ns mainGlobals mg) (c : He.SaysD facts defs K) : ∀ p, p ∈ fnames1 → Dn K mg p.1 (top p.2) := by
  intro p hp
  simp only [fnames1, List.mem_cons, List.not_mem_nil, or_false] at hp
  rcases hp with rfl | rfl | rfl | rfl | rfl | rfl | rfl | rfl | rfl | rfl | rfl | rfl | rfl | rfl | rfl | rfl | rfl | rfl | rfl | rfl | rfl | rfl | rfl | rfl | rfl
  · obtain ⟨fd, F⟩ := c.def_ 0 (d := defs.getD 0 dd) rfl
    exact ⟨_, fd, He.glo_ok X G (c.fact 0 (f := .glo "next_room") rfl), F⟩
  · obtain ⟨fd, F⟩ := c.def_ 1 (d := defs.getD 1 dd) rfl
    exact ⟨_, fd, He.glo_ok X G (c.fact 1 (f := .glo "has_slot") rfl), F⟩
  · obtain ⟨fd, F⟩ := c.def_ 2 (d := defs.getD 2 dd) rfl
    exact ⟨_, fd, He.glo_ok X G (c.fact 2 (f := .glo "with_slot") rfl), F⟩
  · obtain ⟨fd, F⟩ := c.def_ 3 (d := defs.getD 3 dd) rfl
    exact ⟨_, fd, He.glo_ok X G (c.fact 3 (f := .glo "without_slot") rfl), F⟩
  · obtain ⟨fd, F⟩ := c.def_ 4 (d := defs.getD 4 dd) rfl
    exact ⟨_, fd, He.glo_ok X G (c.fact 4 (f := .glo "sums_in") rfl), F⟩
  · obtain ⟨fd, F⟩ := c.def_ 5 (d := defs.getD 5 dd) rfl
    exact ⟨_, fd, He.glo_ok X G (c.fact 5 (f := .glo "has_room") rfl), F⟩
  · obtain ⟨fd, F⟩ := c.def_ 6 (d := defs.getD 6 dd) rfl
    exact ⟨_, fd, He.glo_ok X G (c.fact 6 (f := .glo "copied_slot") rfl), F⟩
  · obtain ⟨fd, F⟩ := c.def_ 7 (d := defs.getD 7 dd) rfl
    exact ⟨_, fd, He.glo_ok X G (c.fact 7 (f := .glo "slots_behind") rfl), F⟩
  · obtain ⟨fd, F⟩ := c.def_ 8 (d := defs.getD 8 dd) rfl
    exact ⟨_, fd, He.glo_ok X G (c.fact 8 (f := .glo "texts_at") rfl), F⟩
  · obtain ⟨fd, F⟩ := c.def_ 9 (d := defs.getD 9 dd) rfl
    exact ⟨_, fd, He.glo_ok X G (c.fact 9 (f := .glo "room_behind") rfl), F⟩
  · obtain ⟨fd, F⟩ := c.def_ 10 (d := defs.getD 10 dd) rfl
    exact ⟨_, fd, He.glo_ok X G (c.fact 10 (f := .glo "behind_at") rfl), F⟩
  · obtain ⟨fd, F⟩ := c.def_ 11 (d := defs.getD 11 dd) rfl
    exact ⟨_, fd, He.glo_ok X G (c.fact 11 (f := .glo "begun_by_open") rfl), F⟩
  · obtain ⟨fd, F⟩ := c.def_ 12 (d := defs.getD 12 dd) rfl
    exact ⟨_, fd, He.glo_ok X G (c.fact 12 (f := .glo "begun_by_tie") rfl), F⟩
  · obtain ⟨fd, F⟩ := c.def_ 13 (d := defs.getD 13 dd) rfl
    exact ⟨_, fd, He.glo_ok X G (c.fact 13 (f := .glo "begins_at") rfl), F⟩
  · obtain ⟨fd, F⟩ := c.def_ 14 (d := defs.getD 14 dd) rfl
    exact ⟨_, fd, He.glo_ok X G (c.fact 14 (f := .glo "breaks_at") rfl), F⟩
  · obtain ⟨fd, F⟩ := c.def_ 15 (d := defs.getD 15 dd) rfl
    exact ⟨_, fd, He.glo_ok X G (c.fact 15 (f := .glo "rows_behind") rfl), F⟩
  · obtain ⟨fd, F⟩ := c.def_ 16 (d := defs.getD 16 dd) rfl
    exact ⟨_, fd, He.glo_ok X G (c.fact 16 (f := .glo "breaks_some") rfl), F⟩
  · obtain ⟨fd, F⟩ := c.def_ 17 (d := defs.getD 17 dd) rfl
    exact ⟨_, fd, He.glo_ok X G (c.fact 17 (f := .glo "moves_some") rfl), F⟩
  · obtain ⟨fd, F⟩ := c.def_ 18 (d := defs.getD 18 dd) rfl
    exact ⟨_, fd, He.glo_ok X G (c.fact 18 (f := .glo "known_in") rfl), F⟩
  · obtain ⟨fd, F⟩ := c.def_ 19 (d := defs.getD 19 dd) rfl
    exact ⟨_, fd, He.glo_ok X G (c.fact 19 (f := .glo "is_closed") rfl), F⟩
  · obtain ⟨fd, F⟩ := c.def_ 20 (d := defs.getD 20 dd) rfl
    exact ⟨_, fd, He.glo_ok X G (c.fact 20 (f := .glo "lets_by") rfl), F⟩
  · obtain ⟨fd, F⟩ := c.def_ 21 (d := defs.getD 21 dd) rfl
    exact ⟨_, fd, He.glo_ok X G (c.fact 21 (f := .glo "lines_of_step") rfl), F⟩
  · obtain ⟨fd, F⟩ := c.def_ 22 (d := defs.getD 22 dd) rfl
    exact ⟨_, fd, He.glo_ok X G (c.fact 22 (f := .glo "lines_of") rfl), F⟩
  · obtain ⟨fd, F⟩ := c.def_ 23 (d := defs.getD 23 dd) rfl
    exact ⟨_, fd, He.glo_ok X G (c.fact 23 (f := .glo "names_in") rfl), F⟩
  · obtain ⟨fd, F⟩ := c.def_ 24 (d := defs.getD 24 dd) rfl
    exact ⟨_, fd, He.glo_ok X G (c.fact 24 (f := .glo "names_of") rfl), F⟩
theorem tx_fnames2 (X : K.In h) (G : h.Ns mainGlobals mg) (c : He.SaysD facts defs K) : ∀ p, p ∈ fnames2 → Dn K mg p.1 (top p.2) := by
  intro p hp
  simp only [fnames2, List.mem_cons, List.not_mem_nil, or_false] at hp
  rcases hp with rfl | rfl | rfl | rfl | rfl | rfl | rfl | rfl | rfl | rfl | rfl | rfl | rfl | rfl | rfl | rfl | rfl | rfl | rfl | rfl | rfl | rfl | rfl | rfl | rfl | rfl
  · obtain ⟨fd, F⟩ := c.def_ 29 (d := defs.getD 29 dd) rfl
    exact ⟨_, fd, He.glo_ok X G (c.fact 25 (f := .glo "put_lend") rfl), F⟩
  · obtain ⟨fd, F⟩ := c.def_ 30 (d := defs.getD 30 dd) rfl
    exact ⟨_, fd, He.glo_ok X G (c.fact 26 (f := .glo "put_if") rfl), F⟩
  · obtain ⟨fd, F⟩ := c.def_ 31 (d := defs.getD 31 dd) rfl
    exact ⟨_, fd, He.glo_ok X G (c.fact 27 (f := .glo "put_while") rfl), F⟩
  · obtain ⟨fd, F⟩ := c.def_ 32 (d := defs.getD 32 dd) rfl
    exact ⟨_, fd, He.glo_ok X G (c.fact 28 (f := .glo "put_steps") rfl), F⟩
  · obtain ⟨fd, F⟩ := c.def_ 33 (d := defs.getD 33 dd) rfl
    exact ⟨_, fd, He.glo_ok X G (c.fact 29 (f := .glo "coded") rfl), F⟩
  · obtain ⟨fd, F⟩ := c.def_ 34 (d := defs.getD 34 dd) rfl
    exact ⟨_, fd, He.glo_ok X G (c.fact 30 (f := .glo "code_of") rfl), F⟩
  · obtain ⟨fd, F⟩ := c.def_ 35 (d := defs.getD 35 dd) rfl
    exact ⟨_, fd, He.glo_ok X G (c.fact 31 (f := .glo "turned_code") rfl), F⟩
  · obtain ⟨fd, F⟩ := c.def_ 36 (d := defs.getD 36 dd) rfl
    exact ⟨_, fd, He.glo_ok X G (c.fact 32 (f := .glo "all_behind") rfl), F⟩
  · obtain ⟨fd, F⟩ := c.def_ 37 (d := defs.getD 37 dd) rfl
    exact ⟨_, fd, He.glo_ok X G (c.fact 33 (f := .glo "paper_of") rfl), F⟩
  · obtain ⟨fd, F⟩ := c.def_ 38 (d := defs.getD 38 dd) rfl
    exact ⟨_, fd, He.glo_ok X G (c.fact 34 (f := .glo "_law_cell_at") rfl), F⟩
  · obtain ⟨fd, F⟩ := c.def_ 39 (d := defs.getD 39 dd) rfl
    exact ⟨_, fd, He.glo_ok X G (c.fact 35 (f := .glo "_law_words") rfl), F⟩
  · obtain ⟨fd, F⟩ := c.def_ 40 (d := defs.getD 40 dd) rfl
    exact ⟨_, fd, He.glo_ok X G (c.fact 36 (f := .glo "_law_step") rfl), F⟩
  · obtain ⟨fd, F⟩ := c.def_ 41 (d := defs.getD 41 dd) rfl
    exact ⟨_, fd, He.glo_ok X G (c.fact 37 (f := .glo "_law_put") rfl), F⟩
  · obtain ⟨fd, F⟩ := c.def_ 42 (d := defs.getD 42 dd) rfl
    exact ⟨_, fd, He.glo_ok X G (c.fact 38 (f := .glo "_law_close") rfl), F⟩
  · obtain ⟨fd, F⟩ := c.def_ 43 (d := defs.getD 43 dd) rfl
    exact ⟨_, fd, He.glo_ok X G (c.fact 39 (f := .glo "_law_program") rfl), F⟩
  · obtain ⟨fd, F⟩ := c.def_ 44 (d := defs.getD 44 dd) rfl
    exact ⟨_, fd, He.glo_ok X G (c.fact 40 (f := .glo "_law_rule") rfl), F⟩
  · obtain ⟨fd, F⟩ := c.def_ 45 (d := defs.getD 45 dd) rfl
    exact ⟨_, fd, He.glo_ok X G (c.fact 41 (f := .glo "_law_slots") rfl), F⟩
  · obtain ⟨fd, F⟩ := c.def_ 46 (d := defs.getD 46 dd) rfl
    exact ⟨_, fd, He.glo_ok X G (c.fact 42 (f := .glo "_law_next") rfl), F⟩
  · obtain ⟨fd, F⟩ := c.def_ 47 (d := defs.getD 47 dd) rfl
    exact ⟨_, fd, He.glo_ok X G (c.fact 43 (f := .glo "_law_code") rfl), F⟩
  · obtain ⟨fd, F⟩ := c.def_ 48 (d := defs.getD 48 dd) rfl
    exact ⟨_, fd, He.glo_ok X G (c.fact 44 (f := .glo "_law_inputs") rfl), F⟩
  · obtain ⟨fd, F⟩ := c.def_ 49 (d := defs.getD 49 dd) rfl
    exact ⟨_, fd, He.glo_ok X G (c.fact 45 (f := .glo "_law_deed") rfl), F⟩
  · obtain ⟨fd, F⟩ := c.def_ 50 (d := defs.getD 50 dd) rfl
    exact ⟨_, fd, He.glo_ok X G (c.fact 46 (f := .glo "_law_done") rfl), F⟩
  · obtain ⟨fd, F⟩ := c.def_ 51 (d := defs.getD 51 dd) rfl
    exact ⟨_, fd, He.glo_ok X G (c.fact 47 (f := .glo "_law_broken") rfl), F⟩
  · obtain ⟨fd, F⟩ := c.def_ 52 (d := defs.getD 52 dd) rfl
    exact ⟨_, fd, He.glo_ok X G (c.fact 48 (f := .glo "_law_told") rfl), F⟩
  · obtain ⟨fd, F⟩ := c.def_ 53 (d := defs.getD 53 dd) rfl
    exact ⟨_, fd, He.glo_ok X G (c.fact 49 (f := .glo "_law_right") rfl), F⟩
  · obtain ⟨fd, F⟩ := c.def_ 54 (d := defs.getD 54 dd) rfl
    exact ⟨_, fd, He.glo_ok X G (c.fact 50 (f := .glo "law") rfl), F⟩
theorem tx_free (X : K.In h) (G : h.Ns mainGlobals mg) (c : He.SaysD facts defs K) : ∀ x, x ∈ frees → mg x = none := by
  intro x hx
  simp only [frees, List.mem_cons, List.not_mem_nil, or_false] at hx
  rcases hx with rfl | rfl | rfl | rfl | rfl | rfl | rfl | rfl | rfl | rfl | rfl
  · exact He.free_ok X G (c.fact 51 (f := .free "any") rfl)
  · exact He.free_ok X G (c.fact 52 (f := .free "int") rfl)
  · exact He.free_ok X G (c.fact 53 (f := .free "len") rfl)
  · exact He.free_ok X G (c.fact 54 (f := .free "list") rfl)
  · exact He.free_ok X G (c.fact 55 (f := .free "max") rfl)
  · exact He.free_ok X G (c.fact 56 (f := .free "min") rfl)
  · exact He.free_ok X G (c.fact 57 (f := .free "range") rfl)
  · exact He.free_ok X G (c.fact 58 (f := .free "set") rfl)
  · exact He.free_ok X G (c.fact 59 (f := .free "sorted") rfl)
  · exact He.free_ok X G (c.fact 60 (f := .free "str") rfl)
  · exact He.free_ok X G (c.fact 61 (f := .free "tuple") rfl)
theorem tm_ok (X : K.In h) (G : h.Ns mainGlobals mg) (c : He.SaysD facts defs K) : TM K mg (He.ga K "Marker") := by
  obtain ⟨fdI, FI⟩ := c.def_ 25 (d := defs.getD 25 dd) rfl
  obtain ⟨fdN, FN⟩ := c.def_ 26 (d := defs.getD 26 dd) rfl
  obtain ⟨fdM, FM⟩ := c.def_ 27 (d := defs.getD 27 dd) rfl
  obtain ⟨fdS, FS⟩ := c.def_ 28 (d := defs.getD 28 dd) rfl
  exact ⟨He.cls_ok (c.fact 63 (f := .cls "Marker") rfl), He.noat_ok (c.fact 68 (f := .noat "Marker" "slots") rfl), He.noat_ok (c.fact 69 (f := .noat "Marker" "line") rfl), He.noat_ok (c.fact 70 (f := .noat "Marker" "lent") rfl), He.glo_ok X G (c.fact 62 (f := .glo "Marker") rfl),
    ⟨_, fdI, He.mkr_ok (c.fact 64 (f := .mkr "Marker") rfl), FI⟩, ⟨_, fdN, He.meth_ok (c.fact 65 (f := .meth "Marker" "next_line") rfl), FN⟩, ⟨_, fdM, He.meth_ok (c.fact 66 (f := .meth "Marker" "marked") rfl), FM⟩, ⟨_, fdS, He.meth_ok (c.fact 67 (f := .meth "Marker" "marked_step") rfl), FS⟩⟩
theorem last {P : Program} {w : World} {f : Addr} (X : K.In h) (G : h.Ns mainGlobals mg) (hfa : mg ("law" : Str) = some (.ref f)) (c : He.SaysD facts defs K) :
    ∃ fd : FuncData, (∀ (s : Shared) (v : Value), BindsTo s fd ⟨[v], []⟩ [("_law_script", v)]) ∧ ∀ base : Heap, K.In base → base.Ns mainGlobals mg → FnOk P w K mg base CX0 14 f fd ["_law_script"] (spLaw K) := by
  obtain ⟨fd, F⟩ := c.def_ 54 (d := defs.getD 54 dd) rfl
  have e := hfa.symm.trans (He.glo_ok X G (c.fact 50 (f := .glo "law") rfl))
  cases e
  have F : FunD K "law" "law" (defArgs (top 58)) (defBody (top 58)) (defScope (top 58)) [] [] (He.ga K "law") fd := F
  have b := FunD.bindsA (ps := ["_law_script"]) F fun _ _ _ _ _ _ us hl => match us, hl with | [_], _ => rfl
  have T : Tx K mg := ⟨tx_free X G c, tx_fnames1 X G c, tx_fnames2 X G c⟩
  exact ⟨fd, fun s v => b s [v] rfl, fun base _ _ => ok_law T (tm_ok X G c) F⟩
end
end Uw
open PySem PySem.W PySem.Calls PyProof.Rows
theorem PySem.Challenge.cw_usewarden_k62_whole_what_breaks_is_not_l_holds : PySem.Challenge.rw_usewarden_k62_whole_what_breaks_is_not_l.Holds := by
  w_on; o_law
  refine HandSHeadRun.head_any (r := OpenLaw.row PySem.Challenge.rw_usewarden_k62_whole_what_breaks_is_not_l) (q := view (OpenLaw.row PySem.Challenge.rw_usewarden_k62_whole_what_breaks_is_not_l).prog [58]) (H := Uw.hk) (ob := Uw.ob) (M := 2000) (loose := Uw.loose1 ++ Uw.loose2) (d := HandSHeadRun.topDef (OpenLaw.row PySem.Challenge.rw_usewarden_k62_whole_what_breaks_is_not_l).prog 58) (kwd := []) Uw.ob_eq
    (by kernel_rfl) (fun s => by kernel_rfl) Uw.run (by kernel_rfl) (by kernel_rfl) (by kernel_rfl) (by rfl) (by first | assumption | decide +kernel) (by decide +kernel) ⟨rfl, rfl, rfl, rfl, rfl, by decide +kernel⟩ ?hw ?hc
  case hw => w_witness2
  case hc =>
    refine L2.walk_ofE (l := PySem.Challenge.rw_usewarden_k62_whole_what_breaks_is_not_l) (n := 63) (k := 14) (x := "_law_script") (CX := L2.CX0) rfl (by decide) (by kernel_rfl) ⟨rfl, by decide, by decide⟩ ?F (fun _ _ _ _ z => z)
    intro w mg fa h Y G hmg0
    obtain ⟨K, KX, c⟩ := Y
    have hmg : mg ("law" : PySem.Str) = some (.ref fa) := by
      have e : (HandSHeadRun.topDef (OpenLaw.row PySem.Challenge.rw_usewarden_k62_whole_what_breaks_is_not_l).prog 58).name = ("law" : PySem.Str) := by kernel_rfl
      rw [← e]
      exact hmg0
    obtain ⟨fd, hb, hF⟩ := Uw.last (P := (PySem.Challenge.rw_usewarden_k62_whole_what_breaks_is_not_l).prog) (w := w) KX G hmg c
    exact ⟨K, fd, Uw.spLaw K, KX, hb, fun H a ns hl _ hS => ⟨a, ns, rfl, hS, fun _ => rfl⟩, hF⟩
