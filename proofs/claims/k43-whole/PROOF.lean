import PyProof.Rows.All
import Wide.All
import OpenK.AllK
import Wide.FinOn
import HandS.ForMost
import HandS.Star
import HandS.Wide
import HandS.WideBits
import HandS.TupMul
import HandS.TupAny
import HandS.Zip
import HandS.DictComp
import HandS.IsInst
import HandS.Style
import HandS.StrMore
import HandS.Property
import HandS.More
import HandS.Conv
import HandS.Exc
import HandS.AnyAll
import HandS.EndTab
import HandS.OwnEq
import HandS.Rev
import HandS.Walk
import HandS.Small
import HandS.Codes
import KE.GoesZip
import KE.OsRunLaw
import HandS.Sort
import KE.KDictCopyH
import PyProof.SumWalkG
import PyProof.WalksMore
import HandS.RevTup
import KE.KDictOf
import KE.GoesMore
import HandS.Nested
import PyProof.GenCompD
import PyProof.Rows.StrCountLaw
import HandS.TupLe
import PyProof.Rows.StrMeet
import KE.KNestM
import HandS.Defaults
import HandS.Head0
import HandS.Head1
import HandS.Head2
import HandS.HeadHook1
import HandS.HeadHook2
import HandS.HeadHook3
import HandS.HeadHook4
import HandS.HeadWalk
import PySem.Challenge.RW_marktruly_k43_whole_far_as_table
set_option Elab.async false
set_option linter.all false
set_option maxRecDepth 100000
-- part K0
/-! K0: the text by places, the clean heap, callees as bundles. -/
namespace K43
open PySem PySem.Spec PyProof.Rows L2

/-! ### the text -/
def topS (i : Nat) : Stmt := PySem.Challenge.pw_marktruly_k43_whole_far_as_table.main.body.getD i (.Pass ⟨0, 0, 0, 0⟩)
abbrev inC (i j : Nat) : Stmt := inClass (topS i) j

/-! ### heaps: G is clean (never changed again), H is all that stands; M: what may change -/
abbrev TabG := GxR.TabG
structure Cl (P : Addr) (G H : Hp) : Prop where
  s : Same G H
  p : G P = none
  t : TabG H P
/-- from (G, H) to (G', H'): all of H stands but at M; the new in G' is new -/
structure Ext (P : Addr) (M : Addr → Prop) (G H G' H' : Hp) : Prop where
  g : Same G G'
  c : Cl P G' H'
  h : ∀ b o, b ≠ P → ¬ M b → H b = some o → H' b = some o
  d : ∀ b, H b ≠ none → H' b ≠ none
  f : ∀ b, H b ≠ none → G' b ≠ none → G b ≠ none
def nM : Addr → Prop := fun _ => False
def oM (a : Addr) : Addr → Prop := fun b => b = a

section
variable {P : Addr} {M M' : Addr → Prop} {G H G1 H1 G2 H2 G' H' : Hp} {p a b : Addr} {o u : HO}
theorem Cl.free (c : Cl P G H) (h : H p = none) : G p = none := c.s.free h
theorem Cl.ne (c : Cl P G H) (h : H p = none) : p ≠ P := fun e => by
  obtain ⟨ps, q, _⟩ := c.t
  rw [e, q] at h
  cases h
theorem tabG_ne (t : TabG H P) (h : p ≠ P) : TabG (upd H p o) P := by
  obtain ⟨ps, q, r⟩ := t
  exact ⟨ps, by rw [upd_ne h.symm]; exact q, r⟩
theorem same_upd (h : H p = none) : Same H (upd H p o) := fun b x e => by
  rw [upd_ne (ne_of_none e h)]
  exact e
theorem Ext.refl (c : Cl P G H) : Ext P M G H G H := ⟨Same.refl G, c, fun _ _ _ _ h => h, fun _ h => h, fun _ _ h => h⟩
theorem Ext.none_g (e : Ext P M G H G1 H1) (hb : H b ≠ none) (hg : G b = none) : G1 b = none := by
  cases q : G1 b with
  | none => rfl
  | some u => exact absurd hg (e.f b hb (by rw [q]; simp))
theorem Ext.trans (x : Ext P M G H G1 H1) (y : Ext P M G1 H1 G2 H2) : Ext P M G H G2 H2 :=
  ⟨x.g.trans y.g, y.c, fun b o hp hm h => y.h b o hp hm (x.h b o hp hm h), fun b h => y.d b (x.d b h), fun b hb hg => x.f b hb (y.f b (x.d b hb) hg)⟩
theorem Ext.weak (x : Ext P M G H G1 H1) (h : ∀ b, M b → M' b) : Ext P M' G H G1 H1 := ⟨x.g, x.c, fun b o hp hm => x.h b o hp fun z => hm (h b z), x.d, x.f⟩
theorem Ext.weak0 (x : Ext P nM G H G1 H1) : Ext P M G H G1 H1 := x.weak fun _ z => z.elim
/-- what may change is free ahead: nothing of the caller's is changed -/
theorem Ext.own (x : Ext P M G H G1 H1) (h : ∀ b, M b → H b = none) : Ext P nM G H G1 H1 :=
  ⟨x.g, x.c, fun b o hp _ e => x.h b o hp (fun z => by rw [h b z] at e; cases e) e, x.d, x.f⟩
/-- a new object that never changes -/
theorem Ext.new (c : Cl P G H) (h : H p = none) : Ext P M G H (upd G p o) (upd H p o) := by
  have hP := c.ne h
  refine ⟨same_upd (c.free h), ⟨fun b x e => ?_, by rw [upd_ne hP.symm]; exact c.p, tabG_ne c.t hP⟩, fun b x _ _ e => same_upd h b x e, fun b hb => ?_, fun b hb hg => ?_⟩
  · by_cases q : b = p
    · rw [q, upd_same] at e ⊢
      exact e
    · rw [upd_ne q] at e ⊢
      exact c.s b x e
  · by_cases q : b = p
    · rw [q, upd_same]
      simp
    · rw [upd_ne q]
      exact hb
  · by_cases q : b = p
    · rw [q] at hb
      exact absurd h hb
    · rw [upd_ne q] at hg
      exact hg
/-- a new object that may change -/
theorem Ext.loc (c : Cl P G H) (h : H p = none) : Ext P M G H G (upd H p o) := by
  have hP := c.ne h
  refine ⟨Same.refl G, ⟨c.s.trans (same_upd h), c.p, tabG_ne c.t hP⟩, fun b x _ _ e => same_upd h b x e, fun b hb => ?_, fun b _ hg => hg⟩
  by_cases q : b = p
  · rw [q, upd_same]
    simp
  · rw [upd_ne q]
    exact hb
/-- a local object changes -/
theorem Ext.mut (e : Ext P M G H G1 H1) (h : H p = none ∨ M p) (hg : G1 p = none) (hp : p ≠ P) : Ext P M G H G1 (upd H1 p o) := by
  refine ⟨e.g, ⟨fun b x z => ?_, e.c.p, tabG_ne e.c.t hp⟩, fun b x h1 h2 z => ?_, fun b hb => ?_, e.f⟩
  · rw [upd_ne (ne_of_none z hg)]
    exact e.c.s b x z
  · rw [upd_ne (fun q => ?_)]
    · exact e.h b x h1 h2 z
    · rw [q] at z h2
      rcases h with h | h
      · rw [h] at z
        cases z
      · exact h2 h
  · by_cases q : b = p
    · rw [q, upd_same]
      simp
    · rw [upd_ne q]
      exact e.d b hb
/-- a local object is done -/
theorem Ext.frz (e : Ext P M G H G1 H1) (h : H p = none) (h1 : H1 p = some o) (hp : p ≠ P) : Ext P M G H (upd G1 p o) H1 := by
  have sg : Same G1 (upd G1 p o) := fun b x z => by
    by_cases q : b = p
    · rw [q, upd_same]
      rw [q] at z
      have := e.c.s p x z
      rw [h1] at this
      exact this
    · rw [upd_ne q]
      exact z
  refine ⟨e.g.trans sg, ⟨fun b x z => ?_, by rw [upd_ne hp.symm]; exact e.c.p, e.c.t⟩, e.h, e.d, fun b hb hg => ?_⟩
  · by_cases q : b = p
    · rw [q, upd_same] at z
      rw [q, ← z]
      exact h1
    · rw [upd_ne q] at z
      exact e.c.s b x z
  · by_cases q : b = p
    · rw [q] at hb
      exact absurd h hb
    · rw [upd_ne q] at hg
      exact e.f b hb hg
/-- .. told with the object in G -/
theorem Ext.at (e : Ext P M G H G1 H1) (h : G b = some o) : G1 b = some o := e.g b o h
/-- what the caller holds locally stands -/
theorem Ext.stay (e : Ext P M G H G1 H1) (h : H b = some o) (hp : b ≠ P) (hm : ¬ M b) : H1 b = some o := e.h b o hp hm h
theorem Ext.stay0 (e : Ext P nM G H G1 H1) (h : H b = some o) (hp : b ≠ P) : H1 b = some o := e.h b o hp (fun z => z) h
/-- only the table has grown -/
theorem Ext.tab (c : Cl P G H) (t : GxR.Tabbed P H H1) : Ext P M G H G H1 := by
  obtain ⟨t1, t2⟩ := t
  refine ⟨Same.refl G, ⟨fun b x z => ?_, c.p, t1⟩, fun b x h _ z => by rw [t2 b h]; exact z, fun b hb => ?_, fun b _ hg => hg⟩
  · rw [t2 b (fun q => by rw [q, c.p] at z; cases z)]
    exact c.s b x z
  · by_cases q : b = P
    · obtain ⟨ps, z, _⟩ := t1
      rw [q, z]
      simp
    · rw [t2 b q]
      exact hb
theorem neP_of (c : Cl P G H) (h : H p = some o) (ho : ∀ ps, o ≠ .tbl ps) : p ≠ P := fun e => by
  obtain ⟨ps, q, _⟩ := c.t
  rw [e, q] at h
  exact ho ps (Option.some.inj h).symm

/-! ### lists and tuples that stand in G -/
variable {K : PySem.W.Frag} {xs : List V}
theorem seqT (e : Same G G1) (h : SqT K G a xs) : SqT K G1 a xs := by
  rcases h with (h | ⟨o, h⟩) | h
  · exact .inl (.inl (e _ _ h))
  · exact .inl (.inr ⟨o, e _ _ h⟩)
  · exact .inr h
theorem seqL (e : Same G G1) (h : SqL K G a xs) : SqL K G1 a xs := e.seq h
end

/-! ### callees as bundles -/
section
variable (P : Program) (w : World) (K : PySem.W.Frag) (mg : Str → Option Value) (base : Heap)
/-- a def of the module by its name -/
structure Cal (x : Str) (k : Nat) (ps : List Str) (sp : Sp) : Prop where
  ex : ∃ f fd, FnOk P w K mg base CX0 k f fd ps sp ∧ mg x = some (.ref f) ∧ PySem.W.keepIn K (.ref f) = true ∧ Binds K fd ps []
/-- a method of the class at C -/
structure MCal (C : Addr) (m : Str) (k : Nat) (ps : List Str) (sp : Sp) : Prop where
  cl : Cls K C
  ex : ∃ f fd, FnOk P w K mg base CX0 k f fd ps sp ∧ Meth K C m f ∧ Binds K fd ps []
/-- a class that is made -/
structure KCal (x : Str) (C : Addr) (k : Nat) (ps : List Str) (sp : Sp) : Prop where
  gl : mg x = some (.ref C)
  ex : ∃ f fd, FnOk P w K mg base CX0 k f fd ps sp ∧ Mk K C f ∧ Binds K fd ps []
end
section
variable {P : Program} {w : World} {K : PySem.W.Frag} {mg : Str → Option Value} {base : Heap} {x m : Str} {C : Addr} {k j : Nat} {ps : List Str} {sp sp' : Sp}
theorem Cal.imp (c : Cal P w K mg base x k ps sp) (h : ∀ vs H Q E, sp' vs H Q E → sp vs H Q E) : Cal P w K mg base x k ps sp' := by
  obtain ⟨f, fd, F, a, b, d⟩ := c.ex
  exact ⟨f, fd, F.imp h, a, b, d⟩
end
/-- a def as it stands behind the top -/
structure Df (K : PySem.W.Frag) (mg : Str → Option Value) (x : Str) (st : Stmt) (ps : List Str) : Prop where
  ex : ∃ f fd, Fun K x x st f fd ∧ mg x = some (.ref f) ∧ Binds K fd ps []
structure Dm (K : PySem.W.Frag) (C : Addr) (x qual : Str) (st : Stmt) (ps : List Str) : Prop where
  ex : ∃ f fd, Fun K x qual st f fd ∧ Meth K C x f ∧ Binds K fd ps []
structure Dk (K : PySem.W.Frag) (C : Addr) (qual : Str) (st : Stmt) (ps : List Str) : Prop where
  ex : ∃ f fd, Fun K "__init__" qual st f fd ∧ Mk K C f ∧ Binds K fd ps []

section
variable {P : Program} {w : World} {K : PySem.W.Frag} {mg : Str → Option Value} {base : Heap}
/-- THE RULE for a def of the module -/
theorem Df.ok {x : Str} {st : Stmt} {N ps : List Str} {k : Nat} {sp : Sp} (D : Df K mg x st ps) (S : FnScope N ps (defScope st)) (len : ∀ vs H Q E, sp vs H Q E → vs.length = ps.length)
    (hbody : ∀ (f : Addr) (cdv : Value) (A : Around) (outer : List Env) (s : Shared) (H : Hp) (vs : List V) (Q : VK) (E : XK), Room k (A.deeper (envOfC x (defScope st) s.heap.objs.size f cdv)) → sp vs H Q E →
      ∃ t, PSs (cxOf CX0 P w K mg base N x (defScope st) f cdv A outer s H E).nox (defBody st) t ∧ t { nx := fun _ H' => Q .non H', rt := Q } (start N vs) H) : Cal P w K mg base x (k + 1) ps sp := by
  obtain ⟨f, fd, F, g, b⟩ := D.ex
  exact ⟨f, fd, F.ok S len (hbody f), g, F.kp, b⟩
theorem Dm.ok {C : Addr} {x qual : Str} {st : Stmt} {N ps : List Str} {k : Nat} {sp : Sp} (c : Cls K C) (D : Dm K C x qual st ps) (S : FnScope N ps (defScope st)) (len : ∀ vs H Q E, sp vs H Q E → vs.length = ps.length)
    (hbody : ∀ (f : Addr) (cdv : Value) (A : Around) (outer : List Env) (s : Shared) (H : Hp) (vs : List V) (Q : VK) (E : XK), Room k (A.deeper (envOfC qual (defScope st) s.heap.objs.size f cdv)) → sp vs H Q E →
      ∃ t, PSs (cxOf CX0 P w K mg base N qual (defScope st) f cdv A outer s H E).nox (defBody st) t ∧ t { nx := fun _ H' => Q .non H', rt := Q } (start N vs) H) : MCal P w K mg base C x (k + 1) ps sp := by
  obtain ⟨f, fd, F, m, b⟩ := D.ex
  exact ⟨c, f, fd, F.ok S len (hbody f), m, b⟩
theorem Dk.ok {x : Str} {C : Addr} {qual : Str} {st : Stmt} {N ps : List Str} {k : Nat} {sp : Sp} (g : mg x = some (.ref C)) (D : Dk K C qual st ps) (S : FnScope N ps (defScope st)) (len : ∀ vs H Q E, sp vs H Q E → vs.length = ps.length)
    (hbody : ∀ (f : Addr) (cdv : Value) (A : Around) (outer : List Env) (s : Shared) (H : Hp) (vs : List V) (Q : VK) (E : XK), Room k (A.deeper (envOfC qual (defScope st) s.heap.objs.size f cdv)) → sp vs H Q E →
      ∃ t, PSs (cxOf CX0 P w K mg base N qual (defScope st) f cdv A outer s H E).nox (defBody st) t ∧ t { nx := fun _ H' => Q .non H', rt := Q } (start N vs) H) : KCal P w K mg base x C (k + 1) ps sp := by
  obtain ⟨f, fd, F, m, b⟩ := D.ex
  exact ⟨g, f, fd, F.ok S len (hbody f), m, b⟩
end
section
variable {X : Cx} {x m : Str} {C : Addr} {k : Nat} {ps : List Str} {sp : Sp} {e o : Expr} {es : List Expr} {t : TA} {ta : TE} {p pos apos : Pos}
theorem pe_c (c : Cal X.prog X.w X.K X.mg X.base x k ps sp) (hr : Room k X.A) (ha : PA X (e :: es) t) (hg : Gl X x := by rfl) (hdb : (x == ("__debug__" : Str)) = false := by decide)
    (he : starEach (e :: es) X.env = (false, eval e X.env) :: starEach es X.env := by rfl) (hpl : (backTo pos (starEach es X.env)).any (·.1) = false := by rfl) :
    PE X (.Call (.Name x p) (e :: es) [] pos) (tCall sp [] E0 t) := by
  obtain ⟨f, fd, F, gm, kp, b⟩ := c.ex
  exact pe_call F hr hg gm kp b .nil pass0 ha hdb he hpl
theorem pe_k (c : KCal X.prog X.w X.K X.mg X.base x C k ps sp) (hr : Room (k + 1) X.A) (ha : PA X (e :: es) t) (hg : Gl X x := by rfl) (hdb : (x == ("__debug__" : Str)) = false := by decide)
    (he : starEach (e :: es) X.env = (false, eval e X.env) :: starEach es X.env := by rfl) (hpl : (backTo pos (starEach es X.env)).any (·.1) = false := by rfl) :
    PE X (.Call (.Name x p) (e :: es) [] pos) (tMake C sp [] E0 t) := by
  obtain ⟨f, fd, F, M, b⟩ := c.ex
  exact pe_make M F hr hg c.gl b .nil pass0 ha hdb he hpl
theorem pe_m {pl : Sem Bool} (c : MCal X.prog X.w X.K X.mg X.base C m k ps sp) (hr : Room k X.A) (he : PE X o ta) (ha : PA X (e :: es) t)
    (hst : starEach (e :: es) X.env = (false, eval e X.env) :: starEach es X.env := by rfl) (hpl : (backTo pos (starEach es X.env)).any (·.1) = false := by rfl)
    (ht : eval (.Call (.Attribute o m apos) (e :: es) [] pos) X.env = (do
      let ov ← eval o X.env
      standAt apos.atName
      let (f, first) ← holding [ov] (getMethod ov m pl)
      callWith pos f first (backTo pos (starEach (e :: es) X.env)) (backToKw pos (keywordEach [] X.env))) := by rfl) :
    PE X (.Call (.Attribute o m apos) (e :: es) [] pos) (tMeth C m sp [] E0 ta t) := by
  obtain ⟨f, fd, F, M, b⟩ := c.ex
  exact pe_meth he c.cl M F hr b .nil pass0 ha hst hpl ht
theorem pe_m0 {pl : Sem Bool} (c : MCal X.prog X.w X.K X.mg X.base C m k ps sp) (hr : Room k X.A) (he : PE X o ta)
    (ht : eval (.Call (.Attribute o m apos) [] [] pos) X.env = (do
      let ov ← eval o X.env
      standAt apos.atName
      let (f, first) ← holding [ov] (getMethod ov m pl)
      callWith pos f first (backTo pos (starEach [] X.env)) (backToKw pos (keywordEach [] X.env))) := by rfl) :
    PE X (.Call (.Attribute o m apos) [] [] pos) (tMeth C m sp [] E0 ta tNil) := by
  obtain ⟨f, fd, F, M, b⟩ := c.ex
  exact pe_meth0 he c.cl M F hr b .nil pass0 ht
end
end K43
-- part K1
namespace K43
open PySem PySem.Spec PyProof.Rows L2
/-- what the top leaves -/
structure Txt (K : PySem.W.Frag) (mg : Str → Option Value) (cS cF cG cT cM cK : Addr) : Prop where
  d_greatest_divisor : Df K mg "greatest_divisor" (topS 8) ["a", "b"]
  d_least_multiple : Df K mg "least_multiple" (topS 9) ["a", "b"]
  d_power : Df K mg "power" (topS 10) ["a", "n"]
  l_cS : Cls K cS
  g_cS : mg "Share" = some (.ref cS)
  k_cS : Dk K cS "Share.__init__" (inC 12 0) ["self", "over", "under"]
  m_cS_add : Dm K cS "__add__" "Share.__add__" (inC 12 1) ["self", "other"]
  m_cS_by : Dm K cS "by" "Share.by" (inC 12 5) ["self", "other"]
  m_cS_is_below : Dm K cS "is_below" "Share.is_below" (inC 12 6) ["self", "other"]
  n_cS_over : NoAttr K cS "over"
  n_cS_under : NoAttr K cS "under"
  d_lesser_of : Df K mg "lesser_of" (topS 13) ["share", "other"]
  d_at_most_one : Df K mg "at_most_one" (topS 14) ["level"]
  d_sum_of : Df K mg "sum_of" (topS 15) ["shares"]
  d_powers : Df K mg "_powers" (topS 18) ["weight", "most"]
  d_choices : Df K mg "_choices" (topS 19) ["total"]
  d_kinds : Df K mg "_kinds" (topS 20) ["powers", "total"]
  d_counts : Df K mg "_counts" (topS 21) ["kinds", "total"]
  d_one_more : Df K mg "_one_more" (topS 22) ["counts", "at"]
  l_cF : Cls K cF
  g_cF : mg "Far" = some (.ref cF)
  k_cF : Dk K cF "Far.__init__" (inC 23 0) ["self", "weights", "length"]
  m_cF_letters : Dm K cF "letters" "Far.letters" (inC 23 1) ["self"]
  m_cF_counts_of : Dm K cF "counts_of" "Far.counts_of" (inC 23 2) ["self", "text"]
  m_cF_share_of : Dm K cF "share_of" "Far.share_of" (inC 23 3) ["self", "text"]
  m_cF_parts_at : Dm K cF "parts_at" "Far.parts_at" (inC 23 4) ["self", "level"]
  m_cF_worth_at : Dm K cF "worth_at" "Far.worth_at" (inC 23 5) ["self", "level"]
  n_cF_weights : NoAttr K cF "weights"
  n_cF_length : NoAttr K cF "length"
  n_cF_whole : NoAttr K cF "whole"
  n_cF_powers : NoAttr K cF "_powers"
  d_table : Df K mg "_table" (topS 24) ["far", "numbers"]
  l_cG : Cls K cG
  g_cG : mg "FarMarking" = some (.ref cG)
  k_cG : Dk K cG "FarMarking.__init__" (inC 25 0) ["self", "far", "level"]
  m_cG_write : Dm K cG "write" "FarMarking.write" (inC 25 1) ["self", "key"]
  m_cG_accuses : Dm K cG "accuses" "FarMarking.accuses" (inC 25 2) ["self", "key", "text"]
  m_cG_check : Dm K cG "_check" "FarMarking._check" (inC 25 5) ["self", "key"]
  m_cG_text_at : Dm K cG "_text_at" "FarMarking._text_at" (inC 25 6) ["self", "table", "number"]
  m_cG_place_of : Dm K cG "_place_of" "FarMarking._place_of" (inC 25 7) ["self", "table", "text"]
  n_cG_far : NoAttr K cG "far"
  n_cG_ring : NoAttr K cG "ring"
  n_cG_arcs : NoAttr K cG "_arcs"
  n_cG_rests : NoAttr K cG "_rests"
  n_cG_arced : NoAttr K cG "_arced"
  d_is_integer : Df K mg "_is_integer" (topS 27) ["value"]
  l_cT : Cls K cT
  g_cT : mg "Table" = some (.ref cT)
  k_cT : Dk K cT "Table.__init__" (inC 29 0) ["self", "pairs"]
  m_cT_texts : Dm K cT "texts" "Table.texts" (inC 29 1) ["self"]
  m_cT_weight_of : Dm K cT "weight_of" "Table.weight_of" (inC 29 2) ["self", "text"]
  m_cT_share_of : Dm K cT "share_of" "Table.share_of" (inC 29 3) ["self", "text"]
  n_cT_weights : NoAttr K cT "weights"
  n_cT_whole : NoAttr K cT "whole"
  l_cM : Cls K cM
  g_cM : mg "Machine" = some (.ref cM)
  k_cM : Dk K cM "Machine.__init__" (inC 30 0) ["self", "alphabet", "start", "rows", "length"]
  m_cM_all_weights : Dm K cM "all_weights" "Machine.all_weights" (inC 30 1) ["self"]
  m_cM_texts : Dm K cM "texts" "Machine.texts" (inC 30 2) ["self"]
  m_cM_weight_of : Dm K cM "weight_of" "Machine.weight_of" (inC 30 3) ["self", "text"]
  m_cM_share_of : Dm K cM "share_of" "Machine.share_of" (inC 30 4) ["self", "text"]
  n_cM_alphabet : NoAttr K cM "alphabet"
  n_cM_start : NoAttr K cM "start"
  n_cM_rows : NoAttr K cM "rows"
  n_cM_length : NoAttr K cM "length"
  n_cM_unit : NoAttr K cM "unit"
  n_cM_whole : NoAttr K cM "whole"
  n_cM_weights : NoAttr K cM "weights"
  d_plain_worth : Df K mg "plain_worth" (topS 32) ["source", "level"]
  d_is_below : Df K mg "_is_below" (topS 35) ["value", "many"]
  l_cK : Cls K cK
  g_cK : mg "Makers" = some (.ref cK)
  k_cK : Dk K cK "Makers.__init__" (inC 36 0) ["self", "source", "many", "level"]
  m_cK_step : Dm K cK "_step" "Makers._step" (inC 36 2) ["self", "maker"]
  m_cK_point : Dm K cK "_point" "Makers._point" (inC 36 3) ["self", "maker", "key"]
  m_cK_write : Dm K cK "write" "Makers.write" (inC 36 4) ["self", "maker", "key"]
  m_cK_who : Dm K cK "who" "Makers.who" (inC 36 5) ["self", "key", "text"]
  n_cK_source : NoAttr K cK "source"
  n_cK_many : NoAttr K cK "many"
  n_cK_ring : NoAttr K cK "ring"
  n_cK_sum : NoAttr K cK "_sum"
  n_cK_arc : NoAttr K cK "_arc"
  n_cK_rest : NoAttr K cK "_rest"
  d_law_stream : Df K mg "_law_stream" (topS 38) ["_law_script", "_law_at"]
  d_law_draw : Df K mg "_law_draw" (topS 39) ["_law_stream_here", "_law_many"]
  d_law_lowest : Df K mg "_law_lowest" (topS 40) ["_law_over", "_law_under_here"]
  d_law_is_whole : Df K mg "_law_is_whole" (topS 41) ["_law_told"]
  d_law_is_share : Df K mg "_law_is_share" (topS 42) ["_law_told", "_law_over", "_law_under_here"]
  d_law_powers : Df K mg "_law_powers" (topS 43) ["_law_base", "_law_count"]
  d_law_counts : Df K mg "_law_counts" (topS 44) ["_law_kinds", "_law_length"]
  d_law_all_powers : Df K mg "_law_all_powers" (topS 45) ["_law_weights", "_law_length"]
  d_law_weight : Df K mg "_law_weight" (topS 46) ["_law_weights", "_law_text"]
  d_law_ring : Df K mg "_law_ring" (topS 47) ["_law_weights", "_law_length", "_law_level_here"]
  d_law_plan : Df K mg "_law_plan" (topS 48) ["_law_weights", "_law_length", "_law_level_here"]
  d_law_under : Df K mg "_law_under" (topS 49) ["_law_plan_here", "_law_used", "_law_left"]
  d_law_layout : Df K mg "_law_layout" (topS 50) ["_law_plan_here", "_law_text"]
  d_law_is_far_text : Df K mg "_law_is_far_text" (topS 51) ["_law_plan_here", "_law_told"]
  d_law_holds : Df K mg "_law_holds" (topS 52) ["_law_plan_here", "_law_told", "_law_number"]
  d_law_texts : Df K mg "_law_texts" (topS 53) ["_law_kinds", "_law_length"]
  d_law_case : Df K mg "_law_case" (topS 54) ["_law_stream_here"]
  d_law_level : Df K mg "_law_level" (topS 55) ["_law_stream_here", "_law_weights", "_law_length", "_law_low"]
  d_law_keys : Df K mg "_law_keys" (topS 56) ["_law_stream_here", "_law_plan_here", "_law_texts_here"]
  d_law_shares_fit : Df K mg "_law_shares_fit" (topS 57) ["_law_far", "_law_table", "_law_machine", "_law_weights", "_law_length", "_law_texts_here"]
  d_law_key_fits : Df K mg "_law_key_fits" (topS 58) ["_law_plan_here", "_law_marking", "_law_makers", "_law_texts_here", "_law_key"]
  d_law_whole : Df K mg "_law_whole" (topS 59) ["_law_script"]
  d_law : Df K mg "law" (topS 60) ["_law_script"]
  z_abs : mg "abs" = none
  z_any : mg "any" = none
  z_bool : mg "bool" = none
  z_dict : mg "dict" = none
  z_enumerate : mg "enumerate" = none
  z_int : mg "int" = none
  z_isinstance : mg "isinstance" = none
  z_len : mg "len" = none
  z_list : mg "list" = none
  z_max : mg "max" = none
  z_min : mg "min" = none
  z_range : mg "range" = none
  z_reversed : mg "reversed" = none
  z_sorted : mg "sorted" = none
  z_str : mg "str" = none
  z_sum : mg "sum" = none
  z_tuple : mg "tuple" = none
  z_zip : mg "zip" = none
  z_LETTERS : ∃ t, mg "LETTERS" = some (.str "abc" t)
  z_MOST : ∃ t, mg "MOST" = some (.int 6 t)
  i_cS : PySem.W.findIn K (.ref cS) "__class__" = some (some (.builtin "object.__class__")) ∧ PySem.W.specialIn K (.builtin "object.__class__") "__get__" = some (some (.builtin "getset_descriptor.__get__")) ∧ PySem.W.takesIn K (.builtin "object.__class__") = some true ∧ PySem.W.mroIn K cS (.type "object") = some true ∧ PySem.W.kitOne K (.ref cS) (.ref cS) = some true
  p_cK : ∃ p g fd, PropOf K cK "arcs" p g ∧ Fun K "arcs" "Makers.arcs" (inC 36 1) g fd ∧ Binds K fd ["self"] []
  o_cS : ∃ f fd, Fun K "__add__" "Share.__add__" (inC 12 1) f fd ∧ PySem.W.findIn K (.ref cS) (PySem.dunder Operator.Add.info.2) = some (some (.ref f)) ∧ PySem.W.isFn K (.ref f) = true ∧ PySem.W.selfFirst K cS = true ∧ Binds K fd ["self", "other"] []
end K43
-- part K2
/-! K2: short forms of the layer's rules, used by the printed terms; numbers. -/
namespace K43
open PySem PySem.Spec PyProof.Rows L2
section
variable {X : Cx}
theorem pg_n (i : Nat) {x : Str} {pos : Pos} (hN : X.N.Nodup) (hi : X.N[i]? = some x := by rfl) (hx : Loc X.env.scope x := by first | exact Or.inl rfl | exact Or.inr rfl)
    (hf : X.fn x = true ∨ X.env.scope.names.lookup x = some .local := by first | exact .inl rfl | exact .inr rfl | assumption) : PG X (.Name x pos) (gName i) := pg_name hN hi hx
theorem ps_s (i : Nat) {x : Str} {pos pos' : Pos} {e : Expr} {te : TE} (hN : X.N.Nodup) (he : PE X e te) (hi : X.N[i]? = some x := by rfl) (hx : Loc X.env.scope x := by first | exact Or.inl rfl | exact Or.inr rfl)
    (hs : swapsWith e (some (.Name x pos')) pos.line X.env = pure false := by rfl) (hf : X.fn x = true ∨ X.env.scope.names.lookup x = some .local := by first | exact .inl rfl | exact .inr rfl | assumption) : PS X (.Assign [.Name x pos'] e pos) (tAsg te (gName i)) := ps_set hN hi hx he hs hf
theorem ps_a (i : Nat) {x : Str} {pos pos' : Pos} {e : Expr} {te : TE} {op : Operator} {ti : TIp} (hN : X.N.Nodup) (he : PE X e te) (ho : PIp X op ti) (hi : X.N[i]? = some x := by rfl) (hx : Loc X.env.scope x := by first | exact Or.inl rfl | exact Or.inr rfl)
    (hf : X.fn x = true ∨ X.env.scope.names.lookup x = some .local := by first | exact .inl rfl | exact .inr rfl | assumption) : PS X (.AugAssign (.Name x pos') op e pos) (tAug i te ti) := ps_aug hN hi hx he ho hf
end
section
variable (P : Program) (w : World) (K : PySem.W.Frag) (mg : Str → Option Value) (base : Heap)
/-- a class that is made, by what the making promises -/
structure NCal (x : Str) (k : Nat) (spC : Sp) : Prop where
  ex : ∃ C ps sp, KCal P w K mg base x C k ps sp ∧ ∀ vs H Q, spC vs H Q E0 → ∀ x dx, H x = none → H dx = none → dx ≠ x →
    sp (.ref x :: vs) (upd (upd H dx (.own x)) x (.ins C dx [])) (fun v H2 => v = .non ∧ Q (.ref x) H2) E0
end
section
variable {X : Cx} {x : Str} {k : Nat} {spC : Sp} {e : Expr} {es : List Expr} {t : TA} {p pos : Pos}
theorem pe_n (c : NCal X.prog X.w X.K X.mg X.base x k spC) (hr : Room (k + 1) X.A) (ha : PA X (e :: es) t) (hg : Gl X x := by rfl) (hdb : (x == ("__debug__" : Str)) = false := by decide)
    (he : starEach (e :: es) X.env = (false, eval e X.env) :: starEach es X.env := by rfl) (hpl : (backTo pos (starEach es X.env)).any (·.1) = false := by rfl) :
    PE X (.Call (.Name x p) (e :: es) [] pos) (tCall spC [] E0 t) := by
  obtain ⟨C, ps, sp, c, imp⟩ := c.ex
  obtain ⟨f, fd, F, M, b⟩ := c.ex
  refine ⟨fun pins s σ H Q I h => ?_⟩
  refine wpAny_Call_Name_kw (ld_glob I hg c.gl ?_ hdb)
  refine PySem.W.callWith_K (h₀ := X.base) I.ok.mod.kin M.kp (thn (ha.run pos pins s σ H _ I h) fun us s1 ⟨vs, H1, I1, r, q⟩ => ⟨I1.kIn, ?_⟩) he hpl
  refine run_make (ds := []) (dvs := []) M F hr b .nil pass0 I1 r ?_
  have q' : spC (vs ++ []) H1 Q E0 := q
  rw [List.append_nil] at q' ⊢
  exact imp vs H1 Q q'
end
/-! ### the rules that speak of X.K, by K (X.K is K by rfl) -/
section
variable {X : Cx} {K : PySem.W.Frag} {tg l e o : Expr} {es : List Expr} {tl te ta : TE} {t : TA} {g : TGs} {pos p : Pos} {k : Nat} {f : Str}
theorem pi_listK (he : PE X l tl) (hk : X.K = K := by rfl) : PI X tg l (iList K tl) := hk ▸ pi_list he
theorem pi_tupK (he : PE X l tl) (hk : X.K = K := by rfl) : PI X tg l (iTup K tl) := hk ▸ pi_tup he
theorem pe_fldK (he : PE X e te) (hb : attributeBase e f X.env (eval e X.env) = eval e X.env := by rfl) (hk : X.K = K := by rfl) : PE X (.Attribute e f pos) (tFld K te f) := hk ▸ pe_fld he hb
theorem ix_listK (hk : X.K = K := by rfl) : IxR X (rIxL K) := hk ▸ ix_list
theorem ix_tupK (hk : X.K = K := by rfl) : IxR X (rIxT K) := hk ▸ ix_tup
theorem sl_listK (hk : X.K = K := by rfl) : SlR X (rSlL K) := hk ▸ sl_list
theorem sl_tupK (hk : X.K = K := by rfl) : SlR X (rSlT K) := hk ▸ sl_tup
def rLenQ (K : PySem.W.Frag) : List V → Hp → VK → Prop := fun xs H Q => ∃ p ys, xs = [.ref p] ∧ (SqL K H p ys ∨ SqT K H p ys) ∧ Q (.int ys.length) H
theorem call_len_seqK (hk : X.K = K := by rfl) : CallR X (.builtin "len") (rLenQ K) := hk ▸ call_len_seq
def rTupOf (K : PySem.W.Frag) : List V → Hp → VK → Prop := fun xs H Q => ∃ p ys, xs = [.ref p] ∧ ((SqL K H p ys ∧ ∀ l, H l = none → Q (.ref l) (upd H l (.tup ys))) ∨ (SqT K H p ys ∧ Q (.ref p) H))
theorem call_tuple_ofK (hk : X.K = K := by rfl) : CallR X (.type "tuple") (rTupOf K) := hk ▸ call_tuple_of
def rLstOf (K : PySem.W.Frag) : List V → Hp → VK → Prop := fun xs H Q => ∃ p ys, xs = [.ref p] ∧ (SqL K H p ys ∨ SqT K H p ys) ∧ ∀ l, H l = none → Q (.ref l) (upd H l (.lst ys))
theorem call_list_ofK (hk : X.K = K := by rfl) : CallR X (.type "list") (rLstOf K) := hk ▸ call_list_of
theorem cr_sumK (hc : X.calm = true) (hk : X.K = K := by rfl) : CallR X (.builtin "sum") (rSum K) := hk ▸ cr_sum hc
theorem cr_maxK (hc : X.calm = true) (hk : X.K = K := by rfl) : CallR X (.builtin "max") (rMax K) := hk ▸ cr_max hc
theorem pg_tupK {n : Nat} (h : PGs X es g) (hc : X.calm = true := by rfl) (hn : (assignEach es X.env).length = n := by rfl) (hst : (assignEach es X.env).findIdx? (·.1) = none := by rfl) (hk : X.K = K := by rfl) : PG X (.Tuple es k pos) (gTup K n g) := hk ▸ pg_tup hc h hn hst
theorem pa_starK (he : PE X e te) (hr : PA X es t) (hs : starEach (.Starred e p :: es) X.env = (true, eval e X.env) :: starEach es X.env := by rfl) (hk : X.K = K := by rfl) : PA X (.Starred e p :: es) (StX.tStar K te t) := hk ▸ StX.pa_star he hr hs
theorem op_repTK (hk : X.K = K := by rfl) : OpR X (binaryOp .Mult) (rRepT K) := hk ▸ op_repT
end
end K43
-- part W1
/-! W1: numbers. -/
namespace K43
open PySem PySem.Spec PyProof.Rows L2
theorem int_lt {a : Nat} {n : Nat} (h : a < 2 ^ n) : (a : Int).natAbs < 2 ^ n := by simpa using h
theorem natdiv (a b : Nat) : (a : Int) / (b : Int) = ((a / b : Nat) : Int) := (Int.natCast_ediv a b).symm
theorem natmod (a b : Nat) : (a : Int) % (b : Int) = ((a % b : Nat) : Int) := (Int.natCast_emod a b).symm
theorem natmul (a b : Nat) : (a : Int) * (b : Int) = ((a * b : Nat) : Int) := (Int.natCast_mul a b).symm
theorem qI {Q : VK} {H : Hp} {x y : Int} (q : Q (.int y) H) (e : x = y) : Q (.int x) H := e ▸ q
theorem qB {Q : VK} {H : Hp} {x y : Bool} (q : Q (.bl y) H) (e : x = y) : Q (.bl x) H := e ▸ q
theorem qS {Q : VK} {H : Hp} {x y : Str} (q : Q (.str y) H) (e : x = y) : Q (.str x) H := e ▸ q
theorem divW {i : Int} {j : Nat} (h : 0 < j) (hb : j < 2 ^ 200) : CDivW i (j : Int) := wide_div (b := 200) (by omega) (by simpa using hb) (by decide) (by decide)
section
variable {P : Program} {w : World} {K : PySem.W.Frag} {mg : Str → Option Value} {base : Heap} {cS cF cG cT cM cK : Addr}

/-! ### greatest_divisor -/
theorem sc_gcd : FnScope ["a", "b"] ["a", "b"] (defScope (topS 8)) := ⟨rfl, rfl, rfl, by decide +kernel, rfl, by decide +kernel, by decide +kernel⟩
def spGcd : Sp := fun vs H Q _ => ∃ a b : Nat, vs = [.int a, .int b] ∧ Q (.int (Nat.gcd a b : Nat)) H
theorem ok_gcd (T : Txt K mg cS cF cG cT cM cK) : Cal P w K mg base "greatest_divisor" 1 ["a", "b"] spGcd := by
  refine T.d_greatest_divisor.ok sc_gcd (fun vs H Q E h => ?_) (fun f cdv A outer s H vs Q E hr h => ?_)
  · obtain ⟨a, b, rfl, _⟩ := h
    rfl
  · obtain ⟨a, b, rfl, q⟩ := h
    refine ⟨_, (pss_cons (ps_while PassesOwn.never (pt_cmpR op_gt (pv 1) pe_int (nomark _))
  (pss_one (ps_par (i := 0) (j := 1) rfl sc_gcd.nd rfl rfl (by decide) rfl rfl (pa_cons (pv 1) (pa_cons (pe_op op_mod (pv 0) (pv 1)) pa_nil)) rfl)))
  (pss_one (ps_ret (pv 0)))), ?_⟩
    refine ⟨fun m σ H' => ∃ a' b' : Nat, σ = [some (.int a'), some (.int b')] ∧ H' = H ∧ Nat.gcd a' b' = Nat.gcd a b ∧ b' = m, ⟨b, a, b, rfl, rfl, rfl, rfl⟩, ?_⟩
    rintro m σ H' ⟨a', b', rfl, rfl, e, rfl⟩
    refine ⟨_, rfl, _, _, rfl, rfl, _, rfl, ite2 (fun h => ?_) (fun h => ?_)⟩
    · have hb : 0 < b' := by
        have := of_decide_eq_true h
        omega
      refine ⟨fun σ' H'' => σ' = [some (.int b'), some (.int (a' % b' : Nat))] ∧ H'' = H', fun σ' H'' z => ⟨a' % b', Nat.mod_lt _ hb, b', a' % b', z.1, z.2, ?_, rfl⟩, ?_⟩
      · rw [← e, Nat.gcd_comm a' b', Nat.gcd_rec b' a', Nat.gcd_comm]
      · refine ⟨_, rfl, _, rfl, _, rfl, _, _, rfl, rfl, (by omega), _, _, rfl, ?_, rfl⟩
        rfl
    · have hb : b' = 0 := by
        have : ¬ (0 : Int) < b' := fun z => h (decide_eq_true z)
        omega
      subst hb
      refine ⟨_, rfl, ?_⟩
      rw [Nat.gcd_zero_right] at e
      rw [e]
      exact q

/-! ### least_multiple -/
theorem sc_lcm : FnScope ["a", "b"] ["a", "b"] (defScope (topS 9)) := ⟨rfl, rfl, rfl, by decide +kernel, rfl, by decide +kernel, by decide +kernel⟩
def spLcm : Sp := fun vs H Q _ => ∃ a b : Nat, vs = [.int a, .int b] ∧ 0 < a ∧ a < 2 ^ 60 ∧ 0 < b ∧ b < 2 ^ 60 ∧ Q (.int (Nat.lcm a b : Nat)) H
theorem ok_lcm (T : Txt K mg cS cF cG cT cM cK) : Cal P w K mg base "least_multiple" 2 ["a", "b"] spLcm := by
  refine T.d_least_multiple.ok sc_lcm (fun vs H Q E h => ?_) (fun f cdv A outer s H vs Q E hr h => ?_)
  · obtain ⟨a, b, rfl, _⟩ := h
    rfl
  · obtain ⟨a, b, rfl, ha, ha2, hb, hb2, q⟩ := h
    refine ⟨_, (pss_one (ps_ret (pe_op op_mul (pe_op op_fdivW (pv 0) (pe_c (ok_gcd T) (hr.mono (by first | decide | omega)) (pa_cons (pv 0) (pa_cons (pv 1) pa_nil)))) (pv 1)))), ?_⟩
    have g0 : 0 < Nat.gcd a b := Nat.gcd_pos_of_pos_left _ ha
    have g1 : Nat.gcd a b ≤ a := Nat.gcd_le_left _ ha
    have d1 : a / Nat.gcd a b ≤ a := Nat.div_le_self _ _
    refine ⟨_, rfl, _, rfl, _, rfl, a, b, rfl, _, _, rfl, rfl, divW g0 (Nat.lt_of_le_of_lt g1 (Nat.lt_trans ha2 (by decide))), _, rfl, _, _, rfl, rfl, .inr ⟨by omega, by omega⟩, ?_⟩
    have e : (a : Int) / ((Nat.gcd a b : Nat) : Int) * (b : Int) = ((Nat.lcm a b : Nat) : Int) := by
      rw [natdiv, natmul]
      congr 1
      unfold Nat.lcm
      obtain ⟨c, hc⟩ := Nat.gcd_dvd_left a b
      have h1 : a / Nat.gcd a b = c := by
        conv => lhs; lhs; rw [hc]
        exact Nat.mul_div_cancel_left c g0
      have h2 : a * b = Nat.gcd a b * (c * b) := by
        conv => lhs; lhs; rw [hc]
        exact Nat.mul_assoc _ _ _
      rw [h1, h2, Nat.mul_div_cancel_left _ g0]
    exact qI q e

/-! ### power -/
theorem sc_pow : FnScope ["a", "n", "found", "_"] ["a", "n"] (defScope (topS 10)) := ⟨rfl, rfl, rfl, by decide +kernel, rfl, by decide +kernel, by decide +kernel⟩
def spPow : Sp := fun vs H Q _ => ∃ a n : Nat, vs = [.int a, .int n] ∧ a < 2 ^ 60 ∧ n < 2 ^ 60 ∧ Q (.int (a ^ n : Nat)) H
theorem ok_pow (T : Txt K mg cS cF cG cT cM cK) : Cal P w K mg base "power" 1 ["a", "n"] spPow := by
  refine T.d_power.ok sc_pow (fun vs H Q E h => ?_) (fun f cdv A outer s H vs Q E hr h => ?_)
  · obtain ⟨a, b, rfl, _⟩ := h
    rfl
  · obtain ⟨a, n, rfl, ha, hn, q⟩ := h
    refine ⟨_, (pss_cons (ps_s 2 sc_pow.nd pe_int)
  (pss_cons (ps_for PassesOwn.never rfl (pi_range1 rfl T.z_range (pa_cons (pv 1) pa_nil)) (pg_n 3 sc_pow.nd)
  (pss_one (ps_s 2 sc_pow.nd (pe_op op_mul (pv 2) (pv 0)))))
  (pss_one (ps_ret (pv 2))))), ?_⟩
    refine ⟨_, rfl, n, rfl, by omega, by omega, for_range (n := (n : Int).toNat) (fun i σ H' => ∃ y z, σ = [some (.int a), some (.int n), some (.int z), y] ∧ z = ((a ^ i : Nat) : Int) ∧ H' = H) ⟨none, _, rfl, rfl, rfl⟩ ?_ ?_⟩
    · rintro i σ H' _ ⟨y, z, rfl, rfl, rfl⟩
      refine ⟨_, rfl, _, rfl, _, _, rfl, rfl, .inr ⟨by omega, by omega⟩, _, _, rfl, ?_, rfl⟩
      show ((a ^ i : Nat) : Int) * (a : Int) = _
      rw [natmul, ← Nat.pow_succ]
    · rintro σ H' ⟨y, z, rfl, rfl, rfl⟩
      exact ⟨_, rfl, qI q (by rw [Int.toNat_natCast])⟩
end
end K43
-- part M1
/-! M1: fractions in lowest terms. -/
namespace K43
def low (a b : Nat) : Nat × Nat := (a / Nat.gcd a b, b / Nat.gcd a b)
theorem low_pos {a b : Nat} (hb : 0 < b) : 0 < (low a b).2 := Nat.div_pos (Nat.gcd_le_right _ hb) (Nat.gcd_pos_of_pos_right _ hb)
theorem low_cop {a b : Nat} (hb : 0 < b) : Nat.Coprime (low a b).1 (low a b).2 := Nat.coprime_div_gcd_div_gcd (Nat.gcd_pos_of_pos_right _ hb)
theorem low_over {a b : Nat} : (low a b).1 * Nat.gcd a b = a := Nat.div_mul_cancel (Nat.gcd_dvd_left a b)
theorem low_under {a b : Nat} : (low a b).2 * Nat.gcd a b = b := Nat.div_mul_cancel (Nat.gcd_dvd_right a b)
theorem low_cross {a b : Nat} : (low a b).1 * b = a * (low a b).2 := by
  have h1 : (low a b).1 * b = (low a b).1 * ((low a b).2 * Nat.gcd a b) := by rw [low_under]
  have h2 : a * (low a b).2 = (low a b).1 * Nat.gcd a b * (low a b).2 := by rw [low_over]
  rw [h1, h2, Nat.mul_assoc, Nat.mul_comm (Nat.gcd a b)]
theorem low_le1 {a b : Nat} : (low a b).1 ≤ a := Nat.div_le_self _ _
theorem low_le2 {a b : Nat} : (low a b).2 ≤ b := Nat.div_le_self _ _
theorem low_dvd2 {a b : Nat} : (low a b).2 ∣ b := ⟨Nat.gcd a b, low_under.symm⟩
theorem cross_low {a b c d : Nat} (hb : 0 < b) (hd : 0 < d) (h : a * d = c * b) : (low a b).1 * (low c d).2 = (low c d).1 * (low a b).2 := by
  have g1 : 0 < Nat.gcd a b := Nat.gcd_pos_of_pos_right _ hb
  have g2 : 0 < Nat.gcd c d := Nat.gcd_pos_of_pos_right _ hd
  refine Nat.eq_of_mul_eq_mul_right (Nat.mul_pos g1 g2) ?_
  have e1 : (low a b).1 * (low c d).2 * (Nat.gcd a b * Nat.gcd c d) = ((low a b).1 * Nat.gcd a b) * ((low c d).2 * Nat.gcd c d) := Nat.mul_mul_mul_comm _ _ _ _
  have e2 : (low c d).1 * (low a b).2 * (Nat.gcd a b * Nat.gcd c d) = ((low c d).1 * Nat.gcd c d) * ((low a b).2 * Nat.gcd a b) := by
    rw [Nat.mul_comm (Nat.gcd a b)]
    exact Nat.mul_mul_mul_comm _ _ _ _
  rw [e1, e2, low_over, low_under, low_over, low_under]
  exact h
/-- lowest terms are one -/
theorem cop_eq {n d m e : Nat} (h1 : Nat.Coprime n d) (h2 : Nat.Coprime m e) (hd : 0 < d) (he : 0 < e) (h : n * e = m * d) : (n, d) = (m, e) := by
  have a1 : d ∣ e := (Nat.Coprime.symm h1).dvd_of_dvd_mul_left ⟨m, by rw [h, Nat.mul_comm]⟩
  have a2 : e ∣ d := (Nat.Coprime.symm h2).dvd_of_dvd_mul_left ⟨n, by rw [← h, Nat.mul_comm]⟩
  have ed : d = e := Nat.dvd_antisymm a1 a2
  subst ed
  have en : n = m := Nat.eq_of_mul_eq_mul_right hd h
  rw [en]
theorem low_eq {a b c d : Nat} (hb : 0 < b) (hd : 0 < d) (h : a * d = c * b) : low a b = low c d :=
  cop_eq (low_cop hb) (low_cop hd) (low_pos hb) (low_pos hd) (cross_low hb hd h)
theorem low_low {a b : Nat} (hb : 0 < b) : low (low a b).1 (low a b).2 = low a b := low_eq (low_pos hb) hb low_cross
theorem low_of_cop {a b : Nat} (hb : 0 < b) (h : Nat.Coprime a b) : low a b = (a, b) := by
  unfold low
  rw [show Nat.gcd a b = 1 from h, Nat.div_one, Nat.div_one]
theorem low_zero {b : Nat} (hb : 0 < b) : low 0 b = (0, 1) := by
  unfold low
  rw [Nat.gcd_zero_left, Nat.zero_div, Nat.div_self hb]
/-- + over one divisor -/
theorem low_add {x y D : Nat} (hD : 0 < D) : low ((low x D).1 * (low y D).2 + (low y D).1 * (low x D).2) ((low x D).2 * (low y D).2) = low (x + y) D := by
  have p1 := low_pos (a := x) hD
  have p2 := low_pos (a := y) hD
  refine low_eq (Nat.mul_pos p1 p2) hD ?_
  rw [Nat.add_mul, Nat.add_mul]
  have e1 : (low x D).1 * (low y D).2 * D = x * ((low x D).2 * (low y D).2) := by
    rw [Nat.mul_right_comm, low_cross, Nat.mul_assoc]
  have e2 : (low y D).1 * (low x D).2 * D = y * ((low x D).2 * (low y D).2) := by
    rw [Nat.mul_right_comm, low_cross, Nat.mul_assoc, Nat.mul_comm (low y D).2]
  rw [e1, e2]
/-- < by the numbers over their divisors -/
theorem low_lt {a b c d : Nat} (hb : 0 < b) (hd : 0 < d) : (low a b).1 * (low c d).2 < (low c d).1 * (low a b).2 ↔ a * d < c * b := by
  have g1 : 0 < Nat.gcd a b := Nat.gcd_pos_of_pos_right _ hb
  have g2 : 0 < Nat.gcd c d := Nat.gcd_pos_of_pos_right _ hd
  have e1 : (low a b).1 * (low c d).2 * (Nat.gcd a b * Nat.gcd c d) = a * d := by
    rw [Nat.mul_mul_mul_comm, low_over, low_under]
  have e2 : (low c d).1 * (low a b).2 * (Nat.gcd a b * Nat.gcd c d) = c * b := by
    rw [Nat.mul_comm (Nat.gcd a b), Nat.mul_mul_mul_comm, low_over, low_under]
  rw [← e1, ← e2]
  exact (Nat.mul_lt_mul_right (Nat.mul_pos g1 g2)).symm
end K43
-- part W2
/-! W2: shares. -/
namespace K43
open PySem PySem.Spec PyProof.Rows L2
theorem putF_ne {f g : Str} {v u : V} {r : List (Str × V)} (h : ¬ g = f) : putF f v ((g, u) :: r) = (g, u) :: putF f v r := by
  show (if g = f then (g, v) :: r else (g, u) :: putF f v r) = _
  rw [if_neg h]
theorem putF_eq {f : Str} {v u : V} {r : List (Str × V)} : putF f v ((f, u) :: r) = (f, v) :: r := by
  show (if f = f then (f, v) :: r else (f, u) :: putF f v r) = _
  rw [if_pos rfl]
/-! ### a share that stands -/
def shF (q : Nat × Nat) : List (Str × V) := [("over", .int q.1), ("under", .int q.2)]
def ShAt (cS : Addr) (G : Hp) (v : V) (q : Nat × Nat) : Prop := ∃ p dx, v = .ref p ∧ G p = some (.ins cS dx (shF q))
theorem ShAt.to {cS : Addr} {G G1 : Hp} {v : V} {q : Nat × Nat} (s : Same G G1) (h : ShAt cS G v q) : ShAt cS G1 v q := by
  obtain ⟨p, dx, e, h⟩ := h
  exact ⟨p, dx, e, s _ _ h⟩
theorem ov_ : ¬ (("over" : Str) = "under") := by decide +kernel
theorem shF_over (q : Nat × Nat) : (shF q).lookup ("over" : Str) = some (.int q.1) := rfl
theorem shF_under (q : Nat × Nat) : (shF q).lookup ("under" : Str) = some (.int q.2) := rfl
section
variable {P : Program} {w : World} {K : PySem.W.Frag} {mg : Str → Option Value} {base : Heap} {cS cF cG cT cM cK : Addr} {PT : Addr}

/-! ### Share(over, under) -/
theorem sc_sh : FnScope ["self", "over", "under", "divisor"] ["self", "over", "under"] (defScope (inC 12 0)) := ⟨rfl, rfl, rfl, by decide +kernel, rfl, by decide +kernel, by decide +kernel⟩
def spShI (cS : Addr) : Sp := fun vs H Q _ => ∃ (p dx : Addr) (a b : Nat), vs = [.ref p, .int a, .int b] ∧ H p = some (.ins cS dx []) ∧ 0 < b ∧ b < 2 ^ 200 ∧ Q .non (upd H p (.ins cS dx (shF (low a b))))
theorem ok_sh (T : Txt K mg cS cF cG cT cM cK) : KCal P w K mg base "Share" cS 2 ["self", "over", "under"] (spShI cS) := by
  refine T.k_cS.ok T.g_cS sc_sh (fun vs H Q E h => ?_) (fun f cdv A outer s H vs Q E hr h => ?_)
  · obtain ⟨p, dx, a, b, rfl, _⟩ := h
    rfl
  · obtain ⟨p, dx, a, b, rfl, hp, hb, hb2, q⟩ := h
    refine ⟨_, (pss_cons (ps_if (pt_cmpR op_eq (pv 2) pe_int (nomark _)) (pss_one ps_never) pss_nil)
  (pss_cons (ps_s 3 sc_sh.nd (pe_c (ok_gcd T) (hr.mono (by first | decide | omega)) (pa_cons (pe_callB call_abs (by rfl) T.z_abs (by decide +kernel) (pa_cons (pv 1) pa_nil)) (pa_cons (pe_callB call_abs (by rfl) T.z_abs (by decide +kernel) (pa_cons (pv 2) pa_nil)) pa_nil))))
  (pss_cons (ps_if (pt_cmpR op_lt (pv 2) pe_int (nomark _)) (pss_one (ps_s 3 sc_sh.nd (pe_un un_neg (pv 3)))) pss_nil)
  (pss_cons (ps_fld (pv 0) (pe_op op_fdivW (pv 1) (pv 3)) rfl)
  (pss_one (ps_fld (pv 0) (pe_op op_fdivW (pv 2) (pv 3)) rfl)))))), ?_⟩
    have g0 : 0 < Nat.gcd a b := Nat.gcd_pos_of_pos_right _ hb
    have g1 : Nat.gcd a b ≤ b := Nat.gcd_le_right _ hb
    have ea : (if (a : Int) < 0 then -(a : Int) else a) = (a : Int) := if_neg (by omega)
    have eb : (if (b : Int) < 0 then -(b : Int) else b) = (b : Int) := if_neg (by omega)
    refine ⟨_, rfl, rfl, _, rfl, ?_⟩
    rw [decide_eq_false (fun z => by have := V.int.inj z; omega)]
    refine iteF ⟨_, rfl, _, rfl, _, rfl, _, rfl, a, b, ?_, ?_⟩
    · rw [ea, eb]
      rfl
    refine ⟨_, rfl, _, _, rfl, rfl, _, rfl, ?_⟩
    rw [decide_eq_false (by omega)]
    refine iteF ?_
    refine ⟨_, rfl, _, rfl, _, _, rfl, rfl, divW g0 (by omega), _, rfl, p, cS, dx, _, rfl, hp, T.l_cS, T.n_cS_over, by decide, ?_⟩
    refine ⟨_, rfl, _, rfl, _, _, rfl, rfl, divW g0 (by omega), _, rfl, p, cS, dx, _, rfl, upd_same, T.l_cS, T.n_cS_under, (by show 1 < 1000; decide), ?_⟩
    rw [upd_upd]
    show Q .non (upd H p (.ins cS dx (putF "under" (.int ((b : Int) / ((Nat.gcd a b : Nat) : Int))) (putF "over" (.int ((a : Int) / ((Nat.gcd a b : Nat) : Int))) []))))
    rw [natdiv, natdiv]
    exact q
def spMk (PT cS : Addr) : Sp := fun vs H Q _ => ∃ (G : Hp) (i j : Int) (a b : Nat), vs = [.int i, .int j] ∧ Cl PT G H ∧ i = (a : Int) ∧ j = (b : Int) ∧ 0 < b ∧ b < 2 ^ 200 ∧ ∀ v G' H', Ext PT nM G H G' H' → ShAt cS G' v (low a b) → Q v H'
theorem n_sh (T : Txt K mg cS cF cG cT cM cK) : NCal P w K mg base "Share" 2 (spMk PT cS) := by
  refine ⟨cS, _, _, ok_sh T, fun vs H Q h x dx nx nd ne => ?_⟩
  obtain ⟨G, i, j, a, b, rfl, c, rfl, rfl, hb, hb2, q⟩ := h
  have e1 : Ext PT nM G H G (upd H dx (.own x)) := Ext.loc c nd
  have e2 : Ext PT nM G (upd H dx (.own x)) (upd G x (.ins cS dx (shF (low a b)))) (upd (upd H dx (.own x)) x (.ins cS dx (shF (low a b)))) := Ext.new e1.c (by rw [upd_ne ne.symm]; exact nx)
  refine ⟨x, dx, a, b, rfl, upd_same, hb, hb2, rfl, ?_⟩
  rw [upd_upd]
  exact q _ _ _ (e1.trans e2) ⟨x, dx, rfl, upd_same⟩
/-- a share's two numbers -/
theorem shO (T : Txt K mg cS cF cG cT cM cK) {G H : Hp} {v : V} {x : Nat × Nat} (s : Same G H) (h : ShAt cS G v x) : ∃ (p : Addr) (dx : Addr), v = .ref p ∧ H p = some (.ins cS dx (shF x)) := by
  obtain ⟨p, dx, rfl, hp⟩ := h
  exact ⟨p, dx, rfl, s _ _ hp⟩
def spSh2 (PT cS : Addr) (f : Nat × Nat → Nat × Nat → Nat × Nat) (C : Nat × Nat → Nat × Nat → Prop) : Sp := fun vs H Q _ => ∃ (G : Hp) (v1 v2 : V) (x y : Nat × Nat), vs = [v1, v2] ∧ Cl PT G H ∧ ShAt cS G v1 x ∧ ShAt cS G v2 y ∧ C x y ∧
  ∀ v G' H', Ext PT nM G H G' H' → ShAt cS G' v (f x y) → Q v H'
def shSmall (x : Nat × Nat) : Prop := x.1 < 2 ^ 60 ∧ 0 < x.2 ∧ x.2 < 2 ^ 60
theorem small_mul {a b : Nat} (h1 : a < 2 ^ 60) (h2 : b < 2 ^ 60) : a * b < 2 ^ 200 := Nat.lt_of_lt_of_le (Nat.mul_lt_mul'' h1 h2) (by decide)

/-! ### share + other -/
theorem sc_add : FnScope ["self", "other"] ["self", "other"] (defScope (inC 12 1)) := ⟨rfl, rfl, rfl, by decide +kernel, rfl, by decide +kernel, by decide +kernel⟩
abbrev addF (x y : Nat × Nat) : Nat × Nat := low (x.1 * y.2 + y.1 * x.2) (x.2 * y.2)
theorem ok_add (T : Txt K mg cS cF cG cT cM cK) {f : Addr} {fd : FuncData} (F : Fun K "__add__" "Share.__add__" (inC 12 1) f fd) : FnOk P w K mg base CX0 4 f fd ["self", "other"] (spSh2 PT cS addF fun x y => shSmall x ∧ shSmall y) := by
  refine F.ok sc_add (fun vs H Q E h => ?_) (fun cdv A outer s H vs Q E hr h => ?_)
  · obtain ⟨G, v1, v2, x, y, rfl, _⟩ := h
    rfl
  · obtain ⟨G, v1, v2, x, y, rfl, c, s1, s2, ⟨b1, b2⟩, q⟩ := h
    obtain ⟨p, dx, rfl, hp⟩ := shO T c.s s1
    obtain ⟨p2, dx2, rfl, hp2⟩ := shO T c.s s2
    refine ⟨_, (pss_one (ps_ret (pe_n (n_sh (PT := PT) T) (hr.mono (by first | decide | omega)) (pa_cons (pe_op op_add (pe_op op_mul (pe_fldK (K := K) (pv 0)) (pe_fldK (K := K) (pv 1))) (pe_op op_mul (pe_fldK (K := K) (pv 1)) (pe_fldK (K := K) (pv 0)))) (pa_cons (pe_op op_mul (pe_fldK (K := K) (pv 0)) (pe_fldK (K := K) (pv 1))) pa_nil))))), ?_⟩
    refine ⟨_, rfl, p, cS, dx, _, _, rfl, hp, T.l_cS, T.n_cS_over, shF_over x, _, rfl, p2, cS, dx2, _, _, rfl, hp2, T.l_cS, T.n_cS_under, shF_under y, _, _, rfl, rfl, .inl ⟨by have := b1.1; omega, by have := b1.1; omega⟩, ?_⟩
    refine ⟨_, rfl, p2, cS, dx2, _, _, rfl, hp2, T.l_cS, T.n_cS_over, shF_over y, _, rfl, p, cS, dx, _, _, rfl, hp, T.l_cS, T.n_cS_under, shF_under x, _, _, rfl, rfl, .inl ⟨by have := b2.1; omega, by have := b2.1; omega⟩, _, _, rfl, rfl, ?_⟩
    refine ⟨_, rfl, p, cS, dx, _, _, rfl, hp, T.l_cS, T.n_cS_under, shF_under x, _, rfl, p2, cS, dx2, _, _, rfl, hp2, T.l_cS, T.n_cS_under, shF_under y, _, _, rfl, rfl, .inl ⟨by have := b1.2; omega, by have := b1.2; omega⟩, ?_⟩
    exact ⟨G, _, _, x.1 * y.2 + y.1 * x.2, x.2 * y.2, rfl, c, (by push_cast; rfl), (by push_cast; rfl), Nat.mul_pos b1.2.1 b2.2.1, small_mul b1.2.2 b2.2.2, q⟩

/-! ### share.by(other) -/
theorem sc_by : FnScope ["self", "other"] ["self", "other"] (defScope (inC 12 5)) := ⟨rfl, rfl, rfl, by decide +kernel, rfl, by decide +kernel, by decide +kernel⟩
abbrev byF (x y : Nat × Nat) : Nat × Nat := low (x.1 * y.2) (x.2 * y.1)
theorem ok_by (T : Txt K mg cS cF cG cT cM cK) : MCal P w K mg base cS "by" 4 ["self", "other"] (spSh2 PT cS byF fun x y => shSmall x ∧ shSmall y ∧ 0 < y.1) := by
  refine T.m_cS_by.ok T.l_cS sc_by (fun vs H Q E h => ?_) (fun f cdv A outer s H vs Q E hr h => ?_)
  · obtain ⟨G, v1, v2, x, y, rfl, _⟩ := h
    rfl
  · obtain ⟨G, v1, v2, x, y, rfl, c, s1, s2, ⟨b1, b2, b3⟩, q⟩ := h
    obtain ⟨p, dx, rfl, hp⟩ := shO T c.s s1
    obtain ⟨p2, dx2, rfl, hp2⟩ := shO T c.s s2
    refine ⟨_, (pss_cons (ps_if (pt_cmpR op_eq (pe_fldK (K := K) (pv 1)) pe_int (nomark _)) (pss_one ps_never) pss_nil)
  (pss_one (ps_ret (pe_n (n_sh (PT := PT) T) (hr.mono (by first | decide | omega)) (pa_cons (pe_op op_mul (pe_fldK (K := K) (pv 0)) (pe_fldK (K := K) (pv 1))) (pa_cons (pe_op op_mul (pe_fldK (K := K) (pv 0)) (pe_fldK (K := K) (pv 1))) pa_nil)))))), ?_⟩
    refine ⟨_, rfl, p2, cS, dx2, _, _, rfl, hp2, T.l_cS, T.n_cS_over, shF_over y, rfl, _, rfl, ?_⟩
    rw [decide_eq_false (fun z => by have := V.int.inj z; omega)]
    refine iteF ?_
    refine ⟨_, rfl, p, cS, dx, _, _, rfl, hp, T.l_cS, T.n_cS_over, shF_over x, _, rfl, p2, cS, dx2, _, _, rfl, hp2, T.l_cS, T.n_cS_under, shF_under y, _, _, rfl, rfl, .inl ⟨by have := b1.1; omega, by have := b1.1; omega⟩, ?_⟩
    refine ⟨_, rfl, p, cS, dx, _, _, rfl, hp, T.l_cS, T.n_cS_under, shF_under x, _, rfl, p2, cS, dx2, _, _, rfl, hp2, T.l_cS, T.n_cS_over, shF_over y, _, _, rfl, rfl, .inl ⟨by have := b1.2; omega, by have := b1.2; omega⟩, ?_⟩
    exact ⟨G, _, _, x.1 * y.2, x.2 * y.1, rfl, c, (by push_cast; rfl), (by push_cast; rfl), Nat.mul_pos b1.2.1 b3, small_mul b1.2.2 b2.1, q⟩

/-! ### share.is_below(other), lesser_of -/
theorem sc_below : FnScope ["self", "other"] ["self", "other"] (defScope (inC 12 6)) := ⟨rfl, rfl, rfl, by decide +kernel, rfl, by decide +kernel, by decide +kernel⟩
def spBelow (cS : Addr) : Sp := fun vs H Q _ => ∃ (v1 v2 : V) (x y : Nat × Nat), vs = [v1, v2] ∧ ShAt cS H v1 x ∧ ShAt cS H v2 y ∧ (shSmall x ∧ shSmall y) ∧ Q (.bl (decide (x.1 * y.2 < y.1 * x.2))) H
theorem ok_below (T : Txt K mg cS cF cG cT cM cK) : MCal P w K mg base cS "is_below" 1 ["self", "other"] (spBelow cS) := by
  refine T.m_cS_is_below.ok T.l_cS sc_below (fun vs H Q E h => ?_) (fun f cdv A outer s H vs Q E hr h => ?_)
  · obtain ⟨v1, v2, x, y, rfl, _⟩ := h
    rfl
  · obtain ⟨v1, v2, x, y, rfl, ⟨p, dx, rfl, hp⟩, ⟨p2, dx2, rfl, hp2⟩, ⟨b1, b2⟩, q⟩ := h
    refine ⟨_, (pss_one (ps_ret (pe_cmpR op_lt (pe_op op_mul (pe_fldK (K := K) (pv 0)) (pe_fldK (K := K) (pv 1))) (pe_op op_mul (pe_fldK (K := K) (pv 1)) (pe_fldK (K := K) (pv 0))) (nomark _)))), ?_⟩
    refine ⟨_, rfl, p, cS, dx, _, _, rfl, hp, T.l_cS, T.n_cS_over, shF_over x, _, rfl, p2, cS, dx2, _, _, rfl, hp2, T.l_cS, T.n_cS_under, shF_under y, _, _, rfl, rfl, .inl ⟨by have := b1.1; omega, by have := b1.1; omega⟩, ?_⟩
    refine ⟨_, rfl, p2, cS, dx2, _, _, rfl, hp2, T.l_cS, T.n_cS_over, shF_over y, _, rfl, p, cS, dx, _, _, rfl, hp, T.l_cS, T.n_cS_under, shF_under x, _, _, rfl, rfl, .inl ⟨by have := b2.1; omega, by have := b2.1; omega⟩, _, _, rfl, rfl, ?_⟩
    refine qB q (decide_eq_decide.mpr ?_)
    rw [natmul, natmul]
    exact Int.ofNat_lt
theorem sc_lesser : FnScope ["share", "other"] ["share", "other"] (defScope (topS 13)) := ⟨rfl, rfl, rfl, by decide +kernel, rfl, by decide +kernel, by decide +kernel⟩
abbrev lessF (x y : Nat × Nat) : Nat × Nat := if x.1 * y.2 < y.1 * x.2 then x else y
def spLesser (cS : Addr) : Sp := fun vs H Q _ => ∃ (v1 v2 : V) (x y : Nat × Nat), vs = [v1, v2] ∧ ShAt cS H v1 x ∧ ShAt cS H v2 y ∧ (shSmall x ∧ shSmall y) ∧ Q (if x.1 * y.2 < y.1 * x.2 then v1 else v2) H
theorem ok_lesser (T : Txt K mg cS cF cG cT cM cK) : Cal P w K mg base "lesser_of" 2 ["share", "other"] (spLesser cS) := by
  refine T.d_lesser_of.ok sc_lesser (fun vs H Q E h => ?_) (fun f cdv A outer s H vs Q E hr h => ?_)
  · obtain ⟨v1, v2, x, y, rfl, _⟩ := h
    rfl
  · obtain ⟨v1, v2, x, y, rfl, s1, s2, b, q⟩ := h
    refine ⟨_, (pss_one (ps_ret (pe_ifExp (pt_val (pe_m (ok_below T) (hr.mono (by first | decide | omega)) (pv 0) (pa_cons (pv 1) pa_nil))) (pv 0) (pv 1)))), ?_⟩
    obtain ⟨p, dx, rfl, hp⟩ := id s1
    refine ⟨_, rfl, p, dx, _, rfl, hp, rfl, _, rfl, _, v2, x, y, rfl, s1, s2, b, _, rfl, ite2 (fun h => ⟨_, rfl, ?_⟩) (fun h => ⟨_, rfl, ?_⟩)⟩
    · rw [if_pos (of_decide_eq_true h)] at q
      exact q
    · rw [if_neg (fun z => h (decide_eq_true z))] at q
      exact q
theorem lessS {G : Hp} {v1 v2 : V} {x y : Nat × Nat} (s1 : ShAt cS G v1 x) (s2 : ShAt cS G v2 y) : ShAt cS G (if x.1 * y.2 < y.1 * x.2 then v1 else v2) (lessF x y) := by
  unfold lessF
  split
  · exact s1
  · exact s2

/-! ### at_most_one -/
theorem sc_amo : FnScope ["level"] ["level"] (defScope (topS 14)) := ⟨rfl, rfl, rfl, by decide +kernel, rfl, by decide +kernel, by decide +kernel⟩
def spAmo (PT cS : Addr) : Sp := fun vs H Q _ => ∃ (G : Hp) (v : V) (x : Nat × Nat), vs = [v] ∧ Cl PT G H ∧ ShAt cS G v x ∧ shSmall x ∧ ∀ v G' H', Ext PT nM G H G' H' → ShAt cS G' v (lessF x (1, 1)) → Q v H'
theorem ok_amo (T : Txt K mg cS cF cG cT cM cK) : Cal P w K mg base "at_most_one" 4 ["level"] (spAmo PT cS) := by
  refine T.d_at_most_one.ok sc_amo (fun vs H Q E h => ?_) (fun f cdv A outer s H vs Q E hr h => ?_)
  · obtain ⟨G, v, x, rfl, _⟩ := h
    rfl
  · obtain ⟨G, v, x, rfl, c, s1, b, q⟩ := h
    refine ⟨_, (pss_one (ps_ret (pe_c (ok_lesser T) (hr.mono (by first | decide | omega)) (pa_cons (pv 0) (pa_cons (pe_n (n_sh (PT := PT) T) (hr.mono (by first | decide | omega)) (pa_cons pe_int (pa_cons pe_int pa_nil))) pa_nil))))), ?_⟩
    refine ⟨_, rfl, G, _, _, 1, 1, rfl, c, rfl, rfl, by decide, by decide, fun u G' H' e s2 => ?_⟩
    refine ⟨v, u, x, (1, 1), rfl, (s1.to e.g).to e.c.s, s2.to e.c.s, ⟨b, by decide, by decide, by decide⟩, ?_⟩
    exact q _ _ _ e (lessS (s1.to e.g) s2)

/-! ### + of two shares as an operator -/
theorem op_addOwn {X : Cx} {C f : Addr} {fd : FuncData} {ps : List Str} {sp : Sp} {k : Nat} (F : FnOk X.prog X.w X.K X.mg X.base CX0 k f fd ps sp) (hr : Room k X.A) (hb : Binds X.K fd ps [])
    (hs : PySem.W.findIn X.K (.ref C) (PySem.dunder Operator.Add.info.2) = some (some (.ref f))) (hf : PySem.W.isFn X.K (.ref f) = true) (hc : PySem.W.selfFirst X.K C = true) :
    OpR X (binaryOp .Add) (fun x y H Q => ∃ a b dx dy fs gs, x = .ref a ∧ y = .ref b ∧ H a = some (.ins C dx fs) ∧ H b = some (.ins C dy gs) ∧ sp [x, y] H Q E0) := by
  intro pins s σ H x y u v Q I rx ry h
  obtain ⟨a, b, dx, dy, fs, gs, rfl, rfl, ha, hb', hsp⟩ := h
  cases rx
  cases ry
  obtain ⟨mA, J, _⟩ := ins_get I.hok ha
  obtain ⟨mB, J', _⟩ := ins_get I.hok hb'
  obtain ⟨od, J, _⟩ := J.look
  obtain ⟨od', J', _⟩ := J'.look
  obtain ⟨m, hF⟩ := I.fr
  refine PySem.W.binop_K (op := .Add) hF I.ok.mod.kin J J'.type hc hs hf ?_
  refine wpAny_mono (run_fn (ds := []) (dvs := []) F hr hb .nil pass0 I (.cons (show RelV (.ref a) _ from rfl) (.cons (show RelV (.ref b) _ from rfl) .nil)) hsp) (fun u s' hq => ?_) fun _ _ e => e
  obtain ⟨z, H', I', rz, q⟩ := hq
  cases z with
  | non => cases rz; exact ⟨V.non, H', I', rfl, q⟩
  | bl _ => cases rz; exact ⟨V.bl _, H', I', rfl, q⟩
  | int _ => obtain ⟨t, rfl⟩ := rz; exact ⟨V.int _, H', I', ⟨_, rfl⟩, q⟩
  | str _ => obtain ⟨t, rfl⟩ := rz; exact ⟨V.str _, H', I', ⟨_, rfl⟩, q⟩
  | byt _ => obtain ⟨t, rfl⟩ := rz; exact ⟨V.byt _, H', I', ⟨_, rfl⟩, q⟩
  | flt _ => obtain ⟨t, rfl⟩ := rz; exact ⟨V.flt _, H', I', ⟨_, rfl⟩, q⟩
  | ref _ => cases rz; exact ⟨V.ref _, H', I', rfl, q⟩
  | ty _ => cases rz; exact ⟨V.ty _, H', I', rfl, q⟩
def rShAdd (PT cS : Addr) : R2 := fun x y H Q => spSh2 PT cS addF (fun x y => shSmall x ∧ shSmall y) [x, y] H Q E0
theorem op_shadd {X : Cx} {k : Nat} (T : Txt X.K X.mg cS cF cG cT cM cK) (hr : Room k X.A) (hk : 4 ≤ k := by decide) : OpR X (binaryOp .Add) (rShAdd PT cS) := by
  obtain ⟨f, fd, F, hs, hf, hc, hb⟩ := T.o_cS
  intro pins s σ H x y u v Q I rx ry h
  obtain ⟨G, v1, v2, a, b, e, c, s1, s2, C, q⟩ := id h
  obtain ⟨p, dx, e1, hp⟩ := s1.to c.s
  obtain ⟨p2, dx2, e2, hp2⟩ := s2.to c.s
  obtain ⟨rfl, rfl⟩ : x = v1 ∧ y = v2 := by
    injection e with h1 h2
    injection h2 with h2 _
    exact ⟨h1, h2⟩
  exact op_addOwn (ok_add (PT := PT) T F) (hr.mono hk) hb hs hf hc pins s σ H x y u v Q I rx ry ⟨p, p2, dx, dx2, _, _, e1, e2, hp, hp2, h⟩

/-! ### sum_of -/
theorem pget {α β : Type} {F : α → β → Prop} : ∀ {xs : List α} {ys : List β} {i : Nat} {x : α}, Paired F xs ys → xs[i]? = some x → ∃ y, ys[i]? = some y ∧ F x y
  | _, _, _, _, .nil, h => by simp at h
  | _, _, 0, _, .cons (b := b) h _, e => by
    simp at e
    subst e
    exact ⟨b, rfl, h⟩
  | _, _, i + 1, _, .cons _ t, e => by
    obtain ⟨y, h1, h2⟩ := pget (i := i) t (by simpa using e)
    exact ⟨y, by simpa using h1, h2⟩
theorem sumN_take : ∀ {l : List Nat} {i z : Nat}, l[i]? = some z → (l.take (i + 1)).sum = (l.take i).sum + z
  | [], _, _, h => by simp at h
  | a :: r, 0, z, h => by
    simp at h
    subst h
    simp
  | a :: r, i + 1, z, h => by
    have ih := sumN_take (l := r) (i := i) (z := z) (by simpa using h)
    simp only [List.take_succ_cons, List.sum_cons, ih]
    omega
theorem sumN_le : ∀ {l : List Nat} {i : Nat}, (l.take i).sum ≤ l.sum
  | [], _ => by simp
  | a :: r, 0 => by simp
  | a :: r, i + 1 => by
    have ih := sumN_le (l := r) (i := i)
    simp only [List.take_succ_cons, List.sum_cons]
    omega
theorem sc_sum : FnScope ["shares", "total", "share"] ["shares"] (defScope (topS 15)) := ⟨rfl, rfl, rfl, by decide +kernel, rfl, by decide +kernel, by decide +kernel⟩
def spSum (PT cS : Addr) (K : PySem.W.Frag) : Sp := fun vs H Q _ => ∃ (G : Hp) (p : Addr) (us : List V) (ns : List Nat) (D : Nat), vs = [.ref p] ∧ Cl PT G H ∧ SqL K G p us ∧ Paired (fun v n => ShAt cS G v (low n D)) us ns ∧ 0 < D ∧ D < 2 ^ 60 ∧ ns.sum < 2 ^ 60 ∧
  ∀ v G' H', Ext PT nM G H G' H' → ShAt cS G' v (low ns.sum D) → Q v H'
theorem low_small {a b : Nat} (ha : a < 2 ^ 60) (hb : 0 < b) (hb2 : b < 2 ^ 60) : shSmall (low a b) := ⟨Nat.lt_of_le_of_lt low_le1 ha, low_pos hb, Nat.lt_of_le_of_lt low_le2 hb2⟩
theorem ok_sum (T : Txt K mg cS cF cG cT cM cK) : Cal P w K mg base "sum_of" 5 ["shares"] (spSum PT cS K) := by
  refine T.d_sum_of.ok sc_sum (fun vs H Q E h => ?_) (fun f cdv A outer s H vs Q E hr h => ?_)
  · obtain ⟨G, p, us, ns, D, rfl, _⟩ := h
    rfl
  · obtain ⟨G, p, us, ns, D, rfl, c, hp, hs, hD, hD2, hn, q⟩ := h
    have hlen : us.length = ns.length := Paired.length hs
    refine ⟨_, (pss_cons (ps_s 1 sc_sum.nd (pe_n (n_sh (PT := PT) T) (hr.mono (by first | decide | omega)) (pa_cons pe_int (pa_cons pe_int pa_nil))))
  (pss_cons (ps_for PassesOwn.never rfl (pi_listK (K := K) (pv 0)) (pg_n 2 sc_sum.nd)
  (pss_one (ps_s 1 sc_sum.nd (pe_op (op_shadd (PT := PT) T hr) (pv 1) (pv 2)))))
  (pss_one (ps_ret (pv 1))))), ?_⟩
    refine ⟨G, _, _, 0, 1, rfl, c, rfl, rfl, by decide, by decide, fun v0 G0 H0 e0 s0 => ?_⟩
    refine ⟨_, rfl, p, rfl, ⟨us, seqL e0.c.s (seqL e0.g hp)⟩, for_list (xs := us) (fun i σ H' => ∃ y v G', σ = [some (.ref p), some v, y] ∧ Ext PT nM G H G' H' ∧ ShAt cS G' v (low ((ns.take i).sum) D)) ⟨none, v0, G0, rfl, e0, ?_⟩ ?_ ?_ ?_⟩
    · rw [List.take_zero]
      show ShAt cS G0 v0 (low 0 D)
      rw [low_zero hD]
      exact s0
    · rintro i σ H' hi ⟨y, v, G', rfl, e, _⟩
      exact seqL e.c.s (seqL e.g hp)
    · rintro i x σ H' hx ⟨y, v, G', rfl, e, sv⟩
      obtain ⟨n, hn1, hn2⟩ := pget hs hx
      have l1 := sumN_take hn1
      have l2 := sumN_le (l := ns) (i := i + 1)
      refine ⟨_, rfl, _, rfl, G', _, _, _, _, rfl, e.c, sv, hn2.to e.g, ⟨low_small (by omega) hD hD2, low_small (by omega) hD hD2⟩, fun v2 G2 H2 e2 s2 => ?_⟩
      refine ⟨_, v2, G2, rfl, e.trans e2, ?_⟩
      rw [l1, ← low_add hD]
      exact s2
    · rintro σ H' ⟨y, v, G', rfl, e, sv⟩
      refine ⟨_, rfl, q _ _ _ e ?_⟩
      rw [hlen, List.take_length] at sv
      exact sv
end
end K43
-- part K3
/-! K3: data that stand. -/
namespace K43
open PySem PySem.Spec PyProof.Rows L2
def vN (n : Nat) : V := .int (n : Int)
section
variable (K : PySem.W.Frag)
/-- a list, a tuple of numbers; a list of what R tells -/
def LN (G : Hp) (v : V) (ns : List Nat) : Prop := ∃ p, v = .ref p ∧ SqL K G p (ns.map vN)
def TN (_ : PySem.W.Frag) (G : Hp) (v : V) (ns : List Nat) : Prop := ∃ p, v = .ref p ∧ G p = some (.tup (ns.map vN))
def LS (G : Hp) (v : V) (xs : List Str) : Prop := ∃ p, v = .ref p ∧ SqL K G p (xs.map V.str)
def TS' (G : Hp) (v : V) (xs : List Str) : Prop := ∃ p, v = .ref p ∧ SqT K G p (xs.map V.str)
def LR {α : Type} (R : Hp → V → α → Prop) (G : Hp) (v : V) (xs : List α) : Prop := ∃ p us, v = .ref p ∧ SqL K G p us ∧ Paired (R G) us xs
/-- what a call hands back -/
def Ret (PT : Addr) (G H : Hp) (Q : VK) (R : Hp → V → Prop) : Prop := ∀ v G' H', Ext PT nM G H G' H' → R G' v → Q v H'
end
section
variable {K : PySem.W.Frag} {G G1 H H' : Hp} {v : V} {ns : List Nat} {xs : List Str} {α : Type} {R : Hp → V → α → Prop} {ys : List α}
theorem LN.to (s : Same G G1) (h : LN K G v ns) : LN K G1 v ns := by
  obtain ⟨p, e, h⟩ := h
  exact ⟨p, e, seqL s h⟩
theorem TN.to (s : Same G G1) (h : TN K G v ns) : TN K G1 v ns := by
  obtain ⟨p, e, h⟩ := h
  exact ⟨p, e, s _ _ h⟩
theorem LS.to (s : Same G G1) (h : LS K G v xs) : LS K G1 v xs := by
  obtain ⟨p, e, h⟩ := h
  exact ⟨p, e, seqL s h⟩
theorem TS'.to (s : Same G G1) (h : TS' K G v xs) : TS' K G1 v xs := by
  obtain ⟨p, e, h⟩ := h
  exact ⟨p, e, seqT s h⟩
theorem pmap {α β : Type} {F F' : α → β → Prop} {xs : List α} {ys : List β} (h : Paired F xs ys) (f : ∀ a b, F a b → F' a b) : Paired F' xs ys := Paired.mapP h f
theorem LR.to (hR : ∀ G G1 v x, Same G G1 → R G v x → R G1 v x) (s : Same G G1) (h : LR K R G v ys) : LR K R G1 v ys := by
  obtain ⟨p, us, e, h, q⟩ := h
  exact ⟨p, us, e, seqL s h, pmap q fun a b => hR _ _ a b s⟩
theorem psnoc {α β : Type} {F : α → β → Prop} : ∀ {xs : List α} {ys : List β} {x : α} {y : β}, Paired F xs ys → F x y → Paired F (xs ++ [x]) (ys ++ [y])
  | _, _, _, _, .nil, h => .cons h .nil
  | _, _, _, _, .cons a t, h => .cons a (psnoc t h)
theorem plen {α β : Type} {F : α → β → Prop} {xs : List α} {ys : List β} (h : Paired F xs ys) : xs.length = ys.length := Paired.length h
theorem vNs_get {ns : List Nat} {i n : Nat} (h : ns[i]? = some n) : (ns.map vN)[i]? = some (vN n) := by
  rw [List.getElem?_map, h]
  rfl
theorem vNs_of {ns : List Nat} {i : Nat} {x : V} (h : (ns.map vN)[i]? = some x) : ∃ n, ns[i]? = some n ∧ x = vN n := by
  rw [List.getElem?_map] at h
  cases e : ns[i]? with
  | none =>
    rw [e] at h
    cases h
  | some n =>
    rw [e] at h
    exact ⟨n, rfl, (Option.some.inj h).symm⟩
theorem strs_of {ns : List Str} {i : Nat} {x : V} (h : (ns.map V.str)[i]? = some x) : ∃ n, ns[i]? = some n ∧ x = V.str n := by
  rw [List.getElem?_map] at h
  cases e : ns[i]? with
  | none =>
    rw [e] at h
    cases h
  | some n =>
    rw [e] at h
    exact ⟨n, rfl, (Option.some.inj h).symm⟩
theorem vNs_at {ns : List Nat} {i n : Nat} {z : Int} (e : z = (i : Int)) (h : ns[i]? = some n) : atI (ns.map vN) z = some (vN n) := at_of e (vNs_get h)
theorem vNs_snoc (ns : List Nat) (n : Nat) : (ns ++ [n]).map vN = ns.map vN ++ [vN n] := by rw [List.map_append]; rfl
theorem sq_ofL {p : Addr} {us : List V} (h : H p = some (.lst us)) : SqL K H p us := .inl (.inl h)
theorem sq_ofT {p : Addr} {us : List V} (h : H p = some (.tup us)) : SqT K H p us := .inl (.inl h)
theorem ltS {n : Nat} (h : n ≤ 100000) : n < sizeLine := Nat.lt_of_le_of_lt h (by decide)
theorem leS {n : Nat} (h : n ≤ 100000) : n ≤ sizeLine := Nat.le_of_lt (ltS h)
theorem divI {i j : Int} (h : 0 < j) (hb : j < 2 ^ 64) : CDivW i j := wide_div (b := 64) h (by omega) (by decide) (by decide)
/-- slices of a tuple -/
theorem cutTo (us : List V) (j : Nat) : cutV us none (some (j : Int)) = us.take j := by
  unfold cutV
  rw [HT.sIx_none, HT.sIx_nat, List.drop_zero, Nat.sub_zero]
  by_cases h : j ≤ us.length
  · rw [Nat.min_eq_left h]
  · rw [Nat.min_eq_right (by omega), List.take_of_length_le (Nat.le_refl _), List.take_of_length_le (by omega)]
theorem cutFrom (us : List V) (j : Nat) : cutV us (some (j : Int)) none = us.drop j := by
  unfold cutV
  rw [HT.sIx_none, HT.sIx_nat]
  by_cases h : j ≤ us.length
  · rw [Nat.min_eq_left h, List.take_of_length_le (by rw [List.length_drop]; omega)]
  · rw [Nat.min_eq_right (by omega), List.drop_of_length_le (Nat.le_refl _), List.drop_of_length_le (by omega), List.take_nil]
end
/-! ### walks of comprehensions and loops, over any iterator of n turns: Y i x H H' what is given at turn i -/
structure Wk (J : It) (n : Nat) (A : Hp → Prop) (Y : Nat → Hp → V → Hp → Prop) : Prop where
  go : ∀ i H, i < n → A H → J.go i H
  yld : ∀ i H x H', i < n → A H → J.yld i H x H' → Y i H x H'
  stop : ∀ H, A H → J.stop n H
theorem wk_range {lo : Int} {n : Nat} : Wk (Itr lo n) n (fun _ => True) (fun i H x H' => H' = H ∧ x = .int (lo + (i : Nat))) :=
  ⟨fun _ _ h _ => h, fun i H x H' _ _ y => ⟨y.1, y.2⟩, fun _ _ => Nat.le_refl _⟩
theorem wk_rangeC {lo c : Int} {n : Nat} : Wk (Itc lo c n) n (fun _ => True) (fun i H x H' => H' = H ∧ x = .int (lo + (i : Nat) * c)) :=
  ⟨fun _ _ h _ => h, fun i H x H' _ _ y => ⟨y.1, y.2⟩, fun _ _ => Nat.le_refl _⟩
theorem wk_list {K : PySem.W.Frag} {a : Addr} {xs : List V} : Wk (Itl K a) xs.length (fun H => SqL K H a xs) (fun i H x H' => H' = H ∧ xs[i]? = some x) :=
  ⟨fun i H h q => ⟨xs, xs[i], q, by simp [h]⟩, fun i H x H' _ q y => ⟨y.1, y.2 xs (by rw [← y.1] at q; rw [y.1] at q; exact q)⟩, fun H q => ⟨xs, q, Nat.le_refl _⟩⟩
theorem wk_tup {K : PySem.W.Frag} {a : Addr} {xs : List V} : Wk (Itt K a) xs.length (fun H => SqT K H a xs) (fun i H x H' => H' = H ∧ xs[i]? = some x) :=
  ⟨fun i H h q => ⟨xs, xs[i], q, by simp [h]⟩, fun i H x H' _ q y => ⟨y.1, y.2 xs (by rw [← y.1] at q; rw [y.1] at q; exact q)⟩, fun H q => ⟨xs, q, Nat.le_refl _⟩⟩
theorem wk_str {x : Str} : Wk (Its x) x.cps.size (fun _ => True) (fun i H v H' => H' = H ∧ ∃ c, x.cps[i]? = some c ∧ v = .str ⟨#[c]⟩) :=
  ⟨fun _ _ h _ => h, fun i H v H' _ _ y => ⟨y.1, y.2⟩, fun _ _ => Nat.le_refl _⟩
theorem wk_items {d : Addr} {o : Obj} {kvs : List (Key × V)} : Wk (Iti d o kvs) kvs.length (fun H => H d = some (.frz o (.dK kvs))) (fun i H x H' => ∃ T k v, kvs[i]? = some (k, v) ∧ x = .ref T ∧ H T = none ∧ H' = upd H T (.tup [kV k, v])) :=
  ⟨fun _ _ h q => ⟨q, h⟩, fun i H v H' _ _ y => y, fun _ q => ⟨q, Nat.le_refl _⟩⟩
theorem wk_enum {K : PySem.W.Frag} {a : Addr} {xs : List V} : Wk (Ite K a) xs.length (fun H => SqL K H a xs) (fun i H x H' => ∃ T y, xs[i]? = some y ∧ x = .ref T ∧ H T = none ∧ H' = upd H T (.tup [.int (i : Nat), y])) :=
  ⟨fun i H h q => ⟨xs, xs[i], q, by simp [h]⟩, fun i H x H' _ q y => by
    obtain ⟨T, z, e, hT, rfl, f⟩ := y
    exact ⟨T, z, f xs q, e, hT, rfl⟩, fun H q => ⟨xs, q, Nat.le_refl _⟩⟩
/-- a comprehension's walk -/
theorem Wk.comp {J : It} {n : Nat} {A : Hp → Prop} {Y : Nat → Hp → V → Hp → Prop} {H0 : Hp} {Qd : Hp → Prop} {B : V → Hp → (Hp → Prop) → Prop} (k : Wk J n A Y) (Pv : Nat → Hp → Prop) (h0 : Pv 0 H0) (hA : ∀ i H, i ≤ n → Pv i H → A H)
    (hs : ∀ i x H H', i < n → Pv i H → Y i H x H' → B x H' (Pv (i + 1))) (hd : ∀ H, Pv n H → Qd H) :
    ∃ W : Nat → Nat → Hp → Prop, (∃ m, W 0 m H0) ∧ ∀ i m H, W i m H →
      (J.stop i H ∧ Qd H) ∨ (J.go i H ∧ ∃ Nx : Hp → Prop, (∀ H', Nx H' → ∃ m', m' < m ∧ W (i + 1) m' H') ∧ ∀ x H', J.yld i H x H' → B x H' Nx) := by
  refine ⟨fun i m H => m = n - i ∧ i ≤ n ∧ Pv i H, ⟨n, by simp, Nat.zero_le _, h0⟩, ?_⟩
  rintro i m H ⟨rfl, hi, p⟩
  have a := hA i H hi p
  by_cases hlt : i < n
  · exact .inr ⟨k.go i H hlt a, Pv (i + 1), fun H' p' => ⟨n - (i + 1), by omega, rfl, hlt, p'⟩, fun x H' y => hs i x H H' hlt p (k.yld i H x H' hlt a y)⟩
  · have e : i = n := by omega
    subst e
    exact .inl ⟨k.stop H a, hd H p⟩
/-- a loop's -/
theorem Wk.loop {J : It} {n : Nat} {A : Hp → Prop} {Y : Nat → Hp → V → Hp → Prop} {σ0 : L2.St} {H0 : Hp} {Qd : L2.St → Hp → Prop} {B : V → L2.St → Hp → (L2.St → Hp → Prop) → Prop} (k : Wk J n A Y) (Pv : Nat → L2.St → Hp → Prop) (h0 : Pv 0 σ0 H0) (hA : ∀ i σ H, i ≤ n → Pv i σ H → A H)
    (hs : ∀ i x σ H H', i < n → Pv i σ H → Y i H x H' → B x σ H' (Pv (i + 1))) (hd : ∀ σ H, Pv n σ H → Qd σ H) :
    ∃ W : Nat → Nat → L2.St → Hp → Prop, (∃ m, W 0 m σ0 H0) ∧ ∀ i m σ H, W i m σ H →
      (J.stop i H ∧ Qd σ H) ∨ (J.go i H ∧ ∃ Nx : L2.St → Hp → Prop, (∀ σ' H', Nx σ' H' → ∃ m', m' < m ∧ W (i + 1) m' σ' H') ∧ ∀ x H', J.yld i H x H' → B x σ H' Nx) := by
  refine ⟨fun i m σ H => m = n - i ∧ i ≤ n ∧ Pv i σ H, ⟨n, by simp, Nat.zero_le _, h0⟩, ?_⟩
  rintro i m σ H ⟨rfl, hi, p⟩
  have a := hA i σ H hi p
  by_cases hlt : i < n
  · exact .inr ⟨k.go i H hlt a, Pv (i + 1), fun σ' H' p' => ⟨n - (i + 1), by omega, rfl, hlt, p'⟩, fun x H' y => hs i x σ H H' hlt p (k.yld i H x H' hlt a y)⟩
  · have e : i = n := by omega
    subst e
    exact .inl ⟨k.stop H a, hd σ H p⟩
end K43
-- part W3
/-! W3: lists of numbers. -/
namespace K43
open PySem PySem.Spec PyProof.Rows L2
section
variable {P : Program} {w : World} {K : PySem.W.Frag} {mg : Str → Option Value} {base : Heap} {cS cF cG cT cM cK : Addr} {PT : Addr}
/-! ### _powers, _law_powers -/
def powN (a n : Nat) : List Nat := (List.range (n + 1)).map fun j => a ^ j
theorem powN_succ (a n : Nat) : powN a (n + 1) = powN a n ++ [a ^ (n + 1)] := by
  unfold powN
  rw [List.range_succ, List.map_append]
  rfl
theorem powN_last (a n : Nat) : ∃ l, powN a n = l ++ [a ^ n] := ⟨(List.range n).map fun j => a ^ j, by unfold powN; rw [List.range_succ, List.map_append]; rfl⟩
theorem powN_len (a n : Nat) : (powN a n).length = n + 1 := by
  unfold powN
  rw [List.length_map, List.length_range]
theorem powN_get {a n j : Nat} (h : j ≤ n) : (powN a n)[j]? = some (a ^ j) := by
  unfold powN
  rw [List.getElem?_map, List.getElem?_range (by omega)]
  rfl
theorem sc_pows : FnScope ["weight", "most", "found", "_"] ["weight", "most"] (defScope (topS 18)) := ⟨rfl, rfl, rfl, by decide +kernel, rfl, by decide +kernel, by decide +kernel⟩
theorem sc_lpows : FnScope ["_law_base", "_law_count", "_law_powers_here", "_law_step"] ["_law_base", "_law_count"] (defScope (topS 43)) := ⟨rfl, rfl, rfl, by decide +kernel, rfl, by decide +kernel, by decide +kernel⟩
def spPows (PT : Addr) (K : PySem.W.Frag) : Sp := fun vs H Q _ => ∃ (G : Hp) (a n : Nat), vs = [.int a, .int n] ∧ Cl PT G H ∧ a < 2 ^ 60 ∧ n ≤ 1000 ∧ Ret PT G H Q fun G' v => LN K G' v (powN a n)
theorem ok_pows (T : Txt K mg cS cF cG cT cM cK) : Cal P w K mg base "_powers" 1 ["weight", "most"] (spPows PT K) := by
  refine T.d_powers.ok sc_pows (fun vs H Q E h => ?_) (fun f cdv A outer s H vs Q E hr h => ?_)
  · obtain ⟨G, a, n, rfl, _⟩ := h
    rfl
  · obtain ⟨G, a, n, rfl, c, ha, hn, q⟩ := h
    refine ⟨_, (pss_cons (ps_s 2 sc_pows.nd (pe_lst (pa_cons pe_int pa_nil)))
  (pss_cons (ps_for PassesOwn.never rfl (pi_range1 rfl T.z_range (pa_cons (pv 1) pa_nil)) (pg_n 3 sc_pows.nd)
  (pss_one (ps_expr (pe_bm PySem.F.plainAttrs_list PySem.F.slot_list_append PySem.F.type_list_append mt_append (pv 2) (pa_cons (pe_op op_mul (pe_ix (ix_listK (K := K)) (pv 2) (pe_un un_neg pe_int) (fun _ _ => rfl)) (pv 0)) pa_nil)))))
  (pss_one (ps_ret (pv 2))))), ?_⟩
    refine ⟨leS (by show 1 ≤ 100000; decide), fun o ho => ?_⟩
    refine ⟨_, rfl, n, rfl, by omega, by omega, for_range (n := (n : Int).toNat) (fun i σ H' => ∃ y, σ = [some (.int a), some (.int n), some (.ref o), y] ∧ H' = upd H o (.lst ((powN a i).map vN))) ⟨none, rfl, rfl⟩ ?_ ?_⟩
    · rintro i σ H' hi ⟨y, rfl, rfl⟩
      obtain ⟨l, hl⟩ := powN_last a i
      refine ⟨_, rfl, .inl ⟨rfl, _, sq_ofL upd_same⟩, _, rfl, _, rfl, o, _, -1, vN (a ^ i), rfl, rfl, sq_ofL upd_same, ?_, _, rfl, _, _, rfl, rfl, .inr ⟨by omega, by omega⟩, o, _, _, rfl, rfl, upd_same, ?_, _, rfl, ?_⟩
      · rw [hl, vNs_snoc]
        exact atI_last _ _
      · rw [List.length_map, powN_len]
        exact ltS (by omega)
      · rw [upd_upd, powN_succ, vNs_snoc, show vN (a ^ (i + 1)) = V.int (((a ^ i : Nat) : Int) * (a : Int)) by rw [natmul, ← Nat.pow_succ]; rfl]
    · rintro σ H' ⟨y, rfl, rfl⟩
      rw [Int.toNat_natCast]
      exact ⟨_, rfl, q _ _ _ (Ext.new c ho) ⟨o, rfl, sq_ofL upd_same⟩⟩
theorem ok_lpows (T : Txt K mg cS cF cG cT cM cK) : Cal P w K mg base "_law_powers" 1 ["_law_base", "_law_count"] (spPows PT K) := by
  refine T.d_law_powers.ok sc_lpows (fun vs H Q E h => ?_) (fun f cdv A outer s H vs Q E hr h => ?_)
  · obtain ⟨G, a, n, rfl, _⟩ := h
    rfl
  · obtain ⟨G, a, n, rfl, c, ha, hn, q⟩ := h
    refine ⟨_, (pss_cons (ps_s 2 sc_lpows.nd (pe_lst (pa_cons pe_int pa_nil)))
  (pss_cons (ps_for PassesOwn.never rfl (pi_range1 rfl T.z_range (pa_cons (pv 1) pa_nil)) (pg_n 3 sc_lpows.nd)
  (pss_one (ps_expr (pe_bm PySem.F.plainAttrs_list PySem.F.slot_list_append PySem.F.type_list_append mt_append (pv 2) (pa_cons (pe_op op_mul (pe_ix (ix_listK (K := K)) (pv 2) (pe_un un_neg pe_int) (fun _ _ => rfl)) (pv 0)) pa_nil)))))
  (pss_one (ps_ret (pv 2))))), ?_⟩
    refine ⟨leS (by show 1 ≤ 100000; decide), fun o ho => ?_⟩
    refine ⟨_, rfl, n, rfl, by omega, by omega, for_range (n := (n : Int).toNat) (fun i σ H' => ∃ y, σ = [some (.int a), some (.int n), some (.ref o), y] ∧ H' = upd H o (.lst ((powN a i).map vN))) ⟨none, rfl, rfl⟩ ?_ ?_⟩
    · rintro i σ H' hi ⟨y, rfl, rfl⟩
      obtain ⟨l, hl⟩ := powN_last a i
      refine ⟨_, rfl, .inl ⟨rfl, _, sq_ofL upd_same⟩, _, rfl, _, rfl, o, _, -1, vN (a ^ i), rfl, rfl, sq_ofL upd_same, ?_, _, rfl, _, _, rfl, rfl, .inr ⟨by omega, by omega⟩, o, _, _, rfl, rfl, upd_same, ?_, _, rfl, ?_⟩
      · rw [hl, vNs_snoc]
        exact atI_last _ _
      · rw [List.length_map, powN_len]
        exact ltS (by omega)
      · rw [upd_upd, powN_succ, vNs_snoc, show vN (a ^ (i + 1)) = V.int (((a ^ i : Nat) : Int) * (a : Int)) by rw [natmul, ← Nat.pow_succ]; rfl]
    · rintro σ H' ⟨y, rfl, rfl⟩
      rw [Int.toNat_natCast]
      exact ⟨_, rfl, q _ _ _ (Ext.new c ho) ⟨o, rfl, sq_ofL upd_same⟩⟩

/-! ### _choices -/
def chV (t : Nat) : Nat → Nat
  | 0 => 1
  | i + 1 => chV t i * (t - i) / (i + 1)
def chN (t n : Nat) : List Nat := (List.range (n + 1)).map fun j => chV t j
theorem chN_succ (a n : Nat) : chN a (n + 1) = chN a n ++ [chV a (n + 1)] := by
  unfold chN
  rw [List.range_succ, List.map_append]
  rfl
theorem chN_last (a n : Nat) : ∃ l, chN a n = l ++ [chV a n] := ⟨(List.range n).map fun j => chV a j, by unfold chN; rw [List.range_succ, List.map_append]; rfl⟩
theorem chN_len (a n : Nat) : (chN a n).length = n + 1 := by
  unfold chN
  rw [List.length_map, List.length_range]
theorem chN_get {a n j : Nat} (h : j ≤ n) : (chN a n)[j]? = some (chV a j) := by
  unfold chN
  rw [List.getElem?_map, List.getElem?_range (by omega)]
  rfl
theorem chV_le : ∀ t < 11, ∀ i < 12, chV t i < 1000 := by decide +kernel
theorem sc_ch : FnScope ["total", "found", "k"] ["total"] (defScope (topS 19)) := ⟨rfl, rfl, rfl, by decide +kernel, rfl, by decide +kernel, by decide +kernel⟩
def spCh (PT : Addr) (K : PySem.W.Frag) : Sp := fun vs H Q _ => ∃ (G : Hp) (n : Nat), vs = [.int n] ∧ Cl PT G H ∧ n ≤ 10 ∧ Ret PT G H Q fun G' v => LN K G' v (chN n n)
theorem ok_ch (T : Txt K mg cS cF cG cT cM cK) : Cal P w K mg base "_choices" 1 ["total"] (spCh PT K) := by
  refine T.d_choices.ok sc_ch (fun vs H Q E h => ?_) (fun f cdv A outer s H vs Q E hr h => ?_)
  · obtain ⟨G, n, rfl, _⟩ := h
    rfl
  · obtain ⟨G, n, rfl, c, hn, q⟩ := h
    refine ⟨_, (pss_cons (ps_s 1 sc_ch.nd (pe_lst (pa_cons pe_int pa_nil)))
  (pss_cons (ps_for PassesOwn.never rfl (pi_range1 rfl T.z_range (pa_cons (pv 0) pa_nil)) (pg_n 2 sc_ch.nd)
  (pss_one (ps_expr (pe_bm PySem.F.plainAttrs_list PySem.F.slot_list_append PySem.F.type_list_append mt_append (pv 1) (pa_cons (pe_op op_fdivW (pe_op op_mul (pe_ix (ix_listK (K := K)) (pv 1) (pe_un un_neg pe_int) (fun _ _ => rfl)) (pe_op op_sub (pv 0) (pv 2))) (pe_op op_add (pv 2) pe_int)) pa_nil)))))
  (pss_one (ps_ret (pv 1))))), ?_⟩
    refine ⟨leS (by show 1 ≤ 100000; decide), fun o ho => ?_⟩
    refine ⟨_, rfl, n, rfl, by omega, by omega, for_range (n := (n : Int).toNat) (fun i σ H' => ∃ y, σ = [some (.int n), some (.ref o), y] ∧ H' = upd H o (.lst ((chN n i).map vN))) ⟨none, rfl, rfl⟩ ?_ ?_⟩
    · rintro i σ H' hi ⟨y, rfl, rfl⟩
      have hin : i < n := by omega
      obtain ⟨l, hl⟩ := chN_last n i
      have hb := chV_le n (by omega) i (by omega)
      refine ⟨_, rfl, .inl ⟨rfl, _, sq_ofL upd_same⟩, _, rfl, _, rfl, o, _, -1, vN (chV n i), rfl, rfl, sq_ofL upd_same, ?_, _, rfl, _, rfl, _, _, rfl, rfl, _, _, rfl, rfl, .inl ⟨by omega, by omega⟩, ?_⟩
      · rw [hl, vNs_snoc]
        exact atI_last _ _
      refine ⟨_, rfl, _, _, rfl, rfl, _, _, rfl, rfl, divI (by omega) (by omega), o, _, _, rfl, rfl, upd_same, ?_, _, rfl, ?_⟩
      · rw [List.length_map, chN_len]
        exact ltS (by omega)
      · have e : vN (chV n (i + 1)) = V.int (((chV n i : Nat) : Int) * ((n : Int) - (0 + (i : Int))) / ((0 + (i : Int)) + 1)) := by
          show V.int _ = V.int _
          congr 1
          rw [show (n : Int) - (0 + (i : Int)) = ((n - i : Nat) : Int) by omega, show (0 + (i : Int)) + 1 = ((i + 1 : Nat) : Int) by omega, natmul, natdiv]
          rfl
        rw [upd_upd, chN_succ, vNs_snoc, e]
    · rintro σ H' ⟨y, rfl, rfl⟩
      rw [Int.toNat_natCast]
      exact ⟨_, rfl, q _ _ _ (Ext.new c ho) ⟨o, rfl, sq_ofL upd_same⟩⟩

/-! ### _one_more -/
def oneM (cs : List Nat) (a : Nat) : List Nat := cs.take a ++ (cs.getD a 0 + 1) :: cs.drop (a + 1)
theorem sc_more : FnScope ["counts", "at"] ["counts", "at"] (defScope (topS 22)) := ⟨rfl, rfl, rfl, by decide +kernel, rfl, by decide +kernel, by decide +kernel⟩
def spMore (PT : Addr) (K : PySem.W.Frag) : Sp := fun vs H Q _ => ∃ (G : Hp) (v : V) (cs : List Nat) (a : Nat), vs = [v, .int a] ∧ Cl PT G H ∧ TN K G v cs ∧ a < cs.length ∧ cs.length ≤ 100 ∧ Ret PT G H Q fun G' v => TN K G' v (oneM cs a)
theorem ok_more (T : Txt K mg cS cF cG cT cM cK) : Cal P w K mg base "_one_more" 1 ["counts", "at"] (spMore PT K) := by
  refine T.d_one_more.ok sc_more (fun vs H Q E h => ?_) (fun f cdv A outer s H vs Q E hr h => ?_)
  · obtain ⟨G, v, cs, a, rfl, _⟩ := h
    rfl
  · obtain ⟨G, v, cs, a, rfl, c, ⟨p, rfl, hp0⟩, ha, hl, q⟩ := h
    have hp : SqT K G p (cs.map vN) := sq_ofT hp0
    have ga : cs[a]? = some (cs.getD a 0) := by
      rw [List.getD_eq_getElem?_getD, List.getElem?_eq_getElem ha]
      rfl
    refine ⟨_, (pss_one (ps_ret (pe_tup (pa_starK (K := K) (pe_slice (sl_tupK (K := K)) (pv 0) po_none (po_some (pv 1))) (pa_cons (pe_op op_add (pe_ix (ix_tupK (K := K)) (pv 0) (pv 1) (fun _ _ => rfl)) pe_int) (pa_starK (K := K) (pe_slice (sl_tupK (K := K)) (pv 0) (po_some (pe_op op_add (pv 1) pe_int)) po_none) pa_nil)))))), ?_⟩
    refine ⟨_, rfl, _, rfl, a, rfl, p, _, rfl, seqT c.s hp, ?_, fun o1 h1 => ⟨o1, _, rfl, .inl (sq_ofT upd_same), ?_⟩⟩
    · rw [HT.sIx_nat, List.length_map]
      omega
    have e1 : Ext PT nM G H G (upd H o1 (.tup (cutV (cs.map vN) none (some (a : Int))))) := Ext.loc c h1
    refine ⟨_, rfl, _, rfl, p, _, a, vN (cs.getD a 0), rfl, rfl, seqT e1.c.s hp, vNs_at rfl ga, _, _, rfl, rfl, ?_⟩
    refine ⟨_, rfl, _, rfl, _, _, rfl, rfl, ((a + 1 : Nat) : Int), rfl, p, _, rfl, seqT e1.c.s hp, ?_, fun o2 h2 => ⟨o2, _, rfl, .inl (sq_ofT upd_same), ?_⟩⟩
    · rw [HT.sIx_nat, List.length_map]
      omega
    have e2 := e1.trans (Ext.loc (M := nM) (o := .tup (cutV (cs.map vN) (some ((a + 1 : Nat) : Int)) none)) e1.c h2)
    refine ⟨?_, fun o3 h3 => q _ _ _ (e2.trans (Ext.new e2.c h3)) ⟨o3, rfl, ?_⟩⟩
    · simp only [List.length_append, List.length_cons, List.append_nil]
      have l1 := cutV_length (cs.map vN) none (some (a : Int))
      have l2 := cutV_length (cs.map vN) (some ((a + 1 : Nat) : Int)) none
      rw [List.length_map] at l1 l2
      exact leS (by omega)
    · rw [cutTo, cutFrom, List.append_nil]
      have e : (oneM cs a).map vN = (cs.map vN).take a ++ (vN (cs.getD a 0 + 1) :: (cs.map vN).drop (a + 1)) := by
        unfold oneM
        rw [List.map_append, List.map_cons, List.map_take, List.map_drop]
      rw [e]
      exact upd_same
end
end K43
-- part W4
/-! W4: _counts, _kinds. -/
namespace K43
open PySem PySem.Spec PyProof.Rows L2
theorem len_flat {α : Type} {g : Nat → List α} {B : Nat} (h : ∀ f, (g f).length ≤ B) : ∀ i, ((List.range i).flatMap g).length ≤ i * B
  | 0 => by simp
  | i + 1 => by
    rw [List.range_succ, List.flatMap_append, List.length_append]
    have := len_flat h i
    have h2 := h i
    simp only [List.flatMap_cons, List.flatMap_nil, List.append_nil]
    rw [Nat.succ_mul]
    omega
theorem flat_succ {α : Type} (g : Nat → List α) (i : Nat) : (List.range (i + 1)).flatMap g = (List.range i).flatMap g ++ g i := by
  rw [List.range_succ, List.flatMap_append]
  simp
theorem take_get {α : Type} {l : List α} {j : Nat} {x : α} (h : l[j]? = some x) : l.take (j + 1) = l.take j ++ [x] := by
  rw [List.take_add_one, h]
  rfl
section
variable {P : Program} {w : World} {K : PySem.W.Frag} {mg : Str → Option Value} {base : Heap} {cS cF cG cT cM cK : Addr} {PT : Addr}
/-! ### _counts -/
def countsM : Nat → Nat → List (List Nat)
  | 0, t => [[t]]
  | k + 1, t => (List.range (t + 1)).flatMap fun f => (countsM k (t - f)).map fun c => f :: c
theorem counts_len : ∀ {k t : Nat} {c : List Nat}, c ∈ countsM k t → c.length = k + 1
  | 0, t, c, h => by
    have e : c = [t] := List.mem_singleton.mp h
    rw [e]
    rfl
  | k + 1, t, c, h => by
    obtain ⟨f, _, hf⟩ := List.mem_flatMap.mp h
    obtain ⟨d, hd, rfl⟩ := List.mem_map.mp hf
    rw [List.length_cons, counts_len hd]
theorem sc_cts : FnScope ["kinds", "total", "first", "rest"] ["kinds", "total"] (defScope (topS 21)) := ⟨rfl, rfl, rfl, by decide +kernel, rfl, by decide +kernel, by decide +kernel⟩
def spCts (PT : Addr) (K : PySem.W.Frag) (k : Nat) : Sp := fun vs H Q _ => ∃ (G : Hp) (j t : Nat), vs = [.int ((j : Int) + 1), .int t] ∧ Cl PT G H ∧ j ≤ k ∧ t ≤ 10 ∧ Ret PT G H Q fun G' v => LR K (TN K) G' v (countsM j t)
theorem ok_cts0 (T : Txt K mg cS cF cG cT cM cK) : Cal P w K mg base "_counts" 1 ["kinds", "total"] (spCts PT K 0) := by
  refine T.d_counts.ok sc_cts (fun vs H Q E h => ?_) (fun f cdv A outer s H vs Q E hr h => ?_)
  · obtain ⟨G, j, t, rfl, _⟩ := h
    rfl
  · obtain ⟨G, j, t, rfl, c, hj, ht, q⟩ := h
    obtain rfl : j = 0 := by omega
    refine ⟨_, pss_cons (ps_if (pt_cmpR op_eq (pv 0) pe_int (nomark _)) (pss_one (ps_ret (pe_lst (pa_cons (pe_tup (pa_cons (pv 1) pa_nil)) pa_nil)))) pss_nil) (pss_one ps_never), ?_⟩
    refine ⟨_, rfl, rfl, _, rfl, ?_⟩
    rw [decide_eq_true (by rfl)]
    refine iteT ⟨_, rfl, leS (by show 1 ≤ 100000; decide), fun p hp => ⟨leS (by show 1 ≤ 100000; decide), fun o ho => ?_⟩⟩
    have e1 : Ext PT nM G H (upd G p (.tup [.int t])) (upd H p (.tup [.int t])) := Ext.new c hp
    refine q _ _ _ (e1.trans (Ext.new e1.c ho)) ⟨o, [.ref p], rfl, sq_ofL upd_same, .cons ⟨p, rfl, ?_⟩ .nil⟩
    exact same_upd (e1.c.free ho) p _ upd_same
theorem ok_cts1 {k l : Nat} (T : Txt K mg cS cF cG cT cM cK) (IH : Cal P w K mg base "_counts" l ["kinds", "total"] (spCts PT K k)) (hk : k ≤ 10) (hB : ∀ j ≤ k, ∀ t ≤ 10, (countsM j t).length ≤ 100) : Cal P w K mg base "_counts" (l + 1) ["kinds", "total"] (spCts PT K (k + 1)) := by
  refine T.d_counts.ok sc_cts (fun vs H Q E h => ?_) (fun f cdv A outer s H vs Q E hr h => ?_)
  · obtain ⟨G, j, t, rfl, _⟩ := h
    rfl
  · obtain ⟨G, j, t, rfl, c, hj, ht, q⟩ := h
    refine ⟨_, (pss_cons (ps_if (pt_cmpR op_eq (pv 0) pe_int (nomark _)) (pss_one (ps_ret (pe_lst (pa_cons (pe_tup (pa_cons (pv 1) pa_nil)) pa_nil)))) pss_nil)
  (pss_one (ps_ret (pe_lc2 (own := [("first", 2), ("rest", 3)]) (vs1 := [3]) rfl sc_cts.nd (pi_range1 rfl T.z_range (pa_cons (pe_op op_add (pv 1) pe_int) pa_nil)) (blkOk_by (own := [("first", 2), ("rest", 3)]) (N := ["kinds", "total", "first", "rest"]) (sc := defScope (topS 21)) (by decide +kernel)) (by decide) (fun _ _ _ _ _ => (pg_n 2 sc_cts.nd)) (fun _ _ _ _ _ => pts_nil) (fun _ _ _ _ _ => (pi_listK (K := K) (pe_c (IH) (hr.mono (by first | decide | omega)) (pa_cons (pe_op op_sub (pv 0) pe_int) (pa_cons (pe_op op_sub (pv 1) (pv 2)) pa_nil))))) (fun _ _ _ _ _ => (pg_n 3 sc_cts.nd)) (fun _ _ _ _ _ => pts_nil) (fun _ _ _ _ _ => (pe_tup (pa_cons (pv 2) (pa_starK (K := K) (pv 3) pa_nil)))))))), ?_⟩
    refine ⟨_, rfl, rfl, _, rfl, ite2 (fun h => ?_) (fun h => ?_)⟩
    · obtain rfl : j = 0 := by
        have := V.int.inj (of_decide_eq_true h)
        omega
      refine ⟨_, rfl, leS (by show 1 ≤ 100000; decide), fun p hp => ⟨leS (by show 1 ≤ 100000; decide), fun o ho => ?_⟩⟩
      have e1 : Ext PT nM G H (upd G p (.tup [.int t])) (upd H p (.tup [.int t])) := Ext.new c hp
      refine q _ _ _ (e1.trans (Ext.new e1.c ho)) ⟨o, [.ref p], rfl, sq_ofL upd_same, .cons ⟨p, rfl, ?_⟩ .nil⟩
      exact same_upd (e1.c.free ho) p _ upd_same
    · obtain ⟨j, rfl⟩ : ∃ i, j = i + 1 := by
        cases j with
        | zero => exact absurd (decide_eq_true rfl) h
        | succ i => exact ⟨i, rfl⟩
      refine ⟨_, rfl, _, _, rfl, rfl, _, rfl, by omega, by omega, fun D hD => ?_⟩
      have eD : Ext PT nM G H G (upd H D (.lst [])) := Ext.loc c hD
      have nP : D ≠ PT := c.ne hD
      refine wk_range.comp (n := ((t : Int) + 1).toNat) (fun i H' => ∃ us G', Ext PT nM G H G' H' ∧ G' D = none ∧ H' D = some (.lst us) ∧ Paired (TN K G') us ((List.range i).flatMap fun f => (countsM j (t - f)).map fun c => f :: c))
        ⟨[], G, eD, c.free hD, upd_same, .nil⟩ (fun _ _ _ _ => True.intro) ?_ ?_
      · rintro i x H1 H1' hi ⟨us, G1, e1, g1, d1, p1⟩ ⟨rfl, rfl⟩
        refine ⟨rfl, _, rfl, _, _, rfl, rfl, _, rfl, _, rfl, _, _, rfl, rfl, G1, j, t - i, ?_, e1.c, by omega, by omega, fun v G2 H2 e2 r2 => ?_⟩
        · show [V.int _, V.int _] = [V.int _, V.int _]
          rw [show ((j + 1 : Nat) : Int) + 1 - 1 = (j : Int) + 1 by omega, show (t : Int) - (0 + (i : Nat)) = ((t - i : Nat) : Int) by omega]
        obtain ⟨p, us2, rfl, hp, r2⟩ := r2
        have g2 := e2.none_g (by rw [d1]; simp) g1
        have d2 := e2.stay0 d1 nP
        have l1 := plen p1
        have l2 := plen r2
        have hB2 := hB j (by omega) (t - i) (by omega)
        have hB3 := len_flat (g := fun f => (countsM j (t - f)).map fun c => f :: c) (B := 100) (fun f => by rw [List.length_map]; exact hB j (by omega) _ (by omega)) i
        refine ⟨p, rfl, ⟨us2, seqL e2.c.s hp⟩, ?_⟩
        refine wk_list.comp (fun m H' => ∃ us G', Ext PT nM G H G' H' ∧ Same G2 G' ∧ G' D = none ∧ H' D = some (.lst us) ∧ Paired (TN K G') us (((List.range i).flatMap fun f => (countsM j (t - f)).map fun c => f :: c) ++ ((countsM j (t - i)).take m).map fun c => i :: c))
          ⟨us, G2, e1.trans e2, Same.refl _, g2, d2, by rw [List.take_zero, List.map_nil, List.append_nil]; exact pmap p1 fun a b z => TN.to e2.g z⟩
          (fun m H' _ ⟨us, G', e, sm, _⟩ => seqL e.c.s (seqL sm hp)) ?_ ?_
        · rintro m x H3 H3' hm ⟨us3, G3, e3, sm, g3, d3, p3⟩ ⟨rfl, hx⟩
          obtain ⟨cc, hc1, pp, rfl, hc2⟩ := pget r2 hx
          have hc2' : SqT K G3 pp (cc.map vN) := sq_ofT (sm _ _ hc2)
          refine ⟨rfl, _, rfl, _, rfl, pp, _, rfl, .inl (seqT e3.c.s hc2'), ?_, fun z hz => ?_⟩
          · have l0 := counts_len (List.mem_of_getElem? hc1)
            simp only [List.length_cons, List.length_append, List.length_map, l0, List.append_nil]
            exact leS (by omega)
          have nz : D ≠ z := ne_of_none d3 hz
          have e4 := e3.trans (Ext.new (M := nM) (o := .tup (V.int (0 + (i : Nat)) :: (cc.map vN ++ []))) e3.c hz)
          have l3 := plen p3
          refine ⟨us3, by rw [upd_ne nz]; exact d3, ?_, us3 ++ [.ref z], _, e4.mut (.inl hD) (by rw [upd_ne nz]; exact g3) nP, sm.trans (same_upd (e3.c.free hz)), by rw [upd_ne nz]; exact g3, upd_same, ?_⟩
          · rw [l3, List.length_append, List.length_map, List.length_take]
            exact ltS (by omega)
          · rw [take_get hc1, List.map_append, ← List.append_assoc]
            refine psnoc (pmap p3 fun a b z1 => TN.to (same_upd (e3.c.free hz)) z1) ⟨z, rfl, ?_⟩
            rw [List.append_nil] at *
            have : (i :: cc).map vN = V.int (0 + (i : Nat)) :: cc.map vN := by
              rw [List.map_cons, Int.zero_add]
              rfl
            rw [this]
            exact upd_same
        · rintro H3 ⟨us3, G3, e3, sm, g3, d3, p3⟩
          refine ⟨us3, G3, e3, g3, d3, ?_⟩
          rw [flat_succ]
          rw [l2, List.take_length] at p3
          exact p3
      · rintro H1 ⟨us, G1, e1, g1, d1, p1⟩
        refine q _ _ _ (e1.frz hD d1 nP) ⟨D, us, rfl, sq_ofL upd_same, ?_⟩
        rw [show ((t : Int) + 1).toNat = t + 1 by omega] at p1
        exact pmap p1 fun a b z => TN.to (same_upd g1) z
theorem cts_le : ∀ j < 3, ∀ t < 11, (countsM j t).length ≤ 100 := by decide +kernel
theorem ok_cts (T : Txt K mg cS cF cG cT cM cK) : Cal P w K mg base "_counts" 3 ["kinds", "total"] (spCts PT K 2) :=
  ok_cts1 T (ok_cts1 T (ok_cts0 T) (by decide) fun j hj t ht => cts_le j (by omega) t (by omega)) (by decide) fun j hj t ht => cts_le j (by omega) t (by omega)

/-! ### _kinds -/
def KiAt (K : PySem.W.Frag) (G : Hp) (v : V) (x : List Nat × Nat × Nat) : Prop := ∃ p q, v = .ref p ∧ SqT K G p [.ref q, vN x.2.1, vN x.2.2] ∧ G q = some (.tup (x.1.map vN))
theorem KiAt.to {G G1 : Hp} {v : V} {x : List Nat × Nat × Nat} (s : Same G G1) (h : KiAt K G v x) : KiAt K G1 v x := by
  obtain ⟨p, q, e, h1, h2⟩ := h
  exact ⟨p, q, e, seqT s h1, s _ _ h2⟩
def kindsM : List (List Nat) → Nat → List (List Nat × Nat × Nat)
  | [], _ => []
  | ps :: rest, t => if rest = [] then [([t], 1, ps.getD t 0)] else
    (List.range (t + 1)).flatMap fun f => (kindsM rest (t - f)).map fun x => (f :: x.1, chV t f * x.2.1, ps.getD f 0 * x.2.2)
theorem kinds_len : ∀ {pss : List (List Nat)} {t : Nat} {x : List Nat × Nat × Nat}, x ∈ kindsM pss t → x.1.length = pss.length
  | [], t, x, h => by cases h
  | ps :: rest, t, x, h => by
    unfold kindsM at h
    by_cases e : rest = []
    · rw [if_pos e] at h
      rw [List.mem_singleton.mp h, e]
      rfl
    · rw [if_neg e] at h
      obtain ⟨f, _, hf⟩ := List.mem_flatMap.mp h
      obtain ⟨d, hd, rfl⟩ := List.mem_map.mp hf
      show (f :: d.1).length = _
      rw [List.length_cons, List.length_cons, kinds_len hd]
theorem kinds_size : ∀ {pss : List (List Nat)} {t : Nat}, (kindsM pss t).length ≤ 11 ^ pss.length ∨ 10 < t
  | [], t => .inl (by unfold kindsM; simp)
  | ps :: rest, t => by
    by_cases ht : 10 < t
    · exact .inr ht
    · left
      unfold kindsM
      by_cases e : rest = []
      · rw [if_pos e]
        show 1 ≤ 11 ^ (ps :: rest).length
        exact Nat.one_le_pow _ _ (by decide)
      · rw [if_neg e]
        have h := len_flat (g := fun f => (kindsM rest (t - f)).map fun x => (f :: x.1, chV t f * x.2.1, ps.getD f 0 * x.2.2)) (B := 11 ^ rest.length) (fun f => by
          rw [List.length_map]
          exact (kinds_size (pss := rest) (t := t - f)).resolve_right (by omega)) (t + 1)
        refine Nat.le_trans h ?_
        rw [List.length_cons, Nat.pow_succ, Nat.mul_comm]
        exact Nat.mul_le_mul_left _ (by omega)
def rowsOk (t : Nat) (pss : List (List Nat)) : Prop := ∀ ps ∈ pss, t < ps.length ∧ ∀ x ∈ ps, x < 2 ^ 60
theorem sc_kis : FnScope ["powers", "total", "choices", "found", "first", "counts", "texts", "product"] ["powers", "total"] (defScope (topS 20)) := ⟨rfl, rfl, rfl, by decide +kernel, rfl, by decide +kernel, by decide +kernel⟩
def spKis (PT : Addr) (K : PySem.W.Frag) (k : Nat) : Sp := fun vs H Q _ => ∃ (G : Hp) (v : V) (pss : List (List Nat)) (t : Nat), vs = [v, .int t] ∧ Cl PT G H ∧ LR K (LN K) G v pss ∧ 1 ≤ pss.length ∧ pss.length ≤ k ∧ t ≤ 10 ∧ rowsOk t pss ∧ Ret PT G H Q fun G' v => LR K (KiAt K) G' v (kindsM pss t)
theorem ok_kis1 {k l : Nat} (T : Txt K mg cS cF cG cT cM cK) (IH : Cal P w K mg base "_kinds" l ["powers", "total"] (spKis PT K k)) (hl1 : 1 ≤ l) (hk : k ≤ 2) : Cal P w K mg base "_kinds" (l + 1) ["powers", "total"] (spKis PT K (k + 1)) := by
  refine T.d_kinds.ok sc_kis (fun vs H Q E h => ?_) (fun f cdv A outer s H vs Q E hr h => ?_)
  · obtain ⟨G, v, pss, t, rfl, _⟩ := h
    rfl
  · obtain ⟨G, v, pss, t, rfl, c, ⟨p, us, rfl, hp, hu⟩, h1, h2, ht, hrow, q⟩ := h
    refine ⟨_, (pss_cons (ps_if (pt_cmpR op_eq (pe_callB (call_len_seqK (K := K)) (by rfl) T.z_len (by decide +kernel) (pa_cons (pv 0) pa_nil)) pe_int (nomark _)) (pss_one (ps_ret (pe_lst (pa_cons (pe_tup (pa_cons (pe_tup (pa_cons (pv 1) pa_nil)) (pa_cons pe_int (pa_cons (pe_ix (ix_listK (K := K)) (pe_ix (ix_listK (K := K)) (pv 0) pe_int (fun _ _ => rfl)) (pv 1) (fun _ _ => rfl)) pa_nil)))) pa_nil)))) pss_nil)
  (pss_cons (ps_s 2 sc_kis.nd (pe_c (ok_ch (PT := PT) T) (hr.mono (by first | decide | omega)) (pa_cons (pv 1) pa_nil)))
  (pss_cons (ps_s 3 sc_kis.nd (pe_lst pa_nil))
  (pss_cons (ps_for PassesOwn.never rfl (pi_range1 rfl T.z_range (pa_cons (pe_op op_add (pv 1) pe_int) pa_nil)) (pg_n 4 sc_kis.nd)
  (pss_one (ps_for PassesOwn.never rfl (pi_listK (K := K) (pe_c (IH) (hr.mono (by first | decide | omega)) (pa_cons (pe_slice (sl_listK (K := K)) (pv 0) (po_some pe_int) po_none) (pa_cons (pe_op op_sub (pv 1) (pv 4)) pa_nil)))) (pg_tupK (K := K) (pgs_cons (pg_n 5 sc_kis.nd) (pgs_cons (pg_n 6 sc_kis.nd) (pgs_cons (pg_n 7 sc_kis.nd) pgs_nil))))
  (pss_one (ps_expr (pe_bm PySem.F.plainAttrs_list PySem.F.slot_list_append PySem.F.type_list_append mt_append (pv 3) (pa_cons (pe_tup (pa_cons (pe_tup (pa_cons (pv 4) (pa_starK (K := K) (pv 5) pa_nil))) (pa_cons (pe_op op_mul (pe_ix (ix_listK (K := K)) (pv 2) (pv 4) (fun _ _ => rfl)) (pv 6)) (pa_cons (pe_op op_mul (pe_ix (ix_listK (K := K)) (pe_ix (ix_listK (K := K)) (pv 0) pe_int (fun _ _ => rfl)) (pv 4) (fun _ _ => rfl)) (pv 7)) pa_nil)))) pa_nil)))))))
  (pss_one (ps_ret (pv 3))))))), ?_⟩
    obtain ⟨ps, rest, rfl⟩ : ∃ ps rest, pss = ps :: rest := by
      cases pss with
      | nil => simp at h1
      | cons a b => exact ⟨a, b, rfl⟩
    obtain ⟨u, us', rfl⟩ : ∃ u us', us = u :: us' := by
      cases hu with
      | cons a b => exact ⟨_, _, rfl⟩
    cases hu with
    | cons hu0 hur =>
    have hlen := plen hur
    obtain ⟨pu, rfl, hpu⟩ := id hu0
    obtain ⟨hps, hps2⟩ := hrow ps (List.mem_cons_self ..)
    have getp : ∀ f : Nat, f ≤ t → ps[f]? = some (ps.getD f 0) ∧ ps.getD f 0 < 2 ^ 60 := fun f hf => by
      have h3 : f < ps.length := by omega
      have e : ps[f]? = some (ps.getD f 0) := by
        rw [List.getD_eq_getElem?_getD, List.getElem?_eq_getElem h3]
        rfl
      exact ⟨e, hps2 _ (List.mem_of_getElem? e)⟩
    refine ⟨_, rfl, p, _, rfl, .inl (seqL c.s hp), rfl, _, rfl, ite2 (fun h => ?_) (fun h => ?_)⟩
    · have e0 : rest = [] := by
        have := V.int.inj (of_decide_eq_true h)
        rw [List.length_cons] at this
        exact List.eq_nil_of_length_eq_zero (by omega)
      refine ⟨_, rfl, leS (by show 1 ≤ 100000; decide), fun o1 h1 => ?_⟩
      have e1 : Ext PT nM G H (upd G o1 (.tup [.int t])) (upd H o1 (.tup [.int t])) := Ext.new c h1
      refine ⟨_, rfl, p, _, 0, .ref pu, rfl, rfl, seqL e1.c.s (seqL e1.g hp), atI_nat (j := 0) rfl, _, rfl, pu, _, t, vN (ps.getD t 0), rfl, rfl, seqL e1.c.s (seqL e1.g hpu), vNs_at rfl (getp t (Nat.le_refl _)).1, ?_⟩
      refine ⟨leS (by show 3 ≤ 100000; decide), fun o2 h2 => ?_⟩
      have e2 := e1.trans (Ext.new (M := nM) (o := .tup [.ref o1, .int 1, vN (ps.getD t 0)]) e1.c h2)
      refine ⟨leS (by show 1 ≤ 100000; decide), fun o3 h3 => q _ _ _ (e2.trans (Ext.new e2.c h3)) ⟨o3, [.ref o2], rfl, sq_ofL upd_same, ?_⟩⟩
      unfold kindsM
      rw [if_pos e0]
      refine .cons ⟨o2, o1, rfl, ?_, ?_⟩ .nil
      · exact sq_ofT (same_upd (e2.c.free h3) _ _ upd_same)
      · exact same_upd (e2.c.free h3) _ _ (same_upd (e1.c.free h2) _ _ upd_same)
    · have e0 : rest ≠ [] := fun z => h (by rw [z] at hlen; cases us' with
        | nil => rfl
        | cons a b => simp at hlen)
      have hrl : 1 ≤ rest.length := by
        cases rest with
        | nil => exact absurd rfl e0
        | cons a b => simp
      refine ⟨_, rfl, G, t, rfl, c, ht, fun vc G1 H1 e1 r1 => ?_⟩
      obtain ⟨pc, rfl, hpc⟩ := r1
      refine ⟨Nat.zero_le _, fun o ho => ?_⟩
      have eo : Ext PT nM G H G1 (upd H1 o (.lst [])) := e1.trans (Ext.loc e1.c ho)
      have nP : o ≠ PT := e1.c.ne ho
      have oH : H o = none := by
        cases z : H o with
        | none => rfl
        | some u => exact absurd ho (e1.d o (by rw [z]; simp))
      refine ⟨_, rfl, _, _, rfl, rfl, _, rfl, by omega, by omega, ?_⟩
      refine wk_range.loop (n := ((t : Int) + 1).toNat) (fun i σ H' => ∃ y4 y5 y6 y7 us G', σ = [some (.ref p), some (.int t), some (.ref pc), some (.ref o), y4, y5, y6, y7] ∧ Ext PT nM G H G' H' ∧ Same G1 G' ∧ G' o = none ∧ H' o = some (.lst us) ∧
          Paired (KiAt K G') us ((List.range i).flatMap fun f => (kindsM rest (t - f)).map fun x => (f :: x.1, chV t f * x.2.1, ps.getD f 0 * x.2.2)))
        ⟨none, none, none, none, [], G1, rfl, eo, Same.refl _, e1.c.free ho, upd_same, .nil⟩ (fun _ _ _ _ _ => True.intro) ?_ ?_
      · rintro i x σ H2 H2' hi ⟨y4, y5, y6, y7, us, G2, rfl, e2, s2, g2, d2, p2⟩ ⟨rfl, rfl⟩
        refine ⟨_, rfl, 1, rfl, p, _, rfl, seqL e2.c.s (seqL e2.g hp), fun o1 h1 => ?_⟩
        rw [show cutV (V.ref pu :: us') (some 1) none = us' from cutFrom (.ref pu :: us') 1]
        have e3 := e2.trans (Ext.new (M := nM) (o := .lst us') e2.c h1)
        have n1 : o ≠ o1 := ne_of_none d2 h1
        refine ⟨_, rfl, _, rfl, _, _, rfl, rfl, _, .ref o1, rest, t - i, ?_, e3.c, ⟨o1, us', rfl, sq_ofL upd_same, pmap hur fun a b z => LN.to (e3.g) z⟩, hrl, ?_, by omega, fun ps' hps' => ?_, fun v4 G4 H4 e4 r4 => ?_⟩
        · show [V.ref o1, V.int _] = [V.ref o1, V.int _]
          rw [show (t : Int) - (0 + (i : Nat)) = ((t - i : Nat) : Int) by omega]
        · simp only [List.length_cons] at h2
          omega
        · have := hrow ps' (List.mem_cons_of_mem _ hps')
          exact ⟨by omega, this.2⟩
        obtain ⟨p4, us4, rfl, hp4, r4⟩ := r4
        have g4 := e4.none_g (by rw [upd_ne n1, d2]; simp) (show upd G2 o1 (.lst us') o = none by rw [upd_ne n1]; exact g2)
        have d4 : H4 o = some (.lst us) := e4.stay0 (by rw [upd_ne n1]; exact d2) nP
        have e5 := e3.trans e4
        have s4 : Same G1 G4 := s2.trans ((same_upd (e2.c.free h1)).trans e4.g)
        have s24 : Same G2 G4 := (same_upd (e2.c.free h1)).trans e4.g
        have l2 := plen p2
        have l4 := plen r4
        have hB := len_flat (g := fun f => (kindsM rest (t - f)).map fun x => (f :: x.1, chV t f * x.2.1, ps.getD f 0 * x.2.2)) (B := 121) (fun f => by
          rw [List.length_map]
          refine Nat.le_trans ((kinds_size (pss := rest) (t := t - f)).resolve_right (by omega)) ?_
          simp only [List.length_cons] at h2
          exact Nat.pow_le_pow_right (by decide) (show rest.length ≤ 2 by omega)) i
        have hB2 : (kindsM rest (t - i)).length ≤ 121 := by
          refine Nat.le_trans ((kinds_size (pss := rest) (t := t - i)).resolve_right (by omega)) ?_
          simp only [List.length_cons] at h2
          exact Nat.pow_le_pow_right (by decide) (show rest.length ≤ 2 by omega)
        refine ⟨p4, rfl, ⟨us4, seqL e4.c.s hp4⟩, ?_⟩
        refine wk_list.loop (fun m σ H' => ∃ y5 y6 y7 us G', σ = [some (.ref p), some (.int t), some (.ref pc), some (.ref o), some (.int (0 + (i : Nat))), y5, y6, y7] ∧ Ext PT nM G H G' H' ∧ Same G4 G' ∧ G' o = none ∧ H' o = some (.lst us) ∧
            Paired (KiAt K G') us (((List.range i).flatMap fun f => (kindsM rest (t - f)).map fun x => (f :: x.1, chV t f * x.2.1, ps.getD f 0 * x.2.2)) ++ ((kindsM rest (t - i)).take m).map fun x => (i :: x.1, chV t i * x.2.1, ps.getD i 0 * x.2.2)))
          ⟨y5, y6, y7, us, G4, rfl, e5, Same.refl _, g4, d4, by rw [List.take_zero, List.map_nil, List.append_nil]; exact pmap p2 fun a b z => KiAt.to s24 z⟩
          (fun m σ H' _ ⟨_, _, _, us, G', _, e, sm, _⟩ => seqL e.c.s (seqL sm hp4)) ?_ ?_
        · rintro m x σ H5 H5' hm ⟨y5, y6, y7, us5, G5, rfl, e6, s5, g5, d5, p5⟩ ⟨rfl, hx⟩
          obtain ⟨⟨cc, n, pr⟩, hc1, pp, qq, rfl, hc2, hc3⟩ := pget r4 hx
          have hc2' := seqT e6.c.s (seqT s5 hc2)
          have hc3' : SqT K H5' qq (cc.map vN) := sq_ofT (e6.c.s _ _ (s5 _ _ hc3))
          have hit : i ≤ t := by omega
          refine ⟨pp, _, rfl, hc2', rfl, _, _, rfl, _, _, rfl, _, _, rfl, rfl, ?_⟩
          refine ⟨_, rfl, .inl ⟨rfl, _, sq_ofL d5⟩, ?_⟩
          refine ⟨_, rfl, _, rfl, qq, _, rfl, .inl hc3', ?_, fun o6 h6 => ?_⟩
          · have l0 := kinds_len (List.mem_of_getElem? hc1)
            simp only [List.length_cons, List.length_append, List.length_map, List.append_nil]
            simp only [List.length_cons] at h2
            have : cc.length = rest.length := l0
            exact leS (by omega)
          have n6 : o ≠ o6 := ne_of_none d5 h6
          have e7 := e6.trans (Ext.new (M := nM) (o := .tup (V.int (0 + (i : Nat)) :: (cc.map vN ++ []))) e6.c h6)
          have sq : Same G1 G5 := s4.trans s5
          refine ⟨_, rfl, _, rfl, pc, _, _, vN (chV t i), rfl, rfl, seqL e7.c.s (seqL (same_upd (e6.c.free h6)) (seqL sq hpc)), vNs_at (by omega) (chN_get hit), _, rfl, _, _, rfl, rfl, .inl ⟨by omega, by have := chV_le t (by omega) i (by omega); omega⟩, ?_⟩
          refine ⟨_, rfl, p, _, 0, .ref pu, rfl, rfl, seqL e7.c.s (seqL e7.g hp), atI_nat (j := 0) rfl, _, rfl, pu, _, _, vN (ps.getD i 0), rfl, rfl, seqL e7.c.s (seqL e7.g hpu), vNs_at (by omega) (getp i hit).1, _, rfl, _, _, rfl, rfl, .inl ⟨by omega, by have := (getp i hit).2; omega⟩, ?_⟩
          refine ⟨leS (by show 3 ≤ 100000; decide), fun o7 h7 => ?_⟩
          have n7 : o ≠ o7 := ne_of_none (show upd H5' o6 _ o = _ by rw [upd_ne n6]; exact d5) h7
          have e8 := e7.trans (Ext.new (M := nM) (o := .tup [.ref o6, .int ((chV t i : Nat) * (n : Int)), .int (((ps.getD i 0 : Nat) : Int) * (pr : Int))]) e7.c h7)
          have d8 : upd (upd H5' o6 (.tup (V.int (0 + (i : Nat)) :: (cc.map vN ++ [])))) o7 (.tup [.ref o6, .int ((chV t i : Nat) * (n : Int)), .int (((ps.getD i 0 : Nat) : Int) * (pr : Int))]) o = some (.lst us5) := by rw [upd_ne n7, upd_ne n6]; exact d5
          have l5 := plen p5
          refine ⟨o, _, _, rfl, rfl, d8, ?_, _, _, _, us5 ++ [.ref o7], _, rfl, e8.mut (.inl oH) (by rw [upd_ne n7, upd_ne n6]; exact g5) nP, s5.trans ((same_upd (e6.c.free h6)).trans (same_upd (e7.c.free h7))), by rw [upd_ne n7, upd_ne n6]; exact g5, upd_same, ?_⟩
          · rw [l5, List.length_append, List.length_map, List.length_take]
            have : i * 121 ≤ 10 * 121 := Nat.mul_le_mul_right _ (by omega)
            exact ltS (by omega)
          · rw [take_get hc1, List.map_append, ← List.append_assoc]
            refine psnoc (pmap p5 fun a b z1 => KiAt.to ((same_upd (e6.c.free h6)).trans (same_upd (e7.c.free h7))) z1) ⟨o7, o6, rfl, ?_, ?_⟩
            · rw [natmul, natmul]
              exact sq_ofT upd_same
            · have : (i :: cc).map vN = V.int (0 + (i : Nat)) :: (cc.map vN ++ []) := by
                rw [List.map_cons, Int.zero_add, List.append_nil]
                rfl
              show _ = some (HO.tup ((i :: cc).map vN))
              rw [this]
              exact same_upd (e7.c.free h7) _ _ upd_same
        · rintro σ H5 ⟨y5, y6, y7, us5, G5, rfl, e6, s5, g5, d5, p5⟩
          refine ⟨_, y5, y6, y7, us5, G5, rfl, e6, s4.trans s5, g5, d5, ?_⟩
          rw [flat_succ]
          rw [l4, List.take_length] at p5
          exact p5
      · rintro σ H2 ⟨y4, y5, y6, y7, us, G2, rfl, e2, s2, g2, d2, p2⟩
        refine ⟨_, rfl, q _ _ _ (e2.frz oH d2 nP) ⟨o, us, rfl, sq_ofL upd_same, ?_⟩⟩
        rw [show ((t : Int) + 1).toNat = t + 1 by omega] at p2
        unfold kindsM
        rw [if_neg e0]
        exact pmap p2 fun a b z => KiAt.to (same_upd g2) z
theorem ok_kis0 (T : Txt K mg cS cF cG cT cM cK) : Cal P w K mg base "_kinds" 1 ["powers", "total"] (spKis PT K 0) := by
  refine T.d_kinds.ok sc_kis (fun vs H Q E h => ?_) (fun f cdv A outer s H vs Q E hr h => ?_)
  · obtain ⟨G, v, pss, t, rfl, _⟩ := h
    rfl
  · obtain ⟨G, v, pss, t, rfl, c, _, h1, h2, _⟩ := h
    omega
theorem ok_kis (T : Txt K mg cS cF cG cT cM cK) : Cal P w K mg base "_kinds" 4 ["powers", "total"] (spKis PT K 3) :=
  ok_kis1 T (ok_kis1 T (ok_kis1 T (ok_kis0 T) (by decide) (by decide)) (by decide) (by decide)) (by decide) (by decide)
end
end K43
-- part R1
/-! R1: rules of our own: sums of a tuple and of a dict's values, a copy of a dict with tuple keys, methods of texts, list(reversed(..)). -/
namespace K43
open PySem PySem.Spec PyProof.Rows L2
section
variable {X : Cx}
/-- x += y of texts, x *= y -/
def ipSS : TIp := fun x y H Q => ∃ i j, x = .str i ∧ y = .str j ∧ i.length + j.length ≤ sizeLine ∧ Q (.str (i ++ j)) H
theorem ip_addS : PIp X .Add ipSS := fun pins s σ H x y u v Q I rx ry h => iop_add_str pins s σ H x y u v Q I rx ry h
def ipMM : TIp := rI CMul fun i j => .int (i * j)
theorem ip_mul : PIp X .Mult ipMM := fun pins s σ H x y u v Q I rx ry h => iop_mul pins s σ H x y u v Q I rx ry h

/-! ### methods of texts and lists -/
variable {o e : Expr} {to te : TE} {apos pos p : Pos} {K : PySem.W.Frag}
def rCount : V → List V → Hp → VK → Prop := fun x xs H Q => ∃ a b, x = .str a ∧ xs = [.str b] ∧ Q (.int (Txt.count a b)) H
theorem pe_strcount (ho : PE X o to) (he : PE X e te) (hs : starEach [e] X.env = [(false, eval e X.env)] := by rfl) (hbase : attributeBase o "count" X.env (eval o X.env) = eval o X.env := by rfl) (hline : (apos.endLine == pos.line) = true := by rfl) :
    PE X (.Call (.Attribute o "count" apos) [e] [] pos) (tM1 rCount to te) := pe_m1 PySem.F.slot_str_count PySem.F.type_str_count mt_count ho he hs hbase hline
def rIdxS : V → List V → Hp → VK → Prop := fun x xs H Q => ∃ (a b : Str) (k : Nat), x = .str a ∧ xs = [.str b] ∧ Txt.index0 a b = some k ∧ Q (.int k) H
theorem mt_idxS : MtR X "str.index" rIdxS := by
  intro pins s σ H x xs v us Q I rx rs h
  obtain ⟨a, b, k, rfl, rfl, hk, q⟩ := h
  obtain ⟨t, rfl⟩ := rx
  cases rs with
  | cons r1 rs =>
    cases rs
    obtain ⟨u, rfl⟩ := r1
    unfold Txt.index0 at hk
    cases z : Builtin.Str.occurrences a b 0 a.length 1 with
    | nil =>
      rw [z] at hk
      cases hk
    | cons j rest =>
      rw [z] at hk
      have e : j = k := Option.some.inj hk
      subst e
      exact PySem.SC.index z ⟨.int (j : Nat), H, I.tok _, ⟨_, rfl⟩, q⟩
theorem pe_strindex (ho : PE X o to) (he : PE X e te) (hs : starEach [e] X.env = [(false, eval e X.env)] := by rfl) (hbase : attributeBase o "index" X.env (eval o X.env) = eval o X.env := by rfl) (hline : (apos.endLine == pos.line) = true := by rfl) :
    PE X (.Call (.Attribute o "index" apos) [e] [] pos) (tM1 rIdxS to te) := pe_m1 PySem.F.slot_str_index PySem.F.type_str_index mt_idxS ho he hs hbase hline

/-! ### sum(t) of a tuple -/
theorem sum_tup {prog : Program} {w : World} {A : Around} {E : Value → Shared → Prop} {s : Shared} {t : Addr} {its : List Value} {ns : List Int} {Q : Value → Shared → Prop} (hh : A.handled = none) (ht : s.heap.IsTuple t its.toArray) (hi : IntsAre its ns)
    (h : ∀ h' tk t', (∀ b o, s.heap.get? b = some o → h'.get? b = some o) → Q (.int ns.sum t') { s with heap := h', toks := tk }) : wpAny (model prog w) A (call (.builtin "sum") [.ref t]) Q E s := by
  obtain ⟨xs, e⟩ := hi.allInts.items
  have hn : numsOf (intItems xs).toList = ns := by rw [← e]; exact hi.numsOf
  rw [nums_intItems] at hn
  rw [e] at ht
  obtain ⟨ot, hot, _⟩ := id ht
  have hlt : t < s.heap.objs.size := Heap.lt_size hot
  have hp : ∀ b o, s.heap.get? b = some o → (s.heap.push { cls := .type "tuple_iterator", data := .fields #[.ref t, .int 0 0] }).get? b = some o := fun b o e => Heap.get?_push_of_some _ e
  refine call_sum_walkG (wpAny_pyIter_tuple ht ?_)
  refine ⟨_, _, _, _, _, _, numAt xs, rfl, Walks.tuple (A := A.in1) hh s.heap.objs.size t (Nat.ne_of_lt hlt) (intItems xs), ⟨⟨_, Heap.get?_push_size _ rfl, rfl, rfl⟩, ?_⟩, fun b hb => ?_, fun _ _ => intItems_at, fun h' tk t' hk => ?_⟩
  · obtain ⟨o, ho, r⟩ := ht
    exact ⟨o, hp _ _ ho, r⟩
  · show b < (s.heap.push _).objs.size
    rw [Heap.size_push]
    rcases List.mem_cons.mp hb with z | z
    · rw [z]
      exact Nat.lt_succ_self _
    · rw [List.mem_singleton.mp z]
      exact Nat.lt_succ_of_lt hlt
  · have q := h h' tk t' fun b o e => hk b o (fun z => absurd (Heap.lt_size e) (by rw [List.mem_singleton.mp z]; exact Nat.lt_irrefl _)) (hp b o e)
    have es : preSum (numAt xs) (intItems xs).size = ns.sum := by
      rw [preSum_eq, ← hn, List.take_of_length_le (by simp [intItems])]
    rw [es]
    exact q
def rSumT (K : PySem.W.Frag) : List V → Hp → VK → Prop := fun vs H Q => ∃ (a : Addr) (ns : List Int), vs = [V.ref a] ∧ SqT K H a (ns.map V.int) ∧ Q (.int ns.sum) H
theorem cr_sumT (hc : X.calm = true) (hk : X.K = K := by rfl) : CallR X (.builtin "sum") (rSumT K) := by
  subst hk
  intro pins s σ H vs us Q I r h
  obtain ⟨a, ns, rfl, hs, q⟩ := h
  obtain ⟨its, rv, hl, _⟩ := I.tuple hs
  rw [Vals.ref1 r]
  exact sum_tup (I.ok.hd hc) hl rv.ints fun h' tk t' hk => ⟨.int _, H, I.kept hk, ⟨_, rfl⟩, q⟩

/-! ### sum(d.values()) -/
def tSumV (td : TE) : TE := fun σ H Q => td σ H fun x H1 => ∃ (a : Addr) (kvs : List (Key × V)) (is : List Int), x = V.ref a ∧ H1 a = some (.dK kvs) ∧ kvs.map (·.2) = is.map V.int ∧ Q (.int is.sum) H1
theorem preSum_getD (is : List Int) : ∀ n, n ≤ is.length → preSum (fun i => is.getD i 0) n = (is.take n).sum
  | 0, _ => by simp [preSum]
  | n + 1, h => by
    have ih := preSum_getD is n (by omega)
    have e : is[n]? = some (is.getD n 0) := by
      rw [List.getD_eq_getElem?_getD, List.getElem?_eq_getElem (by omega)]
      rfl
    rw [sum_take e, ← ih]
    rfl
theorem pe_sumVals {td : TE} {mpos : Pos} (hg : Gl X "sum") (hm : X.mg "sum" = none) (hd : PE X o td) (hc : X.calm = true := by rfl) (hbase : attributeBase o "values" X.env (eval o X.env) = eval o X.env := by rfl) (hline : (apos.endLine == mpos.line) = true := by rfl)
    (hse : starEach [Expr.Call (.Attribute o "values" apos) [] [] mpos] X.env = [(false, eval (Expr.Call (.Attribute o "values" apos) [] [] mpos) X.env)] := by rfl) :
    PE X (.Call (.Name "sum" p) [.Call (.Attribute o "values" apos) [] [] mpos] [] pos) (tSumV td) := by
  refine ⟨fun pins s σ H Q I h => ?_⟩
  refine wpAny_Call_Name_kw (ld_blt I hg hm (u := .builtin "sum") (by decide +kernel) ?_ (by decide +kernel) (by decide +kernel))
  rw [hse]
  refine PySem.callWith_builtin1 (wpAny_Call_method0_late hbase hline (thn (hd.run pins s σ H _ I h) fun v s1 ⟨x, H1, I1, r1, a, kvs, is, ex, ha, hv, q⟩ => ?_))
  subst ex
  cases r1
  obtain ⟨_, hsys, vs, rel, dof⟩ := dk_of I1.hok ha
  obtain ⟨ep, dat⟩ := dof.dictAt
  obtain ⟨ob, es, ho, exd, _, _, _, _⟩ := id dat
  refine ⟨"dict", "dict.values", PySem.F.plainAttrs_dict, PySem.F.slot_dict_values, PySem.F.type_dict_values, ⟨ob, ho, exd.1⟩, fun b e => ?_, Calls.callWith_builtin rfl (PySem.evalArgs_none ?_)⟩
  · cases e
    exact ⟨ob, ho, exd.2.1⟩
  refine call_meetsIn PySem.F.slot_dict_values ⟨ob, ho, exd.1⟩ PySem.F.entry_dict_values (PySem.F.args_dict_values_1 _) (meets_dict_values (mixKind X.prog X.w) a hsys) ⟨⟨vs, dof⟩, ?_⟩
  generalize hvw : ({ cls := .type "dict_values", data := .fields #[.ref a] } : Obj) = vw
  have k1 : ∀ b u, s1.heap.get? b = some u → (s1.heap.push vw).get? b = some u := fun b u e => Heap.get?_push_of_some _ e
  have dat1 := dat.keep k1
  have hlv : vs.length = is.length := by
    have e1 := congrArg List.length hv
    simp only [List.length_map] at e1
    rw [← e1]
    exact (KV.length rel).symm
  have hval : ∀ (i : Nat) (v : Value), (∃ k, vs[i]? = some (k, v)) → ∃ t, v = Value.int (is.getD i 0) t := fun i v hkv => by
    obtain ⟨k, hk⟩ := hkv
    obtain ⟨x, h1, h2⟩ := KV.at' rel hk
    have e1 : (kvs.map (·.2))[i]? = some x := by rw [List.getElem?_map, h1]; rfl
    rw [hv, List.getElem?_map] at e1
    obtain ⟨j, hj, e2⟩ := Option.map_eq_some_iff.mp e1
    subst e2
    obtain ⟨t, e3⟩ := h2
    exact ⟨t, by rw [e3, List.getD_eq_getElem?_getD, hj]; rfl⟩
  have hlt : a < s1.heap.objs.size := Heap.lt_size ho
  have hsz : (s1.heap.push vw).objs.size = s1.heap.objs.size + 1 := Heap.size_push _ _
  have nea : a ≠ (s1.heap.push vw).objs.size := by rw [hsz]; exact Nat.ne_of_lt (Nat.lt_succ_of_lt hlt)
  refine call_sum_walkG (wpAny_pyIter_values (v := s1.heap.objs.size) (d := a) ⟨_, Heap.get?_push_size _ (by rw [← hvw]; rfl), by rw [← hvw], by rw [← hvw]⟩ dat1 ?_)
  refine ⟨_, _, _, _, _, _, fun i => is.getD i 0, rfl, Walks.dictValues (knd := mixKind X.prog X.w) (A := X.A.in1) (I.ok.hd hc) (s1.heap.push vw).objs.size a nea vs ep,
    ⟨⟨_, Heap.get?_push_size _ rfl, rfl, rfl⟩, dat1.keep fun b u e => Heap.get?_push_of_some _ e⟩, fun b hb => ?_, hval, fun h' tk t' hk => ?_⟩
  · show b < ((s1.heap.push _).push _).objs.size
    rw [Heap.size_push, Heap.size_push]
    rw [hsz] at hb
    rcases List.mem_cons.mp hb with e | hb
    · rw [e]
      exact Nat.lt_succ_self _
    · rw [List.mem_singleton.mp hb]
      exact Nat.lt_succ_of_lt (Nat.lt_succ_of_lt hlt)
  · have kept : ∀ b u, s1.heap.get? b = some u → h'.get? b = some u := fun b u e => hk b u (fun z => by
      have e1 : b = (s1.heap.push vw).objs.size := List.mem_singleton.mp z
      have e2 := Heap.lt_size e
      rw [e1, hsz] at e2
      exact absurd e2 (Nat.not_lt.mpr (Nat.le_succ _))) (Heap.get?_push_of_some _ (k1 b u e))
    rw [preSum_getD is vs.length (by omega), hlv, List.take_length]
    exact ⟨.int _, H1, I1.kept (t' := tk) kept, ⟨_, rfl⟩, q⟩
end
end K43
-- part R2
/-! R2: list(reversed(xs)); dict(d) of a dict with tuple keys. -/
namespace K43
open PySem PySem.Spec PyProof.Rows L2
section
variable {prog : Program} {w : World} {A : Around} {E : Value → Shared → Prop}
/-- what a reversed list hands out, in order, is put behind an empty list at S -/
theorem ext_rev {R : Result → Shared → Prop} {s : Shared} {it l S : Addr} {items : Array Value} {c0 : Nat} {res : Value} (hh : A.handled = none) (hit : s.heap.IsRevIter it l ((items.size : Int) - 1)) (hl : s.heap.IsList l items) (hne : l ≠ it) (hn : items.size ≤ sizeLine)
    (hS : s.heap.get? S = some { cls := .type "list", data := .seq #[] c0 }) (hSi : S ≠ it) (hSl : S ≠ l)
    (hR : ∀ (h' : Heap) (tk c' : Nat) (acc : Array Value), (∀ b o, b ≠ S → b ≠ it → s.heap.get? b = some o → h'.get? b = some o) → h'.get? S = some { cls := .type "list", dict := none, data := .seq acc c', slots := #[] } →
      ItemsOf (fun i v => items[items.size - 1 - i]? = some v) acc items.size → R (.ok (.ret res)) { s with heap := h', toks := tk }) :
    wpAny (model prog w) A.in1 (Builtin.List.listExtendWith (.ref S) (.ref it) res) (fun fin s' => match fin with | .done f => R (.ok f) s' | .again c' => c'.quiet = true ∧ codeAny (model prog w) A c' R s') (fun e s' => R (.error e) s') s := by
  have W := (Walks.listRev (prog := prog) (w := w) (A := A.in1) hh it l hne items).toS
  have hSf : S ∉ [it, l] := fun z => by
    rcases List.mem_cons.mp z with z | z
    · exact hSi z
    · exact hSl (List.mem_singleton.mp z)
  have hT : s.TypeIs (.ref it) "list_reverseiterator" := hit.typeIs
  have h1 : Builtin.List.listSameRef (.ref S) (.ref it) = false := by simp [Builtin.List.listSameRef, hSi]
  unfold Builtin.List.listExtendWith
  refine wpAny_bind (wpAny_typeOf hT ?_)
  rw [if_neg (by rw [h1]; decide)]
  refine wpAny_bind (wpAny_pyIter_revIter hit ?_)
  refine wpAny_bind (wpAny_holding ?_)
  unfold Builtin.List.listLengthHint
  refine wpAny_bind (wpAny_specialOf hT RT.nolen_lri ?_)
  show wpAny _ A.in1 (specialOf (Value.ref it) (Str.ofString "__length_hint__") >>= _) _ _ _
  refine wpAny_bind (wpAny_specialOf hT RT.hint_lri ?_)
  generalize hid : ("list_reverseiterator.__length_hint__" : String) = id0
  wp_delta
  rw [show splitId id0 = some ("list_reverseiterator", "__length_hint__") from by subst hid; decide +kernel]
  subst hid
  refine wpAny_bind (wpAny_isInstance (b := true) hT (by rw [isSubtype_type]; kernel_rfl) ?_)
  refine wpAny_pure ?_
  rw [if_neg (by decide)]
  have e0 : ((items.size : Nat) : Int) - 1 - ((0 : Nat) : Int) = (items.size : Int) - 1 := by omega
  refine wpAny_pure ⟨plainId_quiet PySem.F.plain_extend_loop _, codeAny_extend_loopS W hn S hSf res items.size 0 _ _ c0 rfl (Nat.zero_le _) ⟨Nat.zero_le _, by rw [e0]; exact hit, hl⟩ hS (ItemsOf.nil _) fun s' acc' c' hm hS' hacc => ?_⟩
  rw [Moved.eq_with hm]
  refine hR s'.heap s'.toks c' acc' (fun b o hb hb2 e => hm.heap b o (fun z => ?_) e) hS' hacc
  rcases List.mem_cons.mp z with z | z
  · exact hb z
  · exact hb2 (List.mem_singleton.mp z)
theorem call_list_revIt {s : Shared} {it l : Addr} {items : Array Value} {Q : Value → Shared → Prop} (hh : A.handled = none) (hit : s.heap.IsRevIter it l ((items.size : Int) - 1)) (hl : s.heap.IsList l items) (hne : l ≠ it) (hn : items.size ≤ sizeLine)
    (hQ : ∀ (h' : Heap) (tk c' : Nat) (acc : Array Value), (∀ b o, b ≠ it → s.heap.get? b = some o → h'.get? b = some o) → h'.get? s.heap.objs.size = some { cls := .type "list", dict := none, data := .seq acc c', slots := #[] } →
      ItemsOf (fun i v => items[items.size - 1 - i]? = some v) acc items.size → Q (.ref s.heap.objs.size) { s with heap := h', toks := tk }) : wpAny (model prog w) A (call (.type "list") [.ref it]) Q E s := by
  obtain ⟨oi, hoi, _⟩ := id hit
  obtain ⟨ol, hol, _⟩ := id hl
  generalize hS0 : s.heap.objs.size = S at hQ
  have nSi : S ≠ it := fun z => absurd (Heap.lt_size hoi) (by rw [hS0, z]; exact Nat.lt_irrefl _)
  have nSl : S ≠ l := fun z => absurd (Heap.lt_size hol) (by rw [hS0, z]; exact Nat.lt_irrefl _)
  generalize hne' : ({ cls := .type "list", data := .seq #[] } : Obj) = eL
  refine callType_codes (Q₁ := fun obj s1 => obj = .ref S ∧ s1 = { s with heap := s.heap.push eL }) PySem.F.called_list (PySem.F.typeCall_list_1 _) PySem.F.entry_list_init (code_list_new _ ⟨by rw [hS0], by rw [hne']⟩) fun obj s1 h1 => ?_
  obtain ⟨rfl, rfl⟩ := h1
  have hS : (s.heap.push eL).get? S = some eL := by
    rw [← hS0]
    exact Heap.get?_push_size _ (by rw [← hne']; rfl)
  subst hne'
  have hk : ∀ b o, s.heap.get? b = some o → (s.heap.push { cls := .type "list", data := .seq #[] }).get? b = some o := fun b o e => Heap.get?_push_of_some _ e
  refine ⟨⟨_, hS, rfl⟩, PySem.F.args_list_init_2 _ _, ?_⟩
  -- list.__init__: the new list is emptied, then extended
  show wpAny _ _ (do let old ← Builtin.List.listItems (.ref S); Builtin.List.listUpdate (.ref S) (fun _ => #[]); letGo old.toList.reverse; Builtin.List.listExtendWith (.ref S) (.ref it) .none) _ _ _
  refine wpAny_bind ?_
  unfold Builtin.List.listItems
  refine wpAny_bind (wpAny_seqItems hS rfl (wpAny_pure ?_))
  refine wpAny_bind ?_
  show wpAny _ _ (updateSeq S fun _ => #[]) _ _ _
  refine wpAny_updateSeq hS rfl ?_
  have hS2 := Heap.get?_update_self (Obj.mapSeq fun _ => (#[] : Array Value)) hS rfl
  have oth : ∀ b o, b ≠ S → s.heap.get? b = some o → ((s.heap.push { cls := .type "list", data := .seq #[] }).update S (Obj.mapSeq fun _ => (#[] : Array Value))).get? b = some o :=
    fun b o hb e => (Heap.get?_update_other _ _ (Ne.symm hb)).trans (hk b o e)
  refine wpAny_bind (wpAny_letGo ?_)
  refine ext_rev (A := A.in1) hh (hit.at fun o e => oth it o nSi.symm e) ?_ hne hn hS2 nSi nSl fun h' tk c' acc hkp hS' hacc => ?_
  · obtain ⟨o, ho, r⟩ := hl
    exact ⟨o, oth l o nSl.symm ho, r⟩
  · refine ⟨rfl, hQ h' tk c' acc (fun b o hb e => hkp b o (fun z => ?_) hb (oth b o (fun z => ?_) e)) hS' hacc⟩
    · exact absurd (Heap.lt_size e) (by rw [hS0, z]; exact Nat.lt_irrefl _)
    · exact absurd (Heap.lt_size e) (by rw [hS0, z]; exact Nat.lt_irrefl _)
end
section
variable {X : Cx}
def tLstRev (K : PySem.W.Frag) (te : TE) : TE := fun σ H Q => te σ H fun v H1 => ∃ (a : Addr) (xs : List V), v = .ref a ∧ SqL K H1 a xs ∧ ∀ q, H1 q = none → Q (.ref q) (upd H1 q (.lst xs.reverse))
theorem pe_listRev {e : Expr} {te : TE} {p p2 pos pos2 : Pos} {K : PySem.W.Frag} (hc : X.calm = true) (hg : Gl X "list") (hm : X.mg "list" = none) (hg2 : Gl X "reversed") (hm2 : X.mg "reversed" = none) (he : PE X e te)
    (hs : starEach [e] X.env = (false, eval e X.env) :: starEach [] X.env := by rfl)
    (hs2 : starEach [.Call (.Name "reversed" p2) [e] [] pos2] X.env = (false, eval (.Call (.Name "reversed" p2) [e] [] pos2) X.env) :: starEach [] X.env := by rfl) (hk : X.K = K := by rfl) :
    PE X (.Call (.Name "list" p) [.Call (.Name "reversed" p2) [e] [] pos2] [] pos) (tLstRev K te) := by
  subst hk
  refine ⟨fun pins s σ H Q I h => ?_⟩
  refine Call_ (ld_blt I hg hm (u := .type "list") (by decide +kernel) (PyProof.Rows.callWith_type1 (args_cons (Call_ (ld_blt I hg2 hm2 PyProof.Rows.boot_reversed (PyProof.Rows.callWith_type1 (args_cons (thn (he.run pins s σ H _ I h) fun u s1 z => ?_) hs) hs rfl))) hs2) hs2 rfl))
  obtain ⟨v, H1, I1, r1, a, xs, rfl, hq, q⟩ := z
  obtain rfl : u = Value.ref a := r1
  obtain ⟨its, rv, hl0, hz⟩ := I1.list hq
  refine args_nil (call_reversed_list hl0.isList (args_nil ?_))
  have hl := hl0.isList
  obtain ⟨ol, hol, _⟩ := id hl
  generalize hro : revObj a ((its.toArray.size : Int) - 1) = ro
  have hS : (s1.heap.push ro).objs.size = s1.heap.objs.size + 1 := Heap.size_push _ _
  have I2 : Inv X pins σ H1 { s1 with heap := s1.heap.push ro } := I1.kept (t' := s1.toks) fun b o e => Heap.get?_push_of_some _ e
  have fp := I1.fpOk (H' := H1) (b := s1.heap.objs.size) (Nat.le_refl _) (I1.hok.fresh (Nat.le_refl _))
  have hn : its.toArray.size ≤ sizeLine := by rw [List.size_toArray, ← rv.length]; exact hz
  refine call_list_revIt (s := { s1 with heap := s1.heap.push ro }) (I1.ok.hd hc) (it := s1.heap.objs.size) ⟨_, Heap.get?_push_size _ (by rw [← hro]; rfl), by rw [← hro]; exact ⟨rfl, rfl⟩⟩ (hl.push _) (Nat.ne_of_lt (Heap.lt_size hol)) hn fun h' tk c' acc hk hS' hi => ?_
  have hz' : xs.reverse.length ≤ sizeLine := by rw [List.length_reverse]; exact hz
  have J := I2.turnedNew (t' := tk) (ch := [s1.heap.objs.size]) (T := (s1.heap.push ro).objs.size) (ob := .lst xs.reverse) (h' := h') (fun b o hb e => hk b o (fun z => hb (by rw [z]; exact List.mem_singleton.mpr rfl)) e) (fun c hcm => by rw [List.mem_singleton.mp hcm]; exact fp) (Nat.le_refl _) ⟨hz', acc.toList, c', RT.vals_rev rv hi, by rw [Array.toArray_toList]; exact hS'⟩
  exact ⟨.ref (s1.heap.push ro).objs.size, _, J, rfl, q _ (I2.hok.fresh (Nat.le_refl _))⟩

/-! ### dict(d), d with tuple keys of ints whose hashes are apart -/
def thash (c : List Int) : Int := reduceHash (Builtin.Tuple.tupleHashOf (c.map hashInt))
theorem dict_copyT {prog : Program} {w : World} {A : Around} {E : Value → Shared → Prop} {s : Shared} {o : Addr} {more : List (List Key × Addr × Value)} {Q : Value → Shared → Prop} (hu : A.in1.in1.units < cLine) (hoS : (o == sysModules) = false) (ho : s.heap.DictOfH (tupleKind (mixKind prog w)) o more)
    (hty : ∀ x ∈ more, ∀ s' : Shared, (∀ b u, s.heap.get? b = some u → s'.heap.get? b = some u) → s'.TypeIs (.ref x.2.1) "tuple") (hap : (more.map fun x => (tupleKind (mixKind prog w)).hash x.1).Nodup) (hsz : more.length ≤ sizeLine)
    (h : ∀ h', h'.DictOfH (tupleKind (mixKind prog w)) s.heap.objs.size more → (∀ b u, s.heap.get? b = some u → h'.get? b = some u) → Q (.ref s.heap.objs.size) { s with heap := h' }) :
    wpAny (model prog w) A (call (.type "dict") [.ref o]) Q E s := by
  refine callType_codes (Q₁ := fun obj s1 => obj = .ref s.heap.objs.size ∧ s1 = { s with heap := s.heap.push { cls := .type "dict", data := .dict #[] } }) PySem.F.kt_called_dict (PySem.F.kt_typeCall_dict_1 _) PySem.F.entry_dict_init (kt_code_dict_new _ ⟨rfl, rfl⟩) ?_
  rintro obj s1 ⟨rfl, rfl⟩
  have hk : ∀ b u, s.heap.get? b = some u → (s.heap.push { cls := .type "dict", data := .dict #[] }).get? b = some u := fun b u e => Heap.get?_push_of_some _ e
  have hnew : (s.heap.push { cls := .type "dict", data := .dict #[] }).DictOfH (tupleKind (mixKind prog w)) s.heap.objs.size [] := Heap.DictOfH.new s.heap
  have hnd := ho.nodup
  obtain ⟨oo, es, ep, hg, hx, hd, he, his, hn⟩ := id ho
  have ho' : (s.heap.push { cls := .type "dict", data := .dict #[] }).DictOfH (tupleKind (mixKind prog w)) o more :=
    ⟨oo, es, ep, hk _ _ hg, hx, hd, he, fun x hxm => by obtain ⟨o', it', n', e', r'⟩ := his x hxm; exact ⟨o', it', n', hk _ _ e', r'⟩, hn⟩
  have hdo : s.heap.objs.size ≠ o := fun e => absurd (Heap.lt_size hg) (by rw [e]; exact Nat.lt_irrefl _)
  refine ⟨hnew.typeIs, PySem.F.args_dict_init_2 _ _, ?_⟩
  unfold Builtin.«dict.__init__»
  refine wpAny_bind ?_
  unfold Builtin.Dict.selfAndRest
  refine wpAny_bind (wpAny_notOrdered_dict hnew.typeIs (wpAny_pure ?_))
  show wpAny _ _ (Builtin.Dict.updateFrom "dict.__init__" s.heap.objs.size (.ref o) [] .none) _ _ _
  unfold Builtin.Dict.updateFrom
  refine wpAny_bind (wpAny_typeOf ho'.typeIs ?_)
  rw [if_neg (by decide)]
  refine wpAny_bind ?_
  unfold Builtin.Dict.merge
  refine wpAny_bind ?_
  unfold Builtin.Dict.readDirectly
  refine wpAny_bind (wpAny_isInstance ho'.typeIs isSubtype_dict_dict ?_)
  simp only [Bool.not_true, Bool.false_eq_true, if_false]
  refine wpAny_bind (wpAny_specialOf ho'.typeIs PySem.F.slot_dict_iter.lookup (wpAny_pure ?_))
  simp only [beq_self_eq_true, if_true]
  refine wpAny_bind (wpAny_pure ?_)
  refine wpAny_mergeDict_heap hu hdo hoS hnew ho' (.inr ⟨fun x hxm => hty x hxm _ hk, hap⟩) (fun h' hd' _ hs' => ?_) (by simpa using hsz)
  show wpAny _ _ (Builtin.Dict.addKeywords s.heap.objs.size [] >>= _) _ _ _
  rw [storedAllH_nil_of_nodup more hnd] at hd'
  exact wpAny_bind (wpAny_pure (wpAny_pure ⟨rfl, h h' hd' fun b u e => (hs'.2 b (Nat.ne_of_lt (Heap.lt_size e))).trans (hk b u e)⟩))
def rDictT : List V → Hp → VK → Prop := fun xs H Q => ∃ (a : Addr) (kvs : List (List Key × V)) (cs : List (List Int)), xs = [.ref a] ∧ Rd H a (.dT kvs) ∧ kvs.map (·.1) = cs.map (fun c => c.map Sum.inl) ∧ (cs.map thash).Nodup ∧ ∀ p, H p = none → Q (.ref p) (upd H p (.dT kvs))
theorem call_dictT {k : Nat} (hr : Room k X.A) : CallR X (.type "dict") rDictT := by
  intro pins s σ H xs us Q I r q
  obtain ⟨a, kvs, cs, ex, hd, hcs, hap, q⟩ := q
  subst ex
  obtain ⟨u, eu, rx⟩ := vals1 r
  subst eu
  cases rx
  obtain ⟨z, lo, xs, rel, dd⟩ := dt_rd I.hok hd
  have ek : xs.map (·.1) = kvs.map (·.1) := by
    clear q hcs z dd hd
    induction rel with
    | nil => rfl
    | cons h t ih => rw [List.map_cons, List.map_cons, ih, h.1]
  have hap' : (xs.map fun x => (tupleKind (mixKind X.prog X.w)).hash x.1).Nodup := by
    have e : (xs.map fun x => (tupleKind (mixKind X.prog X.w)).hash x.1) = cs.map thash := by
      have e1 : (xs.map fun x => (tupleKind (mixKind X.prog X.w)).hash x.1) = (xs.map (·.1)).map fun c => (tupleKind (mixKind X.prog X.w)).hash c := by rw [List.map_map]; rfl
      rw [e1, ek, hcs, List.map_map]
      refine List.map_congr_left fun c _ => ?_
      show tupleKeyHash (mixKind X.prog X.w) (c.map Sum.inl) = thash c
      unfold tupleKeyHash thash
      rw [List.map_map]
      rfl
    rw [e]
    exact hap
  have hty : ∀ x ∈ xs, ∀ s' : Shared, (∀ b u, s.heap.get? b = some u → s'.heap.get? b = some u) → s'.TypeIs (.ref x.2.1) "tuple" := fun x hx s' hk => by
    have : ∀ {l : List (List Key × V)} {m : List (List Key × Addr × Value)}, KT H l m → ∀ x ∈ m, ∃ ys, H x.2.1 = some (.tup ys) := fun r => by
      induction r with
      | nil => intro x hx; cases hx
      | cons h t ih =>
        intro x hx
        rcases List.mem_cons.mp hx with e | hx
        · rw [e]
          exact ⟨_, h.2.1⟩
        · exact ih x hx
    obtain ⟨ys, hy⟩ := this rel x hx
    obtain ⟨_, _, _, p⟩ := (show ObjOk X.prog X.w H s.heap x.2.1 (.tup ys) from I.hok _ _ hy)
    obtain ⟨o, h1, h2, _⟩ := p
    exact ⟨o, hk _ _ h1, h2⟩
  refine dict_copyT (by have := hr.un; show X.A.units + 1 + 1 < _; omega) lo dd hty hap' (by rw [← rel.length]; exact z) fun h' d' hs => ?_
  have hm : (s.heap.objs.size == sysModules) = false := beq_eq_false_iff_ne.mpr (Nat.ne_of_gt I.big)
  obtain ⟨o, es, ep, h1, h2, h3, h4, h5, h6⟩ := d'
  have new : ObjOk X.prog X.w (upd H s.heap.objs.size (.dT kvs)) h' s.heap.objs.size (.dT kvs) :=
    ⟨z, hm, xs, rel.keeps fun b ys e => by rw [upd_ne (ne_of_none e (I.hok.fresh (Nat.le_refl _)))]; exact e, o, es, ep, h1, h2, h3, h4, h6⟩
  exact ⟨.ref s.heap.objs.size, _, I.laid (t' := s.toks) hs (Nat.le_refl _) new, rfl, q _ (I.hok.fresh (Nat.le_refl _))⟩
end
end K43
-- part R3
/-! R3: zip of lists, tuples and texts, two and three. -/
namespace K43
open PySem PySem.Spec PyProof.Rows L2
theorem pgetR {α β : Type} {F : α → β → Prop} : ∀ {xs : List α} {ys : List β} {i : Nat} {y : β}, Paired F xs ys → ys[i]? = some y → ∃ x, xs[i]? = some x ∧ F x y
  | _, _, _, _, .nil, h => by simp at h
  | _, _, 0, _, .cons (a := a) h _, e => by
    simp at e
    subst e
    exact ⟨a, rfl, h⟩
  | _, _, i + 1, _, .cons _ t, e => by
    obtain ⟨y, h1, h2⟩ := pgetR (i := i) t (by simpa using e)
    exact ⟨y, by simpa using h1, h2⟩
/-- what is walked: a list, a tuple, a text -/
inductive Sr
  | l (a : Addr)
  | t (a : Addr)
  | s (x : Str)
def Sr.v : Sr → V
  | .l a => .ref a
  | .t a => .ref a
  | .s x => .str x
def SrAt (K : PySem.W.Frag) (H : Hp) : Sr → List V → Prop
  | .l a, xs => SqL K H a xs
  | .t a, xs => SqT K H a xs
  | .s x, xs => xs = x.cps.toList.map fun c => V.str ⟨#[c]⟩
def Sr.ap (c : Addr) : Sr → Prop
  | .l a => c ≠ a
  | .t a => c ≠ a
  | .s _ => True
def ItS (h : Heap) (it : Addr) (i : Nat) : Sr → Prop
  | .l a => h.IsListIter it a i
  | .t a => h.IsTupleIter it a i
  | .s x => ∃ t, h.IsStrIter it (strIterType x) x t i
theorem ItS.at {h h' : Heap} {it : Addr} {i : Nat} {r : Sr} (q : ItS h it i r) (k : ∀ o, h.get? it = some o → h'.get? it = some o) : ItS h' it i r := by
  cases r with
  | l a => exact Heap.IsListIter.at (h := h) q fun o e => k o e
  | t a => exact Heap.IsTupleIter.at (h := h) q fun o e => k o e
  | s x =>
    obtain ⟨t, o, h1, r⟩ := q
    exact ⟨t, o, k o h1, r⟩
theorem ItS.ob {h : Heap} {it : Addr} {i : Nat} {r : Sr} (q : ItS h it i r) : ∃ o, h.get? it = some o ∧ ∀ v, o.data ≠ .cell v := by
  cases r with
  | l a =>
    obtain ⟨o, h1, _, h2⟩ := q
    exact ⟨o, h1, fun v z => by rw [h2] at z; cases z⟩
  | t a =>
    obtain ⟨o, h1, _, h2⟩ := q
    exact ⟨o, h1, fun v z => by rw [h2] at z; cases z⟩
  | s x =>
    obtain ⟨t, o, h1, _, h2⟩ := q
    exact ⟨o, h1, fun v z => by rw [h2] at z; cases z⟩
section
variable {X : Cx} {pins : List (Addr × Obj)} {σ : L2.St} {H : Hp} {s : Shared} {r : Sr} {xs : List V}
theorem sr_draws {A : Around} {it : Addr} {i : Nat} (hh : A.handled = none) (I : Inv X pins σ H s) (q : SrAt X.K H r xs) (ap : r.ap it) (st : ItS s.heap it i r) :
    ∃ fp P St, Draws X.prog X.w A it fp xs.length P St ∧ St i s.heap ∧ (∀ j u, P j u → ∃ x, xs[j]? = some x ∧ RelV x u) ∧ (∀ j h, St j h → ItS h it j r) ∧ it ∈ fp ∧ ∀ c, c ≠ it → r.ap c → c ∉ fp := by
  cases r with
  | l a =>
    obtain ⟨its, rv, p, _⟩ := I.list q
    have e : its.toArray.size = xs.length := by rw [List.size_toArray]; exact rv.length.symm
    refine ⟨[it, a], _, _, e ▸ Draws.list hh it a (Ne.symm ap) its.toArray, ⟨st, p.isList⟩, fun j u h => ?_, fun j h z => z.1, by simp, fun c h1 h2 z => ?_⟩
    · exact pgetR rv (by simpa using h)
    · rcases List.mem_cons.mp z with z | z
      · exact h1 z
      · exact h2 (List.mem_singleton.mp z)
  | t a =>
    obtain ⟨its, rv, p, _⟩ := I.tuple q
    have e : its.toArray.size = xs.length := by rw [List.size_toArray]; exact rv.length.symm
    refine ⟨[it, a], _, _, e ▸ Draws.tuple hh it a (Ne.symm ap) its.toArray, ⟨st, p⟩, fun j u h => ?_, fun j h z => z.1, by simp, fun c h1 h2 z => ?_⟩
    · exact pgetR rv (by simpa using h)
    · rcases List.mem_cons.mp z with z | z
      · exact h1 z
      · exact h2 (List.mem_singleton.mp z)
  | s x =>
    obtain ⟨t, st⟩ := st
    have e : x.cps.size = xs.length := by rw [show xs = _ from q]; simp
    refine ⟨[it], _, _, e ▸ Draws.text hh it x t, st, fun j u h => ?_, fun j h z => ⟨t, z⟩, by simp, fun c h1 h2 z => h1 (List.mem_singleton.mp z)⟩
    obtain ⟨c, u', h1, rfl⟩ := h
    refine ⟨.str ⟨#[c]⟩, ?_, ⟨u', rfl⟩⟩
    rw [show xs = _ from q, List.getElem?_map, Array.getElem?_toList, h1]
    rfl
theorem sr_beg {u : Value} (I : Inv X pins σ H s) (q : SrAt X.K H r xs) (rv : RelV r.v u) :
    ∃ o HH, Begins u o HH ∧ HH s.heap ∧ (∀ h it, h.get? it = some o → ItS h it 0 r) ∧ ∀ c, s.heap.objs.size ≤ c → r.ap c := by
  cases r with
  | l a =>
    obtain rfl : u = .ref a := rv
    obtain ⟨its, _, p, _⟩ := I.list q
    exact ⟨_, _, begins_list a its.toArray, p.isList, fun h it e => ⟨_, e, rfl, rfl⟩, fun c hc => Ne.symm (Nat.ne_of_lt (Nat.lt_of_lt_of_le p.lt hc))⟩
  | t a =>
    obtain rfl : u = .ref a := rv
    obtain ⟨its, _, p, _⟩ := I.tuple q
    obtain ⟨o, ho, _⟩ := id p
    exact ⟨_, _, begins_tuple a its.toArray, p, fun h it e => ⟨_, e, rfl, rfl⟩, fun c hc => Ne.symm (Nat.ne_of_lt (Nat.lt_of_lt_of_le (Heap.lt_size ho) hc))⟩
  | s x =>
    obtain ⟨t, rfl⟩ := rv
    exact ⟨_, _, begins_text x t, True.intro, fun h it e => ⟨t, _, e, rfl, rfl⟩, fun _ _ => True.intro⟩
theorem sr_inj {ys : List V} (I : Inv X pins σ H s) (q : SrAt X.K H r xs) (q' : SrAt X.K H r ys) : xs = ys := by
  cases r with
  | l a => exact I.list_inj q q'
  | t a => exact I.tuple_inj q q'
  | s x => rw [show xs = _ from q, show ys = _ from q']
end
/-! ### zip of two -/
def ItZ2 (K : PySem.W.Frag) (r1 r2 : Sr) : It :=
  ⟨fun i H => ∃ xs ys, SrAt K H r1 xs ∧ SrAt K H r2 ys ∧ i < xs.length ∧ i < ys.length,
    fun i H v H' => ∃ T x y, v = .ref T ∧ H T = none ∧ H' = upd H T (.tup [x, y]) ∧ (∀ xs, SrAt K H r1 xs → xs[i]? = some x) ∧ ∀ ys, SrAt K H r2 ys → ys[i]? = some y,
    fun i H => ∃ xs ys, SrAt K H r1 xs ∧ SrAt K H r2 ys ∧ i ≤ xs.length ∧ i ≤ ys.length ∧ (i = xs.length ∨ i = ys.length)⟩
theorem wk_z2 {K : PySem.W.Frag} {r1 r2 : Sr} {xs ys : List V} {n : Nat} (h1 : xs.length = n) (h2 : ys.length = n) :
    Wk (ItZ2 K r1 r2) n (fun H => SrAt K H r1 xs ∧ SrAt K H r2 ys) (fun i H v H' => ∃ T x y, v = .ref T ∧ H T = none ∧ H' = upd H T (.tup [x, y]) ∧ xs[i]? = some x ∧ ys[i]? = some y) :=
  ⟨fun i H h q => ⟨xs, ys, q.1, q.2, by omega, by omega⟩, fun i H v H' _ q z => by
    obtain ⟨T, x, y, e, hT, e2, f, g⟩ := z
    exact ⟨T, x, y, e, hT, e2, f _ q.1, g _ q.2⟩, fun H q => ⟨xs, ys, q.1, q.2, by omega, by omega, .inl h1.symm⟩⟩
structure ZA2 (z TI TO i1 i2 : Addr) (r1 r2 : Sr) : Prop where
  a : TI ≠ z ∧ TO ≠ z ∧ TI ≠ TO ∧ TI ≠ i1 ∧ TI ≠ i2 ∧ z ≠ i1 ∧ z ≠ i2 ∧ TO ≠ i1 ∧ TO ≠ i2 ∧ i1 ≠ i2
  p : ∀ c ∈ [z, TI, TO, i1, i2], r1.ap c ∧ r2.ap c
theorem turn_z2 {P : Program} {w : World} {K : PySem.W.Frag} {elts : List Expr} {kk : Nat} {tpos : Pos} {r1 r2 : Sr} {z TI TO i1 i2 : Addr} (D : ZA2 z TI TO i1 i2 r1 r2) :
    Turn P w K (.Tuple elts kk tpos) (ItZ2 K r1 r2) [z, TI, TO, i1, i2] z (fun i h => IsZip h z TI TO .none ∧ IsTupOf2 h TI (.ref i1) (.ref i2) ∧ (∃ x y, IsTupOf2 h TO x y) ∧ ItS h i1 i r1 ∧ ItS h i2 i r2) where
  mem := by simp
  obj := fun i h st c hc => by
    obtain ⟨hz, hTI, ⟨x, y, hTO⟩, h1, h2⟩ := st
    have e' : c = z ∨ c = TI ∨ c = TO ∨ c = i1 ∨ c = i2 := by simpa using hc
    rcases e' with q | q | q | q | q
    · rw [q]; exact ⟨_, hz, fun v q => nomatch q⟩
    · rw [q]; exact ⟨_, hTI, fun v q => nomatch q⟩
    · rw [q]; exact ⟨_, hTO, fun v q => nomatch q⟩
    · rw [q]; exact h1.ob
    · rw [q]; exact h2.ob
  keep := fun i h h' st k => by
    obtain ⟨hz, hTI, ⟨x, y, hTO⟩, h1, h2⟩ := st
    exact ⟨k z (by simp) _ hz, k TI (by simp) _ hTI, ⟨x, y, k TO (by simp) _ hTO⟩, h1.at fun o q => k i1 (by simp) o q, h2.at fun o q => k i2 (by simp) o q⟩
  item := by
    intro X hP hw hK hc i pins s σ H E I hf st hg
    subst hP hw hK
    obtain ⟨hz, hTI, ⟨x0, y0, hTO⟩, h1, h2⟩ := st
    obtain ⟨xs, ys, hqx, hqy, hx, hy⟩ := hg
    obtain ⟨n1, n2, n3, n4, n5, n6, n7, n8, n9, n10⟩ := D.a
    obtain ⟨fp1, P1, St1, D1, st1, rv1, it1, m1, f1⟩ := sr_draws (A := X.A.in1) (I.ok.hd hc) I hqx (D.p i1 (by simp)).1 h1
    obtain ⟨fp2, P2, St2, D2, st2, rv2, it2, m2, f2⟩ := sr_draws (A := X.A.in1) (I.ok.hd hc) I hqy (D.p i2 (by simp)).2 h2
    have S : ZipSep2 z TI TO i1 i2 fp1 fp2 := ⟨n1, n2, n3, n4, m1, f1 z n6 (D.p z (by simp)).1, f1 TO n8 (D.p TO (by simp)).1, n5, m2, f2 z n7 (D.p z (by simp)).2, f2 TO n9 (D.p TO (by simp)).2, f2 i1 n10 (D.p i1 (by simp)).2, f1 i2 n10.symm (D.p i2 (by simp)).1⟩
    have hzl : z < s.heap.objs.size := Heap.lt_size hz
    refine wpAny_pyNext_zipD2_item S D1 D2 hz hTI hTO st1 st2 hx hy fun u1 u2 h' tk p1 p2 z' TO' s1' s2' hT hsz hk => ?_
    obtain ⟨x, hx', rx⟩ := rv1 _ _ p1
    obtain ⟨y, hy', ry⟩ := rv2 _ _ p2
    refine ⟨_, rfl, wpAny_letOwnedTupleGo_zip (s := { s with heap := h', toks := tk }) z' fun h'' z'' sb => ?_⟩
    have hT2 : h''.get? s.heap.objs.size = some { cls := .type "tuple", data := .seq #[u1, u2] } := (sb.2 _ (Nat.ne_of_gt hzl)).trans hT
    have new : ObjOk X.prog X.w (upd H s.heap.objs.size (.tup [x, y])) h'' s.heap.objs.size (.tup [x, y]) :=
      ⟨by show 2 ≤ sizeLine; decide, [u1, u2], .cons rx (.cons ry .nil), ⟨_, hT2, rfl, _, rfl⟩⟩
    have I1 : Inv X pins σ (upd H s.heap.objs.size (.tup [x, y])) { s with heap := h'', toks := tk } :=
      I.turnedNew (t' := tk) (ch := [z, TI, TO, i1, i2]) (fun c o hb q => (sb.2 c (fun q' => hb (by simp [q']))).trans (hk c o (fun q' => hb (by simp [q'])) (fun q' => hb (by simp [q'])) (fun q' => hb (by simp [q'])) (fun q' => hb (by simp [q'])) q)) hf (Nat.le_refl _) new
    refine ⟨.ref s.heap.objs.size, _, I1, rfl, ⟨_, x, y, rfl, I.hok.fresh (Nat.le_refl _), rfl, fun l hl => by rw [← sr_inj I hqx hl]; exact hx', fun l hl => by rw [← sr_inj I hqy hl]; exact hy'⟩, ⟨z'', ?_, ⟨u1, u2, ?_⟩, ?_, ?_⟩, fun c hcm => ?_⟩
    · exact (sb.2 _ n1).trans (hk _ _ n1 n3 n4 n5 hTI)
    · exact (sb.2 _ n2).trans TO'
    · exact (it1 _ _ s1').at fun o q => (sb.2 _ n6.symm).trans q
    · exact (it2 _ _ s2').at fun o q => (sb.2 _ n7.symm).trans q
    · have hlt : c < s.heap.objs.size := by
        have e' : c = z ∨ c = TI ∨ c = TO ∨ c = i1 ∨ c = i2 := by simpa using hcm
        rcases e' with q | q | q | q | q
        · rw [q]; exact hzl
        · rw [q]; exact Heap.lt_size hTI
        · rw [q]; exact Heap.lt_size hTO
        · rw [q]; obtain ⟨_, e1, _⟩ := h1.ob; exact Heap.lt_size e1
        · rw [q]; obtain ⟨_, e2, _⟩ := h2.ob; exact Heap.lt_size e2
      rw [upd_ne (Nat.ne_of_lt hlt)]
      exact (hf c hcm).1
  done := by
    intro X hP hw hK hc i pins s σ H E I hf st hg
    subst hP hw hK
    obtain ⟨hz, hTI, ⟨x0, y0, hTO⟩, h1, h2⟩ := st
    obtain ⟨xs, ys, hqx, hqy, hx, hy, hend⟩ := hg
    obtain ⟨n1, n2, n3, n4, n5, n6, n7, n8, n9, n10⟩ := D.a
    obtain ⟨fp1, P1, St1, D1, st1, rv1, it1, m1, f1⟩ := sr_draws (A := X.A.in1) (I.ok.hd hc) I hqx (D.p i1 (by simp)).1 h1
    obtain ⟨fp2, P2, St2, D2, st2, rv2, it2, m2, f2⟩ := sr_draws (A := X.A.in1) (I.ok.hd hc) I hqy (D.p i2 (by simp)).2 h2
    have S : ZipSep2 z TI TO i1 i2 fp1 fp2 := ⟨n1, n2, n3, n4, m1, f1 z n6 (D.p z (by simp)).1, f1 TO n8 (D.p TO (by simp)).1, n5, m2, f2 z n7 (D.p z (by simp)).2, f2 TO n9 (D.p TO (by simp)).2, f2 i1 n10 (D.p i1 (by simp)).2, f1 i2 n10.symm (D.p i2 (by simp)).1⟩
    exact wpAny_pyNext_zipD2_end S D1 D2 hz hTI hTO st1 st2 hx hy hend fun h' tk hk => ⟨rfl, I.turnedL (t' := tk) (ch := [z, TI, TO, i1, i2]) (fun c o hb q =>
      hk c o (fun q' => hb (by simp [q'])) (fun q' => hb (by simp [q'])) (fun q' => hb (by simp [q'])) (fun q' => hb (by simp [q'])) q) hf⟩
  self := fun A i s Q E st h => wpAny_pyIter_zip st.1 h
def iZ2 (K : PySem.W.Frag) (ta : TA) : TI := fun σ H R => ta σ H fun vs H1 => ∃ r1 r2 xs ys, vs = [Sr.v r1, Sr.v r2] ∧ SrAt K H1 r1 xs ∧ SrAt K H1 r2 ys ∧ R (ItZ2 K r1 r2) H1
theorem pi_zipG {X : Cx} {K : PySem.W.Frag} {e e2 : Expr} {ta : TA} {p pos tpos : Pos} {elts : List Expr} {kk : Nat} (hg : Gl X "zip") (hm : X.mg "zip" = none) (ha : PA X [e, e2] ta)
    (hs : starEach [e, e2] X.env = (false, eval e X.env) :: starEach [e2] X.env := by rfl) (hpl : (backTo pos (starEach [e2] X.env)).any (·.1) = false := by rfl) (hk : X.K = K := by rfl) :
    PI X (.Tuple elts kk tpos) (.Call (.Name "zip" p) [e, e2] [] pos) (iZ2 K ta) := by
  subst hk
  refine ⟨fun pins s σ H R I h => ?_⟩
  refine Call_ (ld_blt I hg hm PyProof.Rows.boot_zip (PyProof.Rows.callWith_type1 (thn (ha.run pos pins s σ H _ I h) fun us s1 ⟨vs, H1, I1, r1, q1⟩ => ?_) hs hpl))
  obtain ⟨sa, sb, xs, ys, ex, hqx, hqy, q⟩ := q1
  subst ex
  cases r1 with
  | cons r rr =>
    cases rr with
    | cons r' rr =>
      cases rr
      obtain ⟨o1, HH1, B1, b1, g1, ap1⟩ := sr_beg I1 hqx r
      obtain ⟨o2, HH2, B2, b2, g2, ap2⟩ := sr_beg I1 hqy r'
      have le5 : ∀ c, c ∈ [s1.heap.objs.size + 4, s1.heap.objs.size + 2, s1.heap.objs.size + 3, s1.heap.objs.size, s1.heap.objs.size + 1] → s1.heap.objs.size ≤ c := fun c hcm => by
        have e' : c = s1.heap.objs.size + 4 ∨ c = s1.heap.objs.size + 2 ∨ c = s1.heap.objs.size + 3 ∨ c = s1.heap.objs.size ∨ c = s1.heap.objs.size + 1 := by simpa using hcm
        rcases e' with z | z | z | z | z
        · rw [z]; exact Nat.le_add_right _ _
        · rw [z]; exact Nat.le_add_right _ _
        · rw [z]; exact Nat.le_add_right _ _
        · rw [z]; exact Nat.le_refl _
        · rw [z]; exact Nat.le_add_right _ _
      refine zip_begins2 B1 B2 b1 b2 fun h' hz hTI hTO h1 h2 hsz hk => wpAny_pyIter_zip hz ?_
      have I2 : Inv X pins σ H1 { s1 with heap := h' } := I1.kept (t' := s1.toks) hk
      refine ⟨s1.heap.objs.size + 4, [s1.heap.objs.size + 4, s1.heap.objs.size + 2, s1.heap.objs.size + 3, s1.heap.objs.size, s1.heap.objs.size + 1], _, _, H1, rfl, I2, turn_z2 ⟨?_, fun c hcm => ⟨ap1 c (le5 c hcm), ap2 c (le5 c hcm)⟩⟩, ⟨hz, hTI, ⟨_, _, hTO⟩, g1 _ _ h1, g2 _ _ h2⟩, fun c hcm => I1.fpOk (le5 c hcm) (I1.hok.fresh (le5 c hcm)), q⟩
      generalize s1.heap.objs.size = n
      have ne : ∀ {a b : Nat}, a ≠ b → n + a ≠ n + b := fun h z => h (Nat.add_left_cancel z)
      exact ⟨ne (by decide), ne (by decide), ne (by decide), ne (b := 0) (by decide), ne (by decide), ne (b := 0) (by decide), ne (by decide), ne (b := 0) (by decide), ne (by decide), ne (a := 0) (by decide)⟩
end K43
-- part R4
/-! R4: zip of three. -/
namespace K43
open PySem PySem.Spec PyProof.Rows L2
def ItZ3 (K : PySem.W.Frag) (r1 r2 r3 : Sr) : It :=
  ⟨fun i H => ∃ xs ys zs, SrAt K H r1 xs ∧ SrAt K H r2 ys ∧ SrAt K H r3 zs ∧ i < xs.length ∧ i < ys.length ∧ i < zs.length,
    fun i H v H' => ∃ T x y z, v = .ref T ∧ H T = none ∧ H' = upd H T (.tup [x, y, z]) ∧ (∀ xs, SrAt K H r1 xs → xs[i]? = some x) ∧ (∀ ys, SrAt K H r2 ys → ys[i]? = some y) ∧ ∀ zs, SrAt K H r3 zs → zs[i]? = some z,
    fun i H => ∃ xs ys zs, SrAt K H r1 xs ∧ SrAt K H r2 ys ∧ SrAt K H r3 zs ∧ i ≤ xs.length ∧ i ≤ ys.length ∧ i ≤ zs.length ∧ (i = xs.length ∨ i = ys.length ∨ i = zs.length)⟩
theorem wk_z3 {K : PySem.W.Frag} {r1 r2 r3 : Sr} {xs ys zs : List V} {n : Nat} (h1 : xs.length = n) (h2 : ys.length = n) (h3 : zs.length = n) :
    Wk (ItZ3 K r1 r2 r3) n (fun H => SrAt K H r1 xs ∧ SrAt K H r2 ys ∧ SrAt K H r3 zs) (fun i H v H' => ∃ T x y z, v = .ref T ∧ H T = none ∧ H' = upd H T (.tup [x, y, z]) ∧ xs[i]? = some x ∧ ys[i]? = some y ∧ zs[i]? = some z) :=
  ⟨fun i H h q => ⟨xs, ys, zs, q.1, q.2.1, q.2.2, by omega, by omega, by omega⟩, fun i H v H' _ q t => by
    obtain ⟨T, x, y, z, e, hT, e2, f, g, k⟩ := t
    exact ⟨T, x, y, z, e, hT, e2, f _ q.1, g _ q.2.1, k _ q.2.2⟩, fun H q => ⟨xs, ys, zs, q.1, q.2.1, q.2.2, by omega, by omega, by omega, .inl h1.symm⟩⟩
structure ZA3 (z TI TO i1 i2 i3 : Addr) (r1 r2 r3 : Sr) : Prop where
  a : TI ≠ z ∧ TO ≠ z ∧ TI ≠ TO ∧ TI ≠ i1 ∧ TI ≠ i2 ∧ TI ≠ i3 ∧ z ≠ i1 ∧ z ≠ i2 ∧ z ≠ i3 ∧ TO ≠ i1 ∧ TO ≠ i2 ∧ TO ≠ i3 ∧ i1 ≠ i2 ∧ i1 ≠ i3 ∧ i2 ≠ i3
  p : ∀ c ∈ [z, TI, TO, i1, i2, i3], r1.ap c ∧ r2.ap c ∧ r3.ap c
theorem turn_z3 {P : Program} {w : World} {K : PySem.W.Frag} {elts : List Expr} {kk : Nat} {tpos : Pos} {r1 r2 r3 : Sr} {z TI TO i1 i2 i3 : Addr} (D : ZA3 z TI TO i1 i2 i3 r1 r2 r3) :
    Turn P w K (.Tuple elts kk tpos) (ItZ3 K r1 r2 r3) [z, TI, TO, i1, i2, i3] z (fun i h => IsZip h z TI TO .none ∧ IsTupOf3 h TI (.ref i1) (.ref i2) (.ref i3) ∧ (∃ x y v, IsTupOf3 h TO x y v) ∧ ItS h i1 i r1 ∧ ItS h i2 i r2 ∧ ItS h i3 i r3) where
  mem := by simp
  obj := fun i h st c hc => by
    obtain ⟨hz, hTI, ⟨x, y, v, hTO⟩, h1, h2, h3⟩ := st
    have e' : c = z ∨ c = TI ∨ c = TO ∨ c = i1 ∨ c = i2 ∨ c = i3 := by simpa using hc
    rcases e' with q | q | q | q | q | q
    · rw [q]; exact ⟨_, hz, fun v q => nomatch q⟩
    · rw [q]; exact ⟨_, hTI, fun v q => nomatch q⟩
    · rw [q]; exact ⟨_, hTO, fun v q => nomatch q⟩
    · rw [q]; exact h1.ob
    · rw [q]; exact h2.ob
    · rw [q]; exact h3.ob
  keep := fun i h h' st k => by
    obtain ⟨hz, hTI, ⟨x, y, v, hTO⟩, h1, h2, h3⟩ := st
    exact ⟨k z (by simp) _ hz, k TI (by simp) _ hTI, ⟨x, y, v, k TO (by simp) _ hTO⟩, h1.at fun o q => k i1 (by simp) o q, h2.at fun o q => k i2 (by simp) o q, h3.at fun o q => k i3 (by simp) o q⟩
  item := by
    intro X hP hw hK hc i pins s σ H E I hf st hg
    subst hP hw hK
    obtain ⟨hz, hTI, ⟨x0, y0, v0, hTO⟩, h1, h2, h3⟩ := st
    obtain ⟨xs, ys, zs, hqx, hqy, hqz, hx, hy, hv⟩ := hg
    obtain ⟨n1, n2, n3, n4, n5, n6, n7, n8, n9, n10, n11, n12, n13, n14, n15⟩ := D.a
    have dp := D.p
    obtain ⟨fp1, P1, St1, D1, st1, rv1, it1, m1, f1⟩ := sr_draws (A := X.A.in1) (I.ok.hd hc) I hqx (D.p i1 (by simp)).1 h1
    obtain ⟨fp2, P2, St2, D2, st2, rv2, it2, m2, f2⟩ := sr_draws (A := X.A.in1) (I.ok.hd hc) I hqy (D.p i2 (by simp)).2.1 h2
    obtain ⟨fp3, P3, St3, D3, st3, rv3, it3, m3, f3⟩ := sr_draws (A := X.A.in1) (I.ok.hd hc) I hqz (D.p i3 (by simp)).2.2 h3
    have S : ZipSep3 z TI TO i1 i2 i3 fp1 fp2 fp3 := ⟨n1, n2, n3, n4, m1, f1 z n7 (D.p z (by simp)).1, f1 TO n10 (D.p TO (by simp)).1, n5, m2, f2 z n8 (D.p z (by simp)).2.1, f2 TO n11 (D.p TO (by simp)).2.1, n6, m3, f3 z n9 (D.p z (by simp)).2.2, f3 TO n12 (D.p TO (by simp)).2.2,
      f2 i1 n13 (D.p i1 (by simp)).2.1, f3 i1 n14 (D.p i1 (by simp)).2.2, f1 i2 n13.symm (D.p i2 (by simp)).1, f3 i2 n15 (D.p i2 (by simp)).2.2, f1 i3 n14.symm (D.p i3 (by simp)).1, f2 i3 n15.symm (D.p i3 (by simp)).2.1⟩
    have hzl : z < s.heap.objs.size := Heap.lt_size hz
    refine wpAny_pyNext_zipD3_item S D1 D2 D3 hz hTI hTO st1 st2 st3 hx hy hv fun u1 u2 u3 h' tk p1 p2 p3 z' TO' s1' s2' s3' hT hsz hk => ?_
    obtain ⟨x, hx', rx⟩ := rv1 _ _ p1
    obtain ⟨y, hy', ry⟩ := rv2 _ _ p2
    obtain ⟨v, hv', rv⟩ := rv3 _ _ p3
    refine ⟨_, rfl, wpAny_letOwnedTupleGo_zip (s := { s with heap := h', toks := tk }) z' fun h'' z'' sb => ?_⟩
    have hT2 : h''.get? s.heap.objs.size = some { cls := .type "tuple", data := .seq #[u1, u2, u3] } := (sb.2 _ (Nat.ne_of_gt hzl)).trans hT
    have new : ObjOk X.prog X.w (upd H s.heap.objs.size (.tup [x, y, v])) h'' s.heap.objs.size (.tup [x, y, v]) :=
      ⟨by show 3 ≤ sizeLine; decide, [u1, u2, u3], .cons rx (.cons ry (.cons rv .nil)), ⟨_, hT2, rfl, _, rfl⟩⟩
    have I1 : Inv X pins σ (upd H s.heap.objs.size (.tup [x, y, v])) { s with heap := h'', toks := tk } :=
      I.turnedNew (t' := tk) (ch := [z, TI, TO, i1, i2, i3]) (fun c o hb q => (sb.2 c (fun q' => hb (by simp [q']))).trans (hk c o (fun q' => hb (by simp [q'])) (fun q' => hb (by simp [q'])) (fun q' => hb (by simp [q'])) (fun q' => hb (by simp [q'])) (fun q' => hb (by simp [q'])) q)) hf (Nat.le_refl _) new
    refine ⟨.ref s.heap.objs.size, _, I1, rfl, ⟨_, x, y, v, rfl, I.hok.fresh (Nat.le_refl _), rfl, fun l hl => by rw [← sr_inj I hqx hl]; exact hx', fun l hl => by rw [← sr_inj I hqy hl]; exact hy', fun l hl => by rw [← sr_inj I hqz hl]; exact hv'⟩, ⟨z'', ?_, ⟨u1, u2, u3, ?_⟩, ?_, ?_, ?_⟩, fun c hcm => ?_⟩
    · exact (sb.2 _ n1).trans (hk _ _ n1 n3 n4 n5 n6 hTI)
    · exact (sb.2 _ n2).trans TO'
    · exact (it1 _ _ s1').at fun o q => (sb.2 _ n7.symm).trans q
    · exact (it2 _ _ s2').at fun o q => (sb.2 _ n8.symm).trans q
    · exact (it3 _ _ s3').at fun o q => (sb.2 _ n9.symm).trans q
    · have hlt : c < s.heap.objs.size := by
        have e' : c = z ∨ c = TI ∨ c = TO ∨ c = i1 ∨ c = i2 ∨ c = i3 := by simpa using hcm
        rcases e' with q | q | q | q | q | q
        · rw [q]; exact hzl
        · rw [q]; exact Heap.lt_size hTI
        · rw [q]; exact Heap.lt_size hTO
        · rw [q]; obtain ⟨_, e1, _⟩ := h1.ob; exact Heap.lt_size e1
        · rw [q]; obtain ⟨_, e2, _⟩ := h2.ob; exact Heap.lt_size e2
        · rw [q]; obtain ⟨_, e3, _⟩ := h3.ob; exact Heap.lt_size e3
      rw [upd_ne (Nat.ne_of_lt hlt)]
      exact (hf c hcm).1
  done := by
    intro X hP hw hK hc i pins s σ H E I hf st hg
    subst hP hw hK
    obtain ⟨hz, hTI, ⟨x0, y0, v0, hTO⟩, h1, h2, h3⟩ := st
    obtain ⟨xs, ys, zs, hqx, hqy, hqz, hx, hy, hv, hend⟩ := hg
    obtain ⟨n1, n2, n3, n4, n5, n6, n7, n8, n9, n10, n11, n12, n13, n14, n15⟩ := D.a
    have dp := D.p
    obtain ⟨fp1, P1, St1, D1, st1, rv1, it1, m1, f1⟩ := sr_draws (A := X.A.in1) (I.ok.hd hc) I hqx (D.p i1 (by simp)).1 h1
    obtain ⟨fp2, P2, St2, D2, st2, rv2, it2, m2, f2⟩ := sr_draws (A := X.A.in1) (I.ok.hd hc) I hqy (D.p i2 (by simp)).2.1 h2
    obtain ⟨fp3, P3, St3, D3, st3, rv3, it3, m3, f3⟩ := sr_draws (A := X.A.in1) (I.ok.hd hc) I hqz (D.p i3 (by simp)).2.2 h3
    have S : ZipSep3 z TI TO i1 i2 i3 fp1 fp2 fp3 := ⟨n1, n2, n3, n4, m1, f1 z n7 (D.p z (by simp)).1, f1 TO n10 (D.p TO (by simp)).1, n5, m2, f2 z n8 (D.p z (by simp)).2.1, f2 TO n11 (D.p TO (by simp)).2.1, n6, m3, f3 z n9 (D.p z (by simp)).2.2, f3 TO n12 (D.p TO (by simp)).2.2,
      f2 i1 n13 (D.p i1 (by simp)).2.1, f3 i1 n14 (D.p i1 (by simp)).2.2, f1 i2 n13.symm (D.p i2 (by simp)).1, f3 i2 n15 (D.p i2 (by simp)).2.2, f1 i3 n14.symm (D.p i3 (by simp)).1, f2 i3 n15.symm (D.p i3 (by simp)).2.1⟩
    exact wpAny_pyNext_zipD3_end S D1 D2 D3 hz hTI hTO st1 st2 st3 hx hy hv hend fun h' tk hk => ⟨rfl, I.turnedL (t' := tk) (ch := [z, TI, TO, i1, i2, i3]) (fun c o hb q =>
      hk c o (fun q' => hb (by simp [q'])) (fun q' => hb (by simp [q'])) (fun q' => hb (by simp [q'])) (fun q' => hb (by simp [q'])) (fun q' => hb (by simp [q'])) q) hf⟩
  self := fun A i s Q E st h => wpAny_pyIter_zip st.1 h
def iZ3 (K : PySem.W.Frag) (ta : TA) : TI := fun σ H R => ta σ H fun vs H1 => ∃ r1 r2 r3 xs ys zs, vs = [Sr.v r1, Sr.v r2, Sr.v r3] ∧ SrAt K H1 r1 xs ∧ SrAt K H1 r2 ys ∧ SrAt K H1 r3 zs ∧ R (ItZ3 K r1 r2 r3) H1
theorem pi_zipG3 {X : Cx} {K : PySem.W.Frag} {e e2 e3 : Expr} {ta : TA} {p pos tpos : Pos} {elts : List Expr} {kk : Nat} (hg : Gl X "zip") (hm : X.mg "zip" = none) (ha : PA X [e, e2, e3] ta)
    (hs : starEach [e, e2, e3] X.env = (false, eval e X.env) :: starEach [e2, e3] X.env := by rfl) (hpl : (backTo pos (starEach [e2, e3] X.env)).any (·.1) = false := by rfl) (hk : X.K = K := by rfl) :
    PI X (.Tuple elts kk tpos) (.Call (.Name "zip" p) [e, e2, e3] [] pos) (iZ3 K ta) := by
  subst hk
  refine ⟨fun pins s σ H R I h => ?_⟩
  refine Call_ (ld_blt I hg hm PyProof.Rows.boot_zip (PyProof.Rows.callWith_type1 (thn (ha.run pos pins s σ H _ I h) fun us s1 ⟨vs, H1, I1, r1, q1⟩ => ?_) hs hpl))
  obtain ⟨sa, sb, sc, xs, ys, zs, ex, hqx, hqy, hqz, q⟩ := q1
  subst ex
  cases r1 with
  | cons r rr =>
    cases rr with
    | cons r' rr =>
      cases rr with
      | cons r'' rr =>
        cases rr
        obtain ⟨o1, HH1, B1, b1, g1, ap1⟩ := sr_beg I1 hqx r
        obtain ⟨o2, HH2, B2, b2, g2, ap2⟩ := sr_beg I1 hqy r'
        obtain ⟨o3, HH3, B3, b3, g3, ap3⟩ := sr_beg I1 hqz r''
        have le5 : ∀ c, c ∈ [s1.heap.objs.size + 5, s1.heap.objs.size + 3, s1.heap.objs.size + 4, s1.heap.objs.size, s1.heap.objs.size + 1, s1.heap.objs.size + 2] → s1.heap.objs.size ≤ c := fun c hcm => by
          have e' : c = s1.heap.objs.size + 5 ∨ c = s1.heap.objs.size + 3 ∨ c = s1.heap.objs.size + 4 ∨ c = s1.heap.objs.size ∨ c = s1.heap.objs.size + 1 ∨ c = s1.heap.objs.size + 2 := by simpa using hcm
          rcases e' with z | z | z | z | z | z
          · rw [z]; exact Nat.le_add_right _ _
          · rw [z]; exact Nat.le_add_right _ _
          · rw [z]; exact Nat.le_add_right _ _
          · rw [z]; exact Nat.le_refl _
          · rw [z]; exact Nat.le_add_right _ _
          · rw [z]; exact Nat.le_add_right _ _
        refine zip_begins3 B1 B2 B3 b1 b2 b3 fun h' hz hTI hTO h1 h2 h3 hsz hk => wpAny_pyIter_zip hz ?_
        have I2 : Inv X pins σ H1 { s1 with heap := h' } := I1.kept (t' := s1.toks) hk
        refine ⟨s1.heap.objs.size + 5, [s1.heap.objs.size + 5, s1.heap.objs.size + 3, s1.heap.objs.size + 4, s1.heap.objs.size, s1.heap.objs.size + 1, s1.heap.objs.size + 2], _, _, H1, rfl, I2, turn_z3 ⟨?_, fun c hcm => ⟨ap1 c (le5 c hcm), ap2 c (le5 c hcm), ap3 c (le5 c hcm)⟩⟩, ⟨hz, hTI, ⟨_, _, _, hTO⟩, g1 _ _ h1, g2 _ _ h2, g3 _ _ h3⟩, fun c hcm => I1.fpOk (le5 c hcm) (I1.hok.fresh (le5 c hcm)), q⟩
        generalize s1.heap.objs.size = n
        have ne : ∀ {a b : Nat}, a ≠ b → n + a ≠ n + b := fun h z => h (Nat.add_left_cancel z)
        exact ⟨ne (by decide), ne (by decide), ne (by decide), ne (b := 0) (by decide), ne (by decide), ne (by decide), ne (b := 0) (by decide), ne (by decide), ne (by decide), ne (b := 0) (by decide), ne (by decide), ne (by decide), ne (a := 0) (by decide), ne (a := 0) (by decide), ne (by decide)⟩
end K43
-- part R5
/-! R5: dict comprehensions whose keys are tuples. -/
namespace K43
open PySem PySem.Spec PyProof.Rows L2
section
variable {X : Cx}
/-- a tuple key is laid in a comprehension's dict -/
theorem d_setT {pins : List (Addr × Obj)} {σ : L2.St} {H : Hp} {s : Shared} {E : Value → Shared → Prop} {D b : Addr} {kvs : List (List Key × V)} {k : List Key} {v : V} {u r : Value} {Q : Unit → Shared → Prop} (hu : X.A.units < cLine) (I : Inv X pins σ H s) (hD : H D = some (.dT kvs))
    (hz : kvs.length < sizeLine) (hb : H b = some (.tup (k.map kV))) (ry : RelV (.ref b) u) (rv : RelV v r) (h : ∀ s', Inv X pins σ (upd H D (.dT (putK kvs k v))) s' → Q () s') : wpAny (model X.prog X.w) X.A (dictSet D u r) Q E s := by
  obtain ⟨z, hd, xs, rel, dd⟩ := dt_of I.hok hD
  obtain rfl : u = Value.ref b := ry
  have l1 : xs.length ≤ sizeLine := by rw [← plen rel]; exact z
  have l2 : (putK kvs k v).length ≤ sizeLine := by
    have := length_putK kvs k v
    omega
  refine wpAny_dictSet_heap (hsz := l1) hu (key_of I.hok hb) dd fun h' dd' hs => h _ ?_
  obtain ⟨q, es, ep, g1, g2, g3, g4, _, g5⟩ := dd'
  have ka := (rel.put k hb rv).keeps (H' := upd H D (.dT (putK kvs k v))) fun c ys ec => by
    rw [upd_ne (ne_of ec hD (fun z => nomatch z))]
    exact ec
  exact d_write I (by rw [hD]; exact True.intro) hs ⟨q, g1⟩ ⟨l2, hd, _, ka, q, es, ep, g1, g2, g3, g4, g5⟩
def tDcT (wi : TI) (g : TG) (tt : TT) (tk tv : TE) (vs : List Nat) : TE := fun σ H Q => wi σ H fun J H1 => ∀ D, H1 D = none → ∃ W : Nat → Nat → Hp → Prop, (∃ m, W 0 m (upd H1 D (.dT []))) ∧ ∀ i m H, W i m H →
  (J.stop i H ∧ Q (.ref D) H) ∨ (J.go i H ∧ ∃ Nx : Hp → Prop, (∀ H', Nx H' → ∃ m', m' < m ∧ W (i + 1) m' H') ∧ ∀ x H', J.yld i H x H' → g x (wipe σ vs) H' fun σ2 H2 => wipe σ2 vs = wipe σ vs ∧ tt σ2 H2 fun b H3 =>
    if b = true then tk σ2 H3 fun y H4 => tv σ2 H4 fun z H5 => ∃ kvs k c, y = .ref c ∧ H5 c = some (.tup (k.map kV)) ∧ H5 D = some (.dT kvs) ∧ kvs.length < sizeLine ∧ Nx (upd H5 D (.dT (putK kvs k z))) else Nx H3)
theorem dcT_core {pins : List (Addr × Obj)} {s : Shared} {σ : L2.St} {H : Hp} {Q : VK} {use : Option (Value → Sem Unit)} {Qf : Value → Shared → Prop} {pos' : Pos} {kx vx tg iter : Expr} {ifs : List Expr} {scope : Scope} {own : List (Str × Nat)} {pos : Pos} {wi : TI} {g : TG} {tt : TT} {tk tv : TE} (hu : X.A.units < cLine) (hc : X.calm = true) (hN : X.N.Nodup) (I : Inv X pins σ H s) (hi : PI X tg iter wi) (ok : BlkOk X.N X.env.scope scope own)
    (hg : ∀ (s : Shared) (H : Hp) (C : Addr) (cl : List (Str × Addr)) (fp : List Addr), PG (X.blk s H scope (compEnvC scope cl C X.env) fp) tg g) (ht : ∀ (s : Shared) (H : Hp) (C : Addr) (cl : List (Str × Addr)) (fp : List Addr), PTs (X.blk s H scope (compEnvC scope cl C X.env) fp) ifs tt)
    (hk : ∀ (s : Shared) (H : Hp) (C : Addr) (cl : List (Str × Addr)) (fp : List Addr), PE (X.blk s H scope (compEnvC scope cl C X.env) fp) kx tk)
    (he : ∀ (s : Shared) (H : Hp) (C : Addr) (cl : List (Str × Addr)) (fp : List Addr), PE (X.blk s H scope (compEnvC scope cl C X.env) fp) vx tv) (hs : ∀ x, foldedSetIterable iter X.env x = pure x)
    (h : tDcT wi g tt tk tv (own.map (·.2)) σ H Q)
    (hRR : ∀ D C s' m H', Inv X pins σ H' s' → Q (.ref D) H' → s'.heap.Ns C m → FpOk X pins H' C → compPost (model X.prog X.w) X.A X.xe use Qf (.ref D) C (.ok .next) s') :
    wpAny (model X.prog X.w) X.A (comprehension (.DictComp kx vx [⟨tg, iter, ifs, 0⟩] scope pos) scope X.env pos' newDict false (eval iter X.env) use) Qf X.xe s := by
  have free : ∀ y ∈ scope.names, y.2 = .free → ∃ c, X.env.cells.lookup y.1 = some c := fun y hy e => I.ok.has _ (ok.free y hy e)
  refine wpAny_comprehension_free (use := use) rfl hs (closure_ok free) ok.kind (fun y hy e => by rw [ok.uniq y hy, e]) (thn (hi.run pins s σ H _ I h) fun xv s1 hx => thn hx fun itv s2 h2 => ?_)
  obtain ⟨it, fp, tn, J, H2, rfl, I2, T, st2, f2, q⟩ := h2
  refine wpAny_newObj_type (newEnv_comp ?_)
  generalize hD : s2.heap.objs.size = D
  have nD : H2 D = none := I2.hok.fresh (Nat.le_of_eq hD)
  obtain ⟨W, ⟨m0, w0⟩, turn⟩ := q D nD
  have up : ∀ b o, s2.heap.get? b = some o → (s2.heap.push { cls := .type "dict", data := .dict #[] }).get? b = some o := fun b o e => Heap.get?_push_of_some _ e
  generalize hs3 : ({ s2 with heap := s2.heap.push { cls := .type "dict", data := .dict #[] } } : Shared) = s3
  have h3 : s3.heap = s2.heap.push { cls := .type "dict", data := .dict #[] } := by rw [← hs3]
  have z3 : s3.heap.objs.size = s2.heap.objs.size + 1 := by rw [h3, Heap.size_push]
  have I3 : Inv X pins σ (upd H2 D (.dT [])) s3 := by
    rw [← hs3]
    exact I2.laid (t' := s2.toks) up (Nat.le_of_eq hD) (by rw [← hD]; exact dt_empty s2.heap I2.big)
  have f3 : ∀ b ∈ fp, FpOk X pins (upd H2 D (.dT [])) b ∧ b < s3.heap.objs.size := fun b hb => by
    obtain ⟨o, e, _⟩ := T.obj _ _ st2 b hb
    have hlt := Heap.lt_size e
    refine ⟨⟨?_, (f2 b hb).2⟩, by rw [z3]; exact Nat.lt_succ_of_lt hlt⟩
    rw [upd_ne (by rw [← hD]; exact Nat.ne_of_lt hlt)]
    exact (f2 b hb).1
  have st3 : tn 0 s3.heap := T.keep _ _ _ st2 fun b _ o e => by
    rw [h3]
    exact up b o e
  have I4 := block_start I3 ok hN f3
  have pg := hg s3 (upd H2 D (.dT [])) s3.heap.objs.size (cellsFrom (s3.heap.objs.size + 1) scope.names (cloFrom X.env.cells scope.names [])) fp
  have pt := ht s3 (upd H2 D (.dT [])) s3.heap.objs.size (cellsFrom (s3.heap.objs.size + 1) scope.names (cloFrom X.env.cells scope.names [])) fp
  have pk := hk s3 (upd H2 D (.dT [])) s3.heap.objs.size (cellsFrom (s3.heap.objs.size + 1) scope.names (cloFrom X.env.cells scope.names [])) fp
  have pe := he s3 (upd H2 D (.dT [])) s3.heap.objs.size (cellsFrom (s3.heap.objs.size + 1) scope.names (cloFrom X.env.cells scope.names [])) fp
  show codeAny _ _ (.compStart (.DictComp kx vx [⟨tg, iter, ifs, 0⟩] scope pos) 0 (.ref it) (.ref D) (compEnvC scope (cellsFrom (s3.heap.objs.size + 1) scope.names (cloFrom X.env.cells scope.names [])) s3.heap.objs.size X.env)) (compPost (model X.prog X.w) X.A X.xe use Qf (.ref D) s3.heap.objs.size) { s3 with heap := pushCells (s3.heap.push { cls := .type "dict", data := .dict #[] }) scope.names }
  generalize hce : compEnvC scope (cellsFrom (s3.heap.objs.size + 1) scope.names (cloFrom X.env.cells scope.names [])) s3.heap.objs.size X.env = ce at I4 pg pt pk pe ⊢
  have cL : ce.locals = s3.heap.objs.size := by
    subst hce
    rfl
  generalize hH3 : upd H2 D (.dT []) = H3 at I3 I4 pg pt pk pe w0 f3
  generalize hs4 : ({ s3 with heap := pushCells (s3.heap.push { cls := .type "dict", data := .dict #[] }) scope.names } : Shared) = s4 at I4 ⊢
  have st4 : tn 0 s4.heap := T.keep _ _ _ st3 fun b _ o e => by
    rw [← hs4]
    exact pushCells_keeps _ _ _ _ (Heap.get?_push_of_some _ e)
  have stat : ∀ {σ' : L2.St} {H' : Hp} {s' : Shared}, Inv (X.blk s3 H3 scope ce fp) [] σ' H' s' → (∀ b ∈ fp, H' b = none) → ∀ b ∈ fp, FpOk (X.blk s3 H3 scope ce fp) [] H' b := fun {σ' H' s'} I' hn b hb =>
    ⟨hn b hb, (I'.ok.exf b hb).1, I'.ok.exfs b hb, .inl hb, fun x c e => (I'.ok.exf b hb).2 x c e, fun p hp => absurd (show p ∈ ([] : List (Addr × Obj)) ++ [] from hp) (by simp)⟩
  have loop : codeAny (model X.prog X.w) X.A (.compLoop (.DictComp kx vx [⟨tg, iter, ifs, 0⟩] scope pos) 0 (.ref it) (.ref D) ce) (compPost (model X.prog X.w) X.A X.xe use Qf (.ref D) s3.heap.objs.size) s4 := by
    refine compLoop_anyD (fun n s' => ∃ i H', Inv (X.blk s3 H3 scope ce fp) [] (wipe σ (own.map (·.2))) H' s' ∧ tn i s'.heap ∧ (∀ b ∈ fp, H' b = none) ∧ W i n H') ?_ m0 ⟨0, H3, I4, st4, fun b hb => (f3 b hb).1.1, w0⟩
    rintro n s5 ⟨i, H5, I5, st5, n5, w5⟩
    rcases turn i n H5 w5 with ⟨stop, qq⟩ | ⟨go, Nx, hNx, step⟩
    · refine thnF (T.done (X.blk s3 H3 scope ce fp) rfl rfl rfl hc i [] s5 _ H5 (fun _ _ => False) I5 (stat I5 n5) st5 stop) fun r s6 ⟨hr, I6⟩ => ?_
      subst hr
      have I7 : Inv X pins σ H5 s6 := I3.call' (ch := fp) I6.os I6.base I6.hok I6.bare fun b hb => ⟨(f3 b hb).1.2.2.2.1, (f3 b hb).1.2.1, (f3 b hb).1.2.2.2.2.1, (f3 b hb).1.2.2.2.2.2⟩
      have nC : H5 s3.heap.objs.size = none := by
        have z : H5 ce.locals = none := I6.free
        rwa [cL] at z
      obtain ⟨m, hn, _⟩ := I6.loc
      have hn : s6.heap.Ns ce.locals m := hn
      rw [cL] at hn
      exact hRR D s3.heap.objs.size s6 m H5 I7 qq hn (I3.fpOk (Nat.le_refl _) nC)
    · refine thnF (T.item (X.blk s3 H3 scope ce fp) rfl rfl rfl hc i [] s5 _ H5 (fun _ _ => False) I5 (stat I5 n5) st5 go) fun r s6 ⟨u, hr, h6⟩ => ?_
      subst hr
      refine thnF h6 fun _ s7 ⟨x, H7, I7, r7, y7, st7, n7⟩ => ?_
      refine thnF (pg.run _ s7 _ H7 x u _ (I7.pinned (stat I7 n7) (T.obj _ _ st7)) r7 (step x H7 y7)) fun _ s8 ⟨σ8, H8, I8, hw8, q8⟩ => ?_
      refine thnF (pt.run _ s8 σ8 H8 _ I8 q8) fun b s9 ⟨H9, I9, q9⟩ => ?_
      have fin : ∀ {s' : Shared} {H' : Hp}, Inv (X.blk s3 H3 scope ce fp) ([] ++ pinsAt fp s7.heap) σ8 H' s' → Nx H' → ∃ m, m < n ∧ ∃ i H', Inv (X.blk s3 H3 scope ce fp) [] (wipe σ (own.map (·.2))) H' s' ∧ tn i s'.heap ∧ (∀ b ∈ fp, H' b = none) ∧ W i m H' := fun {s' H'} I' nx => by
        obtain ⟨m', hm, w'⟩ := hNx H' nx
        have pin' : ∀ b ∈ fp, ∀ o, s7.heap.get? b = some o → s'.heap.get? b = some o ∧ H' b = none := fun b hb o e =>
          let z := I'.pin (b, o) (List.mem_append_right _ (List.mem_append_right _ (mem_pinsAt hb e)))
          ⟨z.1, z.2.1⟩
        refine ⟨m', hm, i + 1, H', (I'.unpinned (pins := [])).weak (by rw [← hw8, wipe_length]) (fun j v e => by rw [← hw8] at e; exact (wipe_some e).1), T.keep _ _ _ st7 fun b hb o e => (pin' b hb o e).1, fun b hb => ?_, w'⟩
        obtain ⟨o, e, _⟩ := T.obj _ _ st7 b hb
        exact (pin' b hb o e).2
      cases b with
      | false =>
        simp only [Bool.false_eq_true, if_false] at q9 ⊢
        exact fin I9 q9
      | true =>
        simp only [if_true] at q9 ⊢
        refine thnF (pk.run _ s9 σ8 H9 _ I9 q9) fun z s10 ⟨yk, H10, I10, r10, q10⟩ => thnF (pe.run _ s10 σ8 H10 _ I10 q10) fun z2 s11 ⟨yv, H11, I11, r11, kvs, k, c, ek, hc11, hD11, hz11, nx⟩ => ?_
        subst ek
        exact d_setT (X := X.blk s3 H3 scope ce fp) hu I11 hD11 hz11 hc11 r10 r11 fun s12 I12 => fin I12 nx
  exact codeAny_compStart_dict loop (T.self X.A 0 _ _ _ st4 loop)
theorem pe_dcT {kx vx tg iter : Expr} {ifs : List Expr} {scope : Scope} {own : List (Str × Nat)} {pos : Pos} {wi : TI} {g : TG} {tt : TT} {tk tv : TE} (hu : X.A.units < cLine) (hc : X.calm = true) (hN : X.N.Nodup) (hi : PI X tg iter wi) (ok : BlkOk X.N X.env.scope scope own)
    (hg : ∀ (s : Shared) (H : Hp) (C : Addr) (cl : List (Str × Addr)) (fp : List Addr), PG (X.blk s H scope (compEnvC scope cl C X.env) fp) tg g) (ht : ∀ (s : Shared) (H : Hp) (C : Addr) (cl : List (Str × Addr)) (fp : List Addr), PTs (X.blk s H scope (compEnvC scope cl C X.env) fp) ifs tt)
    (hk : ∀ (s : Shared) (H : Hp) (C : Addr) (cl : List (Str × Addr)) (fp : List Addr), PE (X.blk s H scope (compEnvC scope cl C X.env) fp) kx tk)
    (he : ∀ (s : Shared) (H : Hp) (C : Addr) (cl : List (Str × Addr)) (fp : List Addr), PE (X.blk s H scope (compEnvC scope cl C X.env) fp) vx tv) (hs : ∀ x, foldedSetIterable iter X.env x = pure x := by intro _; rfl) :
    PE X (.DictComp kx vx [⟨tg, iter, ifs, 0⟩] scope pos) (tDcT wi g tt tk tv (own.map (·.2))) := by
  refine ⟨fun pins s σ H Q I h => ?_⟩
  rw [arm_eval_DictComp]
  refine dcT_core hu hc hN I hi ok hg ht hk he hs h fun D C s' m H' I' q hn f => ⟨m, hn, fun h'' sb => ?_⟩
  obtain ⟨f0, f1, f2, f3, f4, f5⟩ := f
  exact ⟨.ref D, H', I'.turned (t' := s'.toks) (fun b o hb e => (sb.2 b hb).trans e) f0 f1 f3 f4 f5, rfl, q⟩
end
end K43
-- part R6
/-! R6: any(sign not in self.letters() for sign in text): the generator's element calls a method; that call over the library. -/
namespace K43
open PySem PySem.Spec PyProof.Rows L2
section
variable {P : Program} {w : World} {K : PySem.W.Frag} {mg : Str → Option Value} {base : Heap} {cS cF cG cT cM cK : Addr}
theorem keeps_step {s : Shared} {h' : Heap} {k : Nat} (h : ∀ b o, s.heap.get? b = some o → h'.get? b = some o) : Keeps s { s with heap := h', toks := k } := ⟨h', k, rfl, h⟩
theorem Keeps.tr {s s1 s2 : Shared} (a : Keeps s s1) (b : Keeps s1 s2) : Keeps s s2 := by
  obtain ⟨h1, k1, rfl, e1⟩ := a
  obtain ⟨h2, k2, rfl, e2⟩ := b
  exact ⟨h2, k2, rfl, fun c o e => e2 c o (e1 c o e)⟩
theorem Keeps.at {s s1 : Shared} (a : Keeps s s1) {b : Addr} {o : Obj} (e : s.heap.get? b = some o) : s1.heap.get? b = some o := by
  obtain ⟨h1, k1, rfl, e1⟩ := a
  exact e1 b o e
def abcTo (n : Nat) : Str := cutS "abc" none (some (n : Int))
/-- z[:n] -/
theorem slice_to {A : Around} {E : Value → Shared → Prop} {s : Shared} {z : Str} {t : Tok} {n : Int} {k : Tok} {sl : Addr} {Q : Value → Shared → Prop} (hs : s.heap.IsSliceOf sl .none (.int n k) .none) (hz : z.length ≤ sizeLine)
    (q : ∀ t' tk, Q (.str (cutS z none (some n)) t') { s with toks := tk }) : wpAny (model P w) A (getItem (.str z t) (.ref sl)) Q E s := by
  obtain ⟨os, hos, hcs, hds⟩ := hs
  refine wpAny_getItem_str_slice (l := none) (u := some (n, k)) (st := none) ⟨os, hos, hcs, hds⟩ rfl ?_
  have hl : (PySem.StrLaws.sliceText z none (some n)).length ≤ sizeLine := by
    rw [sliceText_cut]
    exact Nat.le_trans (cutS_length z _ _) hz
  rw [← sliceText_cut] at q
  unfold PySem.StrLaws.sliceText at q hl
  show Made.post (if ((1 : Int) == 1 && (Builtin.Str.strSliceIndices none (some n) 1 z.length).length == z.length) = true then Made.val (.str z t)
    else Made.str ⟨((Builtin.Str.strSliceIndices none (some n) 1 z.length).filterMap (z.cps[·]?)).toArray⟩) Q s
  by_cases c : ((1 : Int) == 1 && (Builtin.Str.strSliceIndices none (some n) 1 z.length).length == z.length) = true
  · rw [if_pos c] at q ⊢
    exact q t s.toks
  · rw [if_neg c] at q hl ⊢
    exact ⟨hl, q _ _⟩
theorem lib_letters (T : Txt K mg cS cF cG cT cM cK) {A : Around} {E : Value → Shared → Prop} {s : Shared} {a dx pw : Addr} {mA : Str → Option Value} {its : Array Value} {Q : Value → Shared → Prop} {pl : Sem Bool} {pos : Pos} {env : Env}
    (hd : A.depth < recursionLimit) (md : Mod K mg base) (bk : ∀ b o, base.get? b = some o → s.heap.get? b = some o) (O : ObjM s.heap a dx cF mA) (hm : mA "letters" = none) (hw : mA "weights" = some (.ref pw)) (ht : s.heap.IsTuple pw its) (hz : its.size ≤ 1000)
    (q : ∀ t s', Keeps s s' → Q (.str (abcTo its.size) t) s') : wpAny (model P w) A (getMethod (.ref a) "letters" pl) (fun fx s1 => wpAny (model P w) A (callWith pos fx.1 fx.2 (backTo pos (starEach [] env)) []) Q E s1) E s := by
  obtain ⟨f, fd, F, M, b⟩ := T.m_cF_letters.ex
  have kin : K.In s.heap := md.kin.keeps bk
  have lim : s.heap.NoLimit := md.nolimit.keeps bk
  refine get_meth kin O (T.l_cF.get _) M.at_ M.fn hm ?_
  refine PySem.W.callWith_K0 (first := [.ref a]) kin M.kp ?_
  obtain ⟨oc, od, kV, doc, pm, an, cdv, ct, osl, rfl, lk, hcd⟩ := F.ex
  refine wpAny_call (codeAny_call_function hd (kin _ _ lk) rfl rfl rfl rfl (PySem.W.codeRec_of kin hcd) (b s [.ref a] kin rfl _ _ _ _ ?_))
  refine wpAny_newFunctionEnv_cells rfl (fun y hy => .inl ?_) fun en he s1 x => ?_
  · rw [List.mem_singleton.mp hy]
    rfl
  subst he
  obtain ⟨h1, tk, rfl, hk⟩ := x.done
  refine ⟨lim.keeps hk, codeAny_func ?_⟩
  have kin1 : K.In h1 := kin.keeps hk
  have bk1 : ∀ b o, base.get? b = some o → h1.get? b = some o := fun b o e => hk b o (bk b o e)
  have O1 : ObjM h1 a dx cF mA := ⟨hk _ _ O.obj, O.ns.at fun o e => hk _ o e, O.ne⟩
  have ht1 : h1.IsTuple pw its := ht.at fun o e => hk _ o e
  have hloc := x.toInCall.ns
  obtain ⟨tz, gz⟩ := T.z_LETTERS
  obtain ⟨mb, g1, g2⟩ := md.blt
  show wpAny (model P w) _ (execs [.Return (some (.Subscript (.Name "LETTERS" _) (.Slice none (some (.Call (.Name "len" _) [.Attribute (.Name "self" _) "weights" _] [] _)) none _) _)) _] _) _ _ _
  refine wpAny_execs_cons (wpAny_Return_some (Subscript_ ?_))
  refine Calls.Name_function_global rfl rfl (Calls.loadGlobal_global (md.glob.keeps bk1) gz ?_) (by decide)
  refine wpAny_Slice ?_
  rw [evalPart_none, evalPart_some]
  refine wpAny_pure ?_
  refine wpAny_Call_Name_kw (Calls.Name_function_global rfl rfl (Calls.loadGlobal_builtin (md.glob.keeps bk1) T.z_len (g1.keeps bk1) ((g2 "len" (by decide)).trans (by decide +kernel : bootBuiltins "len" = some (.builtin "len"))) ?_) (by decide))
  refine PyProof.Rows.callWith_builtin1 (Calls.spliced_cons (attr_of rfl ?_)) rfl rfl
  refine wpAny_Name (wpAny_loadName_local rfl rfl hloc (v := .ref a) rfl ?_) (by decide)
  refine get_map kin1 O1 (T.l_cF.get _) T.l_cF.hd T.n_cF_weights hw rfl ?_
  refine Calls.spliced_nil ?_
  refine len_tuple (s := { s with heap := h1, toks := tk + 1 }) ht1 (by omega) ?_
  refine wpAny_pure ?_
  refine tail_any (ops := [.ref _, .str "abc" tz]) (typeIs_str _ _ _) PySem.F.slot_str_getitem.lookup (slice_to (n := (its.size : Int)) (k := tk + 1 + 1) (Heap.IsSliceOf.new ..) (by decide) fun t' tk' => ?_) (by with_unfolding_all rfl)
  exact q t' _ ⟨_, _, rfl, fun b o e => Heap.get?_push_of_some _ (hk b o e)⟩
end
section
variable {X : Cx} {K : PySem.W.Frag} {cS cF cG cT cM cK : Addr}
theorem ev_meth0 (x : Str) (p : Pos) (name : Str) (apos pos : Pos) (env : Env) (hl : (apos.endLine == pos.line) = true) : eval (.Call (.Attribute (.Name x p) name apos) [] [] pos) env = (do
      let ov ← eval (.Name x p) env
      standAt apos.atName
      let (f, first) ← holding [ov] (getMethod ov name (do return (← importBound (.Name x p) env).getD true))
      callWith pos f first (backTo pos (starEach [] env)) (backToKw pos (keywordEach [] env))) := by
  have e : methodCallPos true (.Name x p) env apos pos = pure pos := by
    unfold methodCallPos
    rw [hl]
    rfl
  rw [arm_eval_Call]
  have e2 : ∀ ov n a k, methodCallForm n a k = true → methodCall (.Name x p) name apos pos env ov n a k = (do
      let (f, first) ← holding [ov] (getMethod ov name (do return (← importBound (.Name x p) env).getD true))
      callWith pos f first a k) := fun ov n a k h => by
    unfold methodCall
    rw [h, e]
    rfl
  have e3 : attributeBase (.Name x p) name env (eval (.Name x p) env) = eval (.Name x p) env := rfl
  rw [e3]
  congr 1
  funext ov
  congr 1
  funext _
  exact e2 ov _ _ _ rfl
/-- an instance that lies at a name -/
structure FarIn (X : Cx) (cF : Addr) (H : Hp) (a : Addr) (n : Nat) : Prop where
  ex : ∃ dx fs pw ws, H a = some (.ins cF dx fs) ∧ fs.lookup ("letters" : Str) = none ∧ fs.lookup ("weights" : Str) = some (.ref pw) ∧ SqT X.K H pw ws ∧ ws.length = n ∧ n ≤ 1000
/-- the element: does the sign stand outside the letters? -/
theorem elt_letters {pins : List (Addr × Obj)} {σ : L2.St} {H1 : Hp} {s1 : Shared} {a ca : Addr} {n : Nat} {c : Nat} {t : Tok} {cenv : Env} {A' : Around} {E' : Value → Shared → Prop} {s2 : Shared} {m2 : Str → Option Value} {p1 p2 p3 p4 p5 : Pos} {pl : Sem Bool}
    (hev : eval (.Call (.Attribute (.Name "self" p2) "letters" p3) [] [] p4) cenv = (do
      let ov ← eval (.Name "self" p2) cenv
      standAt p3.atName
      let (f, first) ← holding [ov] (getMethod ov "letters" pl)
      callWith p4 f first (backTo p4 (starEach [] cenv)) (backToKw p4 (keywordEach [] cenv))))
    (T : Txt X.K X.mg cS cF cG cT cM cK) (I : Inv X pins σ H1 s1) (Fa : FarIn X cF H1 a n) (hcell : s1.heap.IsCell ca (some (.ref a))) (hd : A'.depth < recursionLimit)
    (kp : ∀ b o, (∀ ps, o ≠ { cls := .none, data := .fields ps }) → s1.heap.get? b = some o → s2.heap.get? b = some o) (nP : ∀ b o, X.base.get? b = some o → s2.heap.get? b = some o)
    (hk : cenv.scope.kind = .function) (hl : cenv.scope.names.lookup ("sign" : Str) = some .local) (hf : cenv.scope.names.lookup ("self" : Str) = some .free) (hc : cenv.cells.lookup ("self" : Str) = some ca) (hn : s2.heap.Ns cenv.locals m2) (hm : m2 ("sign" : Str) = some (.str ⟨#[c]⟩ t)) :
    wpAny (model X.prog X.w) A' (eval (.Compare (.Name "sign" p1) [.NotIn] [.Call (.Attribute (.Name "self" p2) "letters" p3) [] [] p4] p5) cenv) (fun y s3 => y = .bool (!decide (c ∈ (abcTo n).cps.toList)) ∧ Keeps s2 s3) E' s2 := by
  obtain ⟨dx, fs, pw, ws, ha, l1, l2, hw, rfl, hz⟩ := Fa.ex
  obtain ⟨mA, O, r, _, _, _⟩ := ins_get I.hok ha
  have hm1 : mA ("letters" : Str) = none := RelO.none_of (by rw [← l1]; exact r ("letters" : Str))
  obtain ⟨u, hu, ru⟩ := RelO.some_of (v := .ref pw) (o := mA ("weights" : Str)) (by rw [← l2]; exact r ("weights" : Str))
  obtain rfl : u = .ref pw := ru
  obtain ⟨its, rv, ht, _⟩ := I.tuple hw
  have hsz : its.toArray.size = ws.length := by rw [List.size_toArray]; exact rv.length.symm
  have O2 : ObjM s2.heap a dx cF mA := by
    refine ⟨kp _ _ (fun ps z => by cases z) O.obj, ?_, O.ne⟩
    obtain ⟨o, es, ep, h1, h2, h3⟩ := O.ns
    exact ⟨o, es, ep, kp _ _ (fun ps z => by rw [z] at h2; cases h2) h1, h2, h3⟩
  have ht2 : s2.heap.IsTuple pw its.toArray := by
    obtain ⟨o, h1, h2, n, h3⟩ := ht
    exact ⟨o, kp _ _ (fun ps z => by rw [z] at h3; cases h3) h1, h2, n, h3⟩
  have hcell2 : s2.heap.IsCell ca (some (.ref a)) := by
    obtain ⟨o, h1, h2⟩ := hcell
    exact ⟨o, kp _ _ (fun ps z => by rw [z] at h2; cases h2) h1, h2⟩
  refine wpAny_Compare1 ?_
  refine wpAny_Name (wpAny_loadName_local hk hl hn hm ?_) (by decide)
  refine PySem.W.methodCall_KW (pl := pl) ?_ hev
  · refine wpAny_Name (wpAny_loadName_free hk hf hc hcell2 ?_ (by decide)) (by decide)
    refine lib_letters T hd I.ok.mod nP O2 hm1 hu ht2 (by omega) fun t' s' ks => ?_
    refine PyProof.Rows.notIn_str ⟨?_, ks⟩
    rw [hsz]
    exact congrArg Value.bool (congrArg Bool.not (PySem.StrLaws.found_one _ c))
/-- any(sign not in self.letters() for sign in text), in a def whose self is captured (slot i) -/
def tAnyL (PT cF : Addr) (X : Cx) (i : Nat) (te : TE) : TE := fun σ H Q => te σ H fun v H1 => ∃ (z : Str) (a : Addr) (n : Nat), v = .str z ∧ TabG H1 PT ∧ σ[i]? = some (some (.ref a)) ∧ FarIn X cF H1 a n ∧
  ∀ H2, GxR.Tabbed PT H1 H2 → Q (.bl (z.cps.toList.any fun c => !decide (c ∈ (abcTo n).cps.toList))) H2
theorem pe_anyL {c PT : Addr} {iter : Expr} {px p pos gpos : Pos} {scope : Scope} {te : TE} {k i : Nat} {p1 p2 p3 p4 p5 : Pos}
    (T : Txt X.K X.mg cS cF cG cT cM cK) (hr : Room k X.A) (hg : Gl X "any") (TB : GxR.TabB X.base X.mg c PT) (hcode : X.env.code = .ref c) (S : GxR.GenS X.env scope "sign") (hself : (("self" : Str), NameKind.free) ∈ scope.names) (hse : scope.names.lookup ("self" : Str) = some .free)
    (hN : X.N[i]? = some ("self" : Str)) (hcl : X.env.scope.names.lookup ("self" : Str) = some .cell) (hi : PE X iter te) (hs : ∀ v, genFold iter X.env v = pure v)
    (hln : (p3.endLine == p4.line) = true)
    (he : starEach [.GeneratorExp (.Compare (.Name "sign" p1) [.NotIn] [.Call (.Attribute (.Name "self" p2) "letters" p3) [] [] p4] p5) [⟨.Name "sign" px, iter, [], 0⟩] scope gpos] X.env = (false, eval (.GeneratorExp (.Compare (.Name "sign" p1) [.NotIn] [.Call (.Attribute (.Name "self" p2) "letters" p3) [] [] p4] p5) [⟨.Name "sign" px, iter, [], 0⟩] scope gpos) X.env) :: starEach [] X.env := by rfl) :
    PE X (.Call (.Name "any" p) [.GeneratorExp (.Compare (.Name "sign" p1) [.NotIn] [.Call (.Attribute (.Name "self" p2) "letters" p3) [] [] p4] p5) [⟨.Name "sign" px, iter, [], 0⟩] scope gpos] [] pos) (tAnyL PT cF X i te) := by
  refine ⟨fun pins s σ H Q I h => ?_⟩
  refine wpAny_Call_Name_kw (ld_blt I hg T.z_any boot_any ?_)
  refine PyProof.Rows.callWith_builtin1 ?_ he (by rfl)
  rw [he]
  refine Calls.spliced_cons ?_
  refine wpAny_GeneratorExp_walksQD hr.hd S.co (closure_ok S.free) S.cell S.dot S.loc S.kind (by have := hr.dp; omega) ?_ hs
  refine thn (hi.run pins s σ H _ I h) fun xv s1 ⟨v, H1, I1, r1, q1⟩ => ?_
  obtain ⟨z, a, n, rfl, ⟨ps, hP, htr⟩, hσ, Fa, q⟩ := q1
  obtain ⟨t, rfl⟩ := _root_.id r1
  -- the captured name's cell
  obtain ⟨ml, _, hl⟩ := I1.loc
  obtain ⟨u, ru, lu⟩ := hl i _ _ hN hσ (.inr (.inl hcl))
  obtain rfl : u = Value.ref a := ru
  obtain ⟨ca, hca, hcell⟩ : ∃ ca, X.env.cells.lookup ("self" : Str) = some ca ∧ s1.heap.IsCell ca (some (.ref a)) := by
    rcases lu with ⟨k1, _⟩ | ⟨_, ca, h1, h2⟩
    · have k2 : X.env.scope.names.lookup ("self" : Str) = some .local := k1
      rw [hcl] at k2
      cases k2
    · exact ⟨ca, h1, h2⟩
  have hclo : (cloFrom X.env.cells scope.names []).lookup ("self" : Str) = some ca := NdefX.clo_has S.free hself hca
  refine wpAny_pyIter_str fun o St W hst => ?_
  have hPs : s1.heap.get? PT = some { cls := .none, data := .fields ps } := I1.hok PT _ hP
  have hPlt : PT < s1.heap.objs.size := Heap.lt_size hPs
  have hP2 : (s1.heap.push o).get? PT = some { cls := .none, data := .fields ps } := Heap.get?_push_of_some _ hPs
  have cd : PySem.W.CodeHd (s1.heap.push o) c PT := TB.code.keeps fun b u e => Heap.get?_push_of_some _ (I1.bk b u e)
  have lim2 : (s1.heap.push o).NoLimit := I1.nolimit.push o
  have baseP : ∀ b u, X.base.get? b = some u → b ≠ PT := fun b u e z => by
    have := (I1.bs b u e).2
    rw [z, hP] at this
    cases this
  have cont : ∀ (code : Value) (h3 : Heap) (tk : Nat) (ps' : Array Value), Heap.ExtBut PT (s1.heap.push o) h3 → (s1.heap.push o).objs.size ≤ h3.objs.size → h3.get? PT = some { cls := .none, data := .fields ps' } → (∃ more, ps' = ps ++ more) → TriplesOk ps'.toList →
      wpAny (model X.prog X.w) X.A (builtinsFor X.env.globals X.env.builtins) (fun bi s₄ =>
        ∃ Ia fp wr n₀ Pf St₀ pz F, Value.ref s1.heap.objs.size = .ref Ia ∧ (∀ A' : Around, A'.handled = none → Walks X.prog X.w A' Ia fp wr n₀ Pf St₀) ∧ St₀ 0 s₄.heap ∧ (∀ b ∈ fp, b < s₄.heap.objs.size) ∧ s₄.heap.NoLimit ∧ cStatics ∉ wr ∧
          (∀ href : Heap, (∀ b o, s₄.heap.get? b = some o → href.get? b = some o) →
            QuietGenD X.prog X.w (genEnv scope (cloFrom X.env.cells scope.names []) s₄.heap.objs.size code bi X.env) "sign" [] (.Compare (.Name "sign" p1) [.NotIn] [.Call (.Attribute (.Name "self" p2) "letters" p3) [] [] p4] p5) (List.range s₄.heap.objs.size) wr Pf pz F href (X.A.depth + 1) (X.A.units + 8)) ∧
          (∀ a h₅ tk gs, gs.bare = true → s₄.heap.objs.size < a → h₅.objs.size = a + 1 → (∀ b o, s₄.heap.get? b = some o → h₅.get? b = some o) →
            WalksS X.prog X.w X.A.in4 a (a :: s₄.heap.objs.size :: List.range s₄.heap.objs.size) (s₄.heap.objs.size :: wr) (GenOnlyQ s₄.gens.size) (passing pz n₀ 0).length
              (fun j y => ∃ i, (passing pz n₀ 0)[j]? = some i ∧ F i y) (GenAt X.prog X.w X.A.in4 a s₄.gens.size s₄.heap.objs.size (List.range s₄.heap.objs.size) wr pz n₀ F) →
            GenAt X.prog X.w X.A.in4 a s₄.gens.size s₄.heap.objs.size (List.range s₄.heap.objs.size) wr pz n₀ F 0 { s₄ with gens := s₄.gens.push gs, toks := tk, heap := h₅ } →
            wpAny (model X.prog X.w) X.A (spliced (backTo pos (starEach [] X.env))) (fun vs s2 => wpAny (model X.prog X.w) X.A (call (.builtin "any") (.ref a :: vs)) (EP X pins σ Q) X.xe s2) X.xe { s₄ with gens := s₄.gens.push gs, toks := tk, heap := h₅ })) X.xe { s1 with heap := h3, toks := tk } := by
    intro code h3 tk ps' hx hsz hP3 hmore ht3
    obtain ⟨bm, ob, e1, e2, e3, e4, e5, e6, e7, e8⟩ := TB.bm
    have hcP : cStatics ≠ PT := fun e => by
      obtain ⟨_, hns, _⟩ := I1.nolimit
      obtain ⟨o', es, ep, ho, hd, _⟩ := hns
      rw [e, hPs] at ho
      cases ho
      cases hd
    have hcs : cStatics < s1.heap.objs.size := let ⟨_, hns, _⟩ := I1.nolimit; hns.lt
    have sz2 : (s1.heap.push o).objs.size = s1.heap.objs.size + 1 := Heap.size_push ..
    have keep3 : ∀ b u, b ≠ PT → s1.heap.get? b = some u → h3.get? b = some u := fun b u hb e => hx b u hb (Heap.get?_push_of_some _ e)
    refine wpAny_builtinsFor (m := X.mg) (by rw [I1.ok.glob]; exact ((I1.mod.glob.keeps I1.bk).push o).extBut hx TB.gP) e1 e2 (keep3 _ _ e4 (I1.bk _ _ e5)) e6 e7 e8 ?_
    refine ⟨s1.heap.objs.size, [s1.heap.objs.size], [s1.heap.objs.size], z.cps.size, SignAt z, St, (fun _ => true), (fun i y => ∃ cc, z.cps[i]? = some cc ∧ y = .bool (!decide (cc ∈ (abcTo n).cps.toList))), rfl, W, ?_, ?_, lim2.extBut hx hcP, ?_, ?_, ?_⟩
    · refine (W X.A hr.hd).frame _ _ _ hst fun b hb u e => hx b u (fun y => ?_) e
      exact Nat.ne_of_lt hPlt (y.symm.trans (List.mem_singleton.mp hb))
    · intro b hb
      rw [List.mem_singleton.mp hb]
      show s1.heap.objs.size < h3.objs.size
      omega
    · intro y
      exact Nat.ne_of_lt hcs (List.mem_singleton.mp y)
    · intro href hhref
      refine ⟨fun A' E' i v s₂ m₂ hA _ _ hPv hn hm hk => ?_, fun A' E' i v s₂ m₂ hA hD _ hPv hp hn hm hk => ?_⟩
      · simp only [List.forIn_nil]
        exact wpAny_pure ⟨rfl, GxR.keeps_refl _⟩
      · obtain ⟨cc, u, hcc, rfl⟩ := hPv
        have kp : ∀ b o, b ≠ PT → s1.heap.get? b = some o → s₂.heap.get? b = some o := fun b o hb e => by
          have hlt := Heap.lt_size e
          refine hk b (List.mem_range.mpr ?_) (fun y => Nat.ne_of_lt hlt (List.mem_singleton.mp y)) o (hhref b o (keep3 b o hb e))
          show b < h3.objs.size
          exact Nat.lt_of_lt_of_le hlt (by omega)
        refine wpAny_mono (elt_letters (cenv := genEnv scope (cloFrom X.env.cells scope.names []) h3.objs.size code builtinsNs X.env) (ev_meth0 _ _ _ _ _ _ hln) T I1 Fa hcell (by have := hr.dp; omega) (fun b o hne e => kp b o (fun y => by rw [y, hPs] at e; exact hne ps (Option.some.inj e).symm) e) (fun b o e => kp b o (baseP b o e) (I1.bk b o e)) S.kind S.loc hse hclo hn hm) (fun y s3 r => ⟨⟨cc, hcc, r.1⟩, r.2⟩) fun _ _ e => e
    · intro g h5 tk5 gs hgb hag hsz5 hk5 W5 hat
      simp only [GxR.passing_true, List.length_range] at W5
      refine Calls.spliced_nil ?_
      have htr2 : TruthOf X.prog X.w X.A.in1 (fun j y => ∃ i, (passing (fun _ => true) z.cps.size 0)[j]? = some i ∧ ∃ cc, z.cps[i]? = some cc ∧ y = .bool (!decide (cc ∈ (abcTo n).cps.toList))) (GxR.trF (fun c => !decide (c ∈ (abcTo n).cps.toList)) z.cps.toList) := by
        intro j y sj Qj Ej hy hQj
        obtain ⟨i, hij, cc, hcc, rfl⟩ := hy
        rw [GxR.passing_true] at hij
        obtain ⟨hj, ej⟩ := List.getElem?_eq_some_iff.mp hij
        rw [List.getElem_range] at ej
        subst ej
        have e9 : z.cps.toList[j]? = some cc := by rw [Array.getElem?_toList]; exact hcc
        have hQ2 : Qj (GxR.trF (fun c => !decide (c ∈ (abcTo n).cps.toList)) z.cps.toList j) sj := hQj
        rw [GxR.trF_some e9] at hQ2
        exact wpAny_truthy_bool hQ2
      simp only [GxR.passing_true] at htr2
      refine call_any_walkS (W5.in4_1.self 0 _ _ _ hat ⟨g, _, _, _, _, _, _, _, rfl, W5.in4_1, hat, htr2, fun s' hm => ?_⟩)
      obtain ⟨more, em⟩ := hmore
      have nwr : ∀ b u, s1.heap.get? b = some u → b ∉ h3.objs.size :: [s1.heap.objs.size] := fun b u e hb => by
        have hlt := Heap.lt_size e
        rcases List.mem_cons.mp hb with y | y
        · rw [y] at hlt
          have h9 : (h3.objs.size : Nat) < s1.heap.objs.size := hlt
          omega
        · exact Nat.ne_of_lt hlt (List.mem_singleton.mp y)
      have J := GxR.inv_tab (more := more) (h' := s'.heap) (g' := s'.gens) (d' := s'.drawn) (t' := s'.toks) I1 hP (fun b u hb e => hm.heap b u (nwr b u e) (hk5 b u (keep3 b u hb e)))
        (by rw [← em]; exact hm.heap PT _ (nwr PT _ hPs) (hk5 PT _ hP3)) (AllBare.movedS (I1.bare.push hgb) hm)
      rw [GxR.sh_eta s1 s' hm.os] at J
      refine ⟨.bl _, _, J, rfl, ?_⟩
      rw [GxR.any_signs z]
      exact q _ ⟨⟨ps ++ more, upd_same, by rw [← em]; exact ht3⟩, fun b hb => upd_ne hb⟩
  refine ⟨lim2, ?_⟩
  cases hf : codeAmong gpos ps.toList with
  | none =>
    refine wpAny_genexprCodeX hcode (cd.code hP2 htr) (cd.tab hP2) hf fun c' h' tk hx hge hlt hco' _ htab' _ => ?_
    obtain ⟨o1, vs, f1, tf, fl, tg, inF, tx, tt, op, _, _, _, _, _, _, _, _, _, htr', _⟩ := hco'
    exact cont _ h' tk _ hx (Nat.le_trans hge (Nat.le_of_lt hlt)) htab'.2 ⟨_, rfl⟩ htr'
  | some cv =>
    refine wpAny_genexprCode_hit hcode (cd.code hP2 htr) hf ?_
    exact cont cv (s1.heap.push o) s1.toks ps (Heap.ExtBut.refl _ _) (Nat.le_refl _) hP2 ⟨#[], by simp⟩ htr
end
end K43
-- part W5
/-! W5: Far: made, letters. -/
namespace K43
open PySem PySem.Spec PyProof.Rows L2
section
variable {P : Program} {w : World} {K : PySem.W.Frag} {mg : Str → Option Value} {base : Heap} {cS cF cG cT cM cK : Addr} {PT : Addr}
theorem Ext.made {G H : Hp} {C x dx : Addr} (c : Cl PT G H) (nx : H x = none) (nd : H dx = none) (ne : dx ≠ x) : Ext PT nM G H G (upd (upd H dx (.own x)) x (.ins C dx [])) := by
  have e1 : Ext PT nM G H G (upd H dx (.own x)) := Ext.loc c nd
  exact e1.trans (Ext.loc e1.c (by rw [upd_ne ne.symm]; exact nx))
/-! ### Far -/
theorem mem_sum : ∀ {l : List Nat} {a : Nat}, a ∈ l → a ≤ l.sum
  | b :: r, a, h => by
    rw [List.sum_cons]
    rcases List.mem_cons.mp h with e | h
    · omega
    · have := mem_sum h
      omega
theorem Ext.nn {M : Addr → Prop} {G H G1 H1 : Hp} {b : Addr} (e : Ext PT M G H G1 H1) (h : H1 b = none) : H b = none := by
  cases z : H b with
  | none => rfl
  | some u => exact absurd h (e.d b (by rw [z]; simp))
theorem sumZ : ∀ ws : List Nat, (ws.map fun n : Nat => (n : Int)).sum = ((ws.sum : Nat) : Int)
  | [] => rfl
  | a :: r => by
    rw [List.map_cons, List.sum_cons, sumZ r, List.sum_cons]
    push_cast
    rfl
def okF (ws : List Nat) (n : Nat) : Prop := 2 ≤ ws.length ∧ ws.length ≤ 3 ∧ n ≤ 4 ∧ ws.sum ≤ 180 ∧ (∀ w ∈ ws, 0 < w) ∧ (ws.length = 3 → n ≤ 2)
theorem okF.le {ws : List Nat} {n : Nat} (h : okF ws n) {w : Nat} (hw : w ∈ ws) : w ≤ 180 := Nat.le_trans (mem_sum hw) h.2.2.2.1
theorem pow_le4 {a n : Nat} (h : a ≤ 180) (hn : n ≤ 4) : a ^ n ≤ 1049760000 := by
  refine Nat.le_trans (Nat.pow_le_pow_left h n) ?_
  refine Nat.le_trans (Nat.pow_le_pow_right (by decide) hn) (by decide)
def farF (ws : List Nat) (n : Nat) (pw pp : Addr) : List (Str × V) := [("weights", .ref pw), ("length", .int n), ("whole", .int ((ws.sum ^ n : Nat) : Int)), ("_powers", .ref pp)]
def FarAt (K : PySem.W.Frag) (cF : Addr) (G : Hp) (v : V) (x : List Nat × Nat) : Prop := ∃ p dx pw pp, v = .ref p ∧ G p = some (.ins cF dx (farF x.1 x.2 pw pp)) ∧ SqT K G pw (x.1.map vN) ∧ LR K (LN K) G (.ref pp) (x.1.map fun w => powN w x.2)
theorem FarAt.to {G G1 : Hp} {v : V} {x : List Nat × Nat} (s : Same G G1) (h : FarAt K cF G v x) : FarAt K cF G1 v x := by
  obtain ⟨p, dx, pw, pp, e, h, h2, h3⟩ := h
  exact ⟨p, dx, pw, pp, e, s _ _ h, seqT s h2, LR.to (fun _ _ _ _ s h => LN.to s h) s h3⟩
theorem sc_fari : FnScope ["self", "weights", "length", "weight"] ["self", "weights", "length"] (defScope (inC 23 0)) := ⟨rfl, rfl, rfl, by decide +kernel, rfl, by decide +kernel, by decide +kernel⟩
def spFarI (PT cF : Addr) (K : PySem.W.Frag) : Sp := fun vs H Q _ => ∃ (G H0 : Hp) (p dx : Addr) (v : V) (ws : List Nat) (n : Nat), vs = [.ref p, v, .int n] ∧ Cl PT G H0 ∧ H0 p = none ∧ H0 dx = none ∧ dx ≠ p ∧ H = upd (upd H0 dx (.own p)) p (.ins cF dx []) ∧
  LN K G v ws ∧ okF ws n ∧ ∀ G' H', Ext PT nM G H0 G' H' → FarAt K cF G' (.ref p) (ws, n) → Q .non H'
theorem ok_fari (T : Txt K mg cS cF cG cT cM cK) : KCal P w K mg base "Far" cF 2 ["self", "weights", "length"] (spFarI PT cF K) := by
  refine T.k_cF.ok T.g_cF sc_fari (fun vs H Q E h => ?_) (fun f cdv A outer s H vs Q E hr h => ?_)
  · obtain ⟨G, H0, p, dx, v, ws, n, rfl, _⟩ := h
    rfl
  · obtain ⟨G, H0, p, dx, v, ws, n, rfl, c, np, nd, ne, rfl, ⟨pl, rfl, hpl⟩, ok, q⟩ := h
    refine ⟨_, (pss_cons (ps_fld (pv 0) (pe_callTy (call_tuple_ofK (K := K)) (by rfl) T.z_tuple (by decide +kernel) (pa_cons (pv 1) pa_nil)) rfl)
  (pss_cons (ps_fld (pv 0) (pv 2) rfl)
  (pss_cons (ps_fld (pv 0) (pe_c (ok_pow T) (hr.mono (by first | decide | omega)) (pa_cons (pe_callB (cr_sumT rfl) (by rfl) T.z_sum (by decide +kernel) (pa_cons (pe_fldK (K := K) (pv 0)) pa_nil)) (pa_cons (pv 2) pa_nil))) rfl)
  (pss_one (ps_fld (pv 0) (pe_lc (own := [("weight", 3)]) rfl sc_fari.nd (pi_tupK (K := K) (pe_fldK (K := K) (pv 0))) (blkOk_by (own := [("weight", 3)]) (N := ["self", "weights", "length", "weight"]) (sc := defScope (inC 23 0)) (by decide +kernel)) (fun _ _ _ _ _ => (pg_n 3 sc_fari.nd)) (fun _ _ _ _ _ => pts_nil) (fun _ _ _ _ _ => (pe_c (ok_pows (PT := PT) T) (hr.mono (by first | decide | omega)) (pa_cons (pv 3) (pa_cons (pv 2) pa_nil))))) rfl))))), ?_⟩
    have e0 : Ext PT nM G H0 G (upd (upd H0 dx (.own p)) p (.ins cF dx [])) := Ext.made c np nd ne
    have nP : p ≠ PT := c.ne np
    have gp : G p = none := c.free np
    refine ⟨_, rfl, pl, _, rfl, .inl ⟨seqL e0.c.s hpl, fun pw hpw => ?_⟩⟩
    have e1 := e0.trans (Ext.new (M := nM) (o := .tup (ws.map vN)) e0.c hpw)
    have d1 : upd (upd (upd H0 dx (.own p)) p (.ins cF dx [])) pw (.tup (ws.map vN)) p = some (.ins cF dx []) := by
      rw [upd_ne (ne_of_none upd_same hpw), upd_same]
    have gw : upd G pw (.tup (ws.map vN)) p = none := by rw [upd_ne (ne_of_none upd_same hpw)]; exact gp
    refine ⟨_, rfl, p, cF, dx, _, rfl, d1, T.l_cF, T.n_cF_weights, by decide, ?_⟩
    have e2 := e1.mut (o := .ins cF dx (putF "weights" (.ref pw) [])) (.inl np) gw nP
    refine ⟨_, rfl, _, rfl, p, cF, dx, _, rfl, upd_same, T.l_cF, T.n_cF_length, (by show 1 < 1000; decide), ?_⟩
    rw [upd_upd]
    have e3 := e2.mut (o := .ins cF dx (putF "length" (.int n) (putF "weights" (.ref pw) []))) (.inl np) gw nP
    rw [upd_upd] at e3
    have hw3 : SqT K (upd G pw (.tup (ws.map vN))) pw (ws.map vN) := sq_ofT upd_same
    refine ⟨_, rfl, p, cF, dx, _, _, rfl, upd_same, T.l_cF, T.n_cF_weights, rfl, pw, ws.map (fun n : Nat => (n : Int)), rfl, ?_, _, rfl, ws.sum, n, (by rw [sumZ]; rfl), ?_, ?_, ?_⟩
    · rw [List.map_map]
      exact seqT e3.c.s hw3
    · have := ok.2.2.2.1
      omega
    · have := ok.2.2.1
      omega
    refine ⟨_, rfl, p, cF, dx, _, rfl, upd_same, T.l_cF, T.n_cF_whole, (by show 2 < 1000; decide), ?_⟩
    rw [upd_upd]
    have e4 := e3.mut (o := .ins cF dx (putF "whole" (.int ((ws.sum ^ n : Nat) : Int)) (putF "length" (.int n) (putF "weights" (.ref pw) [])))) (.inl np) gw nP
    rw [upd_upd] at e4
    refine ⟨_, rfl, p, cF, dx, _, _, rfl, upd_same, T.l_cF, T.n_cF_weights, rfl, pw, rfl, ⟨_, seqT e4.c.s hw3⟩, fun D hD => ?_⟩
    have nD : D ≠ PT := e4.c.ne hD
    have hnp : D ≠ p := fun z => by rw [z, upd_same] at hD; cases hD
    have e5 := e4.trans (Ext.loc (M := nM) (o := .lst []) e4.c hD)
    refine wk_tup.comp (fun i H' => ∃ us G', Ext PT nM G H0 G' H' ∧ Same (upd G pw (.tup (ws.map vN))) G' ∧ G' D = none ∧ G' p = none ∧ H' D = some (.lst us) ∧ H' p = some (.ins cF dx (putF "whole" (.int ((ws.sum ^ n : Nat) : Int)) (putF "length" (.int n) (putF "weights" (.ref pw) [])))) ∧ Paired (LN K G') us ((ws.take i).map fun w => powN w n))
      ⟨[], _, e5, Same.refl _, e4.c.free hD, gw, upd_same, by rw [upd_ne hnp.symm, upd_same], .nil⟩ (fun i H' _ ⟨us, G', e, sm, _⟩ => seqT e.c.s (seqT sm hw3)) ?_ ?_
    · rintro i x H1 H1' hi ⟨us, G1, e, sm, g1, g2, d1, d2, pr⟩ ⟨rfl, hx⟩
      obtain ⟨w, hw, rfl⟩ := vNs_of hx
      refine ⟨rfl, _, rfl, _, rfl, G1, w, n, rfl, e.c, ?_, ?_, fun v G2 H2 e2 r => ?_⟩
      · have := ok.le (List.mem_of_getElem? hw)
        omega
      · have := ok.2.2.1
        omega
      have d3 := e2.stay0 d1 nD
      have l1 := plen pr
      have hlw := ok.2.1
      refine ⟨us, d3, ?_, us ++ [v], G2, ?_, sm.trans e2.g, e2.none_g (by rw [d1]; simp) g1, e2.none_g (by rw [d2]; simp) g2, upd_same, by rw [upd_ne hnp.symm]; exact e2.stay0 d2 nP, ?_⟩
      · rw [l1, List.length_map, List.length_take]
        exact ltS (by omega)
      · exact (e.trans e2).mut (.inl (e4.nn hD)) (e2.none_g (by rw [d1]; simp) g1) nD
      · rw [take_get hw, List.map_append]
        exact psnoc (pmap pr fun a b z => LN.to e2.g z) r
    · rintro H1 ⟨us, G1, e, sm, g1, g2, d1, d2, pr⟩
      refine ⟨_, rfl, p, cF, dx, _, rfl, d2, T.l_cF, T.n_cF_powers, (by show 3 < 1000; decide), ?_⟩
      have e6 := e.frz (e4.nn hD) d1 nD
      have e7 := e6.mut (o := .ins cF dx (farF ws n pw D)) (.inl np) (by rw [upd_ne hnp.symm]; exact g2) nP
      have e8 := e7.frz np upd_same nP
      have g3 : upd G1 D (.lst us) p = none := by rw [upd_ne hnp.symm]; exact g2
      have sf : Same G1 (upd (upd G1 D (.lst us)) p (.ins cF dx (farF ws n pw D))) := (same_upd g1).trans (same_upd g3)
      refine q _ _ e8 ⟨p, dx, pw, D, rfl, upd_same, seqT (sm.trans sf) hw3, D, us, rfl, sq_ofL (same_upd g3 _ _ upd_same), ?_⟩
      rw [List.length_map, List.take_length] at pr
      exact pmap pr fun a b z => LN.to sf z
end
end K43
-- part M2
/-! M2: texts as lists of places in the alphabet. -/
namespace K43
open PySem PySem.Spec PyProof.Rows L2
def tx (l : List Nat) : Str := ⟨(l.map (· + 97)).toArray⟩
theorem tx_cps (l : List Nat) : (tx l).cps.toList = l.map (· + 97) := rfl
theorem tx_len (l : List Nat) : (tx l).length = l.length := by
  show (l.map (· + 97)).toArray.size = _
  rw [List.size_toArray, List.length_map]
theorem tx_add (l m : List Nat) : tx l ++ tx m = tx (l ++ m) := by
  refine TL.ext_tl ?_
  rw [TL.tl_append]
  show l.map (· + 97) ++ m.map (· + 97) = (l ++ m).map (· + 97)
  rw [List.map_append]
theorem tx_inj {l m : List Nat} (h : tx l = tx m) : l = m := by
  have e : l.map (· + 97) = m.map (· + 97) := congrArg (fun x : Str => x.cps.toList) h
  clear h
  induction l generalizing m with
  | nil =>
    cases m with
    | nil => rfl
    | cons a r => cases e
  | cons b l ih =>
    cases m with
    | nil => cases e
    | cons a r =>
      rw [List.map_cons, List.map_cons] at e
      injection e with e1 e2
      have e1 : b + 97 = a + 97 := e1
      rw [show b = a by omega, ih e2]
theorem tx_eq {l m : List Nat} : (tx l = tx m) ↔ l = m := ⟨tx_inj, fun h => by rw [h]⟩
theorem tx_one (c : Nat) : tx [c] = ⟨#[c + 97]⟩ := rfl
theorem abc_tx : ∀ k < 4, abcTo k = tx (List.range k) := by decide +kernel
theorem abc_str : ("abc" : Str) = tx [0, 1, 2] := by decide +kernel
theorem empty_str : ("" : Str) = tx [] := by decide +kernel
theorem b_str : ("b" : Str) = tx [1] := by decide +kernel
theorem tx_at {l : List Nat} {i c : Nat} (h : (tx l).cps[i]? = some c) : ∃ x, l[i]? = some x ∧ c = x + 97 := by
  have e : (l.map (· + 97))[i]? = some c := by rw [← tx_cps, Array.getElem?_toList]; exact h
  rw [List.getElem?_map] at e
  obtain ⟨x, h1, h2⟩ := Option.map_eq_some_iff.mp e
  exact ⟨x, h1, h2.symm⟩
theorem tx_any (l : List Nat) (k : Nat) (hk : k < 4) : ((tx l).cps.toList.any fun c => !decide (c ∈ (abcTo k).cps.toList)) = l.any fun x => !decide (x < k) := by
  rw [abc_tx k hk, tx_cps, tx_cps, List.any_map]
  congr 1
  funext x
  simp
theorem cnt_tx (l : List Nat) (i : Nat) : Txt.count (tx l) (tx [i]) = ((l.count i : Nat) : Int) := by
  rw [tx_one, count_is]
  rw [tx_cps]
  show PyProof.Rows.cnt (i + 97) (l.map (· + 97)) = _
  induction l with
  | nil => rfl
  | cons a r ih =>
    rw [List.map_cons, List.count_cons, PyProof.Rows.cnt_cons, ih]
    by_cases e : a = i
    · rw [if_pos (by omega), if_pos (by rw [e]; exact beq_self_eq_true i)]
      omega
    · rw [if_neg (by omega), if_neg (by intro z; exact e (eq_of_beq z))]
      omega
theorem idx_tx : ∀ i < 3, Txt.index0 (tx [0, 1, 2]) (tx [i]) = some i := by decide +kernel
theorem idx_tx2 : ∀ i < 2, Txt.index0 (tx [0, 1]) (tx [i]) = some i := by decide +kernel
end K43
-- part W6
/-! W6: Far: letters, counts_of. -/
namespace K43
open PySem PySem.Spec PyProof.Rows L2
/-- a def whose code object is known -/
structure FunC (K : PySem.W.Frag) (x qual : Str) (st : Stmt) (f : Addr) (fd : FuncData) (cc : Addr) : Prop where
  ex : ∃ (oc : Value) (od : Option Addr) (kV doc pm : Value) (an : Option Addr) (ct : Value) (osl : Array (Option Value)),
    fd = PySem.W.fnOf x qual (defArgs st) (defBody st) (defScope st) .none kV doc pm an (.ref cc) ct ∧ K.lookup f = some ⟨oc, od, .func fd, osl⟩ ∧ PySem.W.codeIn K (.ref cc) qual = true
structure DmC (K : PySem.W.Frag) (C : Addr) (x qual : Str) (st : Stmt) (ps : List Str) (cc : Addr) : Prop where
  ex : ∃ f fd, FunC K x qual st f fd cc ∧ Meth K C x f ∧ Binds K fd ps []
section
variable {P : Program} {w : World} {K : PySem.W.Frag} {mg : Str → Option Value} {base : Heap} {cS cF cG cT cM cK : Addr} {PT cc : Addr}
theorem DmC.ok {C : Addr} {x qual : Str} {st : Stmt} {N ps : List Str} {k : Nat} {sp : Sp} (c : Cls K C) (D : DmC K C x qual st ps cc) (S : FnScope N ps (defScope st)) (len : ∀ vs H Q E, sp vs H Q E → vs.length = ps.length)
    (hbody : ∀ (f : Addr) (A : Around) (outer : List Env) (s : Shared) (H : Hp) (vs : List V) (Q : VK) (E : XK), Room k (A.deeper (envOfC qual (defScope st) s.heap.objs.size f (.ref cc))) → sp vs H Q E →
      ∃ t, PSs (cxOf CX0 P w K mg base N qual (defScope st) f (.ref cc) A outer s H E).nox (defBody st) t ∧ t { nx := fun _ H' => Q .non H', rt := Q } (start N vs) H) : MCal P w K mg base C x (k + 1) ps sp := by
  obtain ⟨f, fd, F, m, b⟩ := D.ex
  refine ⟨c, f, fd, ?_, m, b⟩
  obtain ⟨oc, od, kV, doc, pm, an, ct, osl, rfl, lk, hcd⟩ := F.ex
  refine fn_of lk hcd S len fun A outer s H vs Q E hr hsp => ?_
  obtain ⟨t, h, q⟩ := hbody f A outer s H vs Q E hr hsp
  exact ⟨t, h.nox, q⟩
theorem farO {G H : Hp} {v : V} {x : List Nat × Nat} (s : Same G H) (h : FarAt K cF G v x) : ∃ p dx pw pp, v = .ref p ∧ H p = some (.ins cF dx (farF x.1 x.2 pw pp)) ∧ SqT K H pw (x.1.map vN) ∧ LR K (LN K) H (.ref pp) (x.1.map fun w => powN w x.2) := FarAt.to s h
theorem sc_let : FnScope ["self"] ["self"] (defScope (inC 23 1)) := ⟨rfl, rfl, rfl, by decide +kernel, rfl, by decide +kernel, by decide +kernel⟩
def spLet (K : PySem.W.Frag) (cF : Addr) : Sp := fun vs H Q _ => ∃ (v : V) (x : List Nat × Nat), vs = [v] ∧ FarAt K cF H v x ∧ okF x.1 x.2 ∧ Q (.str (tx (List.range x.1.length))) H
theorem ok_letters (T : Txt K mg cS cF cG cT cM cK) : MCal P w K mg base cF "letters" 1 ["self"] (spLet K cF) := by
  refine T.m_cF_letters.ok T.l_cF sc_let (fun vs H Q E h => ?_) (fun f cdv A outer s H vs Q E hr h => ?_)
  · obtain ⟨v, x, rfl, _⟩ := h
    rfl
  · obtain ⟨v, x, rfl, ⟨p, dx, pw, pp, rfl, hp, hw, hpp⟩, ok, q⟩ := h
    obtain ⟨tz, gLETTERS⟩ := T.z_LETTERS
    refine ⟨_, (pss_one (ps_ret (pe_slice sl_str (pe_glob (v := .str "abc") rfl gLETTERS ⟨_, rfl⟩) po_none (po_some (pe_callB (call_len_seqK (K := K)) (by rfl) T.z_len (by decide +kernel) (pa_cons (pe_fldK (K := K) (pv 0)) pa_nil)))))), ?_⟩
    refine ⟨_, rfl, p, cF, dx, _, _, rfl, hp, T.l_cF, T.n_cF_weights, rfl, pw, _, rfl, .inr hw, _, rfl, _, rfl, by decide, ?_⟩
    rw [List.length_map]
    have := abc_tx x.1.length (by have := ok.2.1; omega)
    unfold abcTo at this
    rw [this]
    exact q
def cntL (k : Nat) (l : List Nat) : List Nat := (List.range k).map fun c => l.count c
def okT (k n : Nat) (l : List Nat) : Prop := l.length = n ∧ ∀ c ∈ l, c < k
instance (k n : Nat) (l : List Nat) : Decidable (okT k n l) := by unfold okT; exact inferInstance
def gsc : Scope := (match (defBody (inC 23 2)).head? with | some (.If (.BoolOp _ [_, .Call _ [.GeneratorExp _ _ sc _] _ _] _) _ _ _) => sc | _ => ⟨.module, [], true, true, []⟩)
theorem gsc_names : gsc.names = [((".0" : Str), NameKind.local), (("sign" : Str), NameKind.local), (("self" : Str), NameKind.free)] := rfl
theorem gs_cof {env : Env} {c : Addr} (h : env.cells.lookup ("self" : Str) = some c) : GxR.GenS env gsc "sign" := by
  refine ⟨rfl, rfl, by decide +kernel, rfl, rfl, fun y hy e => ?_⟩
  rw [gsc_names] at hy
  rcases List.mem_cons.mp hy with z | hy
  · rw [z] at e
    cases e
  rcases List.mem_cons.mp hy with z | hy
  · rw [z] at e
    cases e
  · rw [List.mem_singleton.mp hy]
    exact ⟨c, h⟩
theorem sc_cof : FnScope ["self", "text", "letter"] ["self", "text"] (defScope (inC 23 2)) := ⟨rfl, rfl, rfl, by decide +kernel, rfl, by decide +kernel, by decide +kernel⟩
def spCof (PT cF : Addr) (K : PySem.W.Frag) : Sp := fun vs H Q _ => ∃ (G : Hp) (v : V) (x : List Nat × Nat) (l : List Nat), vs = [v, .str (tx l)] ∧ Cl PT G H ∧ FarAt K cF G v x ∧ okF x.1 x.2 ∧ l.length ≤ 100 ∧
  ∀ r G' H', Ext PT nM G H G' H' → (okT x.1.length x.2 l → TN K G' r (cntL x.1.length l)) → (¬ okT x.1.length x.2 l → r = .non) → Q r H'
theorem ok_cof (T : Txt K mg cS cF cG cT cM cK) (D : DmC K cF "counts_of" "Far.counts_of" (inC 23 2) ["self", "text"] cc) (TB : GxR.TabB base mg cc PT) : MCal P w K mg base cF "counts_of" 2 ["self", "text"] (spCof PT cF K) := by
  refine D.ok T.l_cF sc_cof (fun vs H Q E h => ?_) (fun f A outer s H vs Q E hr h => ?_)
  · obtain ⟨G, v, x, l, rfl, _⟩ := h
    rfl
  · obtain ⟨G, v, x, l, rfl, c, hF, ok, hl, q⟩ := h
    refine ⟨_, (pss_cons (ps_if (PW.pt (pw_or (pt_cmpR op_ne (pe_callB call_len_str (by rfl) T.z_len (by decide +kernel) (pa_cons (pv 1) pa_nil)) (pe_fldK (K := K) (pv 0)) (nomark _)) (pw_or1 (pt_val (pe_anyL (scope := gsc) (i := 0) T hr rfl TB rfl (gs_cof rfl) (by decide +kernel) rfl rfl rfl (pv 1) (fun _ => rfl) rfl))))) (pss_one (ps_ret pe_non)) pss_nil)
  (pss_one (ps_ret (pe_callTy (call_tuple_ofK (K := K)) (by rfl) T.z_tuple (by decide +kernel) (pa_cons (pe_lc (own := [("letter", 2)]) rfl sc_cof.nd (pi_str (pe_m0 (ok_letters T) (hr.mono (by first | decide | omega)) (pv 0))) (blkOk_by (own := [("letter", 2)]) (N := ["self", "text", "letter"]) (sc := defScope (inC 23 2)) (by decide +kernel)) (fun _ _ _ _ _ => (pg_n 2 sc_cof.nd)) (fun _ _ _ _ _ => pts_nil) (fun _ _ _ _ _ => (pe_strcount (pv 1) (pv 2)))) pa_nil))))), ?_⟩
    obtain ⟨p, dx, pw, pp, rfl, hp, hw, hpp⟩ := farO c.s hF
    have hk := ok.2.1
    refine ⟨_, rfl, ⟨_, rfl, by rw [tx_len]; exact leS (by omega), ?_⟩⟩
    rw [tx_len]
    refine ⟨_, rfl, p, cF, dx, _, _, rfl, hp, T.l_cF, T.n_cF_length, rfl, rfl, _, rfl, ite2 (fun h => ?_) (fun h => ?_)⟩
    · refine q _ _ _ (Ext.refl c) (fun z => ?_) fun _ => rfl
      have h2 : ¬ V.int (l.length : Nat) = V.int (x.2 : Nat) := by
        intro z2
        rw [decide_eq_true z2] at h
        cases h
      exact absurd (by rw [z.1]) h2
    · have hlen : l.length = x.2 := by
        have h2 : decide (V.int (l.length : Nat) = V.int (x.2 : Nat)) = true := by
          cases z : decide (V.int (l.length : Nat) = V.int (x.2 : Nat)) with
          | true => rfl
          | false => rw [z] at h; exact absurd rfl h
        have := V.int.inj (of_decide_eq_true h2)
        omega
      refine ⟨_, rfl, tx l, p, x.1.length, rfl, c.t, rfl, ⟨dx, _, pw, _, hp, rfl, rfl, hw, by rw [List.length_map], by omega⟩, fun H2 ht2 => ?_⟩
      refine ⟨_, rfl, ?_⟩
      rw [tx_any l _ (by omega)]
      have e1 : Ext PT nM G H G H2 := Ext.tab c ht2
      refine ite2 (fun hany => ?_) (fun hany => ?_)
      · refine q _ _ _ e1 (fun z => ?_) fun _ => rfl
        obtain ⟨y, hy, hy2⟩ := List.any_eq_true.mp hany
        have := z.2 y hy
        simp [this] at hy2
      · have okt : okT x.1.length x.2 l := ⟨hlen, fun y hy => by
          by_cases z : y < x.1.length
          · exact z
          · exact absurd (List.any_eq_true.mpr ⟨y, hy, by simp [z]⟩) hany⟩
        obtain ⟨p2, dx2, pw2, pp2, ep, hp2, hw2, hpp2⟩ := farO e1.c.s hF
        obtain rfl : p2 = p := (V.ref.inj ep).symm
        refine ⟨_, rfl, p2, dx2, _, rfl, hp2, rfl, _, x, rfl, FarAt.to e1.c.s hF, ok, _, rfl, fun D hD => ?_⟩
        have nD : D ≠ PT := e1.c.ne hD
        have e2 := e1.trans (Ext.loc (M := nM) (o := .lst []) e1.c hD)
        have hsz : (tx (List.range x.1.length)).cps.size = x.1.length := by
          have := tx_len (List.range x.1.length)
          rw [List.length_range] at this
          exact this
        refine wk_str.comp (fun i H' => H' = upd H2 D (.lst ((cntL i l).map vN))) rfl (fun _ _ _ _ => True.intro) ?_ ?_
        · rintro i y H3 H3' hi rfl ⟨rfl, cc, hcc, rfl⟩
          obtain ⟨j, hj, rfl⟩ := tx_at hcc
          rw [hsz] at hi
          rw [List.getElem?_range hi] at hj
          obtain rfl : i = j := Option.some.inj hj
          refine ⟨rfl, _, rfl, ⟨_, rfl⟩, _, rfl, tx l, tx [i], rfl, rfl, _, upd_same, ?_, ?_⟩
          · unfold cntL
            simp only [List.length_map, List.length_range]
            exact ltS (by omega)
          · rw [upd_upd, cnt_tx]
            unfold cntL
            rw [List.range_succ, List.map_append, List.map_append]
            rfl
        · rintro H3 rfl
          rw [hsz]
          refine ⟨D, _, rfl, .inl ⟨sq_ofL upd_same, fun t ht => ?_⟩⟩
          have e3 : Ext PT nM G H G (upd H2 D (.lst ((cntL x.1.length l).map vN))) := e1.trans (Ext.loc (M := nM) e1.c hD)
          exact q _ _ _ (e3.trans (Ext.new (M := nM) e3.c ht)) (fun _ => ⟨t, rfl, upd_same⟩) fun z => absurd okt z
end
end K43
-- part W7
/-! W7: Far: share_of, parts_at, worth_at. -/
namespace K43
open PySem PySem.Spec PyProof.Rows L2
section
variable {P : Program} {w : World} {K : PySem.W.Frag} {mg : Str → Option Value} {base : Heap} {cS cF cG cT cM cK : Addr} {PT cc : Addr}
def spFar (PT cF : Addr) (K : PySem.W.Frag) : Sp := fun vs H Q _ => ∃ (G : Hp) (v : V) (ws : List Nat) (n : Nat), vs = [v, .int n] ∧ Cl PT G H ∧ LN K G v ws ∧ okF ws n ∧ Ret PT G H Q fun G' v => FarAt K cF G' v (ws, n)
theorem n_far (T : Txt K mg cS cF cG cT cM cK) : NCal P w K mg base "Far" 2 (spFar PT cF K) := by
  refine ⟨cF, _, _, ok_fari (PT := PT) T, fun vs H Q h x dx nx nd ne => ?_⟩
  obtain ⟨G, v, ws, n, rfl, c, hv, ok, q⟩ := h
  exact ⟨G, H, x, dx, v, ws, n, rfl, c, nx, nd, ne, rfl, hv, ok, fun G' H' e r => ⟨rfl, q _ _ _ e r⟩⟩
theorem prodN_take : ∀ {l : List Nat} {i z : Nat}, l[i]? = some z → (l.take (i + 1)).prod = (l.take i).prod * z
  | [], _, _, h => by simp at h
  | a :: r, 0, z, h => by
    simp at h
    subst h
    simp
  | a :: r, i + 1, z, h => by
    have ih := prodN_take (l := r) (i := i) (z := z) (by simpa using h)
    simp only [List.take_succ_cons, List.prod_cons, ih, Nat.mul_assoc]
theorem whole_pos {ws : List Nat} {n : Nat} (h : okF ws n) : 0 < ws.sum ^ n := by
  refine Nat.pow_pos ?_
  obtain ⟨h1, _, _, _, h5, _⟩ := h
  cases ws with
  | nil => simp at h1
  | cons a r =>
    have := h5 a (List.mem_cons_self ..)
    rw [List.sum_cons]
    omega
theorem whole_le {ws : List Nat} {n : Nat} (h : okF ws n) : ws.sum ^ n ≤ 1049760000 := pow_le4 h.2.2.2.1 h.2.2.1
/-! ### share_of -/
def wt (ws cs : List Nat) : Nat := (List.zipWith (fun w c => w ^ c) ws cs).prod
def shareM (ws : List Nat) (n : Nat) (l : List Nat) : Nat × Nat := if okT ws.length n l then low (wt ws (cntL ws.length l)) (ws.sum ^ n) else (0, 1)
theorem sc_fsh : FnScope ["self", "text", "counts", "product", "powers", "count"] ["self", "text"] (defScope (inC 23 3)) := ⟨rfl, rfl, rfl, by decide +kernel, rfl, by decide +kernel, by decide +kernel⟩
def spFsh (PT cF cS : Addr) (K : PySem.W.Frag) : Sp := fun vs H Q _ => ∃ (G : Hp) (v : V) (x : List Nat × Nat) (l : List Nat), vs = [v, .str (tx l)] ∧ Cl PT G H ∧ FarAt K cF G v x ∧ okF x.1 x.2 ∧ l.length ≤ 100 ∧ Ret PT G H Q fun G' r => ShAt cS G' r (shareM x.1 x.2 l)
theorem ok_fsh (T : Txt K mg cS cF cG cT cM cK) (D : DmC K cF "counts_of" "Far.counts_of" (inC 23 2) ["self", "text"] cc) (TB : GxR.TabB base mg cc PT) : MCal P w K mg base cF "share_of" 4 ["self", "text"] (spFsh PT cF cS K) := by
  refine T.m_cF_share_of.ok T.l_cF sc_fsh (fun vs H Q E h => ?_) (fun f cdv A outer s H vs Q E hr h => ?_)
  · obtain ⟨G, v, x, l, rfl, _⟩ := h
    rfl
  · obtain ⟨G, v, x, l, rfl, c, hF, ok, hl, q⟩ := h
    refine ⟨_, (pss_cons (ps_s 2 sc_fsh.nd (pe_m (ok_cof (PT := PT) T D TB) (hr.mono (by first | decide | omega)) (pv 0) (pa_cons (pv 1) pa_nil)))
  (pss_cons (ps_if (pt_cmpR op_isN (pv 2) pe_non (nomark _)) (pss_one (ps_ret (pe_n (n_sh (PT := PT) T) (hr.mono (by first | decide | omega)) (pa_cons pe_int (pa_cons pe_int pa_nil))))) pss_nil)
  (pss_cons (ps_s 3 sc_fsh.nd pe_int)
  (pss_cons (ps_for PassesOwn.never rfl (pi_zipG (by rfl) T.z_zip (pa_cons (pe_fldK (K := K) (pv 0)) (pa_cons (pv 2) pa_nil))) (pg_tupK (K := K) (pgs_cons (pg_n 4 sc_fsh.nd) (pgs_cons (pg_n 5 sc_fsh.nd) pgs_nil)))
  (pss_one (ps_a 3 sc_fsh.nd (pe_ix (ix_listK (K := K)) (pv 4) (pv 5) (fun _ _ => rfl)) ip_mul)))
  (pss_one (ps_ret (pe_n (n_sh (PT := PT) T) (hr.mono (by first | decide | omega)) (pa_cons (pv 3) (pa_cons (pe_fldK (K := K) (pv 0)) pa_nil))))))))), ?_⟩
    obtain ⟨p, dx, pw, pp, rfl, hp, hw, up, us, epp, hus, hpr⟩ := id hF
    obtain rfl : up = pp := (V.ref.inj epp).symm
    refine ⟨_, rfl, p, dx, _, rfl, c.s _ _ hp, rfl, _, rfl, G, _, x, l, rfl, c, hF, ok, hl, fun r G1 H1 e1 r1 r2 => ?_⟩
    refine ⟨_, rfl, rfl, ?_⟩
    by_cases okt : okT x.1.length x.2 l
    · obtain ⟨pc, rfl, hpc0⟩ := r1 okt
      have hpc : SqT K G1 pc ((cntL x.1.length l).map vN) := sq_ofT hpc0
      refine ⟨_, rfl, ?_⟩
      rw [decide_eq_false (by intro z; cases z)]
      refine iteF ?_
      have hlu := plen hpr
      rw [List.length_map] at hlu
      have hcl : ((cntL x.1.length l).map vN).length = x.1.length := by
        unfold cntL
        rw [List.length_map, List.length_map, List.length_range]
      refine ⟨_, rfl, p, cF, dx, _, _, rfl, e1.c.s _ _ (e1.g _ _ hp), T.l_cF, T.n_cF_powers, rfl, _, rfl, .l up, .t pc, us, _, rfl, seqL e1.c.s (seqL e1.g hus), seqT e1.c.s hpc, ?_⟩
      refine (wk_z2 hlu hcl).loop (fun i σ H' => ∃ y4 y5 G', σ = [some (.ref p), some (.str (tx l)), some (.ref pc), some (vN (((List.zipWith (fun w c => w ^ c) x.1 (cntL x.1.length l)).take i).prod)), y4, y5] ∧ Ext PT nM G H G' H' ∧ Same G1 G')
        ⟨none, none, G1, rfl, e1, Same.refl _⟩ ?_ ?_ ?_
      · rintro i σ H' hi ⟨y4, y5, G', rfl, e, sm⟩
        exact ⟨seqL e.c.s (seqL e.g hus), seqT e.c.s (seqT sm hpc)⟩
      · rintro i v σ H2 H2' hi ⟨y4, y5, G', rfl, e, sm⟩ ⟨t, a, b, rfl, ht, rfl, ha, hb⟩
        obtain ⟨ps, hps, pa, rfl, hpa⟩ := pget hpr ha
        obtain ⟨cn, hcn, rfl⟩ := vNs_of hb
        rw [List.getElem?_map] at hps
        obtain ⟨wi, hwi, rfl⟩ := Option.map_eq_some_iff.mp hps
        have hcn2 : cn = l.count i ∧ i < x.1.length := by
          unfold cntL at hcn
          rw [List.getElem?_map] at hcn
          obtain ⟨j, hj, rfl⟩ := Option.map_eq_some_iff.mp hcn
          rw [List.getElem?_range hi] at hj
          obtain rfl : i = j := Option.some.inj hj
          exact ⟨rfl, hi⟩
        have hcle : cn ≤ x.2 := by
          rw [hcn2.1, ← okt.1]
          exact List.count_le_length
        have hz : (List.zipWith (fun w c => w ^ c) x.1 (cntL x.1.length l))[i]? = some (wi ^ cn) := by
          rw [List.getElem?_zipWith, hwi, hcn]
        have e2 := e.trans (Ext.new (M := nM) (o := .tup [.ref pa, vN cn]) e.c ht)
        have hb2 : wi ^ cn ≤ 1049760000 := pow_le4 (ok.le (List.mem_of_getElem? hwi)) (by have := ok.2.2.1; omega)
        refine ⟨t, _, rfl, sq_ofT upd_same, rfl, _, _, rfl, _, _, rfl, rfl, ?_⟩
        refine ⟨_, rfl, _, rfl, _, rfl, pa, _, _, _, rfl, rfl, seqL e2.c.s (seqL e2.g hpa), vNs_at rfl (powN_get hcle), _, _, rfl, rfl, .inr ⟨by omega, by omega⟩, some (.ref pa), some (vN cn), _, ?_, e2, sm.trans (same_upd (e.c.free ht))⟩
        rw [prodN_take hz, ← show V.int (((((List.zipWith (fun w c => w ^ c) x.1 (cntL x.1.length l)).take i).prod : Nat) : Int) * ((wi ^ cn : Nat) : Int)) = vN ((((List.zipWith (fun w c => w ^ c) x.1 (cntL x.1.length l)).take i).prod) * wi ^ cn) by rw [natmul]; rfl]
        rfl
      · rintro σ H2 ⟨y4, y5, G', rfl, e, sm⟩
        have hfull : (List.zipWith (fun w c => w ^ c) x.1 (cntL x.1.length l)).take x.1.length = List.zipWith (fun w c => w ^ c) x.1 (cntL x.1.length l) := by
          refine List.take_of_length_le ?_
          rw [List.length_zipWith]
          omega
        have wl := whole_le ok
        refine ⟨_, rfl, _, rfl, p, cF, dx, _, _, rfl, e.c.s _ _ (e.g _ _ hp), T.l_cF, T.n_cF_whole, rfl, G', _, _, _, _, rfl, e.c, rfl, rfl, whole_pos ok, by omega, fun r G2 H2 e2 s2 => q _ _ _ (e.trans e2) ?_⟩
        unfold shareM
        rw [if_pos okt]
        rw [hfull] at s2
        exact s2
    · obtain rfl := r2 okt
      refine ⟨_, rfl, ?_⟩
      rw [decide_eq_true rfl]
      refine iteT ⟨G1, _, _, 0, 1, rfl, e1.c, rfl, rfl, by decide, by decide, fun r G2 H2 e2 s2 => q _ _ _ (e1.trans e2) ?_⟩
      unfold shareM
      rw [if_neg okt]
      exact s2
end
end K43
-- part W8
/-! W8: Far: parts_at, worth_at. -/
namespace K43
open PySem PySem.Spec PyProof.Rows L2
section
variable {P : Program} {w : World} {K : PySem.W.Frag} {mg : Str → Option Value} {base : Heap} {cS cF cG cT cM cK : Addr} {PT cc : Addr}
/-- counts, texts, share, arc -/
abbrev Pa := List Nat × Nat × Nat × Nat
def PaAt (K : PySem.W.Frag) (G : Hp) (v : V) (x : Pa) : Prop := ∃ p q, v = .ref p ∧ SqT K G p [.ref q, vN x.2.1, vN x.2.2.1, vN x.2.2.2] ∧ G q = some (.tup (x.1.map vN))
theorem PaAt.to {G G1 : Hp} {v : V} {x : Pa} (s : Same G G1) (h : PaAt K G v x) : PaAt K G1 v x := by
  obtain ⟨p, q, e, h1, h2⟩ := h
  exact ⟨p, q, e, seqT s h1, s _ _ h2⟩
def paOf (mu bd : Nat) (x : List Nat × Nat × Nat) : Pa := (x.1, x.2.1, x.2.2 * mu, min (x.2.2 * mu) bd)
def mostOf (lv : Nat × Nat) : Nat × Nat := lessF lv (1, 1)
def partsM (ws : List Nat) (n : Nat) (lv : Nat × Nat) : List Pa := (kindsM (ws.map fun w => powN w n) n).map (paOf (mostOf lv).2 ((mostOf lv).1 * ws.sum ^ n))
theorem most_small {lv : Nat × Nat} (h : shSmall lv) : shSmall (mostOf lv) := by
  unfold mostOf lessF
  split
  · exact h
  · exact ⟨by decide, by decide, by decide⟩
theorem rows_pow {ws : List Nat} {n : Nat} (ok : okF ws n) : rowsOk n (ws.map fun w => powN w n) := by
  intro ps hps
  obtain ⟨a, ha, rfl⟩ := List.mem_map.mp hps
  rw [powN_len]
  refine ⟨Nat.lt_succ_self n, fun z hz => ?_⟩
  unfold powN at hz
  obtain ⟨j, hj, rfl⟩ := List.mem_map.mp hz
  have := pow_le4 (n := j) (ok.le ha) (by have := List.mem_range.mp hj; have := ok.2.2.1; omega)
  omega
theorem sc_parts : FnScope ["self", "level", "most", "bound", "parts", "counts", "texts", "product", "share"] ["self", "level"] (defScope (inC 23 4)) := ⟨rfl, rfl, rfl, by decide +kernel, rfl, by decide +kernel, by decide +kernel⟩
def spParts (PT cF cS : Addr) (K : PySem.W.Frag) : Sp := fun vs H Q _ => ∃ (G : Hp) (v u : V) (x : List Nat × Nat) (lv : Nat × Nat), vs = [v, u] ∧ Cl PT G H ∧ FarAt K cF G v x ∧ okF x.1 x.2 ∧ ShAt cS G u lv ∧ shSmall lv ∧
  Ret PT G H Q fun G' r => ∃ p pl, r = .ref p ∧ SqT K G' p [vN (x.1.sum ^ x.2 * (mostOf lv).2), .ref pl] ∧ LR K (PaAt K) G' (.ref pl) (partsM x.1 x.2 lv)
theorem ok_parts (T : Txt K mg cS cF cG cT cM cK) : MCal P w K mg base cF "parts_at" 5 ["self", "level"] (spParts PT cF cS K) := by
  refine T.m_cF_parts_at.ok T.l_cF sc_parts (fun vs H Q E h => ?_) (fun f cdv A outer s H vs Q E hr h => ?_)
  · obtain ⟨G, v, u, x, lv, rfl, _⟩ := h
    rfl
  · obtain ⟨G, v, u, x, lv, rfl, c, hF, ok, hs, sl, q⟩ := h
    obtain ⟨p, dx, pw, pp, rfl, hp, hw, hpp⟩ := id hF
    refine ⟨_, (pss_cons (ps_s 2 sc_parts.nd (pe_c (ok_amo (PT := PT) T) (hr.mono (by first | decide | omega)) (pa_cons (pv 1) pa_nil)))
  (pss_cons (ps_s 3 sc_parts.nd (pe_op op_mul (pe_fldK (K := K) (pv 2)) (pe_fldK (K := K) (pv 0))))
  (pss_cons (ps_s 4 sc_parts.nd (pe_lst pa_nil))
  (pss_cons (ps_for PassesOwn.never rfl (pi_listK (K := K) (pe_c (ok_kis (PT := PT) T) (hr.mono (by first | decide | omega)) (pa_cons (pe_fldK (K := K) (pv 0)) (pa_cons (pe_fldK (K := K) (pv 0)) pa_nil)))) (pg_tupK (K := K) (pgs_cons (pg_n 5 sc_parts.nd) (pgs_cons (pg_n 6 sc_parts.nd) (pgs_cons (pg_n 7 sc_parts.nd) pgs_nil))))
  (pss_cons (ps_s 8 sc_parts.nd (pe_op op_mul (pv 7) (pe_fldK (K := K) (pv 2))))
  (pss_one (ps_expr (pe_bm PySem.F.plainAttrs_list PySem.F.slot_list_append PySem.F.type_list_append mt_append (pv 4) (pa_cons (pe_tup (pa_cons (pv 5) (pa_cons (pv 6) (pa_cons (pv 8) (pa_cons (pe_callB (call_min2 rfl) (by rfl) T.z_min (by decide +kernel) (pa_cons (pv 8) (pa_cons (pv 3) pa_nil))) pa_nil))))) pa_nil))))))
  (pss_one (ps_ret (pe_tup (pa_cons (pe_op op_mul (pe_fldK (K := K) (pv 0)) (pe_fldK (K := K) (pv 2))) (pa_cons (pv 4) pa_nil))))))))), ?_⟩
    refine ⟨_, rfl, G, _, _, rfl, c, hs, sl, fun vm G1 H1 e1 s1 => ?_⟩
    have sm := most_small sl
    have wl := whole_le ok
    obtain ⟨pm, dm, rfl, hm0⟩ := id s1
    have hm : G1 pm = some (.ins cS dm (shF (mostOf lv))) := hm0
    have hm1 : H1 pm = some (.ins cS dm (shF (mostOf lv))) := e1.c.s _ _ hm
    refine ⟨_, rfl, pm, cS, dm, _, _, rfl, hm1, T.l_cS, T.n_cS_over, shF_over _, _, rfl, p, cF, dx, _, _, rfl, e1.c.s _ _ (e1.g _ _ hp), T.l_cF, T.n_cF_whole, rfl, _, _, rfl, rfl, .inl ⟨by have := sm.1; omega, by have := sm.1; omega⟩, ?_⟩
    refine ⟨Nat.zero_le _, fun D hD => ?_⟩
    have nP : D ≠ PT := e1.c.ne hD
    have e2 := e1.trans (Ext.loc (M := nM) (o := .lst []) e1.c hD)
    refine ⟨_, rfl, p, cF, dx, _, _, rfl, e2.c.s _ _ (e2.g _ _ hp), T.l_cF, T.n_cF_powers, rfl, _, rfl, p, cF, dx, _, _, rfl, e2.c.s _ _ (e2.g _ _ hp), T.l_cF, T.n_cF_length, rfl, G1, .ref pp, _, x.2, rfl, e2.c, LR.to (fun _ _ _ _ s h => LN.to s h) e2.g hpp, ?_, ?_, ?_, rows_pow ok, fun vk G3 H3 e3 r3 => ?_⟩
    · rw [List.length_map]
      have := ok.1
      omega
    · rw [List.length_map]
      exact ok.2.1
    · have := ok.2.2.1
      omega
    obtain ⟨pk, us, rfl, hk, pr⟩ := r3
    have g1 : G1 D = none := e1.c.free hD
    have d3 : H3 D = some (.lst []) := e3.stay0 upd_same nP
    have g3 := e3.none_g (by rw [upd_same]; simp) g1
    have e23 := e2.trans e3
    refine ⟨pk, rfl, ⟨us, seqL e3.c.s hk⟩, ?_⟩
    have lk : (kindsM (x.1.map fun w => powN w x.2) x.2).length ≤ 1331 := by
      refine Nat.le_trans ((kinds_size (pss := x.1.map fun w => powN w x.2) (t := x.2)).resolve_right (by have := ok.2.2.1; omega)) ?_
      rw [List.length_map]
      exact Nat.pow_le_pow_right (by decide) ok.2.1
    refine wk_list.loop (fun i σ H' => ∃ y5 y6 y7 y8 us' G', σ = [some (.ref p), some u, some (.ref pm), some (.int (((mostOf lv).1 : Nat) * ((x.1.sum ^ x.2 : Nat) : Int))), some (.ref D), y5, y6, y7, y8] ∧ Ext PT nM G H G' H' ∧ Same G3 G' ∧ G' D = none ∧ H' D = some (.lst us') ∧
        Paired (PaAt K G') us' (((kindsM (x.1.map fun w => powN w x.2) x.2).take i).map (paOf (mostOf lv).2 ((mostOf lv).1 * x.1.sum ^ x.2))))
      ⟨none, none, none, none, [], G3, rfl, e23, Same.refl _, g3, d3, .nil⟩ (fun i σ H' _ ⟨_, _, _, _, us', G', _, e, sm', _⟩ => seqL e.c.s (seqL sm' hk)) ?_ ?_
    · rintro i v σ H4 H4' hi ⟨y5, y6, y7, y8, us', G4, rfl, e4, s4, g4, d4, p4⟩ ⟨rfl, hv⟩
      obtain ⟨⟨cc', n, pr'⟩, hc1, pp1, qq, rfl, hc2, hc3⟩ := pget pr hv
      have hc2' := seqT e4.c.s (seqT s4 hc2)
      have hm4 := e4.c.s _ _ (s4 _ _ (e3.g _ _ hm))
      refine ⟨pp1, _, rfl, hc2', rfl, _, _, rfl, _, _, rfl, _, _, rfl, rfl, ?_⟩
      refine ⟨_, rfl, _, rfl, pm, cS, dm, _, _, rfl, hm4, T.l_cS, T.n_cS_under, shF_under _, _, _, rfl, rfl, .inr ⟨by have := sm.2.2; omega, by have := sm.2.2; omega⟩, ?_⟩
      refine ⟨_, rfl, .inl ⟨rfl, _, sq_ofL d4⟩, ?_⟩
      refine ⟨_, rfl, _, rfl, _, rfl, ⟨_, rfl, _, rfl, _, _, rfl, ?_⟩⟩
      refine ⟨leS (by show 4 ≤ 100000; decide), fun t ht => ?_⟩
      have nt : D ≠ t := ne_of_none d4 ht
      have e5 := e4.trans (Ext.new (M := nM) (o := .tup [.ref qq, vN n, .int ((pr' : Nat) * (((mostOf lv).2 : Nat) : Int)), .int (if (((mostOf lv).1 : Nat) : Int) * ((x.1.sum ^ x.2 : Nat) : Int) < (pr' : Nat) * (((mostOf lv).2 : Nat) : Int) then (((mostOf lv).1 : Nat) : Int) * ((x.1.sum ^ x.2 : Nat) : Int) else (pr' : Nat) * (((mostOf lv).2 : Nat) : Int))]) e4.c ht)
      have l4 := plen p4
      refine ⟨D, _, _, rfl, rfl, by rw [upd_ne nt]; exact d4, ?_, _, _, _, _, us' ++ [.ref t], _, rfl, e5.mut (.inl (e1.nn hD)) (by rw [upd_ne nt]; exact g4) nP, s4.trans (same_upd (e4.c.free ht)), by rw [upd_ne nt]; exact g4, upd_same, ?_⟩
      · rw [l4, List.length_map, List.length_take]
        exact ltS (by omega)
      · rw [take_get hc1, List.map_append]
        refine psnoc (pmap p4 fun a b z1 => PaAt.to (same_upd (e4.c.free ht)) z1) ⟨t, qq, rfl, ?_, same_upd (e4.c.free ht) _ _ (s4 _ _ hc3)⟩
        have ea : vN (min (pr' * (mostOf lv).2) ((mostOf lv).1 * x.1.sum ^ x.2)) = V.int (if (((mostOf lv).1 : Nat) : Int) * ((x.1.sum ^ x.2 : Nat) : Int) < (pr' : Nat) * (((mostOf lv).2 : Nat) : Int) then (((mostOf lv).1 : Nat) : Int) * ((x.1.sum ^ x.2 : Nat) : Int) else (pr' : Nat) * (((mostOf lv).2 : Nat) : Int)) := by
          rw [natmul, natmul]
          unfold vN
          congr 1
          split <;> omega
        show SqT K _ t [.ref qq, vN n, vN (pr' * (mostOf lv).2), vN (min (pr' * (mostOf lv).2) ((mostOf lv).1 * x.1.sum ^ x.2))]
        rw [ea]
        show SqT K _ t [.ref qq, vN n, .int ((pr' * (mostOf lv).2 : Nat) : Int), _]
        rw [← natmul]
        exact sq_ofT upd_same
    · rintro σ H4 ⟨y5, y6, y7, y8, us', G4, rfl, e4, s4, g4, d4, p4⟩
      have hm4 := e4.c.s _ _ (s4 _ _ (e3.g _ _ hm))
      refine ⟨_, rfl, p, cF, dx, _, _, rfl, e4.c.s _ _ (e4.g _ _ hp), T.l_cF, T.n_cF_whole, rfl, _, rfl, pm, cS, dm, _, _, rfl, hm4, T.l_cS, T.n_cS_under, shF_under _, _, _, rfl, rfl, .inr ⟨by have := sm.2.2; omega, by have := sm.2.2; omega⟩, _, rfl, ?_⟩
      refine ⟨leS (by show 2 ≤ 100000; decide), fun t ht => ?_⟩
      have nt : D ≠ t := ne_of_none d4 ht
      have e5 := e4.frz (e1.nn hD) d4 nP
      refine q _ _ _ (e5.trans (Ext.new (M := nM) e5.c ht)) ⟨t, D, rfl, ?_, D, us', rfl, ?_, ?_⟩
      · show SqT K _ t [.int ((x.1.sum ^ x.2 * (mostOf lv).2 : Nat) : Int), _]
        rw [← natmul]
        exact sq_ofT upd_same
      · exact sq_ofL (same_upd (e5.c.free ht) _ _ upd_same)
      · have l3 := plen pr
        rw [l3, List.take_length] at p4
        exact pmap p4 fun a b z => PaAt.to ((same_upd g4).trans (same_upd (e5.c.free ht))) z
end
end K43
-- part M3
/-! M3: counts by their sum; the far table's numbers. -/
namespace K43
open PySem PySem.Spec PyProof.Rows L2
theorem mem_counts : ∀ {j t : Nat} {c : List Nat}, c ∈ countsM j t ↔ c.length = j + 1 ∧ c.sum = t
  | 0, t, c => by
    constructor
    · intro h
      rw [List.mem_singleton.mp h]
      exact ⟨rfl, by simp⟩
    · rintro ⟨h1, h2⟩
      match c, h1 with
      | [a], _ =>
        have : a = t := by simpa using h2
        rw [this]
        exact List.mem_singleton.mpr rfl
  | j + 1, t, c => by
    constructor
    · intro h
      obtain ⟨f, hf, hc⟩ := List.mem_flatMap.mp h
      obtain ⟨d, hd, rfl⟩ := List.mem_map.mp hc
      obtain ⟨h1, h2⟩ := mem_counts.mp hd
      have := List.mem_range.mp hf
      exact ⟨by rw [List.length_cons, h1], by rw [List.sum_cons, h2]; omega⟩
    · rintro ⟨h1, h2⟩
      match c, h1 with
      | a :: d, h1 =>
        rw [List.sum_cons] at h2
        refine List.mem_flatMap.mpr ⟨a, List.mem_range.mpr (by omega), List.mem_map.mpr ⟨d, mem_counts.mpr ⟨by simpa using h1, by omega⟩, rfl⟩⟩
theorem one_len {c : List Nat} {a : Nat} (h : a < c.length) : (oneM c a).length = c.length := by
  unfold oneM
  rw [List.length_append, List.length_cons, List.length_take, List.length_drop]
  omega
theorem one_zero (x : Nat) (r : List Nat) : oneM (x :: r) 0 = (x + 1) :: r := by
  unfold oneM
  simp
theorem one_succ (x : Nat) (r : List Nat) (a : Nat) : oneM (x :: r) (a + 1) = x :: oneM r a := by
  unfold oneM
  simp
theorem one_sum : ∀ {c : List Nat} {a : Nat}, a < c.length → (oneM c a).sum = c.sum + 1
  | x :: r, 0, _ => by
    rw [one_zero, List.sum_cons, List.sum_cons]
    omega
  | x :: r, a + 1, h => by
    rw [one_succ, List.sum_cons, List.sum_cons, one_sum (by simpa using h)]
    omega
/-- the sum of f over all that lie m steps on -/
def tabR (f : List Nat → Nat) (k : Nat) : Nat → List Nat → Nat
  | 0, c => f c
  | m + 1, c => ((List.range k).map fun a => tabR f k m (oneM c a)).sum
def keyT (c : List Nat) : List Key := c.map fun n : Nat => Sum.inl (n : Int)
theorem keyT_v (c : List Nat) : (keyT c).map kV = c.map vN := by
  unfold keyT
  rw [List.map_map]
  rfl
theorem keyT_inj {a b : List Nat} (h : keyT a = keyT b) : a = b := by
  induction a generalizing b with
  | nil =>
    cases b with
    | nil => rfl
    | cons x r => cases h
  | cons y a ih =>
    cases b with
    | nil => cases h
    | cons x r =>
      unfold keyT at h
      rw [List.map_cons, List.map_cons] at h
      injection h with h1 h2
      have h1 : (y : Int) = (x : Int) := Sum.inl.inj h1
      rw [show y = x by omega, ih h2]
theorem counts_nd : ∀ j < 3, ∀ n < 5, (countsM j n).Nodup := by decide +kernel
theorem counts_hash : ∀ j < 3, ∀ n < 5, ((countsM j n).map fun c => thash (c.map fun n : Nat => (n : Int))).Nodup := by decide +kernel
theorem kinds_counts : ∀ {pss : List (List Nat)} {t : Nat}, 1 ≤ pss.length → (kindsM pss t).map (·.1) = countsM (pss.length - 1) t
  | [], t, h => by simp at h
  | [ps], t, h => rfl
  | ps :: qs :: rest, t, h => by
    have e0 : ¬ (qs :: rest = []) := fun z => by cases z
    have ih : ∀ t, (kindsM (qs :: rest) t).map (·.1) = countsM rest.length t := fun t => by
      have := kinds_counts (pss := qs :: rest) (t := t) (by simp)
      simpa using this
    show (kindsM (ps :: qs :: rest) t).map (·.1) = countsM (rest.length + 1) t
    unfold kindsM
    rw [if_neg e0]
    show _ = (List.range (t + 1)).flatMap fun f => (countsM rest.length (t - f)).map fun c => f :: c
    rw [List.map_flatMap]
    congr 1
    funext f
    rw [List.map_map, ← ih (t - f), List.map_map]
    rfl
theorem parts_counts {ws : List Nat} {n : Nat} (lv : Nat × Nat) (h : 1 ≤ ws.length) : (partsM ws n lv).map (·.1) = countsM (ws.length - 1) n := by
  unfold partsM
  have e := kinds_counts (pss := ws.map fun w => powN w n) (t := n) (by rw [List.length_map]; exact h)
  rw [List.length_map] at e
  rw [List.map_map, ← e]
  rfl
end K43
-- part W9
/-! W9: worth_at, _table. -/
namespace K43
open PySem PySem.Spec PyProof.Rows L2
section
variable {P : Program} {w : World} {K : PySem.W.Frag} {mg : Str → Option Value} {base : Heap} {cS cF cG cT cM cK : Addr} {PT cc : Addr}
theorem kinds_texts : ∀ {pss : List (List Nat)} {t : Nat} {x : List Nat × Nat × Nat}, t ≤ 10 → x ∈ kindsM pss t → x.2.1 ≤ 1000 ^ pss.length
  | [], t, x, _, h => by cases h
  | ps :: rest, t, x, ht, h => by
    unfold kindsM at h
    by_cases e : rest = []
    · rw [if_pos e] at h
      rw [List.mem_singleton.mp h]
      exact Nat.one_le_pow _ _ (by decide)
    · rw [if_neg e] at h
      obtain ⟨f, hf, hm⟩ := List.mem_flatMap.mp h
      obtain ⟨d, hd, rfl⟩ := List.mem_map.mp hm
      have ih := kinds_texts (by omega) hd
      have hc := chV_le t (by omega) f (by have := List.mem_range.mp hf; omega)
      show chV t f * d.2.1 ≤ _
      rw [List.length_cons, Nat.pow_succ, Nat.mul_comm (1000 ^ _)]
      exact Nat.mul_le_mul (by omega) ih
theorem parts_texts {ws : List Nat} {n : Nat} {lv : Nat × Nat} {y : Pa} (ok : okF ws n) (h : y ∈ partsM ws n lv) : y.2.1 ≤ 1000000000 := by
  obtain ⟨x, hx, rfl⟩ := List.mem_map.mp h
  refine Nat.le_trans (kinds_texts (by have := ok.2.2.1; omega) hx) ?_
  rw [List.length_map]
  exact Nat.le_trans (Nat.pow_le_pow_right (by decide) ok.2.1) (by decide)
theorem vZ (L : List Nat) : (L.map fun n : Nat => (n : Int)).map V.int = L.map vN := by
  rw [List.map_map]
  rfl
def worthN (ws : List Nat) (n : Nat) (lv : Nat × Nat) : Nat := ((partsM ws n lv).map fun x => x.2.1 * x.2.2.2).sum
theorem sc_worth : FnScope ["self", "level", "divisor", "parts", "_", "texts", "arc"] ["self", "level"] (defScope (inC 23 5)) := ⟨rfl, rfl, rfl, by decide +kernel, rfl, by decide +kernel, by decide +kernel⟩
def spWorth (PT cF cS : Addr) (K : PySem.W.Frag) : Sp := fun vs H Q _ => ∃ (G : Hp) (v u : V) (x : List Nat × Nat) (lv : Nat × Nat), vs = [v, u] ∧ Cl PT G H ∧ FarAt K cF G v x ∧ okF x.1 x.2 ∧ ShAt cS G u lv ∧ shSmall lv ∧
  Ret PT G H Q fun G' r => ShAt cS G' r (low (worthN x.1 x.2 lv) (x.1.sum ^ x.2 * (mostOf lv).2))
theorem ok_worth (T : Txt K mg cS cF cG cT cM cK) : MCal P w K mg base cF "worth_at" 6 ["self", "level"] (spWorth PT cF cS K) := by
  refine T.m_cF_worth_at.ok T.l_cF sc_worth (fun vs H Q E h => ?_) (fun f cdv A outer s H vs Q E hr h => ?_)
  · obtain ⟨G, v, u, x, lv, rfl, _⟩ := h
    rfl
  · obtain ⟨G, v, u, x, lv, rfl, c, hF, ok, hs, sl, q⟩ := h
    obtain ⟨p, dx, pw, pp, rfl, hp, hw, hpp⟩ := id hF
    refine ⟨_, (pss_cons (ps_asg (pe_m (ok_parts (PT := PT) T) (hr.mono (by first | decide | omega)) (pv 0) (pa_cons (pv 1) pa_nil)) (pg_tupK (K := K) (n := 2) (pgs_cons (pg_n 2 sc_worth.nd) (pgs_cons (pg_n 3 sc_worth.nd) pgs_nil))))
  (pss_one (ps_ret (pe_n (n_sh (PT := PT) T) (hr.mono (by first | decide | omega)) (pa_cons (pe_callB (cr_sumK (K := K) rfl) (by rfl) T.z_sum (by decide +kernel) (pa_cons (pe_lc (own := [("_", 4), ("texts", 5), ("arc", 6)]) rfl sc_worth.nd (pi_listK (K := K) (pv 3)) (blkOk_by (own := [("_", 4), ("texts", 5), ("arc", 6)]) (N := ["self", "level", "divisor", "parts", "_", "texts", "arc"]) (sc := defScope (inC 23 5)) (by decide +kernel)) (fun _ _ _ _ _ => (pg_tupK (K := K) (n := 4) (pgs_cons (pg_n 4 sc_worth.nd) (pgs_cons (pg_n 5 sc_worth.nd) (pgs_cons (pg_n 4 sc_worth.nd) (pgs_cons (pg_n 6 sc_worth.nd) pgs_nil)))))) (fun _ _ _ _ _ => pts_nil) (fun _ _ _ _ _ => (pe_op op_mul (pv 5) (pv 6)))) pa_nil)) (pa_cons (pv 2) pa_nil)))))), ?_⟩
    refine ⟨_, rfl, p, dx, _, rfl, c.s _ _ hp, rfl, _, rfl, G, _, _, x, lv, rfl, c, hF, ok, hs, sl, fun r G1 H1 e1 r1 => ?_⟩
    obtain ⟨pt, pl, rfl, hpt, pl2, us, epl, hus, pr⟩ := r1
    obtain rfl : pl2 = pl := (V.ref.inj epl).symm
    refine ⟨pt, _, rfl, seqT e1.c.s hpt, rfl, _, _, rfl, _, _, rfl, rfl, ?_⟩
    refine ⟨_, rfl, pl2, rfl, ⟨us, seqL e1.c.s hus⟩, fun D hD => ?_⟩
    have nD : D ≠ PT := e1.c.ne hD
    have e2 := e1.trans (Ext.loc (M := nM) (o := .lst []) e1.c hD)
    have lus := plen pr
    have lp : us.length ≤ 1331 := by
      rw [lus]
      unfold partsM
      rw [List.length_map]
      refine Nat.le_trans ((kinds_size (pss := x.1.map fun w => powN w x.2) (t := x.2)).resolve_right (by have := ok.2.2.1; omega)) ?_
      rw [List.length_map]
      exact Nat.pow_le_pow_right (by decide) ok.2.1
    refine wk_list.comp (fun i H' => H' = upd H1 D (.lst ((((partsM x.1 x.2 lv).take i).map fun y => y.2.1 * y.2.2.2).map vN))) rfl (fun i H' _ e => by rw [e]; exact seqL (Ext.loc (M := nM) e1.c hD).c.s hus) ?_ ?_
    · rintro i v H3 H3' hi rfl ⟨rfl, hv⟩
      obtain ⟨y, hy1, qp, qq, rfl, hq1, hq2⟩ := pget pr hv
      have ht := parts_texts ok (List.mem_of_getElem? hy1)
      refine ⟨qp, _, rfl, seqT (Ext.loc (M := nM) e1.c hD).c.s hq1, rfl, _, _, rfl, _, _, rfl, _, _, rfl, _, _, rfl, rfl, rfl, _, rfl, _, rfl, _, _, rfl, rfl, .inl ⟨by omega, by omega⟩, _, upd_same, ?_, ?_⟩
      · rw [List.length_map, List.length_map, List.length_take]
        exact ltS (by omega)
      · rw [upd_upd, take_get hy1, List.map_append, List.map_append]
        rw [show ([y].map fun y => y.2.1 * y.2.2.2).map vN = [V.int (((y.2.1 : Nat) : Int) * ((y.2.2.2 : Nat) : Int))] by rw [natmul]; rfl]
    · rintro H3 rfl
      rw [lus, List.take_length]
      have wl := whole_le ok
      have sm := most_small sl
      refine ⟨D, ((partsM x.1 x.2 lv).map fun y => y.2.1 * y.2.2.2).map (fun n : Nat => (n : Int)), rfl, ?_, ?_⟩
      · rw [vZ]
        exact sq_ofL upd_same
      · rw [sumZ]
        refine ⟨_, rfl, ?_⟩
        have e3 : Ext PT nM G H G1 (upd H1 D (.lst (((partsM x.1 x.2 lv).map fun y => y.2.1 * y.2.2.2).map vN))) := e1.trans (Ext.loc (M := nM) e1.c hD)
        exact ⟨G1, _, _, _, _, rfl, e3.c, rfl, rfl, Nat.mul_pos (whole_pos ok) sm.2.1, small_mul (by omega) sm.2.2, fun r G4 H4 e4 s4 => q _ _ _ (e3.trans e4) s4⟩
end
end K43
-- part W10
/-! W10: _table. -/
namespace K43
open PySem PySem.Spec PyProof.Rows L2
section
variable {P : Program} {w : World} {K : PySem.W.Frag} {mg : Str → Option Value} {base : Heap} {cS cF cG cT cM cK : Addr} {PT cc : Addr}
def kvT (f : List Nat → Nat) (cs : List (List Nat)) : List (List Key × V) := cs.map fun c => (keyT c, vN (f c))
def TabOk (kvs : List (List Key × V)) (k n : Nat) (f : List Nat → Nat) (lo : Nat) : Prop := ∀ m c, m ≤ lo → c.length = k → c.sum + m = n → valV kvs (keyT c) = some (vN (tabR f k m c))
def TabAt (G : Hp) (v : V) (k n : Nat) (f : List Nat → Nat) : Prop := ∃ p kvs, v = .ref p ∧ G p = some (.dT kvs) ∧ TabOk kvs k n f n
theorem TabAt.to {G G1 : Hp} {v : V} {k n : Nat} {f : List Nat → Nat} (s : Same G G1) (h : TabAt G v k n f) : TabAt G1 v k n f := by
  obtain ⟨p, kvs, e, h, q⟩ := h
  exact ⟨p, kvs, e, s _ _ h, q⟩
theorem valV_kvT (f : List Nat → Nat) {c : List Nat} : ∀ {cs : List (List Nat)}, c ∈ cs → valV (kvT f cs) (keyT c) = some (vN (f c))
  | a :: r, h => by
    unfold kvT
    rw [List.map_cons]
    by_cases e : a = c
    · rw [valV_pos (by show keyT a = keyT c; rw [e]), e]
    · rw [valV_neg (by intro z; exact e (keyT_inj z))]
      rcases List.mem_cons.mp h with h | h
      · exact absurd h.symm e
      · exact valV_kvT f h
theorem cts_le5 : ∀ j < 3, ∀ t < 11, (countsM j t).length ≤ 100 := cts_le
theorem sc_table : FnScope ["far", "numbers", "kinds", "table", "total", "counts", "at"] ["far", "numbers"] (defScope (topS 24)) := ⟨rfl, rfl, rfl, by decide +kernel, rfl, by decide +kernel, by decide +kernel⟩
def spTable (PT cF : Addr) (K : PySem.W.Frag) : Sp := fun vs H Q _ => ∃ (G : Hp) (v : V) (d : Addr) (x : List Nat × Nat) (f : List Nat → Nat), vs = [v, .ref d] ∧ Cl PT G H ∧ FarAt K cF G v x ∧ okF x.1 x.2 ∧ G d = some (.dT (kvT f (countsM (x.1.length - 1) x.2))) ∧
  Ret PT G H Q fun G' r => TabAt G' r x.1.length x.2 f
theorem ok_table (T : Txt K mg cS cF cG cT cM cK) : Cal P w K mg base "_table" 4 ["far", "numbers"] (spTable PT cF K) := by
  refine T.d_table.ok sc_table (fun vs H Q E h => ?_) (fun f cdv A outer s H vs Q E hr h => ?_)
  · obtain ⟨G, v, d, x, f, rfl, _⟩ := h
    rfl
  · obtain ⟨G, v, d, x, fv, rfl, c, hF, ok, hd, q⟩ := h
    obtain ⟨p, dx, pw, pp, rfl, hp, hw, hpp⟩ := id hF
    refine ⟨_, (pss_cons (ps_s 2 sc_table.nd (pe_callB (call_len_seqK (K := K)) (by rfl) T.z_len (by decide +kernel) (pa_cons (pe_fldK (K := K) (pv 0)) pa_nil)))
  (pss_cons (ps_s 3 sc_table.nd (pe_callTy (call_dictT hr) (by rfl) T.z_dict (by decide +kernel) (pa_cons (pv 1) pa_nil)))
  (pss_cons (ps_for PassesOwn.never rfl (pi_range3 rfl T.z_range (pa_cons (pe_op op_sub (pe_fldK (K := K) (pv 0)) pe_int) (pa_cons (pe_un un_neg pe_int) (pa_cons (pe_un un_neg pe_int) pa_nil)))) (pg_n 4 sc_table.nd)
  (pss_one (ps_for PassesOwn.never rfl (pi_listK (K := K) (pe_c (ok_cts (PT := PT) T) (hr.mono (by first | decide | omega)) (pa_cons (pv 2) (pa_cons (pv 4) pa_nil)))) (pg_n 5 sc_table.nd)
  (pss_one (ps_dput (hu_of hr) (pv 3) (pv 5) (pe_callB (cr_sumK (K := K) rfl) (by rfl) T.z_sum (by decide +kernel) (pa_cons (pe_lc (own := [("at", 6)]) rfl sc_table.nd (pi_range1 rfl T.z_range (pa_cons (pv 2) pa_nil)) (blkOk_by (own := [("at", 6)]) (N := ["far", "numbers", "kinds", "table", "total", "counts", "at"]) (sc := defScope (topS 24)) (by decide +kernel)) (fun _ _ _ _ _ => (pg_n 6 sc_table.nd)) (fun _ _ _ _ _ => pts_nil) (fun _ _ _ _ _ => (pe_dget (hu_of hr) (pv 3) (pe_c (ok_more (PT := PT) T) (hr.mono (by first | decide | omega)) (pa_cons (pv 5) (pa_cons (pv 6) pa_nil))) (fun _ _ => rfl)))) pa_nil)) rfl)))))
  (pss_one (ps_ret (pv 3)))))), ?_⟩
    have hk1 := ok.1
    have hk2 := ok.2.1
    have hn := ok.2.2.1
    obtain ⟨k, hk⟩ : ∃ k, k + 1 = x.1.length := ⟨x.1.length - 1, by omega⟩
    have hkn : x.1.length - 1 = k := by omega
    rw [hkn] at hd
    refine ⟨_, rfl, p, cF, dx, _, _, rfl, c.s _ _ hp, T.l_cF, T.n_cF_weights, rfl, pw, _, rfl, .inr (seqT c.s hw), ?_⟩
    rw [List.length_map]
    refine ⟨_, rfl, d, kvT fv (countsM k x.2), (countsM k x.2).map (fun c => c.map fun n : Nat => (n : Int)), rfl, .inl (c.s _ _ hd), ?_, ?_, fun t ht => ?_⟩
    · unfold kvT
      rw [List.map_map, List.map_map]
      refine List.map_congr_left fun c _ => ?_
      show keyT c = (c.map _).map _
      rw [List.map_map]
      rfl
    · rw [List.map_map]
      exact counts_hash k (by omega) x.2 (by omega)
    have nP : t ≠ PT := c.ne ht
    have e1 : Ext PT nM G H G (upd H t (.dT (kvT fv (countsM k x.2)))) := Ext.loc c ht
    refine ⟨_, rfl, p, cF, dx, _, _, rfl, e1.c.s _ _ hp, T.l_cF, T.n_cF_length, rfl, _, _, rfl, rfl, _, rfl, _, rfl, (x.2 : Int) - 1, -1, -1, x.2, rfl, ?_, ?_⟩
    · have := RgC.neg (i := (x.2 : Int) - 1) (j := -1) (by omega) (by omega) (by omega) (by omega)
      rw [show ((x.2 : Int) - 1 - -1).toNat = x.2 by omega] at this
      exact this
    refine wk_rangeC.loop (fun i σ H' => ∃ y4 y5 y6 kvs G', σ = [some (.ref p), some (.ref d), some (.int (x.1.length : Nat)), some (.ref t), y4, y5, y6] ∧ Ext PT nM G H G' H' ∧ G' t = none ∧ H' t = some (.dT kvs) ∧ kvs.length ≤ 100 + i * 100 ∧ TabOk kvs x.1.length x.2 fv i)
      ⟨none, none, none, _, G, rfl, e1, c.free ht, upd_same, ?_, fun m c hm hc hs => ?_⟩ (fun _ _ _ _ _ => True.intro) ?_ ?_
    · unfold kvT
      rw [List.length_map]
      have := cts_le5 k (by omega) x.2 (by omega)
      omega
    · obtain rfl : m = 0 := by omega
      exact valV_kvT fv (mem_counts.mpr ⟨by omega, by omega⟩)
    · rintro i v σ H2 H2' hi ⟨y4, y5, y6, kvs, G2, rfl, e2, g2, d2, hl2, ok2⟩ ⟨rfl, rfl⟩
      refine ⟨_, rfl, _, rfl, G2, k, x.2 - 1 - i, ?_, e2.c, by omega, by omega, fun v3 G3 H3 e3 r3 => ?_⟩
      · show [V.int _, V.int _] = [V.int _, V.int _]
        rw [show ((k : Int) + 1) = ((x.1.length : Nat) : Int) by omega, show (x.2 : Int) - 1 + (i : Nat) * -1 = ((x.2 - 1 - i : Nat) : Int) by omega]
      obtain ⟨pc, us, rfl, hus, pr⟩ := r3
      have lus := plen pr
      have lcs := cts_le5 k (by omega) (x.2 - 1 - i) (by omega)
      have d3 := e3.stay0 d2 nP
      have g3 := e3.none_g (by rw [d2]; simp) g2
      refine ⟨pc, rfl, ⟨us, seqL e3.c.s hus⟩, ?_⟩
      refine wk_list.loop (fun j σ H' => ∃ y5 y6 kvs G', σ = [some (.ref p), some (.ref d), some (.int (x.1.length : Nat)), some (.ref t), some (.int ((x.2 : Int) - 1 + (i : Nat) * -1)), y5, y6] ∧ Ext PT nM G H G' H' ∧ Same G3 G' ∧ G' t = none ∧ H' t = some (.dT kvs) ∧ kvs.length ≤ 100 + i * 100 + j ∧ TabOk kvs x.1.length x.2 fv i ∧
          ∀ c ∈ (countsM k (x.2 - 1 - i)).take j, valV kvs (keyT c) = some (vN (tabR fv x.1.length (i + 1) c)))
        ⟨y5, y6, kvs, G3, rfl, e2.trans e3, Same.refl _, g3, d3, by omega, ok2, fun c hc => by simp at hc⟩ (fun j σ H' _ ⟨_, _, _, G', _, e, sm, _⟩ => seqL e.c.s (seqL sm hus)) ?_ ?_
      · rintro j v σ H4 H4' hj ⟨y5, y6, kvs4, G4, rfl, e4, s4, g4, d4, hl4, ok4, dn4⟩ ⟨rfl, hv⟩
        obtain ⟨cs, hcs, pp1, rfl, hpp1⟩ := pget pr hv
        obtain ⟨cl, csum⟩ := mem_counts.mp (List.mem_of_getElem? hcs)
        refine ⟨_, rfl, _, rfl, by omega, by omega, fun D hD => ?_⟩
        have nD : D ≠ PT := e4.c.ne hD
        have nt : t ≠ D := ne_of_none d4 hD
        have e5 := e4.trans (Ext.loc (M := nM) (o := .lst []) e4.c hD)
        have d5 : upd H4' D (.lst []) t = some (.dT kvs4) := by rw [upd_ne nt]; exact d4
        have hpp4 : SqT K G4 pp1 (cs.map vN) := sq_ofT (s4 _ _ hpp1)
        refine wk_range.comp (n := (((x.1.length : Nat) : Int)).toNat) (fun a H' => ∃ G', Ext PT nM G H G' H' ∧ Same G4 G' ∧ G' t = none ∧ G' D = none ∧ H' t = some (.dT kvs4) ∧ H' D = some (.lst (((List.range a).map fun a => tabR fv x.1.length i (oneM cs a)).map vN)))
          ⟨G4, e5, Same.refl _, g4, e4.c.free hD, d5, upd_same⟩ (fun _ _ _ _ => True.intro) ?_ ?_
        · rintro a y H6 H6' ha ⟨G6, e6, s6, g6, gD, d6, l6⟩ ⟨rfl, rfl⟩
          have hak : a < x.1.length := by omega
          refine ⟨rfl, _, rfl, _, rfl, _, rfl, G6, _, cs, a, ?_, e6.c, ⟨pp1, rfl, s6 _ _ (s4 _ _ hpp1)⟩, by omega, by omega, fun v7 G7 H7 e7 r7 => ?_⟩
          · show [V.ref pp1, V.int _] = [V.ref pp1, V.int _]
            rw [Int.zero_add]
          obtain ⟨p7, rfl, h7⟩ := r7
          have d7 := e7.stay0 d6 nP
          have hl7 := e7.stay0 l6 nD
          have hv7 : valV kvs4 (keyT (oneM cs a)) = some (vN (tabR fv x.1.length i (oneM cs a))) := ok4 i _ (Nat.le_refl _) (by rw [one_len (by omega)]; omega) (by rw [one_sum (by omega)]; omega)
          have dg : DGet H7 t (.ref p7) (some (vN (tabR fv x.1.length i (oneM cs a)))) := by
            rw [← hv7]
            exact DGet.t d7 (by rw [keyT_v]; exact e7.c.s _ _ h7)
          refine ⟨t, _, rfl, dg, _, hl7, ?_, G7, ?_, s6.trans e7.g, e7.none_g (by rw [d6]; simp) g6, e7.none_g (by rw [l6]; simp) gD, by rw [upd_ne nt]; exact d7, ?_⟩
          · rw [List.length_map, List.length_map, List.length_range]
            exact ltS (by omega)
          · exact (e6.trans e7).mut (.inl (e4.nn hD)) (e7.none_g (by rw [l6]; simp) gD) nD
          · rw [upd_same, List.range_succ, List.map_append, List.map_append]
            rfl
        · rintro H6 ⟨G6, e6, s6, g6, gD, d6, l6⟩
          rw [Int.toNat_natCast] at l6
          refine ⟨D, ((List.range x.1.length).map fun a => tabR fv x.1.length i (oneM cs a)).map (fun n : Nat => (n : Int)), rfl, by rw [vZ]; exact sq_ofL l6, ?_⟩
          rw [sumZ]
          have hput : DPut H6 t (.ref pp1) (.int ((((List.range x.1.length).map fun a => tabR fv x.1.length i (oneM cs a)).sum : Nat) : Int)) _ := DPut.t (k := keyT cs) d6 (by rw [keyT_v]; exact e6.c.s _ _ (s6 _ _ (s4 _ _ hpp1))) (ltS (by omega))
          refine ⟨_, rfl, _, rfl, t, _, rfl, hput, _, _, _, G6, rfl, e6.mut (.inl ht) g6 nP, s4.trans s6, g6, upd_same, ?_, fun m c hm hc hs => ?_, fun c hc => ?_⟩
          · have := length_putK kvs4 (keyT cs) (.int ((((List.range x.1.length).map fun a => tabR fv x.1.length i (oneM cs a)).sum : Nat) : Int))
            omega
          · rw [valV_put, if_neg (fun z => by
              have := keyT_inj z
              rw [this] at hs
              omega)]
            exact ok4 m c hm hc hs
          · rw [valV_put]
            by_cases e : c = cs
            · rw [if_pos (by rw [e]), e]
              rfl
            · rw [if_neg (fun z => e (keyT_inj z))]
              rw [take_get hcs] at hc
              rcases List.mem_append.mp hc with h | h
              · exact dn4 c h
              · exact absurd (List.mem_singleton.mp h) e
      · rintro σ H4 ⟨y5, y6, kvs4, G4, rfl, e4, s4, g4, d4, hl4, ok4, dn4⟩
        refine ⟨_, y5, y6, kvs4, G4, rfl, e4, g4, d4, by rw [lus] at hl4; omega, fun m c hm hc hs => ?_⟩
        rw [lus, List.take_length] at dn4
        by_cases hmi : m ≤ i
        · exact ok4 m c hmi hc hs
        · obtain rfl : m = i + 1 := by omega
          exact dn4 c (mem_counts.mpr ⟨by omega, by omega⟩)
    · rintro σ H2 ⟨y4, y5, y6, kvs, G2, rfl, e2, g2, d2, hl2, ok2⟩
      exact ⟨_, rfl, q _ _ _ (e2.frz ht d2 nP) ⟨t, kvs, rfl, upd_same, ok2⟩⟩
end
end K43
-- part W11
/-! W11: FarMarking made. -/
namespace K43
open PySem PySem.Spec PyProof.Rows L2
theorem hu0 {A : Around} {k : Nat} (hr : Room k A) : A.units < cLine := Nat.lt_of_succ_lt (hu_of hr)
section
variable {P : Program} {w : World} {K : PySem.W.Frag} {mg : Str → Option Value} {base : Heap} {cS cF cG cT cM cK : Addr} {PT cc : Addr}
theorem kinds_wt : ∀ {ws : List Nat} {n t : Nat} {x : List Nat × Nat × Nat}, t ≤ n → x ∈ kindsM (ws.map fun w => powN w n) t → x.2.2 = wt ws x.1
  | [], n, t, x, _, h => by cases h
  | [a], n, t, x, ht, h => by
    have h : x = ([t], 1, (powN a n).getD t 0) := List.mem_singleton.mp h
    rw [h]
    show (powN a n).getD t 0 = wt [a] [t]
    rw [List.getD_eq_getElem?_getD, powN_get ht]
    unfold wt
    simp
  | a :: b :: ws, n, t, x, ht, h => by
    unfold kindsM at h
    rw [List.map_cons, List.map_cons] at h
    have e0 : ¬ (powN b n :: ws.map fun w => powN w n) = [] := fun z => by cases z
    simp only [] at h
    rw [if_neg e0] at h
    obtain ⟨f, hf, hm⟩ := List.mem_flatMap.mp h
    obtain ⟨d, hd, rfl⟩ := List.mem_map.mp hm
    have hf := List.mem_range.mp hf
    have ih := kinds_wt (ws := b :: ws) (n := n) (t := t - f) (x := d) (by omega) hd
    show (powN a n).getD f 0 * d.2.2 = wt (a :: b :: ws) (f :: d.1)
    rw [List.getD_eq_getElem?_getD, powN_get (by omega), ih]
    unfold wt
    rw [List.zipWith_cons_cons, List.prod_cons]
    rfl
def shN (ws : List Nat) (lv : Nat × Nat) (c : List Nat) : Nat := wt ws c * (mostOf lv).2
def acN (ws : List Nat) (n : Nat) (lv : Nat × Nat) (c : List Nat) : Nat := min (shN ws lv c) ((mostOf lv).1 * ws.sum ^ n)
theorem parts_val {ws : List Nat} {n : Nat} {lv : Nat × Nat} {y : Pa} (h : y ∈ partsM ws n lv) : y.2.2.1 = shN ws lv y.1 ∧ y.2.2.2 = acN ws n lv y.1 := by
  obtain ⟨x, hx, rfl⟩ := List.mem_map.mp h
  have e := kinds_wt (Nat.le_refl n) hx
  show x.2.2 * _ = _ ∧ min (x.2.2 * _) _ = _
  rw [e]
  exact ⟨rfl, rfl⟩
def comL (D : Nat) (l : List Pa) : Nat := l.foldl (fun g x => Nat.gcd (Nat.gcd g x.2.2.1) x.2.2.2) D
def divN (ws : List Nat) (n : Nat) (lv : Nat × Nat) : Nat := ws.sum ^ n * (mostOf lv).2
def comN (ws : List Nat) (n : Nat) (lv : Nat × Nat) : Nat := comL (divN ws n lv) (partsM ws n lv)
def fA (ws : List Nat) (n : Nat) (lv : Nat × Nat) (c : List Nat) : Nat := acN ws n lv c / comN ws n lv
def fR (ws : List Nat) (n : Nat) (lv : Nat × Nat) (c : List Nat) : Nat := (shN ws lv c - acN ws n lv c) / comN ws n lv
def zer (k : Nat) : List Nat := List.replicate k 0
theorem valV_out (f : List Nat → Nat) {c : List Nat} : ∀ {cs : List (List Nat)}, c ∉ cs → valV (kvT f cs) (keyT c) = none
  | [], _ => rfl
  | a :: r, h => by
    unfold kvT
    rw [List.map_cons, valV_neg (by intro z; exact h (by rw [keyT_inj z]; exact List.mem_cons_self ..))]
    exact valV_out f fun z => h (List.mem_cons_of_mem _ z)
theorem nd_take {α : Type} {l : List α} {i : Nat} {c : α} (h : l.Nodup) (hi : l[i]? = some c) : c ∉ l.take i := by
  intro hm
  obtain ⟨j, hj, e⟩ := List.getElem_of_mem hm
  rw [List.getElem_take] at e
  rw [List.length_take] at hj
  obtain ⟨hi2, e2⟩ := List.getElem?_eq_some_iff.mp hi
  have := List.pairwise_iff_getElem.mp h j i (by omega) hi2 (by omega)
  exact this (by rw [e, e2])
theorem put_kvT (f : List Nat → Nat) {cs : List (List Nat)} {i : Nat} {c : List Nat} (h : cs.Nodup) (hi : cs[i]? = some c) : putK (kvT f (cs.take i)) (keyT c) (vN (f c)) = kvT f (cs.take (i + 1)) := by
  rw [putK_new _ (valV_out f (nd_take h hi)), take_get hi]
  unfold kvT
  rw [List.map_append]
  rfl
theorem rep_zer (k : Nat) : (List.replicate k [V.int 0]).flatten = (zer k).map vN := by
  unfold zer
  rw [List.map_replicate]
  induction k with
  | zero => rfl
  | succ k ih =>
    rw [List.replicate_succ, List.flatten_cons, ih, List.replicate_succ]
    rfl
theorem zer_sum (k : Nat) : (zer k).sum = 0 := by
  unfold zer
  simp
def mkF (x : List Nat × Nat) (lv : Nat × Nat) (pf pa pr : Addr) : List (Str × V) := [("far", .ref pf), ("ring", .int ((divN x.1 x.2 lv / comN x.1 x.2 lv : Nat) : Int)), ("_arcs", .ref pa), ("_rests", .ref pr), ("_arced", vN (tabR (fA x.1 x.2 lv) x.1.length x.2 (zer x.1.length)))]
/-- a marking that stands -/
def MkAt (K : PySem.W.Frag) (cF cG : Addr) (G : Hp) (v : V) (y : (List Nat × Nat) × (Nat × Nat)) : Prop := ∃ p dx pf pa pr, v = .ref p ∧ G p = some (.ins cG dx (mkF y.1 y.2 pf pa pr)) ∧ FarAt K cF G (.ref pf) y.1 ∧ okF y.1.1 y.1.2 ∧
  TabAt G (.ref pa) y.1.1.length y.1.2 (fA y.1.1 y.1.2 y.2) ∧ TabAt G (.ref pr) y.1.1.length y.1.2 (fR y.1.1 y.1.2 y.2)
theorem MkAt.to {G G1 : Hp} {v : V} {y : (List Nat × Nat) × (Nat × Nat)} (s : Same G G1) (h : MkAt K cF cG G v y) : MkAt K cF cG G1 v y := by
  obtain ⟨p, dx, pf, pa, pr, e, h, h2, ok, h3, h4⟩ := h
  exact ⟨p, dx, pf, pa, pr, e, s _ _ h, FarAt.to s h2, ok, TabAt.to s h3, TabAt.to s h4⟩
theorem comL_dvd : ∀ {l : List Pa} {D : Nat}, comL D l ∣ D ∧ ∀ x ∈ l, comL D l ∣ x.2.2.1 ∧ comL D l ∣ x.2.2.2
  | [], D => ⟨Nat.dvd_refl _, fun x h => by cases h⟩
  | a :: r, D => by
    obtain ⟨h1, h2⟩ := comL_dvd (l := r) (D := Nat.gcd (Nat.gcd D a.2.2.1) a.2.2.2)
    have h3 : comL (Nat.gcd (Nat.gcd D a.2.2.1) a.2.2.2) r ∣ Nat.gcd D a.2.2.1 := Nat.dvd_trans h1 (Nat.gcd_dvd_left _ _)
    refine ⟨Nat.dvd_trans h3 (Nat.gcd_dvd_left _ _), fun x hx => ?_⟩
    rcases List.mem_cons.mp hx with e | hx
    · rw [e]
      exact ⟨Nat.dvd_trans h3 (Nat.gcd_dvd_right _ _), Nat.dvd_trans h1 (Nat.gcd_dvd_right _ _)⟩
    · exact h2 x hx
theorem divN_pos {ws : List Nat} {n : Nat} {lv : Nat × Nat} (ok : okF ws n) (sl : shSmall lv) : 0 < divN ws n lv := Nat.mul_pos (whole_pos ok) (most_small sl).2.1
theorem comN_pos {ws : List Nat} {n : Nat} {lv : Nat × Nat} (ok : okF ws n) (sl : shSmall lv) : 0 < comN ws n lv := Nat.pos_of_dvd_of_pos comL_dvd.1 (divN_pos ok sl)
theorem most_u {lv : Nat × Nat} (h : lv.2 < 2 ^ 30) : (mostOf lv).2 < 2 ^ 30 := by
  unfold mostOf lessF
  split
  · exact h
  · decide
theorem divN_lt {ws : List Nat} {n : Nat} {lv : Nat × Nat} (ok : okF ws n) (h : lv.2 < 2 ^ 30) : divN ws n lv < 2 ^ 60 := by
  have h1 := whole_le ok
  have h2 : ws.sum ^ n < 2 ^ 30 := by omega
  have h3 : ws.sum ^ n * (mostOf lv).2 < 2 ^ 30 * 2 ^ 30 := Nat.mul_lt_mul'' h2 (most_u h)
  exact Nat.lt_of_lt_of_le h3 (by decide)
theorem comN_lt {ws : List Nat} {n : Nat} {lv : Nat × Nat} (ok : okF ws n) (sl : shSmall lv) (h : lv.2 < 2 ^ 30) : comN ws n lv < 2 ^ 60 := Nat.lt_of_le_of_lt (Nat.le_of_dvd (divN_pos ok sl) comL_dvd.1) (divN_lt ok h)
theorem sc_gi : FnScope ["self", "far", "level", "divisor", "parts", "common", "_", "share", "arc", "counts"] ["self", "far", "level"] (defScope (inC 25 0)) := ⟨rfl, rfl, rfl, by decide +kernel, rfl, by decide +kernel, by decide +kernel⟩
def spGI (PT cF cS cG : Addr) (K : PySem.W.Frag) : Sp := fun vs H Q _ => ∃ (G H0 : Hp) (p dx : Addr) (v u : V) (x : List Nat × Nat) (lv : Nat × Nat), vs = [.ref p, v, u] ∧ Cl PT G H0 ∧ H0 p = none ∧ H0 dx = none ∧ dx ≠ p ∧ H = upd (upd H0 dx (.own p)) p (.ins cG dx []) ∧
  FarAt K cF G v x ∧ okF x.1 x.2 ∧ ShAt cS G u lv ∧ shSmall lv ∧ lv.2 < 2 ^ 30 ∧ ∀ G' H', Ext PT nM G H0 G' H' → MkAt K cF cG G' (.ref p) (x, lv) → Q .non H'
theorem ok_gi (T : Txt K mg cS cF cG cT cM cK) : KCal P w K mg base "FarMarking" cG 6 ["self", "far", "level"] (spGI PT cF cS cG K) := by
  refine T.k_cG.ok T.g_cG sc_gi (fun vs H Q E h => ?_) (fun f cdv A outer s H vs Q E hr h => ?_)
  · obtain ⟨G, H0, p, dx, v, u, x, lv, rfl, _⟩ := h
    rfl
  · obtain ⟨G, H0, p, dx, v, u, x, lv, rfl, c, np, nd, ne, rfl, hF, ok, hs, sl, sl2, q⟩ := h
    refine ⟨_, (pss_cons (ps_fld (pv 0) (pv 1) rfl)
  (pss_cons (ps_asg (pe_m (ok_parts (PT := PT) T) (hr.mono (by first | decide | omega)) (pv 1) (pa_cons (pv 2) pa_nil)) (pg_tupK (K := K) (n := 2) (pgs_cons (pg_n 3 sc_gi.nd) (pgs_cons (pg_n 4 sc_gi.nd) pgs_nil))))
  (pss_cons (ps_s 5 sc_gi.nd (pv 3))
  (pss_cons (ps_for PassesOwn.never rfl (pi_listK (K := K) (pv 4)) (pg_tupK (K := K) (n := 4) (pgs_cons (pg_n 6 sc_gi.nd) (pgs_cons (pg_n 6 sc_gi.nd) (pgs_cons (pg_n 7 sc_gi.nd) (pgs_cons (pg_n 8 sc_gi.nd) pgs_nil)))))
  (pss_one (ps_s 5 sc_gi.nd (pe_c (ok_gcd T) (hr.mono (by first | decide | omega)) (pa_cons (pe_c (ok_gcd T) (hr.mono (by first | decide | omega)) (pa_cons (pv 5) (pa_cons (pv 7) pa_nil))) (pa_cons (pv 8) pa_nil))))))
  (pss_cons (ps_fld (pv 0) (pe_op op_fdivW (pv 3) (pv 5)) rfl)
  (pss_cons (ps_fld (pv 0) (pe_c (ok_table (PT := PT) T) (hr.mono (by first | decide | omega)) (pa_cons (pv 1) (pa_cons (pe_dcT (hu0 hr) (own := [("counts", 9), ("_", 6), ("arc", 8)]) rfl sc_gi.nd (pi_listK (K := K) (pv 4)) (blkOk_by (own := [("counts", 9), ("_", 6), ("arc", 8)]) (N := ["self", "far", "level", "divisor", "parts", "common", "_", "share", "arc", "counts"]) (sc := defScope (inC 25 0)) (by decide +kernel)) (fun _ _ _ _ _ => (pg_tupK (K := K) (n := 4) (pgs_cons (pg_n 9 sc_gi.nd) (pgs_cons (pg_n 6 sc_gi.nd) (pgs_cons (pg_n 6 sc_gi.nd) (pgs_cons (pg_n 8 sc_gi.nd) pgs_nil)))))) (fun _ _ _ _ _ => pts_nil) (fun _ _ _ _ _ => (pv 9)) (fun _ _ _ _ _ => (pe_op op_fdivW (pv 8) (pv 5)))) pa_nil))) rfl)
  (pss_cons (ps_fld (pv 0) (pe_c (ok_table (PT := PT) T) (hr.mono (by first | decide | omega)) (pa_cons (pv 1) (pa_cons (pe_dcT (hu0 hr) (own := [("counts", 9), ("_", 6), ("share", 7), ("arc", 8)]) rfl sc_gi.nd (pi_listK (K := K) (pv 4)) (blkOk_by (own := [("counts", 9), ("_", 6), ("share", 7), ("arc", 8)]) (N := ["self", "far", "level", "divisor", "parts", "common", "_", "share", "arc", "counts"]) (sc := defScope (inC 25 0)) (by decide +kernel)) (fun _ _ _ _ _ => (pg_tupK (K := K) (n := 4) (pgs_cons (pg_n 9 sc_gi.nd) (pgs_cons (pg_n 6 sc_gi.nd) (pgs_cons (pg_n 7 sc_gi.nd) (pgs_cons (pg_n 8 sc_gi.nd) pgs_nil)))))) (fun _ _ _ _ _ => pts_nil) (fun _ _ _ _ _ => (pv 9)) (fun _ _ _ _ _ => (pe_op op_fdivW (pe_op op_sub (pv 7) (pv 8)) (pv 5)))) pa_nil))) rfl)
  (pss_one (ps_fld (pv 0) (pe_dget (hu_of hr) (pe_fldK (K := K) (pv 0)) (pe_op (op_repTK (K := K)) (pe_tup (pa_cons pe_int pa_nil)) (pe_callB (call_len_seqK (K := K)) (by rfl) T.z_len (by decide +kernel) (pa_cons (pe_fldK (K := K) (pv 1)) pa_nil))) (fun _ _ => rfl)) rfl))))))))), ?_⟩
    obtain ⟨pf, dxf, pw, pp, rfl, hp, hw, hpp⟩ := id hF
    have e0 : Ext PT nM G H0 G (upd (upd H0 dx (.own p)) p (.ins cG dx [])) := Ext.made c np nd ne
    have nP : p ≠ PT := c.ne np
    have gp : G p = none := c.free np
    have eA := e0.mut (o := .ins cG dx (putF "far" (.ref pf) [])) (.inl np) gp nP
    rw [upd_upd] at eA
    refine ⟨_, rfl, _, rfl, p, cG, dx, _, rfl, upd_same, T.l_cG, T.n_cG_far, by decide, ?_⟩
    rw [upd_upd]
    refine ⟨_, rfl, pf, dxf, _, rfl, eA.c.s _ _ hp, rfl, _, rfl, G, _, _, x, lv, rfl, eA.c, hF, ok, hs, sl, fun r G1 H1 e1 r1 => ?_⟩
    obtain ⟨pt, pl, rfl, hpt, pl2, us, epl, hus, pr⟩ := r1
    obtain rfl : pl2 = pl := (V.ref.inj epl).symm
    have d1 : H1 p = some (.ins cG dx (putF "far" (.ref pf) [])) := e1.stay0 upd_same nP
    have g1 : G1 p = none := e1.none_g (by rw [upd_same]; simp) gp
    have eB := eA.trans e1
    have lus := plen pr
    have hk1 := ok.1
    have hk2 := ok.2.1
    have hn := ok.2.2.1
    have lcs := parts_counts (ws := x.1) (n := x.2) lv (by omega)
    have lp : us.length ≤ 100 := by
      rw [lus]
      have := congrArg List.length lcs
      rw [List.length_map] at this
      rw [this]
      exact cts_le5 _ (by omega) _ (by omega)
    have cpos := comN_pos ok sl
    have clt := comN_lt ok sl sl2
    refine ⟨pt, _, rfl, seqT e1.c.s hpt, rfl, _, _, rfl, _, _, rfl, rfl, ?_⟩
    refine ⟨_, rfl, ?_⟩
    refine ⟨_, rfl, pl2, rfl, ⟨us, seqL e1.c.s hus⟩, ?_⟩
    refine wk_list.loop (fun i σ H' => ∃ y6 y7 y8 y9, σ = [some (.ref p), some (.ref pf), some u, some (vN (divN x.1 x.2 lv)), some (.ref pl2), some (vN (comL (divN x.1 x.2 lv) ((partsM x.1 x.2 lv).take i))), y6, y7, y8, y9] ∧ H' = H1)
      ⟨none, none, none, none, rfl, rfl⟩ (fun i σ H' _ ⟨_, _, _, _, _, e⟩ => by rw [e]; exact seqL e1.c.s hus) ?_ ?_
    · rintro i v σ H2 H2' hi ⟨y6, y7, y8, y9, rfl, rfl⟩ ⟨rfl, hv⟩
      obtain ⟨y, hy1, qp, qq, rfl, hq1, hq2⟩ := pget pr hv
      refine ⟨qp, _, rfl, seqT e1.c.s hq1, rfl, _, _, rfl, _, _, rfl, _, _, rfl, _, _, rfl, rfl, ?_⟩
      refine ⟨_, rfl, _, rfl, _, _, rfl, _, rfl, _, _, rfl, some (vN y.2.1), some (vN y.2.2.1), some (vN y.2.2.2), y9, ?_, rfl⟩
      rw [take_get hy1]
      unfold comL
      rw [List.foldl_append]
      rfl
    rintro σ H2 ⟨y6, y7, y8, y9, rfl, rfl⟩
    rw [lus, List.take_length]
    have hcom : comL (divN x.1 x.2 lv) (partsM x.1 x.2 lv) = comN x.1 x.2 lv := rfl
    rw [hcom]
    have ndc : ((partsM x.1 x.2 lv).map (·.1)).Nodup := by
      rw [lcs]
      exact counts_nd _ (by omega) _ (by omega)
    refine ⟨_, rfl, _, rfl, _, _, rfl, rfl, divI (by omega) (by omega), _, rfl, p, cG, dx, _, rfl, d1, T.l_cG, T.n_cG_ring, (by show 1 < 1000; decide), ?_⟩
    have eC := eB.mut (o := .ins cG dx [("far", .ref pf), ("ring", .int ((divN x.1 x.2 lv : Nat) / (comN x.1 x.2 lv : Nat) : Int))]) (.inl np) g1 nP
    -- the arcs
    refine ⟨_, rfl, _, rfl, pl2, rfl, ⟨us, seqL eC.c.s hus⟩, fun D hD => ?_⟩
    have nD : D ≠ PT := eC.c.ne hD
    have hnp : p ≠ D := ne_of_none upd_same hD
    have eD := eC.trans (Ext.loc (M := nM) (o := .dT []) eC.c hD)
    have sD : Same G1 (upd (upd H2 p (.ins cG dx [("far", .ref pf), ("ring", .int ((divN x.1 x.2 lv : Nat) / (comN x.1 x.2 lv : Nat) : Int))])) D (.dT [])) := eD.c.s
    refine wk_list.comp (fun i H' => H' = upd (upd H2 p (.ins cG dx [("far", .ref pf), ("ring", .int ((divN x.1 x.2 lv : Nat) / (comN x.1 x.2 lv : Nat) : Int))])) D (.dT (kvT (fA x.1 x.2 lv) (((partsM x.1 x.2 lv).map (·.1)).take i)))) rfl (fun i H' _ e => by rw [e]; exact seqL (Ext.loc (M := nM) eC.c hD).c.s hus) ?_ ?_
    · rintro i v H3 H3' hi rfl ⟨rfl, hv⟩
      obtain ⟨y, hy1, qp, qq, rfl, hq1, hq2⟩ := pget pr hv
      have pv := parts_val (List.mem_of_getElem? hy1)
      have sE := (Ext.loc (M := nM) (o := .dT (kvT (fA x.1 x.2 lv) (((partsM x.1 x.2 lv).map (·.1)).take i))) eC.c hD).c.s
      have hyk : ((partsM x.1 x.2 lv).map (·.1))[i]? = some y.1 := by rw [List.getElem?_map, hy1]; rfl
      refine ⟨qp, _, rfl, seqT sE hq1, rfl, _, _, rfl, _, _, rfl, _, _, rfl, _, _, rfl, rfl, rfl, _, rfl, _, rfl, _, rfl, _, _, rfl, rfl, divI (by omega) (by omega), _, keyT y.1, qq, rfl, by rw [keyT_v]; exact sE _ _ hq2, upd_same, ?_, ?_⟩
      · unfold kvT
        rw [List.length_map, List.length_take, List.length_map]
        exact ltS (by omega)
      · rw [upd_upd, pv.2, natdiv]
        have := put_kvT (fA x.1 x.2 lv) ndc hyk
        exact congrArg (fun z => upd _ D (HO.dT z)) this
    rintro H3 rfl
    have hfull : ((partsM x.1 x.2 lv).map (·.1)).take us.length = countsM (x.1.length - 1) x.2 := by
      rw [List.take_of_length_le (by rw [List.length_map, lus]; exact Nat.le_refl _), lcs]
    rw [hfull]
    have gD : G1 D = none := eC.c.free hD
    have eE := (eC.trans (Ext.loc (M := nM) (o := .dT (kvT (fA x.1 x.2 lv) (countsM (x.1.length - 1) x.2))) eC.c hD)).frz (eC.nn hD) upd_same nD
    refine ⟨_, .ref pf, D, x, fA x.1 x.2 lv, rfl, eE.c, FarAt.to eE.g hF, ok, upd_same, fun r G4 H4 e4 r4 => ?_⟩
    have d4 : H4 p = some (.ins cG dx [("far", .ref pf), ("ring", .int ((divN x.1 x.2 lv : Nat) / (comN x.1 x.2 lv : Nat) : Int))]) := e4.stay0 (by rw [upd_ne hnp, upd_same]) nP
    have g4 : G4 p = none := e4.none_g (by rw [upd_ne hnp, upd_same]; simp) (by rw [upd_ne hnp]; exact g1)
    have s14 : Same G1 G4 := (same_upd gD).trans e4.g
    obtain ⟨pa, kva, rfl, hpa, tba⟩ := id r4
    refine ⟨_, rfl, p, cG, dx, _, rfl, d4, T.l_cG, T.n_cG_arcs, (by show 2 < 1000; decide), ?_⟩
    have eF := (eE.trans e4).mut (o := .ins cG dx [("far", .ref pf), ("ring", .int ((divN x.1 x.2 lv : Nat) / (comN x.1 x.2 lv : Nat) : Int)), ("_arcs", .ref pa)]) (.inl np) g4 nP
    -- the rests
    refine ⟨_, rfl, _, rfl, pl2, rfl, ⟨us, seqL eF.c.s (seqL s14 hus)⟩, fun D2 hD2 => ?_⟩
    have nD2 : D2 ≠ PT := eF.c.ne hD2
    have hnp2 : p ≠ D2 := ne_of_none upd_same hD2
    refine wk_list.comp (fun i H' => H' = upd (upd H4 p (.ins cG dx [("far", .ref pf), ("ring", .int ((divN x.1 x.2 lv : Nat) / (comN x.1 x.2 lv : Nat) : Int)), ("_arcs", .ref pa)])) D2 (.dT (kvT (fR x.1 x.2 lv) (((partsM x.1 x.2 lv).map (·.1)).take i)))) rfl (fun i H' _ e => by rw [e]; exact seqL (Ext.loc (M := nM) eF.c hD2).c.s (seqL s14 hus)) ?_ ?_
    · rintro i v H5 H5' hi rfl ⟨rfl, hv⟩
      obtain ⟨y, hy1, qp, qq, rfl, hq1, hq2⟩ := pget pr hv
      have pv := parts_val (List.mem_of_getElem? hy1)
      have sE := (Ext.loc (M := nM) (o := .dT (kvT (fR x.1 x.2 lv) (((partsM x.1 x.2 lv).map (·.1)).take i))) eF.c hD2).c.s
      have hyk : ((partsM x.1 x.2 lv).map (·.1))[i]? = some y.1 := by rw [List.getElem?_map, hy1]; rfl
      refine ⟨qp, _, rfl, seqT sE (seqT s14 hq1), rfl, _, _, rfl, _, _, rfl, _, _, rfl, _, _, rfl, rfl, rfl, _, rfl, _, rfl, _, rfl, _, _, rfl, rfl, _, rfl, _, _, rfl, rfl, divI (by omega) (by omega), _, keyT y.1, qq, rfl, by rw [keyT_v]; exact sE _ _ (s14 _ _ hq2), upd_same, ?_, ?_⟩
      · unfold kvT
        rw [List.length_map, List.length_take, List.length_map]
        exact ltS (by omega)
      · have hle : y.2.2.2 ≤ y.2.2.1 := by
          rw [pv.1, pv.2]
          exact Nat.min_le_left _ _
        rw [upd_upd, ← Int.ofNat_sub hle, natdiv, pv.1, pv.2]
        have := put_kvT (fR x.1 x.2 lv) ndc hyk
        exact congrArg (fun z => upd _ D2 (HO.dT z)) this
    rintro H5 rfl
    rw [hfull]
    have gD2 : G4 D2 = none := eF.c.free hD2
    have eG := (eF.trans (Ext.loc (M := nM) (o := .dT (kvT (fR x.1 x.2 lv) (countsM (x.1.length - 1) x.2))) eF.c hD2)).frz (eF.nn hD2) upd_same nD2
    refine ⟨_, .ref pf, D2, x, fR x.1 x.2 lv, rfl, eG.c, FarAt.to eG.g hF, ok, upd_same, fun r G6 H6 e6 r6 => ?_⟩
    have d6 : H6 p = some (.ins cG dx [("far", .ref pf), ("ring", .int ((divN x.1 x.2 lv : Nat) / (comN x.1 x.2 lv : Nat) : Int)), ("_arcs", .ref pa)]) := e6.stay0 (by rw [upd_ne hnp2, upd_same]) nP
    have g6 : G6 p = none := e6.none_g (by rw [upd_ne hnp2, upd_same]; simp) (by rw [upd_ne hnp2]; exact g4)
    have s46 : Same G4 G6 := (same_upd gD2).trans e6.g
    obtain ⟨pr6, kvr, rfl, hpr6, tbr⟩ := id r6
    refine ⟨_, rfl, p, cG, dx, _, rfl, d6, T.l_cG, T.n_cG_rests, (by show 3 < 1000; decide), ?_⟩
    have eH := (eG.trans e6).mut (o := .ins cG dx [("far", .ref pf), ("ring", .int ((divN x.1 x.2 lv : Nat) / (comN x.1 x.2 lv : Nat) : Int)), ("_arcs", .ref pa), ("_rests", .ref pr6)]) (.inl np) g6 nP
    refine ⟨_, rfl, p, cG, dx, _, _, rfl, upd_same, T.l_cG, T.n_cG_arcs, rfl, leS (by show 1 ≤ 100000; decide), fun t ht => ?_⟩
    have eI := eH.trans (Ext.loc (M := nM) (o := .tup [.int 0]) eH.c ht)
    refine ⟨_, rfl, pf, cF, dxf, _, _, rfl, eI.c.s _ _ (eI.g _ _ hp), T.l_cF, T.n_cF_weights, rfl, pw, _, rfl, .inr (seqT eI.c.s (seqT eI.g hw)), ?_⟩
    rw [List.length_map]
    refine ⟨t, _, _, rfl, rfl, sq_ofT upd_same, by simp, by omega, by omega, by decide, fun z hz => ?_⟩
    have eJ := eI.trans (Ext.loc (M := nM) (o := .tup (List.replicate (((x.1.length : Nat) : Int).toNat) [V.int 0]).flatten) eI.c hz)
    have hzer : (List.replicate (((x.1.length : Nat) : Int).toNat) [V.int 0]).flatten = (keyT (zer x.1.length)).map kV := by
      rw [Int.toNat_natCast, keyT_v]
      exact rep_zer _
    have hv : valV kva (keyT (zer x.1.length)) = some (vN (tabR (fA x.1 x.2 lv) x.1.length x.2 (zer x.1.length))) := tba x.2 _ (Nat.le_refl _) (by unfold zer; rw [List.length_replicate]) (by rw [zer_sum]; omega)
    refine ⟨pa, _, rfl, by rw [← hv]; exact DGet.t (eJ.c.s _ _ (s46 _ _ hpa)) (by rw [upd_same, hzer]), ?_⟩
    have gt : G6 t = none := eH.c.free ht
    have ntp : p ≠ t := ne_of_none upd_same ht
    have nzp : p ≠ z := ne_of_none (by rw [upd_ne ntp, upd_same]) hz
    refine ⟨_, rfl, p, cG, dx, _, rfl, by rw [upd_ne nzp, upd_ne ntp, upd_same], T.l_cG, T.n_cG_arced, (by show 4 < 1000; decide), ?_⟩
    have eK := eJ.mut (o := .ins cG dx (mkF x lv pf pa pr6)) (.inl np) g6 nP
    have eL := eK.frz np upd_same nP
    have sL : Same G6 (upd G6 p (.ins cG dx (mkF x lv pf pa pr6))) := same_upd g6
    have hend := q _ _ eL ⟨p, dx, pf, pa, pr6, rfl, upd_same, FarAt.to eL.g hF, ok, TabAt.to (s46.trans sL) r4, TabAt.to sL r6⟩
    have ering : V.int ((divN x.1 x.2 lv : Nat) / (comN x.1 x.2 lv : Nat) : Int) = V.int ((divN x.1 x.2 lv / comN x.1 x.2 lv : Nat) : Int) := by rw [natdiv]
    unfold mkF at hend
    rw [← ering] at hend
    exact hend
end
end K43
-- part W12
/-! W12: tests of kinds. -/
namespace K43
open PySem PySem.Spec PyProof.Rows L2
section
variable {X : Cx} {K : PySem.W.Frag}
theorem call_isiK (hk : X.K = K := by rfl) : CallR X (.builtin "isinstance") (rIsi K) := hk ▸ call_isi
end
section
variable {P : Program} {w : World} {K : PySem.W.Frag} {mg : Str → Option Value} {base : Heap} {cS cF cG cT cM cK : Addr} {PT cc : Addr}
theorem sc_isint : FnScope ["value"] ["value"] (defScope (topS 27)) := ⟨rfl, rfl, rfl, by decide +kernel, rfl, by decide +kernel, by decide +kernel⟩
theorem sc_lisint : FnScope ["_law_told"] ["_law_told"] (defScope (topS 41)) := ⟨rfl, rfl, rfl, by decide +kernel, rfl, by decide +kernel, by decide +kernel⟩
def spIsInt : Sp := fun vs H Q _ => ∃ i : Int, vs = [.int i] ∧ Q (.bl true) H
theorem ok_isint (T : Txt K mg cS cF cG cT cM cK) : Cal P w K mg base "_is_integer" 1 ["value"] spIsInt := by
  refine T.d_is_integer.ok sc_isint (fun vs H Q E h => ?_) (fun f cdv A outer s H vs Q E hr h => ?_)
  · obtain ⟨i, rfl, _⟩ := h
    rfl
  · obtain ⟨i, rfl, q⟩ := h
    refine ⟨_, (pss_one (ps_ret (pe_and (pe_callB (call_isiK (K := K)) (by rfl) T.z_isinstance (by decide +kernel) (pa_cons (pv 0) (pa_cons (pe_bltn (v := .ty "int") (u := .type "int") (by rfl) T.z_int (by decide +kernel) rfl) pa_nil))) (pe_one (pe_not (pe_callB (call_isiK (K := K)) (by rfl) T.z_isinstance (by decide +kernel) (pa_cons (pv 0) (pa_cons (pe_bltn (v := .ty "bool") (u := .type "bool") (by rfl) T.z_bool (by decide +kernel) rfl) pa_nil)))))))), ?_⟩
    exact ⟨_, rfl, _, _, .type "int", .type "int", true, rfl, .ty _, .base (.int _), rfl, _, rfl, _, rfl, _, _, .type "int", .type "bool", false, rfl, .ty _, .base (.int _), rfl, _, rfl, q⟩
theorem ok_lisint (T : Txt K mg cS cF cG cT cM cK) : Cal P w K mg base "_law_is_whole" 1 ["_law_told"] spIsInt := by
  refine T.d_law_is_whole.ok sc_lisint (fun vs H Q E h => ?_) (fun f cdv A outer s H vs Q E hr h => ?_)
  · obtain ⟨i, rfl, _⟩ := h
    rfl
  · obtain ⟨i, rfl, q⟩ := h
    refine ⟨_, (pss_one (ps_ret (pe_and (pe_callB (call_isiK (K := K)) (by rfl) T.z_isinstance (by decide +kernel) (pa_cons (pv 0) (pa_cons (pe_bltn (v := .ty "int") (u := .type "int") (by rfl) T.z_int (by decide +kernel) rfl) pa_nil))) (pe_one (pe_not (pe_callB (call_isiK (K := K)) (by rfl) T.z_isinstance (by decide +kernel) (pa_cons (pv 0) (pa_cons (pe_bltn (v := .ty "bool") (u := .type "bool") (by rfl) T.z_bool (by decide +kernel) rfl) pa_nil)))))))), ?_⟩
    exact ⟨_, rfl, _, _, .type "int", .type "int", true, rfl, .ty _, .base (.int _), rfl, _, rfl, _, rfl, _, _, .type "int", .type "bool", false, rfl, .ty _, .base (.int _), rfl, _, rfl, q⟩
theorem sc_isb : FnScope ["value", "many"] ["value", "many"] (defScope (topS 35)) := ⟨rfl, rfl, rfl, by decide +kernel, rfl, by decide +kernel, by decide +kernel⟩
def spIsB : Sp := fun vs H Q _ => ∃ i m : Int, vs = [.int i, .int m] ∧ Q (.bl (decide (0 ≤ i ∧ i < m))) H
theorem ok_isb (T : Txt K mg cS cF cG cT cM cK) : Cal P w K mg base "_is_below" 1 ["value", "many"] spIsB := by
  refine T.d_is_below.ok sc_isb (fun vs H Q E h => ?_) (fun f cdv A outer s H vs Q E hr h => ?_)
  · obtain ⟨i, m, rfl, _⟩ := h
    rfl
  · obtain ⟨i, m, rfl, q⟩ := h
    refine ⟨_, (pss_one (ps_ret (pe_and (pe_callB (call_isiK (K := K)) (by rfl) T.z_isinstance (by decide +kernel) (pa_cons (pv 0) (pa_cons (pe_bltn (v := .ty "int") (u := .type "int") (by rfl) T.z_int (by decide +kernel) rfl) pa_nil))) (pe_and (pe_not (pe_callB (call_isiK (K := K)) (by rfl) T.z_isinstance (by decide +kernel) (pa_cons (pv 0) (pa_cons (pe_bltn (v := .ty "bool") (u := .type "bool") (by rfl) T.z_bool (by decide +kernel) rfl) pa_nil)))) (pe_one (pe_chain op_le op_lt pe_int (pv 0) (pv 1))))))), ?_⟩
    refine ⟨_, rfl, _, _, .type "int", .type "int", true, rfl, .ty _, .base (.int _), rfl, _, rfl, _, rfl, _, _, .type "int", .type "bool", false, rfl, .ty _, .base (.int _), rfl, _, rfl, _, rfl, ?_⟩
    refine ⟨_, rfl, _, _, rfl, rfl, _, rfl, ite2 (fun h => ⟨_, rfl, _, _, rfl, rfl, qB q ?_⟩) (fun h => qB q ?_)⟩
    · have h0 := of_decide_eq_true h
      by_cases h1 : i < m
      · rw [decide_eq_true h1, decide_eq_true ⟨h0, h1⟩]
      · rw [decide_eq_false h1, decide_eq_false (fun z => h1 z.2)]
    · rw [decide_eq_false (fun z => h (decide_eq_true z.1))]
theorem sc_chk : FnScope ["self", "key"] ["self", "key"] (defScope (inC 25 5)) := ⟨rfl, rfl, rfl, by decide +kernel, rfl, by decide +kernel, by decide +kernel⟩
def spChk (K : PySem.W.Frag) (cF cG : Addr) : Sp := fun vs H Q _ => ∃ (v : V) (i : Nat) (y : (List Nat × Nat) × (Nat × Nat)), vs = [v, .int i] ∧ MkAt K cF cG H v y ∧ i < divN y.1.1 y.1.2 y.2 / comN y.1.1 y.1.2 y.2 ∧ Q .non H
theorem ok_chk (T : Txt K mg cS cF cG cT cM cK) : MCal P w K mg base cG "_check" 1 ["self", "key"] (spChk K cF cG) := by
  refine T.m_cG_check.ok T.l_cG sc_chk (fun vs H Q E h => ?_) (fun f cdv A outer s H vs Q E hr h => ?_)
  · obtain ⟨v, i, y, rfl, _⟩ := h
    rfl
  · obtain ⟨v, i, y, rfl, hM, hi, q⟩ := h
    obtain ⟨p, dx, pf, pa, pr, rfl, hp, _⟩ := id hM
    refine ⟨_, (pss_one (ps_if (PW.pt (pw_or (pt_not (pt_val (pe_callB (call_isiK (K := K)) (by rfl) T.z_isinstance (by decide +kernel) (pa_cons (pv 1) (pa_cons (pe_bltn (v := .ty "int") (u := .type "int") (by rfl) T.z_int (by decide +kernel) rfl) pa_nil))))) (pw_or (pt_val (pe_callB (call_isiK (K := K)) (by rfl) T.z_isinstance (by decide +kernel) (pa_cons (pv 1) (pa_cons (pe_bltn (v := .ty "bool") (u := .type "bool") (by rfl) T.z_bool (by decide +kernel) rfl) pa_nil)))) (pw_or1 (pt_not (pt_chain op_le op_lt pe_int (pv 1) (pe_fldK (K := K) (pv 0)))))))) (pss_one ps_never) pss_nil)), ?_⟩
    refine ⟨_, rfl, _, _, .type "int", .type "int", true, rfl, .ty _, .base (.int _), rfl, _, rfl, ?_⟩
    refine ⟨_, rfl, _, _, .type "int", .type "bool", false, rfl, .ty _, .base (.int _), rfl, _, rfl, ?_⟩
    refine ⟨_, rfl, _, _, rfl, rfl, _, rfl, ?_⟩
    rw [decide_eq_true (by omega)]
    refine iteT ⟨_, rfl, p, cG, _, _, _, rfl, hp, T.l_cG, T.n_cG_ring, rfl, _, _, rfl, rfl, _, rfl, ?_⟩
    rw [decide_eq_true (by omega)]
    exact q
end
end K43
-- part W13
/-! W13: FarMarking: _text_at, _place_of. -/
namespace K43
open PySem PySem.Spec PyProof.Rows L2
section
variable {P : Program} {w : World} {K : PySem.W.Frag} {mg : Str → Option Value} {base : Heap} {cS cF cG cT cM cK : Addr} {PT cc : Addr}
def sumTo (g : Nat → Nat) (a : Nat) : Nat := ((List.range a).map g).sum
theorem sumTo_succ (g : Nat → Nat) (a : Nat) : sumTo g (a + 1) = sumTo g a + g a := by
  unfold sumTo
  rw [List.range_succ, List.map_append, List.sum_append]
  simp
def findA (g : Nat → Nat) : Nat → Nat → Nat → Nat × Nat
  | 0, a, x => (a, x)
  | u + 1, a, x => if g a ≤ x then findA g u (a + 1) (x - g a) else (a, x)
def textM (f : List Nat → Nat) (k : Nat) : Nat → List Nat → Nat → List Nat
  | 0, _, _ => []
  | m + 1, c, x => (findA (fun a => tabR f k m (oneM c a)) k 0 x).1 :: textM f k m (oneM c (findA (fun a => tabR f k m (oneM c a)) k 0 x).1) (findA (fun a => tabR f k m (oneM c a)) k 0 x).2
def placeM (f : List Nat → Nat) (k : Nat) : Nat → List Nat → List Nat → Nat
  | m + 1, c, a :: l => sumTo (fun b => tabR f k m (oneM c b)) a + placeM f k m (oneM c a) l
  | _, _, _ => 0
def endM (c : List Nat) (l : List Nat) : List Nat := l.foldl oneM c
theorem zer_len (k : Nat) : (zer k).length = k := by
  unfold zer
  rw [List.length_replicate]
theorem idxR : ∀ k < 4, ∀ c < k, Txt.index0 (tx (List.range k)) (tx [c]) = some c := by decide +kernel
theorem sc_txt : FnScope ["self", "table", "number", "letters", "counts", "text", "_", "at", "longer"] ["self", "table", "number"] (defScope (inC 25 6)) := ⟨rfl, rfl, rfl, by decide +kernel, rfl, by decide +kernel, by decide +kernel⟩
def spTxt (PT cF cG : Addr) (K : PySem.W.Frag) : Sp := fun vs H Q _ => ∃ (G : Hp) (v vt : V) (y : (List Nat × Nat) × (Nat × Nat)) (f : List Nat → Nat) (x : Nat), vs = [v, vt, .int x] ∧ Cl PT G H ∧ MkAt K cF cG G v y ∧ TabAt G vt y.1.1.length y.1.2 f ∧ x < tabR f y.1.1.length y.1.2 (zer y.1.1.length) ∧
  ∀ G' H', Ext PT nM G H G' H' → Q (.str (tx (textM f y.1.1.length y.1.2 (zer y.1.1.length) x))) H'
theorem ok_txt (T : Txt K mg cS cF cG cT cM cK) : MCal P w K mg base cG "_text_at" 2 ["self", "table", "number"] (spTxt PT cF cG K) := by
  refine T.m_cG_text_at.ok T.l_cG sc_txt (fun vs H Q E h => ?_) (fun f cdv A outer s H vs Q E hr h => ?_)
  · obtain ⟨G, v, vt, y, f, x, rfl, _⟩ := h
    rfl
  · obtain ⟨G, v, vt, ⟨⟨ws, n⟩, lv⟩, fv, x, rfl, c, hM, ht, hx, q⟩ := h
    obtain ⟨p, dx, pf, pa, pr, rfl, hp, hF, ok, _⟩ := id hM
    obtain ⟨pt, kvt, rfl, hpt, tok⟩ := id ht
    obtain ⟨pf2, dxf, pw, pp, ef, hpf, hw, hpp⟩ := id hF
    obtain rfl : pf2 = pf := (V.ref.inj ef).symm
    refine ⟨_, (pss_cons (ps_s 3 sc_txt.nd (pe_m0 (ok_letters T) (hr.mono (by first | decide | omega)) (pe_fldK (K := K) (pv 0))))
  (pss_cons (ps_s 4 sc_txt.nd (pe_op (op_repTK (K := K)) (pe_tup (pa_cons pe_int pa_nil)) (pe_callB call_len_str (by rfl) T.z_len (by decide +kernel) (pa_cons (pv 3) pa_nil))))
  (pss_cons (ps_s 5 sc_txt.nd pe_str)
  (pss_cons (ps_for PassesOwn.never rfl (pi_range1 rfl T.z_range (pa_cons (pe_fldK (K := K) (pe_fldK (K := K) (pv 0))) pa_nil)) (pg_n 6 sc_txt.nd)
  (pss_cons (ps_s 7 sc_txt.nd pe_int)
  (pss_cons (ps_s 8 sc_txt.nd (pe_c (ok_more (PT := PT) T) (hr.mono (by first | decide | omega)) (pa_cons (pv 4) (pa_cons (pv 7) pa_nil))))
  (pss_cons (ps_while PassesOwn.never (pt_cmpR op_ge (pv 2) (pe_dget (hu_of hr) (pv 1) (pv 8) (fun _ _ => rfl)) (nomark _))
  (pss_cons (ps_a 2 sc_txt.nd (pe_dget (hu_of hr) (pv 1) (pv 8) (fun _ _ => rfl)) ip_sub)
  (pss_cons (ps_a 7 sc_txt.nd pe_int ip_add)
  (pss_one (ps_s 8 sc_txt.nd (pe_c (ok_more (PT := PT) T) (hr.mono (by first | decide | omega)) (pa_cons (pv 4) (pa_cons (pv 7) pa_nil))))))))
  (pss_cons (ps_s 4 sc_txt.nd (pv 8))
  (pss_one (ps_a 5 sc_txt.nd (pe_ix ix_str (pv 3) (pv 7) (fun _ _ => rfl)) ip_addS)))))))
  (pss_one (ps_ret (pv 5))))))), ?_⟩
    have hk1 := ok.1
    have hk2 := ok.2.1
    have hn := ok.2.2.1
    dsimp only at hk1 hk2 hn hx tok q hp hpf hw hpp
    have hlen : (tx (List.range ws.length)).length = ws.length := by rw [tx_len, List.length_range]
    refine ⟨_, rfl, p, cG, dx, _, _, rfl, c.s _ _ hp, T.l_cG, T.n_cG_far, rfl, pf2, dxf, _, rfl, c.s _ _ hpf, rfl, _, (ws, n), rfl, FarAt.to c.s hF, ok, ?_⟩
    refine ⟨leS (by show 1 ≤ 100000; decide), fun t0 h0 => ⟨_, rfl, _, rfl, leS (by rw [hlen]; omega), t0, _, _, rfl, rfl, sq_ofT upd_same, by simp, by rw [hlen]; omega, by rw [hlen]; omega, by decide, fun t1 h1 => ?_⟩⟩
    have e0 : Ext PT nM G H G (upd H t0 (.tup [.int 0])) := Ext.loc c h0
    have hz : (List.replicate (((tx (List.range ws.length)).length : Nat) : Int).toNat [V.int 0]).flatten = (zer ws.length).map vN := by
      rw [hlen, Int.toNat_natCast]
      exact rep_zer _
    rw [hz]
    have e1 := e0.trans (Ext.new (M := nM) (o := .tup ((zer ws.length).map vN)) e0.c h1)
    refine ⟨_, rfl, p, cG, dx, _, _, rfl, e1.c.s _ _ (e1.g _ _ hp), T.l_cG, T.n_cG_far, rfl, pf2, cF, dxf, _, _, rfl, e1.c.s _ _ (e1.g _ _ hpf), T.l_cF, T.n_cF_length, rfl, _, rfl, by omega, by omega, ?_⟩
    refine wk_range.loop (n := ((n : Nat) : Int).toNat) (fun i σ H' => ∃ y6 y7 y8 x' cs l pc G', σ = [some (.ref p), some (.ref pt), some (vN x'), some (.str (tx (List.range ws.length))), some (.ref pc), some (.str (tx l)), y6, y7, y8] ∧ Ext PT nM G H G' H' ∧ G' pc = some (.tup (cs.map vN)) ∧ cs.length = ws.length ∧ cs.sum = i ∧ l.length = i ∧
        x' < tabR fv ws.length (n - i) cs ∧ textM fv ws.length n (zer ws.length) x = l ++ textM fv ws.length (n - i) cs x')
      ⟨none, none, none, x, zer ws.length, [], t1, _, by rw [← empty_str]; rfl, e1, upd_same, zer_len _, zer_sum _, rfl, hx, rfl⟩ (fun _ _ _ _ _ => True.intro) ?_ ?_
    · rintro i v σ H2 H2' hi ⟨y6, y7, y8, x', cs, l, pc, G2, rfl, e2, hpc, hcl, hcs, hll, hx', htx⟩ ⟨rfl, rfl⟩
      have hin : i < n := by omega
      obtain ⟨m, hm⟩ : ∃ m, n - i = m + 1 := ⟨n - i - 1, by omega⟩
      rw [hm] at hx' htx
      refine ⟨_, rfl, _, rfl, G2, .ref pc, cs, 0, rfl, e2.c, ⟨pc, rfl, hpc⟩, by omega, by omega, fun v3 G3 H3 e3 r3 => ?_⟩
      obtain ⟨pl, rfl, hpl⟩ := r3
      have hval : ∀ a, a < ws.length → valV kvt (keyT (oneM cs a)) = some (vN (tabR fv ws.length m (oneM cs a))) := fun a ha => tok m _ (by omega) (by rw [one_len (by omega)]; omega) (by rw [one_sum (by omega)]; omega)
      refine ⟨fun u σ H' => ∃ a x2 pl G', σ = [some (.ref p), some (.ref pt), some (vN x2), some (.str (tx (List.range ws.length))), some (.ref pc), some (.str (tx l)), some (.int (0 + (i : Nat))), some (vN a), some (.ref pl)] ∧ Ext PT nM G H G' H' ∧ Same G2 G' ∧ G' pl = some (.tup ((oneM cs a).map vN)) ∧ a < ws.length ∧
          x2 + sumTo (fun a => tabR fv ws.length m (oneM cs a)) a = x' ∧ findA (fun a => tabR fv ws.length m (oneM cs a)) ws.length 0 x' = findA (fun a => tabR fv ws.length m (oneM cs a)) (ws.length - a) a x2 ∧ u = ws.length - a,
        ⟨_, 0, x', pl, G3, rfl, e2.trans e3, e3.g, hpl, by omega, rfl, rfl, rfl⟩, ?_⟩
      rintro u σ H4 ⟨a, x2, pl4, G4, rfl, e4, s4, hpl4, hal, hsum, hfind, rfl⟩
      have dg : DGet H4 pt (.ref pl4) (some (vN (tabR fv ws.length m (oneM cs a)))) := by
        rw [← hval a hal]
        exact DGet.t (e4.c.s _ _ (e4.g _ _ hpt)) (by rw [keyT_v]; exact e4.c.s _ _ hpl4)
      obtain ⟨u, hu⟩ : ∃ u, ws.length - a = u + 1 := ⟨ws.length - a - 1, by omega⟩
      refine ⟨_, rfl, _, rfl, _, rfl, pt, _, rfl, dg, _, _, rfl, rfl, _, rfl, ite2 (fun h => ?_) (fun h => ?_)⟩
      · have hle : tabR fv ws.length m (oneM cs a) ≤ x2 := by
          have := of_decide_eq_true h
          omega
        have hss : sumTo (fun a => tabR fv ws.length m (oneM cs a)) (a + 1) = sumTo (fun a => tabR fv ws.length m (oneM cs a)) a + tabR fv ws.length m (oneM cs a) := sumTo_succ _ a
        have hal2 : a + 1 < ws.length := by
          by_cases z : a + 1 = ws.length
          · exfalso
            have hx2 : x' < sumTo (fun a => tabR fv ws.length m (oneM cs a)) (a + 1) := by rw [z]; exact hx'
            omega
          · omega
        refine ⟨fun σ' H' => ∃ a x2 pl G', σ' = [some (.ref p), some (.ref pt), some (vN x2), some (.str (tx (List.range ws.length))), some (.ref pc), some (.str (tx l)), some (.int (0 + (i : Nat))), some (vN a), some (.ref pl)] ∧ Ext PT nM G H G' H' ∧ Same G2 G' ∧ G' pl = some (.tup ((oneM cs a).map vN)) ∧ a < ws.length ∧
          x2 + sumTo (fun a => tabR fv ws.length m (oneM cs a)) a = x' ∧ findA (fun a => tabR fv ws.length m (oneM cs a)) ws.length 0 x' = findA (fun a => tabR fv ws.length m (oneM cs a)) (ws.length - a) a x2 ∧ u = ws.length - a, fun σ' H' z => ⟨u, by omega, z⟩, ?_⟩
        refine ⟨_, rfl, _, rfl, _, rfl, pt, _, rfl, dg, _, _, rfl, rfl, _, rfl, _, _, rfl, rfl, _, rfl, _, rfl, G4, .ref pc, cs, a + 1, ?_, e4.c, ⟨pc, rfl, s4 _ _ hpc⟩, by omega, by omega, fun v5 G5 H5 e5 r5 => ?_⟩
        · rfl
        obtain ⟨pl5, rfl, hpl5⟩ := r5
        refine ⟨a + 1, x2 - tabR fv ws.length m (oneM cs a), pl5, G5, ?_, e4.trans e5, s4.trans e5.g, hpl5, hal2, by rw [hss]; omega, ?_, by omega⟩
        · rw [show vN (x2 - tabR fv ws.length m (oneM cs a)) = V.int ((x2 : Nat) - (tabR fv ws.length m (oneM cs a) : Nat) : Int) by rw [← Int.ofNat_sub hle]; rfl]
          rfl
        · rw [hfind, hu, show ws.length - (a + 1) = u by omega]
          show (if _ ≤ _ then _ else _) = _
          rw [if_pos hle]
      · have hlt : x2 < tabR fv ws.length m (oneM cs a) := by
          by_cases z : tabR fv ws.length m (oneM cs a) ≤ x2
          · exact absurd (decide_eq_true (by omega)) h
          · omega
        have hf2 : findA (fun a => tabR fv ws.length m (oneM cs a)) ws.length 0 x' = (a, x2) := by
          rw [hfind, hu]
          show (if _ ≤ _ then _ else _) = _
          rw [if_neg (Nat.not_le.mpr hlt)]
        have hat : atI (tx (List.range ws.length)).cps.toList (a : Int) = some (a + 97) := by
          refine atI_nat ?_
          rw [tx_cps, List.getElem?_map, List.getElem?_range hal]
          rfl
        refine ⟨_, rfl, _, rfl, _, rfl, _, rfl, tx (List.range ws.length), a, a + 97, rfl, rfl, leS (by rw [hlen]; omega), hat, tx l, tx [a], rfl, rfl, ?_, ?_⟩
        · rw [tx_len, tx_len]
          exact leS (by simp; omega)
        · rw [tx_add]
          refine ⟨some (.int (0 + (i : Nat))), some (vN a), some (.ref pl4), x2, oneM cs a, l ++ [a], pl4, G4, rfl, e4, hpl4, by rw [one_len (by omega)]; exact hcl, by rw [one_sum (by omega)]; omega, by rw [List.length_append]; simp; omega, ?_, ?_⟩
          · rw [show n - (i + 1) = m by omega]
            exact hlt
          · rw [show n - (i + 1) = m by omega, List.append_assoc, htx]
            congr 1
            show (findA _ _ _ _).1 :: textM fv ws.length m (oneM cs (findA _ _ _ _).1) (findA _ _ _ _).2 = _
            rw [hf2]
            rfl
    · rintro σ H2 ⟨y6, y7, y8, x', cs, l, pc, G2, rfl, e2, hpc, hcl, hcs, hll, hx', htx⟩
      refine ⟨_, rfl, ?_⟩
      rw [Int.toNat_natCast, Nat.sub_self] at htx
      have := q _ _ e2
      rw [htx] at this
      rw [show l ++ textM fv ws.length 0 cs x' = l from List.append_nil l] at this
      exact this
end
end K43
-- part W14
/-! W14: FarMarking: _place_of, write, accuses. -/
namespace K43
open PySem PySem.Spec PyProof.Rows L2
section
variable {P : Program} {w : World} {K : PySem.W.Frag} {mg : Str → Option Value} {base : Heap} {cS cF cG cT cM cK : Addr} {PT cc : Addr}
theorem sc_plc : FnScope ["self", "table", "text", "letters", "counts", "first", "sign", "place", "at"] ["self", "table", "text"] (defScope (inC 25 7)) := ⟨rfl, rfl, rfl, by decide +kernel, rfl, by decide +kernel, by decide +kernel⟩
def spPlc (PT cF cG : Addr) (K : PySem.W.Frag) : Sp := fun vs H Q _ => ∃ (G : Hp) (v vt : V) (y : (List Nat × Nat) × (Nat × Nat)) (f : List Nat → Nat) (l : List Nat), vs = [v, vt, .str (tx l)] ∧ Cl PT G H ∧ MkAt K cF cG G v y ∧ TabAt G vt y.1.1.length y.1.2 f ∧ okT y.1.1.length y.1.2 l ∧
  Ret PT G H Q fun G' r => TN K G' r [placeM f y.1.1.length y.1.2 (zer y.1.1.length) l, placeM f y.1.1.length y.1.2 (zer y.1.1.length) l + f (endM (zer y.1.1.length) l)]
theorem ok_plc (T : Txt K mg cS cF cG cT cM cK) : MCal P w K mg base cG "_place_of" 2 ["self", "table", "text"] (spPlc PT cF cG K) := by
  refine T.m_cG_place_of.ok T.l_cG sc_plc (fun vs H Q E h => ?_) (fun f cdv A outer s H vs Q E hr h => ?_)
  · obtain ⟨G, v, vt, y, f, l, rfl, _⟩ := h
    rfl
  · obtain ⟨G, v, vt, ⟨⟨ws, n⟩, lv⟩, fv, l, rfl, c, hM, ht, hl, q⟩ := h
    obtain ⟨p, dx, pf, pa, pr, rfl, hp, hF, ok, _⟩ := id hM
    obtain ⟨pt, kvt, rfl, hpt, tok⟩ := id ht
    obtain ⟨pf2, dxf, pw, pp, ef, hpf, hw, hpp⟩ := id hF
    obtain rfl : pf2 = pf := (V.ref.inj ef).symm
    refine ⟨_, (pss_cons (ps_s 3 sc_plc.nd (pe_m0 (ok_letters T) (hr.mono (by first | decide | omega)) (pe_fldK (K := K) (pv 0))))
  (pss_cons (ps_s 4 sc_plc.nd (pe_op (op_repTK (K := K)) (pe_tup (pa_cons pe_int pa_nil)) (pe_callB call_len_str (by rfl) T.z_len (by decide +kernel) (pa_cons (pv 3) pa_nil))))
  (pss_cons (ps_s 5 sc_plc.nd pe_int)
  (pss_cons (ps_for PassesOwn.never rfl (pi_str (pv 2)) (pg_n 6 sc_plc.nd)
  (pss_cons (ps_s 7 sc_plc.nd (pe_strindex (pv 3) (pv 6)))
  (pss_cons (ps_for PassesOwn.never rfl (pi_range1 rfl T.z_range (pa_cons (pv 7) pa_nil)) (pg_n 8 sc_plc.nd)
  (pss_one (ps_a 5 sc_plc.nd (pe_dget (hu_of hr) (pv 1) (pe_c (ok_more (PT := PT) T) (hr.mono (by first | decide | omega)) (pa_cons (pv 4) (pa_cons (pv 8) pa_nil))) (fun _ _ => rfl)) ip_add)))
  (pss_one (ps_s 4 sc_plc.nd (pe_c (ok_more (PT := PT) T) (hr.mono (by first | decide | omega)) (pa_cons (pv 4) (pa_cons (pv 7) pa_nil))))))))
  (pss_one (ps_ret (pe_tup (pa_cons (pv 5) (pa_cons (pe_op op_add (pv 5) (pe_dget (hu_of hr) (pv 1) (pv 4) (fun _ _ => rfl))) pa_nil))))))))), ?_⟩
    have hk1 := ok.1
    have hk2 := ok.2.1
    have hn := ok.2.2.1
    dsimp only at hk1 hk2 hn tok q hp hpf hw hpp hl
    have hlen : (tx (List.range ws.length)).length = ws.length := by rw [tx_len, List.length_range]
    refine ⟨_, rfl, p, cG, dx, _, _, rfl, c.s _ _ hp, T.l_cG, T.n_cG_far, rfl, pf2, dxf, _, rfl, c.s _ _ hpf, rfl, _, (ws, n), rfl, FarAt.to c.s hF, ok, ?_⟩
    refine ⟨leS (by show 1 ≤ 100000; decide), fun t0 h0 => ⟨_, rfl, _, rfl, leS (by rw [hlen]; omega), t0, _, _, rfl, rfl, sq_ofT upd_same, by simp, by rw [hlen]; omega, by rw [hlen]; omega, by decide, fun t1 h1 => ?_⟩⟩
    have e0 : Ext PT nM G H G (upd H t0 (.tup [.int 0])) := Ext.loc c h0
    have hz : (List.replicate (((tx (List.range ws.length)).length : Nat) : Int).toNat [V.int 0]).flatten = (zer ws.length).map vN := by
      rw [hlen, Int.toNat_natCast]
      exact rep_zer _
    rw [hz]
    have e1 := e0.trans (Ext.new (M := nM) (o := .tup ((zer ws.length).map vN)) e0.c h1)
    refine ⟨_, rfl, _, rfl, ?_⟩
    have hsz : (tx l).cps.size = n := by
      have := tx_len l
      rw [hl.1] at this
      exact this
    refine wk_str.loop (fun i σ H' => ∃ y6 y7 y8 F cs pc G', σ = [some (.ref p), some (.ref pt), some (.str (tx l)), some (.str (tx (List.range ws.length))), some (.ref pc), some (vN F), y6, y7, y8] ∧ Ext PT nM G H G' H' ∧ G' pc = some (.tup (cs.map vN)) ∧ cs.length = ws.length ∧ cs.sum = i ∧ 
        endM (zer ws.length) l = endM cs (l.drop i) ∧ placeM fv ws.length n (zer ws.length) l = F + placeM fv ws.length (n - i) cs (l.drop i))
      ⟨none, none, none, 0, zer ws.length, t1, _, rfl, e1, upd_same, zer_len _, zer_sum _, rfl, by rw [Nat.zero_add]; rfl⟩ (fun _ _ _ _ _ => True.intro) ?_ ?_
    · rintro i v σ H2 H2' hi ⟨y6, y7, y8, F, cs, pc, G2, rfl, e2, hpc, hcl, hcs, hend, hpl⟩ ⟨rfl, ch, hch, rfl⟩
      rw [hsz] at hi
      obtain ⟨a, ha, rfl⟩ := tx_at hch
      have hal : a < ws.length := hl.2 a (List.mem_of_getElem? ha)
      obtain ⟨m, hm⟩ : ∃ m, n - i = m + 1 := ⟨n - i - 1, by omega⟩
      have hdrop : l.drop i = a :: l.drop (i + 1) := by
        obtain ⟨h1, h2⟩ := List.getElem?_eq_some_iff.mp ha
        rw [List.drop_eq_getElem_cons h1, h2]
      rw [hm, hdrop] at hpl
      rw [hdrop] at hend
      have hval : ∀ b, b < ws.length → valV kvt (keyT (oneM cs b)) = some (vN (tabR fv ws.length m (oneM cs b))) := fun b hb => tok m _ (by omega) (by rw [one_len (by omega)]; omega) (by rw [one_sum (by omega)]; omega)
      refine ⟨_, rfl, ⟨_, rfl⟩, _, rfl, tx (List.range ws.length), tx [a], a, rfl, rfl, idxR _ (by omega) a hal, ?_⟩
      refine ⟨_, rfl, _, rfl, by omega, by omega, ?_⟩
      refine wk_range.loop (n := ((a : Nat) : Int).toNat) (fun b σ H' => ∃ y8 G', σ = [some (.ref p), some (.ref pt), some (.str (tx l)), some (.str (tx (List.range ws.length))), some (.ref pc), some (vN (F + sumTo (fun b => tabR fv ws.length m (oneM cs b)) b)), some (.str (tx [a])), some (vN a), y8] ∧ Ext PT nM G H G' H' ∧ Same G2 G')
        ⟨y8, G2, rfl, e2, Same.refl _⟩ (fun _ _ _ _ _ => True.intro) ?_ ?_
      · rintro b v σ H3 H3' hb ⟨y8, G3, rfl, e3, s3⟩ ⟨rfl, rfl⟩
        refine ⟨_, rfl, _, rfl, _, rfl, _, rfl, G3, .ref pc, cs, b, ?_, e3.c, ⟨pc, rfl, s3 _ _ hpc⟩, by omega, by omega, fun v4 G4 H4 e4 r4 => ?_⟩
        · show [V.ref pc, V.int _] = [V.ref pc, V.int _]
          rw [Int.zero_add]
        obtain ⟨p4, rfl, h4⟩ := r4
        have dg : DGet H4 pt (.ref p4) (some (vN (tabR fv ws.length m (oneM cs b)))) := by
          rw [← hval b (by omega)]
          exact DGet.t ((e3.trans e4).c.s _ _ ((e3.trans e4).g _ _ hpt)) (by rw [keyT_v]; exact e4.c.s _ _ h4)
        refine ⟨pt, _, rfl, dg, _, _, rfl, rfl, some (.int (0 + (b : Nat))), G4, ?_, e3.trans e4, s3.trans e4.g⟩
        rw [sumTo_succ, ← Nat.add_assoc]
        rfl
      · rintro σ H3 ⟨y8, G3, rfl, e3, s3⟩
        rw [Int.toNat_natCast]
        refine ⟨_, rfl, _, rfl, G3, .ref pc, cs, a, rfl, e3.c, ⟨pc, rfl, s3 _ _ hpc⟩, by omega, by omega, fun v4 G4 H4 e4 r4 => ?_⟩
        obtain ⟨p4, rfl, h4⟩ := r4
        refine ⟨some (.str (tx [a])), some (vN a), y8, _, oneM cs a, p4, G4, rfl, e3.trans e4, h4, by rw [one_len (by omega)]; exact hcl, by rw [one_sum (by omega)]; omega, hend, ?_⟩
        rw [show n - (i + 1) = m by omega, Nat.add_assoc]
        exact hpl
    · rintro σ H2 ⟨y6, y7, y8, F, cs, pc, G2, rfl, e2, hpc, hcl, hcs, hend, hpl⟩
      rw [hsz] at hend hpl hcs
      rw [← hl.1, List.drop_length] at hend
      rw [Nat.sub_self] at hpl
      have hpl : placeM fv ws.length n (zer ws.length) l = F := hpl
      have hend : endM (zer ws.length) l = cs := hend
      have hv : valV kvt (keyT cs) = some (vN (fv cs)) := tok 0 cs (by omega) (by omega) (by omega)
      have dg : DGet H2 pt (.ref pc) (some (vN (fv cs))) := by
        rw [← hv]
        exact DGet.t (e2.c.s _ _ (e2.g _ _ hpt)) (by rw [keyT_v]; exact e2.c.s _ _ hpc)
      refine ⟨_, rfl, _, rfl, _, rfl, _, rfl, pt, _, rfl, dg, _, _, rfl, rfl, leS (by show 2 ≤ 100000; decide), fun t ht => ?_⟩
      refine q _ _ _ (e2.trans (Ext.new (M := nM) e2.c ht)) ⟨t, rfl, ?_⟩
      rw [hpl, hend]
      exact upd_same
end
end K43
-- part W15
/-! W15: FarMarking: write, accuses. -/
namespace K43
open PySem PySem.Spec PyProof.Rows L2
section
variable {P : Program} {w : World} {K : PySem.W.Frag} {mg : Str → Option Value} {base : Heap} {cS cF cG cT cM cK : Addr} {PT cc : Addr}
abbrev Mk' := (List Nat × Nat) × (Nat × Nat)
def ringG (y : Mk') : Nat := divN y.1.1 y.1.2 y.2 / comN y.1.1 y.1.2 y.2
def arcG (y : Mk') : Nat := tabR (fA y.1.1 y.1.2 y.2) y.1.1.length y.1.2 (zer y.1.1.length)
def restG (y : Mk') : Nat := tabR (fR y.1.1 y.1.2 y.2) y.1.1.length y.1.2 (zer y.1.1.length)
def writeG (y : Mk') (i : Nat) : List Nat := if i < arcG y then textM (fA y.1.1 y.1.2 y.2) y.1.1.length y.1.2 (zer y.1.1.length) i else textM (fR y.1.1 y.1.2 y.2) y.1.1.length y.1.2 (zer y.1.1.length) (i - arcG y)
def placeG (y : Mk') (l : List Nat) : Nat := placeM (fA y.1.1 y.1.2 y.2) y.1.1.length y.1.2 (zer y.1.1.length) l
def endG (y : Mk') (l : List Nat) : Nat := placeG y l + fA y.1.1 y.1.2 y.2 (endM (zer y.1.1.length) l)
theorem sc_gw : FnScope ["self", "key"] ["self", "key"] (defScope (inC 25 1)) := ⟨rfl, rfl, rfl, by decide +kernel, rfl, by decide +kernel, by decide +kernel⟩
def spGw (PT cF cG : Addr) (K : PySem.W.Frag) : Sp := fun vs H Q _ => ∃ (G : Hp) (v : V) (y : Mk') (i : Nat), vs = [v, .int i] ∧ Cl PT G H ∧ MkAt K cF cG G v y ∧ i < ringG y ∧ i < arcG y + restG y ∧ ∀ G' H', Ext PT nM G H G' H' → Q (.str (tx (writeG y i))) H'
theorem ok_gw (T : Txt K mg cS cF cG cT cM cK) : MCal P w K mg base cG "write" 3 ["self", "key"] (spGw PT cF cG K) := by
  refine T.m_cG_write.ok T.l_cG sc_gw (fun vs H Q E h => ?_) (fun f cdv A outer s H vs Q E hr h => ?_)
  · obtain ⟨G, v, y, i, rfl, _⟩ := h
    rfl
  · obtain ⟨G, v, y, i, rfl, c, hM, hi, hi2, q⟩ := h
    obtain ⟨p, dx, pf, pa, pr, rfl, hp, hF, ok, hta, htr⟩ := id hM
    refine ⟨_, (pss_cons (ps_expr (pe_m (ok_chk T) (hr.mono (by first | decide | omega)) (pv 0) (pa_cons (pv 1) pa_nil)))
  (pss_cons (ps_if (pt_cmpR op_lt (pv 1) (pe_fldK (K := K) (pv 0)) (nomark _)) (pss_one (ps_ret (pe_m (ok_txt (PT := PT) T) (hr.mono (by first | decide | omega)) (pv 0) (pa_cons (pe_fldK (K := K) (pv 0)) (pa_cons (pv 1) pa_nil))))) pss_nil)
  (pss_one (ps_ret (pe_m (ok_txt (PT := PT) T) (hr.mono (by first | decide | omega)) (pv 0) (pa_cons (pe_fldK (K := K) (pv 0)) (pa_cons (pe_op op_sub (pv 1) (pe_fldK (K := K) (pv 0))) pa_nil))))))), ?_⟩
    have hpH := c.s _ _ hp
    refine ⟨_, rfl, p, dx, _, rfl, hpH, rfl, _, rfl, .ref p, i, y, rfl, MkAt.to c.s hM, hi, ?_⟩
    refine ⟨_, rfl, _, rfl, p, cG, dx, _, _, rfl, hpH, T.l_cG, T.n_cG_arced, rfl, _, _, rfl, rfl, _, rfl, ite2 (fun h => ?_) (fun h => ?_)⟩
    · have hlt : i < arcG y := by
        have := of_decide_eq_true h
        unfold arcG
        omega
      refine ⟨_, rfl, p, dx, _, rfl, hpH, rfl, _, rfl, p, cG, dx, _, _, rfl, hpH, T.l_cG, T.n_cG_arcs, rfl, _, rfl, G, .ref p, .ref pa, y, _, i, rfl, c, hM, hta, hlt, fun G1 H1 e1 => ?_⟩
      have := q _ _ e1
      unfold writeG at this
      rw [if_pos hlt] at this
      exact this
    · have hge : arcG y ≤ i := by
        by_cases z : arcG y ≤ i
        · exact z
        · refine absurd (decide_eq_true ?_) h
          unfold arcG at z
          omega
      refine ⟨_, rfl, p, dx, _, rfl, hpH, rfl, _, rfl, p, cG, dx, _, _, rfl, hpH, T.l_cG, T.n_cG_rests, rfl, _, rfl, _, rfl, p, cG, dx, _, _, rfl, hpH, T.l_cG, T.n_cG_arced, rfl, _, _, rfl, rfl, G, .ref p, .ref pr, y, _, i - arcG y, ?_, c, hM, htr, ?_, fun G1 H1 e1 => ?_⟩
      · show [V.ref p, V.ref pr, V.int _] = [V.ref p, V.ref pr, V.int _]
        rw [Int.ofNat_sub hge]
        rfl
      · unfold restG at hi2
        omega
      have := q _ _ e1
      unfold writeG at this
      rw [if_neg (by omega)] at this
      exact this
theorem sc_acc : FnScope ["self", "key", "text", "first", "end"] ["self", "key", "text"] (defScope (inC 25 2)) := ⟨rfl, rfl, rfl, by decide +kernel, rfl, by decide +kernel, by decide +kernel⟩
def spAcc (PT cF cG : Addr) (K : PySem.W.Frag) : Sp := fun vs H Q _ => ∃ (G : Hp) (v : V) (y : Mk') (i : Nat) (l : List Nat), vs = [v, .int i, .str (tx l)] ∧ Cl PT G H ∧ MkAt K cF cG G v y ∧ i < ringG y ∧ l.length ≤ 100 ∧
  ∀ G' H', Ext PT nM G H G' H' → Q (.bl (decide (okT y.1.1.length y.1.2 l ∧ placeG y l ≤ i ∧ i < endG y l))) H'
theorem ok_acc (T : Txt K mg cS cF cG cT cM cK) (D : DmC K cF "counts_of" "Far.counts_of" (inC 23 2) ["self", "text"] cc) (TB : GxR.TabB base mg cc PT) : MCal P w K mg base cG "accuses" 3 ["self", "key", "text"] (spAcc PT cF cG K) := by
  refine T.m_cG_accuses.ok T.l_cG sc_acc (fun vs H Q E h => ?_) (fun f cdv A outer s H vs Q E hr h => ?_)
  · obtain ⟨G, v, y, i, l, rfl, _⟩ := h
    rfl
  · obtain ⟨G, v, y, i, l, rfl, c, hM, hi, hl, q⟩ := h
    obtain ⟨p, dx, pf, pa, pr, rfl, hp, hF, ok, hta, htr⟩ := id hM
    obtain ⟨pf2, dxf, pw, pp, ef, hpf, hw, hpp⟩ := id hF
    obtain rfl : pf2 = pf := (V.ref.inj ef).symm
    refine ⟨_, (pss_cons (ps_expr (pe_m (ok_chk T) (hr.mono (by first | decide | omega)) (pv 0) (pa_cons (pv 1) pa_nil)))
  (pss_cons (ps_if (pt_cmpR op_isN (pe_m (ok_cof (PT := PT) T D TB) (hr.mono (by first | decide | omega)) (pe_fldK (K := K) (pv 0)) (pa_cons (pv 2) pa_nil)) pe_non (nomark _)) (pss_one (ps_ret pe_bl)) pss_nil)
  (pss_cons (ps_asg (pe_m (ok_plc (PT := PT) T) (hr.mono (by first | decide | omega)) (pv 0) (pa_cons (pe_fldK (K := K) (pv 0)) (pa_cons (pv 2) pa_nil))) (pg_tupK (K := K) (n := 2) (pgs_cons (pg_n 3 sc_acc.nd) (pgs_cons (pg_n 4 sc_acc.nd) pgs_nil))))
  (pss_one (ps_ret (pe_chain op_le op_lt (pv 3) (pv 1) (pv 4))))))), ?_⟩
    have hpH := c.s _ _ hp
    refine ⟨_, rfl, p, dx, _, rfl, hpH, rfl, _, rfl, .ref p, i, y, rfl, MkAt.to c.s hM, hi, ?_⟩
    refine ⟨_, rfl, p, cG, dx, _, _, rfl, hpH, T.l_cG, T.n_cG_far, rfl, pf2, dxf, _, rfl, c.s _ _ hpf, rfl, _, rfl, G, _, y.1, l, rfl, c, hF, ok, hl, fun r G1 H1 e1 r1 r2 => ?_⟩
    refine ⟨rfl, ?_⟩
    by_cases okt : okT y.1.1.length y.1.2 l
    · obtain ⟨pc, rfl, hpc⟩ := r1 okt
      refine ⟨_, rfl, ?_⟩
      rw [decide_eq_false (by intro z; cases z)]
      refine iteF ?_
      have hp1 := e1.c.s _ _ (e1.g _ _ hp)
      refine ⟨_, rfl, p, dx, _, rfl, hp1, rfl, _, rfl, p, cG, dx, _, _, rfl, hp1, T.l_cG, T.n_cG_arcs, rfl, _, rfl, G1, .ref p, .ref pa, y, _, l, rfl, e1.c, MkAt.to e1.g hM, TabAt.to e1.g hta, okt, fun r G2 H2 e2 r3 => ?_⟩
      obtain ⟨pt, rfl, hpt⟩ := r3
      refine ⟨pt, _, rfl, sq_ofT (e2.c.s _ _ hpt), rfl, _, _, rfl, _, _, rfl, rfl, ?_⟩
      refine ⟨_, rfl, _, rfl, _, _, rfl, rfl, _, rfl, ite2 (fun h => ⟨_, rfl, _, _, rfl, rfl, qB (q _ _ (e1.trans e2)) ?_⟩) (fun h => qB (q _ _ (e1.trans e2)) ?_)⟩
      · have h0 := of_decide_eq_true h
        refine decide_eq_decide.mpr ⟨fun z => ⟨okt, ?_, ?_⟩, fun z => ?_⟩
        · unfold placeG
          omega
        · unfold endG placeG
          omega
        · have := z.2.2
          unfold endG placeG at this
          omega
      · rw [decide_eq_false (fun z => h (decide_eq_true ?_))]
        have := z.2.1
        unfold placeG at this
        omega
    · obtain rfl := r2 okt
      refine ⟨_, rfl, ?_⟩
      rw [decide_eq_true rfl]
      refine iteT (qB (q _ _ e1) ?_)
      rw [decide_eq_false (fun z => okt z.1)]
end
end K43
-- part M4
/-! M4: all texts of one length, in order. -/
namespace K43
open PySem PySem.Spec PyProof.Rows L2
def textsM (k : Nat) : Nat → List (List Nat)
  | 0 => [[]]
  | L + 1 => (textsM k L).flatMap fun l => (List.range k).map fun c => l ++ [c]
theorem mem_texts {k : Nat} : ∀ {L : Nat} {l : List Nat}, l ∈ textsM k L ↔ okT k L l
  | 0, l => by
    constructor
    · intro h
      rw [List.mem_singleton.mp h]
      exact ⟨rfl, fun c hc => by cases hc⟩
    · rintro ⟨h1, _⟩
      rw [List.eq_nil_of_length_eq_zero h1]
      exact List.mem_singleton.mpr rfl
  | L + 1, l => by
    constructor
    · intro h
      obtain ⟨m, hm, hl⟩ := List.mem_flatMap.mp h
      obtain ⟨c, hc, rfl⟩ := List.mem_map.mp hl
      obtain ⟨h1, h2⟩ := mem_texts.mp hm
      refine ⟨by rw [List.length_append, h1]; rfl, fun d hd => ?_⟩
      rcases List.mem_append.mp hd with h | h
      · exact h2 d h
      · rw [List.mem_singleton.mp h]
        exact List.mem_range.mp hc
    · rintro ⟨h1, h2⟩
      have hne : l ≠ [] := fun z => by rw [z] at h1; cases h1
      refine List.mem_flatMap.mpr ⟨l.dropLast, mem_texts.mpr ⟨by rw [List.length_dropLast]; omega, fun c hc => h2 c (List.dropLast_subset l hc)⟩, List.mem_map.mpr ⟨l.getLast hne, List.mem_range.mpr (h2 _ (List.getLast_mem hne)), List.dropLast_concat_getLast hne⟩⟩
theorem le_of_lt {a b : Str} (h : ltCps b.cps.toList a.cps.toList = false) : a.cps.toList ≤ b.cps.toList := by
  rw [ltCps_eq] at h
  exact of_decide_eq_false h
theorem rising_pw : ∀ {l : List Str} {p : Str}, risingS p l = true → (p :: l).Pairwise fun a b => a.cps.toList ≤ b.cps.toList
  | [], p, _ => by simp
  | x :: r, p, h => by
    have h : (!ltCps x.cps.toList p.cps.toList && risingS x r) = true := h
    rw [Bool.and_eq_true] at h
    have h1 : p.cps.toList ≤ x.cps.toList := le_of_lt (by simpa using h.1)
    have ih := rising_pw h.2
    refine List.pairwise_cons.mpr ⟨fun y hy => ?_, ih⟩
    rcases List.mem_cons.mp hy with e | hy
    · rw [e]
      exact h1
    · exact List.le_trans h1 (List.rel_of_pairwise_cons ih hy)
theorem sorted_pw {l : List Str} (h : sortedS l = true) : l.Pairwise fun a b => a.cps.toList ≤ b.cps.toList := by
  cases l with
  | nil => exact List.Pairwise.nil
  | cons x r => exact rising_pw h
theorem sorted_one {l m : List Str} (p : l.Perm m) (h1 : sortedS l = true) (h2 : sortedS m = true) : l = m :=
  List.Perm.eq_of_pairwise (fun a b _ _ x y => by
    have e : a.cps.toList = b.cps.toList := List.le_antisymm x y
    cases a
    cases b
    congr
    exact Array.toList_inj.mp e) (sorted_pw h1) (sorted_pw h2) p
theorem texts_sorted : ∀ k < 4, ∀ L < 5, (k = 3 → L < 3) → sortedS ((textsM k L).map tx) = true := by decide +kernel
theorem texts_nd : ∀ k < 4, ∀ L < 5, (k = 3 → L < 3) → (textsM k L).Nodup := by decide +kernel
theorem texts_le : ∀ k < 4, ∀ L < 5, (k = 3 → L < 3) → (textsM k L).length ≤ 16 := by decide +kernel
end K43
-- part W16
/-! W16: Table. -/
namespace K43
open PySem PySem.Spec PyProof.Rows L2
section
variable {P : Program} {w : World} {K : PySem.W.Frag} {mg : Str → Option Value} {base : Heap} {cS cF cG cT cM cK : Addr} {PT cc : Addr}
def kT (l : List Nat) : Key := Sum.inr (tx l)
def kvS (ps : List (List Nat × Nat)) : List (Key × V) := ps.map fun x => (kT x.1, vN x.2)
def PrAt (K : PySem.W.Frag) (G : Hp) (v : V) (x : List Nat × Nat) : Prop := ∃ p, v = .ref p ∧ SqT K G p [.str (tx x.1), vN x.2]
theorem PrAt.to {G G1 : Hp} {v : V} {x : List Nat × Nat} (s : Same G G1) (h : PrAt K G v x) : PrAt K G1 v x := by
  obtain ⟨p, e, h⟩ := h
  exact ⟨p, e, seqT s h⟩
def totS (ps : List (List Nat × Nat)) : Nat := (ps.map (·.2)).sum
def taF (ps : List (List Nat × Nat)) (d : Addr) : List (Str × V) := [("weights", .ref d), ("whole", vN (totS ps))]
def TaAt (cT : Addr) (G : Hp) (v : V) (ps : List (List Nat × Nat)) : Prop := ∃ p dx d, v = .ref p ∧ G p = some (.ins cT dx (taF ps d)) ∧ G d = some (.dK (kvS ps))
theorem TaAt.to {G G1 : Hp} {v : V} {x : List (List Nat × Nat)} (s : Same G G1) (h : TaAt cT G v x) : TaAt cT G1 v x := by
  obtain ⟨p, dx, d, e, h, h2⟩ := h
  exact ⟨p, dx, d, e, s _ _ h, s _ _ h2⟩
theorem kT_inj {a b : List Nat} (h : kT a = kT b) : a = b := tx_inj (Sum.inr.inj h)
theorem valS_out {c : List Nat} : ∀ {ps : List (List Nat × Nat)}, c ∉ ps.map (·.1) → valV (kvS ps) (kT c) = none
  | [], _ => rfl
  | a :: r, h => by
    unfold kvS
    rw [List.map_cons, valV_neg (by intro z; exact h (by rw [← kT_inj z]; exact List.mem_cons_self ..))]
    exact valS_out fun z => h (List.mem_cons_of_mem _ z)
theorem valS_in : ∀ {ps : List (List Nat × Nat)} {x : List Nat × Nat}, (ps.map (·.1)).Nodup → x ∈ ps → valV (kvS ps) (kT x.1) = some (vN x.2)
  | a :: r, x, nd, h => by
    unfold kvS
    rw [List.map_cons] at nd ⊢
    rcases List.mem_cons.mp h with e | h
    · rw [e, valV_pos rfl]
    · have hne : a.1 ≠ x.1 := fun z => (List.nodup_cons.mp nd).1 (List.mem_map.mpr ⟨x, h, z.symm⟩)
      rw [valV_neg (by intro z; exact hne (kT_inj z))]
      exact valS_in (List.nodup_cons.mp nd).2 h
theorem sc_tai : FnScope ["self", "pairs", "weights", "at", "text", "weight"] ["self", "pairs"] (defScope (inC 29 0)) := ⟨rfl, rfl, rfl, by decide +kernel, rfl, by decide +kernel, by decide +kernel⟩
def spTaI (PT cT : Addr) (K : PySem.W.Frag) : Sp := fun vs H Q _ => ∃ (G H0 : Hp) (p dx : Addr) (v : V) (ps : List (List Nat × Nat)), vs = [.ref p, v] ∧ Cl PT G H0 ∧ H0 p = none ∧ H0 dx = none ∧ dx ≠ p ∧ H = upd (upd H0 dx (.own p)) p (.ins cT dx []) ∧
  LR K (PrAt K) G v ps ∧ (ps.map (·.1)).Nodup ∧ ps.length ≤ 1000 ∧ (∀ x ∈ ps, 0 < x.2) ∧ ∀ G' H', Ext PT nM G H0 G' H' → TaAt cT G' (.ref p) ps → Q .non H'
theorem ok_tai (T : Txt K mg cS cF cG cT cM cK) : KCal P w K mg base "Table" cT 2 ["self", "pairs"] (spTaI PT cT K) := by
  refine T.k_cT.ok T.g_cT sc_tai (fun vs H Q E h => ?_) (fun f cdv A outer s H vs Q E hr h => ?_)
  · obtain ⟨G, H0, p, dx, v, ps, rfl, _⟩ := h
    rfl
  · obtain ⟨G, H0, p, dx, v, ps, rfl, c, np, nd, ne, rfl, ⟨pl, us, rfl, hus, pr⟩, ndp, hlen, hpos, q⟩ := h
    refine ⟨_, (pss_cons (ps_s 2 sc_tai.nd pe_dnewK)
  (pss_cons (ps_for PassesOwn.never rfl (pi_enum (by rfl) T.z_enumerate (pa_cons (pv 1) pa_nil)) (pg_tupK (K := K) (n := 2) (pgs_cons (pg_n 3 sc_tai.nd) (pgs_cons (pg_tupK (K := K) (n := 2) (pgs_cons (pg_n 4 sc_tai.nd) (pgs_cons (pg_n 5 sc_tai.nd) pgs_nil))) pgs_nil)))
  (pss_cons (ps_if (PW.pt (pw_or (pt_not (pt_val (pe_c (ok_isint T) (hr.mono (by first | decide | omega)) (pa_cons (pv 5) pa_nil)))) (pw_or (pt_cmpR op_lt (pv 5) pe_int (nomark _)) (pw_or1 (pt_cmp (pc_din (hu_of hr) (pv 4) (pv 2))))))) (pss_one ps_never) pss_nil)
  (pss_one (ps_dput (hu_of hr) (pv 2) (pv 4) (pv 5) rfl))))
  (pss_cons (ps_fld (pv 0) (pv 2) rfl)
  (pss_one (ps_fld (pv 0) (pe_sumVals (by rfl) T.z_sum (pv 2)) rfl))))), ?_⟩
    have e0 : Ext PT nM G H0 G (upd (upd H0 dx (.own p)) p (.ins cT dx [])) := Ext.made c np nd ne
    have nP : p ≠ PT := c.ne np
    have gp : G p = none := c.free np
    have lus := plen pr
    intro d hd
    have nD : d ≠ PT := e0.c.ne hd
    have hnp : p ≠ d := ne_of_none upd_same hd
    have e1 := e0.trans (Ext.loc (M := nM) (o := .dK []) e0.c hd)
    refine ⟨_, rfl, pl, us, rfl, seqL e1.c.s hus, ?_⟩
    refine wk_enum.loop (fun i σ H' => ∃ y3 y4 y5 G', σ = [some (.ref p), some (.ref pl), some (.ref d), y3, y4, y5] ∧ Ext PT nM G H0 G' H' ∧ G' d = none ∧ G' p = none ∧ H' d = some (.dK (kvS (ps.take i))) ∧ H' p = some (.ins cT dx []))
      ⟨none, none, none, G, rfl, e1, e0.c.free hd, gp, upd_same, by rw [upd_ne hnp, upd_same]⟩ (fun i σ H' _ ⟨_, _, _, G', _, e, _⟩ => seqL e.c.s (seqL e.g hus)) ?_ ?_
    · rintro i v σ H2 H2' hi ⟨y3, y4, y5, G2, rfl, e2, g1, g2, d1, d2⟩ ⟨t, yv, hy, rfl, ht, rfl⟩
      obtain ⟨⟨l, wv⟩, hx, qp, rfl, hq⟩ := pget pr hy
      have hw := hpos _ (List.mem_of_getElem? hx)
      have e3 := e2.trans (Ext.new (M := nM) (o := .tup [.int (i : Nat), .ref qp]) e2.c ht)
      have ntd : d ≠ t := ne_of_none d1 ht
      have ntp : p ≠ t := ne_of_none d2 ht
      have d3 : upd H2 t (.tup [.int (i : Nat), .ref qp]) d = some (.dK (kvS (ps.take i))) := by rw [upd_ne ntd]; exact d1
      have hxm : (ps.map (·.1))[i]? = some l := by rw [List.getElem?_map, hx]; rfl
      have hout : valV (kvS (ps.take i)) (kT l) = none := valS_out (by rw [List.map_take]; exact nd_take ndp hxm)
      refine ⟨t, _, rfl, sq_ofT upd_same, rfl, _, _, rfl, _, _, rfl, ⟨qp, _, rfl, seqT e3.c.s (seqT e3.g hq), rfl, _, _, rfl, _, _, rfl, rfl, rfl, ?_⟩⟩
      refine ⟨_, rfl, wv, rfl, _, rfl, ?_⟩
      refine ⟨_, rfl, _, _, rfl, rfl, _, rfl, ?_⟩
      rw [decide_eq_false (by show ¬ (wv : Int) < 1; dsimp only at hw; omega)]
      refine iteF ⟨_, rfl, _, rfl, d, none, rfl, ?_, _, rfl, ?_⟩
      · rw [← hout]
        exact DGet.k (k := kT l) d3
      refine ⟨_, rfl, _, rfl, _, rfl, d, _, rfl, DPut.k (k := kT l) d3 ?_, ?_⟩
      · unfold kvS
        rw [List.length_map, List.length_take]
        exact ltS (by omega)
      · refine ⟨some (.int (i : Nat)), some (.str (tx l)), some (vN wv), _, rfl, e3.mut (.inl (e0.nn hd)) (by rw [upd_ne ntd]; exact g1) nD, by rw [upd_ne ntd]; exact g1, by rw [upd_ne ntp]; exact g2, ?_, by rw [upd_ne hnp, upd_ne ntp]; exact d2⟩
        rw [upd_same, putK_new _ hout, take_get hx]
        unfold kvS
        rw [List.map_append]
        rfl
    · rintro σ H2 ⟨y3, y4, y5, G2, rfl, e2, g1, g2, d1, d2⟩
      rw [lus, List.take_length] at d1
      refine ⟨_, rfl, _, rfl, p, cT, dx, _, rfl, d2, T.l_cT, T.n_cT_weights, by decide, ?_⟩
      have e3 := e2.frz (e0.nn hd) d1 nD
      have g3 : upd G2 d (.dK (kvS ps)) p = none := by rw [upd_ne hnp]; exact g2
      have e4 := e3.mut (o := .ins cT dx (putF "weights" (.ref d) [])) (.inl np) g3 nP
      have d4 : upd H2 p (.ins cT dx (putF "weights" (.ref d) [])) d = some (.dK (kvS ps)) := by rw [upd_ne hnp.symm]; exact d1
      refine ⟨_, rfl, d, kvS ps, (ps.map (·.2)).map (fun n : Nat => (n : Int)), rfl, d4, ?_, ?_⟩
      · rw [vZ]
        unfold kvS
        rw [List.map_map, List.map_map]
        rfl
      rw [sumZ]
      refine ⟨_, rfl, p, cT, dx, _, rfl, upd_same, T.l_cT, T.n_cT_whole, (by show 1 < 1000; decide), ?_⟩
      rw [upd_upd]
      have e5 := e3.mut (o := .ins cT dx (taF ps d)) (.inl np) g3 nP
      have e6 := e5.frz np upd_same nP
      exact q _ _ e6 ⟨p, dx, d, rfl, upd_same, same_upd g3 _ _ upd_same⟩
def spTable' (PT cT : Addr) (K : PySem.W.Frag) : Sp := fun vs H Q _ => ∃ (G : Hp) (v : V) (ps : List (List Nat × Nat)), vs = [v] ∧ Cl PT G H ∧ LR K (PrAt K) G v ps ∧ (ps.map (·.1)).Nodup ∧ ps.length ≤ 1000 ∧ (∀ x ∈ ps, 0 < x.2) ∧ Ret PT G H Q fun G' v => TaAt cT G' v ps
theorem n_ta (T : Txt K mg cS cF cG cT cM cK) : NCal P w K mg base "Table" 2 (spTable' PT cT K) := by
  refine ⟨cT, _, _, ok_tai (PT := PT) T, fun vs H Q h x dx nx nd ne => ?_⟩
  obtain ⟨G, v, ps, rfl, c, hv, h1, h2, h3, q⟩ := h
  exact ⟨G, H, x, dx, v, ps, rfl, c, nx, nd, ne, rfl, hv, h1, h2, h3, fun G' H' e r => ⟨rfl, q _ _ _ e r⟩⟩
end
end K43
-- part W17
/-! W17: Table: texts, weight_of, share_of. -/
namespace K43
open PySem PySem.Spec PyProof.Rows L2
section
variable {P : Program} {w : World} {K : PySem.W.Frag} {mg : Str → Option Value} {base : Heap} {cS cF cG cT cM cK : Addr} {PT cc : Addr}
def okS (k L : Nat) : Prop := 2 ≤ k ∧ k ≤ 3 ∧ L ≤ 4 ∧ (k = 3 → L ≤ 2)
/-- the texts of a table are all texts of the length -/
def full (ps : List (List Nat × Nat)) (k L : Nat) : Prop := okS k L ∧ (ps.map (·.1)).Perm (textsM k L)
def TX (K : PySem.W.Frag) (G : Hp) (v : V) (ls : List (List Nat)) : Prop := ∃ p, v = .ref p ∧ SqT K G p (ls.map fun l => V.str (tx l))
theorem sc_ttx : FnScope ["self"] ["self"] (defScope (inC 29 1)) := ⟨rfl, rfl, rfl, by decide +kernel, rfl, by decide +kernel, by decide +kernel⟩
def spTtx (PT cT : Addr) (K : PySem.W.Frag) : Sp := fun vs H Q _ => ∃ (G : Hp) (v : V) (ps : List (List Nat × Nat)) (k L : Nat), vs = [v] ∧ Cl PT G H ∧ TaAt cT G v ps ∧ full ps k L ∧ Ret PT G H Q fun G' r => TX K G' r (textsM k L)
theorem ok_ttx (T : Txt K mg cS cF cG cT cM cK) : MCal P w K mg base cT "texts" 1 ["self"] (spTtx PT cT K) := by
  refine T.m_cT_texts.ok T.l_cT sc_ttx (fun vs H Q E h => ?_) (fun f cdv A outer s H vs Q E hr h => ?_)
  · obtain ⟨G, v, ps, k, L, rfl, _⟩ := h
    rfl
  · obtain ⟨G, v, ps, k, L, rfl, c, hT, ⟨ok, hp⟩, q⟩ := h
    obtain ⟨p, dx, d, rfl, hpp, hd⟩ := id hT
    refine ⟨_, (pss_one (ps_ret (pe_callTy (call_tuple_ofK (K := K)) (by rfl) T.z_tuple (by decide +kernel) (pa_cons (pe_callB (call_sortedD rfl) (by rfl) T.z_sorted (by decide +kernel) (pa_cons (pe_fldK (K := K) (pv 0)) pa_nil)) pa_nil)))), ?_⟩
    have hs := texts_sorted k (by have := ok.2.1; omega) L (by have := ok.2.2.1; omega) (fun z => by have := ok.2.2.2 z; omega)
    have hle := texts_le k (by have := ok.2.1; omega) L (by have := ok.2.2.1; omega) (fun z => by have := ok.2.2.2 z; omega)
    have hlen := hp.length_eq
    rw [List.length_map] at hlen
    refine ⟨_, rfl, p, cT, dx, _, _, rfl, c.s _ _ hpp, T.l_cT, T.n_cT_weights, rfl, d, kvS ps, (ps.map (·.1)).map tx, rfl, .inl (c.s _ _ hd), ?_, ?_, fun ys o hy1 hy2 ho => ?_⟩
    · unfold kvS
      rw [List.map_map, List.map_map, List.map_map]
      rfl
    · rw [List.length_map, List.length_map]
      omega
    have hy : ys = (textsM k L).map tx := sorted_one (hy1.trans (hp.map tx)) hy2 hs
    subst hy
    have e1 : Ext PT nM G H G (upd H o (.lst (((textsM k L).map tx).map V.str))) := Ext.loc c ho
    refine ⟨o, _, rfl, .inl ⟨sq_ofL upd_same, fun t ht => q _ _ _ (e1.trans (Ext.new (M := nM) e1.c ht)) ⟨t, rfl, ?_⟩⟩⟩
    rw [List.map_map]
    exact sq_ofT upd_same
theorem sc_twt : FnScope ["self", "text"] ["self", "text"] (defScope (inC 29 2)) := ⟨rfl, rfl, rfl, by decide +kernel, rfl, by decide +kernel, by decide +kernel⟩
def nS (ps : List (List Nat × Nat)) (l : List Nat) : Nat := ((ps.find? fun x => decide (x.1 = l)).map (·.2)).getD 0
theorem nS_val (l : List Nat) : ∀ ps : List (List Nat × Nat), (valV (kvS ps) (kT l)).getD (.int 0) = vN (nS ps l)
  | [] => rfl
  | a :: r => by
    unfold kvS nS
    rw [List.map_cons, List.find?_cons]
    by_cases e : a.1 = l
    · rw [valV_pos (by rw [e]), decide_eq_true e]
      rfl
    · rw [valV_neg (by intro z; exact e (kT_inj z)), decide_eq_false e]
      exact nS_val l r
def spTwt (cT : Addr) : Sp := fun vs H Q _ => ∃ (v : V) (ps : List (List Nat × Nat)) (l : List Nat), vs = [v, .str (tx l)] ∧ TaAt cT H v ps ∧ Q (vN (nS ps l)) H
theorem ok_twt (T : Txt K mg cS cF cG cT cM cK) : MCal P w K mg base cT "weight_of" 1 ["self", "text"] (spTwt cT) := by
  refine T.m_cT_weight_of.ok T.l_cT sc_twt (fun vs H Q E h => ?_) (fun f cdv A outer s H vs Q E hr h => ?_)
  · obtain ⟨v, ps, l, rfl, _⟩ := h
    rfl
  · obtain ⟨v, ps, l, rfl, hT, q⟩ := h
    obtain ⟨p, dx, d, rfl, hpp, hd⟩ := id hT
    refine ⟨_, (pss_one (ps_ret (pe_dget2 (hu_of hr) (pe_fldK (K := K) (pv 0)) (pv 1) pe_int ⟨rfl, rfl, rfl, rfl⟩))), ?_⟩
    rw [← nS_val] at q
    exact ⟨_, rfl, p, cT, dx, _, _, rfl, hpp, T.l_cT, T.n_cT_weights, rfl, d, rfl, .inl ⟨_, .inl hd⟩, _, rfl, valV (kvS ps) (kT l), DGet.k (k := kT l) hd, q⟩
theorem sc_tsh : FnScope ["self", "text"] ["self", "text"] (defScope (inC 29 3)) := ⟨rfl, rfl, rfl, by decide +kernel, rfl, by decide +kernel, by decide +kernel⟩
def spTsh (PT cT cS : Addr) : Sp := fun vs H Q _ => ∃ (G : Hp) (v : V) (ps : List (List Nat × Nat)) (l : List Nat), vs = [v, .str (tx l)] ∧ Cl PT G H ∧ TaAt cT G v ps ∧ 0 < totS ps ∧ totS ps < 2 ^ 60 ∧ Ret PT G H Q fun G' r => ShAt cS G' r (low (nS ps l) (totS ps))
theorem ok_tsh (T : Txt K mg cS cF cG cT cM cK) : MCal P w K mg base cT "share_of" 4 ["self", "text"] (spTsh PT cT cS) := by
  refine T.m_cT_share_of.ok T.l_cT sc_tsh (fun vs H Q E h => ?_) (fun f cdv A outer s H vs Q E hr h => ?_)
  · obtain ⟨G, v, ps, l, rfl, _⟩ := h
    rfl
  · obtain ⟨G, v, ps, l, rfl, c, hT, ht, ht2, q⟩ := h
    obtain ⟨p, dx, d, rfl, hpp, hd⟩ := id hT
    refine ⟨_, (pss_one (ps_ret (pe_n (n_sh (PT := PT) T) (hr.mono (by first | decide | omega)) (pa_cons (pe_m (ok_twt T) (hr.mono (by first | decide | omega)) (pv 0) (pa_cons (pv 1) pa_nil)) (pa_cons (pe_fldK (K := K) (pv 0)) pa_nil))))), ?_⟩
    have hpH := c.s _ _ hpp
    refine ⟨_, rfl, p, dx, _, rfl, hpH, rfl, _, rfl, .ref p, ps, l, rfl, TaAt.to c.s hT, _, rfl, p, cT, dx, _, _, rfl, hpH, T.l_cT, T.n_cT_whole, rfl, ?_⟩
    exact ⟨G, _, _, _, _, rfl, c, rfl, rfl, ht, Nat.lt_trans ht2 (by decide), q⟩
end
end K43
-- part R7
/-! R7: blocks that capture nothing. -/
namespace K43
open PySem PySem.Spec PyProof.Rows L2
theorem blkOk_any {N : List Str} {sc scope : Scope} {own : List (Str × Nat)} (h : blkC N ⟨.function, [], false, false, []⟩ scope own = true) : BlkOk N sc scope own := by
  have b := blkOk_by h
  refine ⟨b.kind, b.uniq, b.ix, fun y hy e => ?_, b.own⟩
  rcases b.free y hy e with z | z
  · cases z
  · cases z
end K43
-- part W18
/-! W18: Machine: all_weights. -/
namespace K43
open PySem PySem.Spec PyProof.Rows L2
section
variable {P : Program} {w : World} {K : PySem.W.Frag} {mg : Str → Option Value} {base : Heap} {cS cF cG cT cM cK : Addr} {PT cc : Addr}
def stepW (ws : List Nat) (x : List Nat × Nat) : List (List Nat × Nat) := (List.range ws.length).map fun c => (x.1 ++ [c], x.2 * ws.getD c 0)
theorem step_len (ws : List Nat) : ∀ L : List (List Nat × Nat), (L.flatMap (stepW ws)).length = L.length * ws.length
  | [] => by simp
  | a :: r => by
    rw [List.flatMap_cons, List.length_append, step_len ws r, List.length_cons, Nat.succ_mul]
    unfold stepW
    rw [List.length_map, List.length_range]
    omega
def machS (ws : List Nat) : Nat → List (List Nat × Nat)
  | 0 => [([], 1)]
  | i + 1 => (machS ws i).flatMap (stepW ws)
theorem mach_keys (ws : List Nat) : ∀ i, (machS ws i).map (·.1) = textsM ws.length i
  | 0 => rfl
  | i + 1 => by
    show ((machS ws i).flatMap (stepW ws)).map (·.1) = (textsM ws.length i).flatMap fun l => (List.range ws.length).map fun c => l ++ [c]
    rw [List.map_flatMap, ← mach_keys ws i, List.flatMap_map]
    congr 1
    funext x
    unfold stepW
    rw [List.map_map]
    rfl
theorem mach_le {ws : List Nat} {i : Nat} (h2 : ∀ w ∈ ws, w ≤ 180) : ∀ {x : List Nat × Nat}, x ∈ machS ws i → x.2 ≤ 180 ^ i := by
  induction i with
  | zero =>
    intro x hx
    rw [List.mem_singleton.mp hx]
    exact Nat.le_refl _
  | succ i ih =>
    intro x hx
    obtain ⟨y, hy, hm⟩ := List.mem_flatMap.mp hx
    obtain ⟨c, hc, rfl⟩ := List.mem_map.mp hm
    have hc := List.mem_range.mp hc
    rw [Nat.pow_succ]
    refine Nat.mul_le_mul (ih hy) ?_
    rw [List.getD_eq_getElem?_getD, List.getElem?_eq_getElem hc]
    exact h2 _ (List.getElem_mem hc)
/-- an entry: the text, its weight and the state 0 -/
def PaM (G : Hp) (kv : Key × V) (x : List Nat × Nat) : Prop := kv.1 = kT x.1 ∧ ∃ t, kv.2 = .ref t ∧ G t = some (.tup [vN x.2, .int 0])
theorem PaM.to {G G1 : Hp} {kv : Key × V} {x : List Nat × Nat} (s : Same G G1) (h : PaM G kv x) : PaM G1 kv x := by
  obtain ⟨e, t, e2, h⟩ := h
  exact ⟨e, t, e2, s _ _ h⟩
theorem valM_out {G : Hp} {l : List Nat} {kvs : List (Key × V)} {ps : List (List Nat × Nat)} (h : Paired (PaM G) kvs ps) (hl : l ∉ ps.map (·.1)) : valV kvs (kT l) = none := by
  induction h with
  | nil => rfl
  | cons a t ih =>
    rw [List.map_cons] at hl
    rw [valV_neg (by rw [a.1]; intro z; exact hl (by rw [← kT_inj z]; exact List.mem_cons_self ..))]
    exact ih fun z => hl (List.mem_cons_of_mem _ z)
def PwAt (K : PySem.W.Frag) (G : Hp) (v : V) (x : Nat) : Prop := ∃ p, v = .ref p ∧ SqT K G p [vN x, .int 0]
theorem PwAt.to {G G1 : Hp} {v : V} {x : Nat} (s : Same G G1) (h : PwAt K G v x) : PwAt K G1 v x := by
  obtain ⟨p, e, h⟩ := h
  exact ⟨p, e, seqT s h⟩
def maF (ws : List Nat) (L : Nat) (pr : Addr) : List (Str × V) := [("alphabet", .str (tx (List.range ws.length))), ("start", .int 0), ("rows", .ref pr), ("length", .int L), ("unit", vN ws.sum), ("whole", vN (ws.sum ^ L))]
theorem new_key {ws : List Nat} {L : List (List Nat × Nat)} {j c : Nat} {x : List Nat × Nat} (nd : (L.map (·.1)).Nodup) (hx : L[j]? = some x) : x.1 ++ [c] ∉ ((L.take j).flatMap (stepW ws) ++ (List.range c).map fun c => (x.1 ++ [c], x.2 * ws.getD c 0)).map (·.1) := by
  intro h
  rw [List.map_append] at h
  rcases List.mem_append.mp h with h | h
  · obtain ⟨y, hy, e⟩ := List.mem_map.mp h
    obtain ⟨z, hz, hm⟩ := List.mem_flatMap.mp hy
    obtain ⟨d, hd, rfl⟩ := List.mem_map.mp hm
    have e2 := List.append_inj' e rfl
    have hxk : (L.map (·.1))[j]? = some x.1 := by rw [List.getElem?_map, hx]; rfl
    refine nd_take nd hxk ?_
    rw [← List.map_take, ← e2.1]
    exact List.mem_map.mpr ⟨z, hz, rfl⟩
  · obtain ⟨y, hy, e⟩ := List.mem_map.mp h
    obtain ⟨d, hd, rfl⟩ := List.mem_map.mp hy
    have e2 := List.append_inj' e rfl
    have hd := List.mem_range.mp hd
    have : d = c := by
      have := e2.2
      simpa using this
    omega
theorem sc_maw : FnScope ["self", "begun", "_", "longer", "text", "weight", "state", "row", "part", "times", "letter", "target"] ["self"] (defScope (inC 30 1)) := ⟨rfl, rfl, rfl, by decide +kernel, rfl, by decide +kernel, by decide +kernel⟩
def spMaw (PT cM : Addr) (K : PySem.W.Frag) : Sp := fun vs H Q _ => ∃ (G : Hp) (p dx pr prow : Addr) (us : List V) (ws : List Nat) (L : Nat), vs = [.ref p] ∧ Cl PT G H ∧ H p = some (.ins cM dx (maF ws L pr)) ∧ SqT K G pr [.ref prow] ∧ SqT K G prow us ∧ Paired (PwAt K G) us ws ∧ okF ws L ∧
  Ret PT G H Q fun G' r => ∃ d, r = .ref d ∧ G' d = some (.dK (kvS (machS ws L)))
theorem ok_maw (T : Txt K mg cS cF cG cT cM cK) : MCal P w K mg base cM "all_weights" 1 ["self"] (spMaw PT cM K) := by
  refine T.m_cM_all_weights.ok T.l_cM sc_maw (fun vs H Q E h => ?_) (fun f cdv A outer s H vs Q E hr h => ?_)
  · obtain ⟨G, p, dx, pr, prow, us, ws, L, rfl, _⟩ := h
    rfl
  · obtain ⟨G, p, dx, pr, prow, us, ws, L, rfl, c, hp, hpr, hprow, prs, ok, q⟩ := h
    refine ⟨_, (pss_cons (ps_s 1 sc_maw.nd (pe_disp (pps_cons pe_str (pe_tup (pa_cons pe_int (pa_cons (pe_fldK (K := K) (pv 0)) pa_nil))) pps_nil) (by rfl) (by rfl) (fun z => by cases z) (by decide)))
  (pss_cons (ps_for PassesOwn.never rfl (pi_range1 rfl T.z_range (pa_cons (pe_fldK (K := K) (pv 0)) pa_nil)) (pg_n 2 sc_maw.nd)
  (pss_cons (ps_s 3 sc_maw.nd pe_dnewK)
  (pss_cons (ps_lock (ps_for PassesOwn.never rfl (pi_items (pv 1)) (pg_tupK (K := K) (n := 2) (pgs_cons (pg_n 4 sc_maw.nd) (pgs_cons (pg_tupK (K := K) (n := 2) (pgs_cons (pg_n 5 sc_maw.nd) (pgs_cons (pg_n 6 sc_maw.nd) pgs_nil))) pgs_nil)))
  (pss_cons (ps_s 7 sc_maw.nd (pe_ix (ix_tupK (K := K)) (pe_fldK (K := K) (pv 0)) (pv 6) (fun _ _ => rfl)))
  (pss_cons (ps_s 9 sc_maw.nd (pe_op op_fdivW (pe_fldK (K := K) (pv 0)) (pe_callB (cr_sumK (K := K) rfl) (by rfl) T.z_sum (by decide +kernel) (pa_cons (pe_lc (own := [("part", 8), ("_", 2)]) rfl sc_maw.nd (pi_tupK (K := K) (pv 7)) (blkOk_by (own := [("part", 8), ("_", 2)]) (N := ["self", "begun", "_", "longer", "text", "weight", "state", "row", "part", "times", "letter", "target"]) (sc := defScope (inC 30 1)) (by decide +kernel)) (fun _ _ _ _ _ => (pg_tupK (K := K) (n := 2) (pgs_cons (pg_n 8 sc_maw.nd) (pgs_cons (pg_n 2 sc_maw.nd) pgs_nil)))) (fun _ _ _ _ _ => pts_nil) (fun _ _ _ _ _ => (pv 8))) pa_nil))))
  (pss_one (ps_for PassesOwn.never rfl (pi_zipG (by rfl) T.z_zip (pa_cons (pe_fldK (K := K) (pv 0)) (pa_cons (pv 7) pa_nil))) (pg_tupK (K := K) (n := 2) (pgs_cons (pg_n 10 sc_maw.nd) (pgs_cons (pg_tupK (K := K) (n := 2) (pgs_cons (pg_n 8 sc_maw.nd) (pgs_cons (pg_n 11 sc_maw.nd) pgs_nil))) pgs_nil)))
  (pss_one (ps_if (pt_cmpR op_gt (pv 8) pe_int (nomark _)) (pss_one (ps_dput (hu_of hr) (pv 3) (pe_op op_add_str (pv 4) (pv 10)) (pe_tup (pa_cons (pe_op op_mul (pe_op op_mul (pv 5) (pv 8)) (pv 9)) (pa_cons (pv 11) pa_nil))) rfl)) pss_nil))))))))
  (pss_one (ps_s 1 sc_maw.nd (pv 3))))))
  (pss_one (ps_ret (pe_lock (pe_dc (own := [("text", 4), ("weight", 5), ("_", 2)]) rfl sc_maw.nd (pi_items (pv 1)) (blkOk_by (own := [("text", 4), ("weight", 5), ("_", 2)]) (N := ["self", "begun", "_", "longer", "text", "weight", "state", "row", "part", "times", "letter", "target"]) (sc := defScope (inC 30 1)) (by decide +kernel)) (fun _ _ _ _ _ => (pg_tupK (K := K) (n := 2) (pgs_cons (pg_n 4 sc_maw.nd) (pgs_cons (pg_tupK (K := K) (n := 2) (pgs_cons (pg_n 5 sc_maw.nd) (pgs_cons (pg_n 2 sc_maw.nd) pgs_nil))) pgs_nil)))) (fun _ _ _ _ _ => pts_nil) (fun _ _ _ _ _ => (pv 4)) (fun _ _ _ _ _ => (pv 5)))))))), ?_⟩
    have nP : p ≠ PT := neP_of c hp fun ps z => by cases z
    have lus := plen prs
    have hk1 := ok.1
    have hk2 := ok.2.1
    have hn := ok.2.2.1
    have hpos : 0 < ws.sum := by
      have := whole_pos (n := 1) ⟨ok.1, ok.2.1, by omega, ok.2.2.2.1, ok.2.2.2.2.1, by omega⟩
      rw [Nat.pow_one] at this
      exact this
    have hsum := ok.2.2.2.1
    have ndm : ∀ i, i ≤ L → ((machS ws i).map (·.1)).Nodup := fun i hi => by
      rw [mach_keys]
      exact texts_nd _ (by omega) _ (by omega) (fun z => by have := ok.2.2.2.2.2 z; omega)
    have lem : ∀ i, i ≤ L → (machS ws i).length ≤ 16 := fun i hi => by
      have := texts_le ws.length (by omega) i (by omega) (fun z => by have := ok.2.2.2.2.2 z; omega)
      rw [← mach_keys, List.length_map] at this
      exact this
    intro d hd
    have nd : d ≠ PT := c.ne hd
    have npd : p ≠ d := ne_of_none hp hd
    have e0 : Ext PT nM G H G (upd H d (.dK [])) := Ext.loc c hd
    refine ⟨_, rfl, p, cM, dx, _, _, rfl, e0.stay0 hp nP, T.l_cM, T.n_cM_start, rfl, leS (by show 2 ≤ 100000; decide), fun t ht => ?_⟩
    have e1 := e0.trans (Ext.new (M := nM) (o := .tup [.int 1, .int 0]) e0.c ht)
    have ntd : d ≠ t := ne_of_none upd_same ht
    refine ⟨by rw [upd_ne ntd, upd_same], [(kT [], .ref t)], ?_, (by show 1 ≤ 15; decide), ?_⟩
    · show [(V.str _, V.ref t)] = [(V.str (tx []), V.ref t)]
      rw [← empty_str]
    have e2 := e1.mut (o := .dK [(kT [], .ref t)]) (.inl hd) (by rw [upd_ne ntd]; exact c.free hd) nd
    refine ⟨_, rfl, p, cM, dx, _, _, rfl, e2.stay0 hp nP, T.l_cM, T.n_cM_length, rfl, _, rfl, by omega, by omega, ?_⟩
    refine wk_range.loop (n := ((L : Nat) : Int).toNat) (fun i σ H' => ∃ d kvs y2 y3 y4 y5 y6 y7 y8 y9 y10 y11 G', σ = [some (.ref p), some (.ref d), y2, y3, y4, y5, y6, y7, y8, y9, y10, y11] ∧ Ext PT nM G H G' H' ∧ H d = none ∧ d ≠ PT ∧ G' d = none ∧ H' d = some (.dK kvs) ∧ Paired (PaM G') kvs (machS ws i))
      ⟨d, _, none, none, none, none, none, none, none, none, none, none, _, rfl, e2, hd, nd, by rw [upd_ne ntd]; exact c.free hd, upd_same, .cons ⟨rfl, t, rfl, upd_same⟩ .nil⟩ (fun _ _ _ _ _ => True.intro) ?_ ?_
    · rintro i v σ H2 H2' hi ⟨d, kvs, y2, y3, y4, y5, y6, y7, y8, y9, y10, y11, G2, rfl, e2, hd, nd, g2, d2, pr2⟩ ⟨rfl, rfl⟩
      have hiL : i < L := by omega
      intro dl hdl
      have ndl : dl ≠ PT := e2.c.ne hdl
      have ndd : d ≠ dl := ne_of_none d2 hdl
      have e3 := e2.trans (Ext.loc (M := nM) (o := .dK []) e2.c hdl)
      refine ⟨d, .dK kvs, by rw [upd_ne ndd]; exact d2, True.intro, fun od => ?_⟩
      have e4 := e3.mut (o := .frz od (.dK kvs)) (.inl hd) g2 nd
      refine ⟨_, rfl, d, od, kvs, rfl, upd_same, ?_⟩
      have lkv := plen pr2
      have nodi := ndm i (by omega)
      have lei := lem i (by omega)
      refine wk_items.loop (fun j σ H' => ∃ kvl y4 y5 y6 y7 y8 y9 y10 y11 G', σ = [some (.ref p), some (.ref d), some (.int (0 + (i : Nat))), some (.ref dl), y4, y5, y6, y7, y8, y9, y10, y11] ∧ Ext PT nM G H G' H' ∧ Same G2 G' ∧ G' d = none ∧ G' dl = none ∧ H' d = some (.frz od (.dK kvs)) ∧ H' dl = some (.dK kvl) ∧ Paired (PaM G') kvl (((machS ws i).take j).flatMap (stepW ws)))
        ⟨[], y4, y5, y6, y7, y8, y9, y10, y11, G2, rfl, e4, Same.refl _, g2, e2.c.free hdl, upd_same, by rw [upd_ne ndd.symm, upd_same], .nil⟩ (fun j σ H' _ ⟨_, _, _, _, _, _, _, _, _, G', _, _, _, _, _, h, _⟩ => h) ?_ ?_
      · rintro j v σ H5 H5' hj ⟨kvl, y4, y5, y6, y7, y8, y9, y10, y11, G5, rfl, e5, s5, g5, gl5, d5, l5, p5⟩ ⟨tt, kk, vv, hkv, rfl, htt, rfl⟩
        obtain ⟨⟨l, wt⟩, hx, ek, tv, ev, htv⟩ := pget pr2 hkv
        dsimp only at ek ev
        subst ek ev
        have hwt : wt ≤ 180 ^ i := mach_le (fun w hw => ok.le hw) (List.mem_of_getElem? hx)
        have hwt2 : wt ≤ 1049760000 := Nat.le_trans hwt (pow_le4 (Nat.le_refl _) (by omega))
        have e6 := e5.trans (Ext.new (M := nM) (o := .tup [kV (kT l), .ref tv]) e5.c htt)
        have s6 : Same G2 _ := s5.trans (same_upd (o := .tup [kV (kT l), .ref tv]) (e5.c.free htt))
        have nt1 : d ≠ tt := ne_of_none d5 htt
        have nt2 : dl ≠ tt := ne_of_none l5 htt
        have hrow6 := seqT e6.c.s (seqT e6.g hprow)
        refine ⟨tt, _, rfl, sq_ofT upd_same, rfl, _, _, rfl, _, _, rfl, ⟨tv, _, rfl, sq_ofT (e6.c.s _ _ (s6 _ _ htv)), rfl, _, _, rfl, _, _, rfl, rfl, rfl, ?_⟩⟩
        refine ⟨_, rfl, p, cM, dx, _, _, rfl, e6.stay0 hp nP, T.l_cM, T.n_cM_rows, rfl, _, rfl, pr, _, 0, .ref prow, rfl, rfl, seqT e6.c.s (seqT e6.g hpr), atI_nat (j := 0) rfl, ?_⟩
        refine ⟨_, rfl, p, cM, dx, _, _, rfl, e6.stay0 hp nP, T.l_cM, T.n_cM_unit, rfl, _, rfl, prow, rfl, ⟨us, hrow6⟩, fun D hD => ?_⟩
        have nD : D ≠ PT := e6.c.ne hD
        have cl7 := (Ext.loc (M := nM) (o := .lst []) e6.c hD)
        refine wk_tup.comp (fun a H' => H' = upd (upd H5 tt (.tup [kV (kT l), .ref tv])) D (.lst ((ws.take a).map vN))) rfl (fun a H' _ e => by rw [e]; exact seqT (Ext.loc (M := nM) e6.c hD).c.s (seqT e6.g hprow)) ?_ ?_
        · rintro a v H7 H7' ha rfl ⟨rfl, hv⟩
          obtain ⟨wv, hw1, qp, rfl, hq⟩ := pget prs hv
          refine ⟨qp, _, rfl, seqT (Ext.loc (M := nM) e6.c hD).c.s (seqT e6.g hq), rfl, _, _, rfl, _, _, rfl, rfl, rfl, _, rfl, _, upd_same, ?_, ?_⟩
          · rw [List.length_map, List.length_take]
            exact ltS (by omega)
          · rw [upd_upd, take_get hw1, List.map_append]
            rfl
        rintro H7 rfl
        rw [lus, List.take_length]
        refine ⟨D, ws.map (fun n : Nat => (n : Int)), rfl, by rw [vZ]; exact sq_ofL upd_same, ?_⟩
        rw [sumZ]
        refine ⟨_, _, rfl, rfl, divI (by omega) (by omega), ?_⟩
        have hs0 : ((ws.sum : Nat) : Int) ≠ 0 := by omega
        have hdiv : ((ws.sum : Nat) : Int) / ((ws.sum : Nat) : Int) = 1 := Int.ediv_self hs0
        have e8 := e6.trans (Ext.loc (M := nM) (o := .lst (ws.map vN)) e6.c hD)
        have nD1 : d ≠ D := ne_of_none (by rw [upd_ne nt1]; exact d5) hD
        have nD2 : dl ≠ D := ne_of_none (by rw [upd_ne nt2]; exact l5) hD
        have hsz : ((tx (List.range ws.length)).cps.toList.map fun c => V.str ⟨#[c]⟩).length = ws.length := by
          rw [tx_cps, List.length_map, List.length_map, List.length_range]
        refine ⟨_, rfl, p, cM, dx, _, _, rfl, e8.stay0 hp nP, T.l_cM, T.n_cM_alphabet, rfl, _, rfl, .s (tx (List.range ws.length)), .t prow, _, us, rfl, rfl, seqT e8.c.s (seqT e8.g hprow), ?_⟩
        refine (wk_z2 hsz lus).loop (fun a σ H' => ∃ kvl y8 y10 y11 G', σ = [some (.ref p), some (.ref d), some (.int (0 + (i : Nat))), some (.ref dl), some (.str (tx l)), some (vN wt), some (.int 0), some (.ref prow), y8, some (.int (((ws.sum : Nat) : Int) / ((ws.sum : Nat) : Int))), y10, y11] ∧ Ext PT nM G H G' H' ∧ Same G2 G' ∧ G' d = none ∧ G' dl = none ∧ H' d = some (.frz od (.dK kvs)) ∧ H' dl = some (.dK kvl) ∧
            Paired (PaM G') kvl (((machS ws i).take j).flatMap (stepW ws) ++ (List.range a).map fun c => (l ++ [c], wt * ws.getD c 0)))
          ⟨kvl, y8, y10, y11, _, rfl, e8, s6, by rw [upd_ne nt1]; exact g5, by rw [upd_ne nt2]; exact gl5, by rw [upd_ne nD1, upd_ne nt1]; exact d5, by rw [upd_ne nD2, upd_ne nt2]; exact l5, by
            rw [List.range_zero, List.map_nil, List.append_nil]
            exact pmap p5 fun a b z => PaM.to (same_upd (e5.c.free htt)) z⟩ (fun a σ H' _ ⟨_, _, _, _, G', _, e, _⟩ => ⟨rfl, seqT e.c.s (seqT e.g hprow)⟩) ?_ ?_
        · rintro a v σ H9 H9' ha ⟨kvl9, y8, y10, y11, G9, rfl, e9, s9, g9, gl9, d9, l9, p9⟩ ⟨t9, x9, z9, rfl, ht9, rfl, hx9, hz9⟩
          obtain ⟨wv, hw1, qp, rfl, hq⟩ := pget prs hz9
          have hx9' : x9 = .str (tx [a]) := by
            rw [tx_cps, List.getElem?_map, List.getElem?_map, List.getElem?_range ha] at hx9
            exact (Option.some.inj hx9).symm
          subst hx9'
          have hwpos : 0 < wv := ok.2.2.2.2.1 _ (List.mem_of_getElem? hw1)
          have hwle := ok.le (List.mem_of_getElem? hw1)
          have hgd : ws.getD a 0 = wv := by rw [List.getD_eq_getElem?_getD, hw1]; rfl
          have n91 : d ≠ t9 := ne_of_none d9 ht9
          have n92 : dl ≠ t9 := ne_of_none l9 ht9
          have e10 := e9.trans (Ext.new (M := nM) (o := .tup [.str (tx [a]), .ref qp]) e9.c ht9)
          refine ⟨t9, _, rfl, sq_ofT upd_same, rfl, _, _, rfl, _, _, rfl, ⟨qp, _, rfl, seqT e10.c.s (seqT e10.g hq), rfl, _, _, rfl, _, _, rfl, rfl, rfl, ?_⟩⟩
          refine ⟨_, rfl, _, _, rfl, rfl, _, rfl, ?_⟩
          rw [decide_eq_true (by omega)]
          refine iteT ?_
          refine ⟨_, rfl, _, rfl, _, _, rfl, rfl, .inr ⟨by omega, by omega⟩, _, rfl, _, _, rfl, rfl, .inr ⟨by rw [hdiv]; decide, by rw [hdiv]; decide⟩, _, rfl, leS (by show 2 ≤ 100000; decide), fun t11 ht11 => ?_⟩
          have hraw : V.int (((wt : Nat) : Int) * ((wv : Nat) : Int) * (((ws.sum : Nat) : Int) / ((ws.sum : Nat) : Int))) = vN (wt * wv) := by
            rw [hdiv, Int.mul_one, natmul]
            rfl
          have n111 : d ≠ t11 := ne_of_none (by rw [upd_ne n91]; exact d9) ht11
          have n112 : dl ≠ t11 := ne_of_none (by rw [upd_ne n92]; exact l9) ht11
          have e11 := e10.trans (Ext.new (M := nM) (o := .tup [.int (((wt : Nat) : Int) * ((wv : Nat) : Int) * (((ws.sum : Nat) : Int) / ((ws.sum : Nat) : Int))), .int 0]) e10.c ht11)
          have s11 : Same G9 _ := (same_upd (o := .tup [.str (tx [a]), .ref qp]) (e9.c.free ht9)).trans (same_upd (o := .tup [.int (((wt : Nat) : Int) * ((wv : Nat) : Int) * (((ws.sum : Nat) : Int) / ((ws.sum : Nat) : Int))), .int 0]) (e10.c.free ht11))
          have l11 := plen p9
          have lfl := len_flat (g := fun c => [(l ++ [c], wt * ws.getD c 0)]) (B := 1) (fun c => Nat.le_refl _) a
          have hll : l.length ≤ 10 := by
            have hm : l ∈ textsM ws.length i := by
              rw [← mach_keys]
              exact List.mem_map.mpr ⟨_, List.mem_of_getElem? hx, rfl⟩
            have := (mem_texts.mp hm).1
            omega
          refine ⟨_, rfl, _, rfl, _, rfl, tx l, tx [a], rfl, rfl, by rw [tx_len, tx_len]; exact leS (by simp; omega), ?_⟩
          rw [tx_add]
          have hout : valV kvl9 (kT (l ++ [a])) = none := valM_out p9 (new_key (x := (l, wt)) nodi hx)
          refine ⟨dl, _, rfl, DPut.k (k := kT (l ++ [a])) (kvs := kvl9) (by rw [upd_ne n112, upd_ne n92]; exact l9) ?_, ?_⟩
          · rw [l11, List.length_append, List.length_map, List.length_range, step_len, List.length_take]
            have h1 : min j (machS ws i).length * ws.length ≤ 16 * 3 := Nat.mul_le_mul (by omega) hk2
            exact ltS (by omega)
          · refine ⟨_, some (vN wv), some (.str (tx [a])), some (.int 0), _, rfl, e11.mut (.inl (e2.nn hdl)) (by rw [upd_ne n112, upd_ne n92]; exact gl9) ndl, s9.trans s11, by rw [upd_ne n111, upd_ne n91]; exact g9, by rw [upd_ne n112, upd_ne n92]; exact gl9, by rw [upd_ne ndd, upd_ne n111, upd_ne n91]; exact d9, upd_same, ?_⟩
            rw [putK_new _ hout, List.range_succ, List.map_append, ← List.append_assoc]
            refine psnoc (pmap p9 fun a b z => PaM.to s11 z) ⟨rfl, t11, rfl, ?_⟩
            dsimp only
            rw [hgd, ← hraw]
            exact upd_same
        · rintro σ H9 ⟨kvl9, y8, y10, y11, G9, rfl, e9, s9, g9, gl9, d9, l9, p9⟩
          refine ⟨kvl9, _, _, _, _, y8, _, y10, y11, G9, rfl, e9, s9, g9, gl9, d9, l9, ?_⟩
          rw [take_get hx, List.flatMap_append]
          have : [(l, wt)].flatMap (stepW ws) = (List.range ws.length).map fun c => (l ++ [c], wt * ws.getD c 0) := by
            rw [List.flatMap_cons, List.flatMap_nil, List.append_nil]
            rfl
          rw [this]
          exact p9
      · rintro σ H5 ⟨kvl, y4, y5, y6, y7, y8, y9, y10, y11, G5, rfl, e5, s5, g5, gl5, d5, l5, p5⟩
        rw [lkv, List.take_length] at p5
        refine ⟨d5, _, rfl, dl, kvl, _, _, y4, y5, y6, y7, y8, y9, y10, y11, G5, rfl, e5.mut (.inl hd) g5 nd, e2.nn hdl, ndl, gl5, by rw [upd_ne ndd.symm]; exact l5, p5⟩
    · rintro σ H2 ⟨d, kvs, y2, y3, y4, y5, y6, y7, y8, y9, y10, y11, G2, rfl, e2, hd, nd, g2, d2, pr2⟩
      rw [Int.toNat_natCast] at pr2
      refine ⟨d, .dK kvs, d2, True.intro, fun od => ?_⟩
      have e4 := e2.mut (o := .frz od (.dK kvs)) (.inl hd) g2 nd
      refine ⟨_, rfl, d, od, kvs, rfl, upd_same, fun D hD => ?_⟩
      have nD : D ≠ PT := e4.c.ne hD
      have ndD : d ≠ D := ne_of_none upd_same hD
      have e5 := e4.trans (Ext.loc (M := nM) (o := .dK []) e4.c hD)
      have lkv := plen pr2
      have nodL := ndm L (by omega)
      have leL := lem L (by omega)
      refine wk_items.comp (fun j H' => ∃ G', Ext PT nM G H G' H' ∧ Same G2 G' ∧ G' d = none ∧ G' D = none ∧ H' d = some (.frz od (.dK kvs)) ∧ H' D = some (.dK (kvS ((machS ws L).take j))))
        ⟨G2, e5, Same.refl _, g2, e4.c.free hD, by rw [upd_ne ndD, upd_same], upd_same⟩ (fun j H' _ ⟨_, _, _, _, _, h, _⟩ => h) ?_ ?_
      · rintro j v H6 H6' hj ⟨G6, e6, s6, g6, gD6, d6, l6⟩ ⟨tt, kk, vv, hkv, rfl, htt, rfl⟩
        obtain ⟨⟨l, wt⟩, hx, ek, tv, ev, htv⟩ := pget pr2 hkv
        dsimp only at ek ev
        subst ek ev
        have e7 := e6.trans (Ext.new (M := nM) (o := .tup [kV (kT l), .ref tv]) e6.c htt)
        have nt1 : d ≠ tt := ne_of_none d6 htt
        have nt2 : D ≠ tt := ne_of_none l6 htt
        have hxk : ((machS ws L).map (·.1))[j]? = some l := by rw [List.getElem?_map, hx]; rfl
        have hout : valV (kvS ((machS ws L).take j)) (kT l) = none := valS_out (by rw [List.map_take]; exact nd_take nodL hxk)
        refine ⟨tt, _, rfl, sq_ofT upd_same, rfl, _, _, rfl, _, _, rfl, ⟨tv, _, rfl, sq_ofT (e7.c.s _ _ ((s6.trans (same_upd (e6.c.free htt))) _ _ htv)), rfl, _, _, rfl, _, _, rfl, rfl, rfl, ?_⟩⟩
        refine ⟨rfl, _, rfl, _, rfl, _, kT l, rfl, by rw [upd_ne nt2]; exact l6, ?_, _, e7.mut (.inl (e4.nn hD)) (by rw [upd_ne nt2]; exact gD6) nD, s6.trans (same_upd (e6.c.free htt)), by rw [upd_ne nt1]; exact g6, by rw [upd_ne nt2]; exact gD6, by rw [upd_ne ndD, upd_ne nt1]; exact d6, ?_⟩
        · unfold kvS
          rw [List.length_map, List.length_take]
          exact ltS (by omega)
        · rw [upd_same, putK_new _ hout, take_get hx]
          unfold kvS
          rw [List.map_append]
          rfl
      · rintro H6 ⟨G6, e6, s6, g6, gD6, d6, l6⟩
        rw [lkv, List.take_length] at l6
        have e7 := e6.mut (o := .dK kvs) (.inl hd) g6 nd
        have e8 := e7.frz (e4.nn hD) (by rw [upd_ne ndD.symm]; exact l6) nD
        exact ⟨d6, q _ _ _ e8 ⟨D, rfl, upd_same⟩⟩
end
end K43
-- part W19
/-! W19: Machine made. -/
namespace K43
open PySem PySem.Spec PyProof.Rows L2
section
variable {P : Program} {w : World} {K : PySem.W.Frag} {mg : Str → Option Value} {base : Heap} {cS cF cG cT cM cK : Addr} {PT cc : Addr}
def maW (ws : List Nat) (L : Nat) (pr d : Addr) : List (Str × V) := [("alphabet", .str (tx (List.range ws.length))), ("start", .int 0), ("rows", .ref pr), ("length", .int L), ("unit", vN ws.sum), ("whole", vN (ws.sum ^ L)), ("weights", .ref d)]
def MaAt (cM : Addr) (G : Hp) (v : V) (x : List Nat × Nat) : Prop := ∃ p dx pr d, v = .ref p ∧ G p = some (.ins cM dx (maW x.1 x.2 pr d)) ∧ G d = some (.dK (kvS (machS x.1 x.2)))
theorem MaAt.to {G G1 : Hp} {v : V} {x : List Nat × Nat} (s : Same G G1) (h : MaAt cM G v x) : MaAt cM G1 v x := by
  obtain ⟨p, dx, pr, d, e, h, h2⟩ := h
  exact ⟨p, dx, pr, d, e, s _ _ h, s _ _ h2⟩
def RwAt (K : PySem.W.Frag) (G : Hp) (v : V) (ws : List Nat) : Prop := ∃ pl prl us, v = .ref pl ∧ SqL K G pl [.ref prl] ∧ SqL K G prl us ∧ Paired (PwAt K G) us ws
def TwAt (K : PySem.W.Frag) (G : Hp) (v : V) (ws : List Nat) : Prop := ∃ p us, v = .ref p ∧ SqT K G p us ∧ Paired (PwAt K G) us ws
theorem TwAt.to {G G1 : Hp} {v : V} {x : List Nat} (s : Same G G1) (h : TwAt K G v x) : TwAt K G1 v x := by
  obtain ⟨p, us, e, h, h2⟩ := h
  exact ⟨p, us, e, seqT s h, pmap h2 fun a b z => PwAt.to s z⟩
theorem sc_mai : FnScope ["self", "alphabet", "start", "rows", "length", "row", "weight", "state", "_"] ["self", "alphabet", "start", "rows", "length"] (defScope (inC 30 0)) := ⟨rfl, rfl, rfl, by decide +kernel, rfl, by decide +kernel, by decide +kernel⟩
def spMaI (PT cM : Addr) (K : PySem.W.Frag) : Sp := fun vs H Q _ => ∃ (G H0 : Hp) (p dx : Addr) (v : V) (ws : List Nat) (L : Nat), vs = [.ref p, .str (tx (List.range ws.length)), .int 0, v, .int L] ∧ Cl PT G H0 ∧ H0 p = none ∧ H0 dx = none ∧ dx ≠ p ∧ H = upd (upd H0 dx (.own p)) p (.ins cM dx []) ∧
  RwAt K G v ws ∧ okF ws L ∧ ∀ G' H', Ext PT nM G H0 G' H' → MaAt cM G' (.ref p) (ws, L) → Q .non H'
theorem ok_mai (T : Txt K mg cS cF cG cT cM cK) : KCal P w K mg base "Machine" cM 3 ["self", "alphabet", "start", "rows", "length"] (spMaI PT cM K) := by
  refine T.k_cM.ok T.g_cM sc_mai (fun vs H Q E h => ?_) (fun f cdv A outer s H vs Q E hr h => ?_)
  · obtain ⟨G, H0, p, dx, v, ws, L, rfl, _⟩ := h
    rfl
  · obtain ⟨G, H0, p, dx, v, ws, L, rfl, c, np, nd, ne, rfl, ⟨pl, prl, us, rfl, hpl, hprl, prs⟩, ok, q⟩ := h
    refine ⟨_, (pss_cons (ps_fld (pv 0) (pv 1) rfl)
  (pss_cons (ps_fld (pv 0) (pv 2) rfl)
  (pss_cons (ps_fld (pv 0) (pe_callTy (call_tuple_ofK (K := K)) (by rfl) T.z_tuple (by decide +kernel) (pa_cons (pe_lc (own := [("row", 5)]) rfl sc_mai.nd (pi_listK (K := K) (pv 3)) (blkOk_by (own := [("row", 5)]) (N := ["self", "alphabet", "start", "rows", "length", "row", "weight", "state", "_"]) (sc := defScope (inC 30 0)) (by decide +kernel)) (fun _ _ _ _ _ => (pg_n 5 sc_mai.nd)) (fun _ _ _ _ _ => pts_nil) (fun _ _ _ _ _ => (pe_callTy (call_tuple_ofK (K := K)) (by rfl) T.z_tuple (by decide +kernel) (pa_cons (pe_lc (own := [("weight", 6), ("state", 7)]) rfl sc_mai.nd (pi_listK (K := K) (pv 5)) (blkOk_any (own := [("weight", 6), ("state", 7)]) (N := ["self", "alphabet", "start", "rows", "length", "row", "weight", "state", "_"]) (by decide +kernel)) (fun _ _ _ _ _ => (pg_tupK (K := K) (n := 2) (pgs_cons (pg_n 6 sc_mai.nd) (pgs_cons (pg_n 7 sc_mai.nd) pgs_nil)))) (fun _ _ _ _ _ => pts_nil) (fun _ _ _ _ _ => (pe_tup (pa_cons (pv 6) (pa_cons (pv 7) pa_nil))))) pa_nil)))) pa_nil)) rfl)
  (pss_cons (ps_fld (pv 0) (pv 4) rfl)
  (pss_cons (ps_fld (pv 0) pe_int rfl)
  (pss_cons (ps_for PassesOwn.never rfl (pi_tupK (K := K) (pe_fldK (K := K) (pv 0))) (pg_n 5 sc_mai.nd)
  (pss_one (ps_fld (pv 0) (pe_c (ok_lcm T) (hr.mono (by first | decide | omega)) (pa_cons (pe_fldK (K := K) (pv 0)) (pa_cons (pe_callB (cr_sumK (K := K) rfl) (by rfl) T.z_sum (by decide +kernel) (pa_cons (pe_lc (own := [("weight", 6), ("_", 8)]) rfl sc_mai.nd (pi_tupK (K := K) (pv 5)) (blkOk_by (own := [("weight", 6), ("_", 8)]) (N := ["self", "alphabet", "start", "rows", "length", "row", "weight", "state", "_"]) (sc := defScope (inC 30 0)) (by decide +kernel)) (fun _ _ _ _ _ => (pg_tupK (K := K) (n := 2) (pgs_cons (pg_n 6 sc_mai.nd) (pgs_cons (pg_n 8 sc_mai.nd) pgs_nil)))) (fun _ _ _ _ _ => pts_nil) (fun _ _ _ _ _ => (pv 6))) pa_nil)) pa_nil))) rfl)))
  (pss_cons (ps_fld (pv 0) (pe_c (ok_pow T) (hr.mono (by first | decide | omega)) (pa_cons (pe_fldK (K := K) (pv 0)) (pa_cons (pv 4) pa_nil))) rfl)
  (pss_one (ps_fld (pv 0) (pe_m0 (ok_maw (PT := PT) T) (hr.mono (by first | decide | omega)) (pv 0)) rfl))))))))), ?_⟩
    have e0 : Ext PT nM G H0 G (upd (upd H0 dx (.own p)) p (.ins cM dx [])) := Ext.made c np nd ne
    have nP : p ≠ PT := c.ne np
    have gp : G p = none := c.free np
    have lus := plen prs
    have hk1 := ok.1
    have hk2 := ok.2.1
    have hn := ok.2.2.1
    have hsum := ok.2.2.2.1
    have hpos : 0 < ws.sum := by
      have := whole_pos (n := 1) ⟨ok.1, ok.2.1, by omega, ok.2.2.2.1, ok.2.2.2.2.1, by omega⟩
      rw [Nat.pow_one] at this
      exact this
    refine ⟨_, rfl, _, rfl, p, cM, dx, _, rfl, upd_same, T.l_cM, T.n_cM_alphabet, by decide, ?_⟩
    rw [upd_upd]
    refine ⟨_, rfl, _, rfl, p, cM, dx, _, rfl, upd_same, T.l_cM, T.n_cM_start, (by show 1 < 1000; decide), ?_⟩
    rw [upd_upd]
    have e1 := e0.mut (o := .ins cM dx [("alphabet", .str (tx (List.range ws.length))), ("start", .int 0)]) (.inl np) gp nP
    rw [upd_upd] at e1
    refine ⟨_, rfl, pl, rfl, ⟨_, seqL e1.c.s hpl⟩, fun D hD => ?_⟩
    have nD : D ≠ PT := e1.c.ne hD
    have npD : p ≠ D := ne_of_none upd_same hD
    have e2 := e1.trans (Ext.loc (M := nM) (o := .lst []) e1.c hD)
    refine wk_list.comp (fun i H' => ∃ us1 G', Ext PT nM G H0 G' H' ∧ G' D = none ∧ G' p = none ∧ H' D = some (.lst us1) ∧ H' p = some (.ins cM dx [("alphabet", .str (tx (List.range ws.length))), ("start", .int 0)]) ∧ Paired (TwAt K G') us1 (([ws] : List (List Nat)).take i))
      ⟨[], G, e2, e1.c.free hD, gp, upd_same, by rw [upd_ne npD, upd_same]; rfl, .nil⟩ (fun i H' _ ⟨_, G', e, _⟩ => seqL e.c.s (seqL e.g hpl)) ?_ ?_
    · rintro i v H3 H3' hi ⟨us1, G3, e3, g1, g2, d1, d2, p3⟩ ⟨rfl, hx⟩
      obtain rfl : i = 0 := by simpa using hi
      obtain rfl : v = .ref prl := (Option.some.inj hx).symm
      have p30 : us1 = [] := by
        cases p3
        rfl
      subst p30
      refine ⟨rfl, _, rfl, prl, rfl, ⟨us, seqL e3.c.s (seqL e3.g hprl)⟩, fun D2 hD2 => ?_⟩
      have nD2 : D2 ≠ PT := e3.c.ne hD2
      have npD2 : p ≠ D2 := ne_of_none d2 hD2
      have nDD2 : D ≠ D2 := ne_of_none d1 hD2
      have e4 := e3.trans (Ext.loc (M := nM) (o := .lst []) e3.c hD2)
      refine wk_list.comp (fun j H' => ∃ us2 G', Ext PT nM G H0 G' H' ∧ G' D = none ∧ G' p = none ∧ G' D2 = none ∧ H' D = some (.lst []) ∧ H' p = some (.ins cM dx [("alphabet", .str (tx (List.range ws.length))), ("start", .int 0)]) ∧ H' D2 = some (.lst us2) ∧ Paired (PwAt K G') us2 (ws.take j))
        ⟨[], G3, e4, g1, g2, e3.c.free hD2, by rw [upd_ne nDD2]; exact d1, by rw [upd_ne npD2]; exact d2, upd_same, .nil⟩ (fun i H' _ ⟨_, G', e, _⟩ => seqL e.c.s (seqL e.g hprl)) ?_ ?_
      · rintro j v H5 H5' hj ⟨us2, G5, e5, g51, g52, g53, d51, d52, d53, p5⟩ ⟨rfl, hx⟩
        obtain ⟨wv, hw1, qp, rfl, hq⟩ := pget prs hx
        refine ⟨qp, _, rfl, seqT e5.c.s (seqT e5.g hq), rfl, _, _, rfl, _, _, rfl, rfl, rfl, _, rfl, _, rfl, leS (by show 2 ≤ 100000; decide), fun t ht => ?_⟩
        have n1 : D ≠ t := ne_of_none d51 ht
        have n2 : p ≠ t := ne_of_none d52 ht
        have n3 : D2 ≠ t := ne_of_none d53 ht
        have e6 := e5.trans (Ext.new (M := nM) (o := .tup [vN wv, .int 0]) e5.c ht)
        have l5 := plen p5
        refine ⟨us2, by rw [upd_ne n3]; exact d53, ?_, us2 ++ [.ref t], _, e6.mut (.inl (e3.nn hD2)) (by rw [upd_ne n3]; exact g53) nD2, by rw [upd_ne n1]; exact g51, by rw [upd_ne n2]; exact g52, by rw [upd_ne n3]; exact g53, by rw [upd_ne nDD2, upd_ne n1]; exact d51, by rw [upd_ne npD2, upd_ne n2]; exact d52, upd_same, ?_⟩
        · rw [l5, List.length_take]
          exact ltS (by omega)
        · rw [take_get hw1]
          exact psnoc (pmap p5 fun a b z => PwAt.to (same_upd (e5.c.free ht)) z) ⟨t, rfl, sq_ofT upd_same⟩
      · rintro H5 ⟨us2, G5, e5, g51, g52, g53, d51, d52, d53, p5⟩
        rw [lus, List.take_length] at p5
        refine ⟨D2, us2, rfl, .inl ⟨sq_ofL d53, fun t ht => ?_⟩⟩
        have n1 : D ≠ t := ne_of_none d51 ht
        have n2 : p ≠ t := ne_of_none d52 ht
        have e6 := e5.trans (Ext.new (M := nM) (o := .tup us2) e5.c ht)
        refine ⟨[], by rw [upd_ne n1]; exact d51, Nat.lt_of_le_of_lt (Nat.zero_le 0) (by decide), [.ref t], _, e6.mut (.inl (e1.nn hD)) (by rw [upd_ne n1]; exact g51) nD, by rw [upd_ne n1]; exact g51, by rw [upd_ne n2]; exact g52, upd_same, by rw [upd_ne npD, upd_ne n2]; exact d52, ?_⟩
        exact .cons ⟨t, us2, rfl, sq_ofT upd_same, pmap p5 fun a b z => PwAt.to (same_upd (e5.c.free ht)) z⟩ .nil
    · rintro H3 ⟨us1, G3, e3, g1, g2, d1, d2, p3⟩
      obtain ⟨pT, usT, rfl, hpT, prT⟩ : ∃ pT usT, us1 = [.ref pT] ∧ SqT K G3 pT usT ∧ Paired (PwAt K G3) usT ws := by
        cases p3 with
        | cons a t =>
          cases t
          obtain ⟨p', u', e, h1, h2⟩ := a
          rw [e]
          exact ⟨p', u', rfl, h1, h2⟩
      refine ⟨D, _, rfl, .inl ⟨sq_ofL d1, fun pR hR => ?_⟩⟩
      have nR : p ≠ pR := ne_of_none d2 hR
      have e4 := e3.trans (Ext.new (M := nM) (o := .tup [.ref pT]) e3.c hR)
      have s4 : Same G3 _ := same_upd (o := .tup [.ref pT]) (e3.c.free hR)
      have g4 : upd G3 pR (.tup [.ref pT]) p = none := by rw [upd_ne nR]; exact g2
      have hRG : SqT K (upd G3 pR (.tup [.ref pT])) pR [.ref pT] := sq_ofT upd_same
      refine ⟨_, rfl, p, cM, dx, _, rfl, by rw [upd_ne nR]; exact d2, T.l_cM, T.n_cM_rows, (by show 2 < 1000; decide), ?_⟩
      refine ⟨_, rfl, _, rfl, p, cM, dx, _, rfl, upd_same, T.l_cM, T.n_cM_length, (by show 3 < 1000; decide), ?_⟩
      rw [upd_upd]
      refine ⟨_, rfl, p, cM, dx, _, rfl, upd_same, T.l_cM, T.n_cM_unit, (by show 4 < 1000; decide), ?_⟩
      rw [upd_upd]
      have e5 := e4.mut (o := .ins cM dx [("alphabet", .str (tx (List.range ws.length))), ("start", .int 0), ("rows", .ref pR), ("length", .int L), ("unit", .int 1)]) (.inl np) g4 nP
      refine ⟨_, rfl, p, cM, dx, _, _, rfl, upd_same, T.l_cM, T.n_cM_rows, rfl, pR, rfl, ⟨_, seqT e5.c.s hRG⟩, ?_⟩
      refine wk_tup.loop (fun i σ H' => ∃ y5 y6 y7 y8 G', σ = [some (.ref p), some (.str (tx (List.range ws.length))), some (.int 0), some (.ref pl), some (.int L), y5, y6, y7, y8] ∧ Ext PT nM G H0 G' H' ∧ Same (upd G3 pR (.tup [.ref pT])) G' ∧ G' p = none ∧ H' p = some (.ins cM dx [("alphabet", .str (tx (List.range ws.length))), ("start", .int 0), ("rows", .ref pR), ("length", .int L), ("unit", vN (if i = 0 then 1 else ws.sum))]))
        ⟨none, none, none, none, _, rfl, e5, Same.refl _, g4, upd_same⟩ (fun i σ H' _ ⟨_, _, _, _, G', _, e, sm, _⟩ => seqT e.c.s (seqT sm hRG)) ?_ ?_
      · rintro i v σ H6 H6' hi ⟨y5, y6, y7, y8, G6, rfl, e6, s6, g6, d6⟩ ⟨rfl, hx⟩
        obtain rfl : i = 0 := by simpa using hi
        obtain rfl : v = .ref pT := (Option.some.inj hx).symm
        rw [if_pos rfl] at d6
        have hT6 := seqT e6.c.s (seqT s6 (seqT s4 hpT))
        refine ⟨_, rfl, p, cM, dx, _, _, rfl, d6, T.l_cM, T.n_cM_unit, rfl, _, rfl, pT, rfl, ⟨usT, hT6⟩, fun D3 hD3 => ?_⟩
        have nD3 : D3 ≠ PT := e6.c.ne hD3
        have n36 : p ≠ D3 := ne_of_none d6 hD3
        have lT := plen prT
        refine wk_tup.comp (fun a H' => H' = upd H6' D3 (.lst ((ws.take a).map vN))) rfl (fun a H' _ e => by rw [e]; exact seqT (Ext.loc (M := nM) e6.c hD3).c.s (seqT s6 (seqT s4 hpT))) ?_ ?_
        · rintro a v H7 H7' ha rfl ⟨rfl, hv⟩
          obtain ⟨wv, hw1, qp, rfl, hq⟩ := pget prT hv
          refine ⟨qp, _, rfl, seqT (Ext.loc (M := nM) e6.c hD3).c.s (seqT s6 (seqT s4 hq)), rfl, _, _, rfl, _, _, rfl, rfl, rfl, _, rfl, _, upd_same, ?_, ?_⟩
          · rw [List.length_map, List.length_take]
            exact ltS (by omega)
          · rw [upd_upd, take_get hw1, List.map_append]
            rfl
        rintro H7 rfl
        rw [lT, List.take_length]
        refine ⟨D3, ws.map (fun n : Nat => (n : Int)), rfl, by rw [vZ]; exact sq_ofL upd_same, ?_⟩
        rw [sumZ]
        have e7 := e6.trans (Ext.loc (M := nM) (o := .lst (ws.map vN)) e6.c hD3)
        refine ⟨1, ws.sum, rfl, by decide, by decide, hpos, by omega, ?_⟩
        refine ⟨_, rfl, p, cM, dx, _, rfl, by rw [upd_ne n36]; exact d6, T.l_cM, T.n_cM_unit, (by show 5 < 1000; decide), ?_⟩
        refine ⟨_, _, _, _, _, rfl, e7.mut (.inl np) g6 nP, s6, g6, ?_⟩
        rw [upd_same, Nat.lcm_one_left]
        rfl
      · rintro σ H6 ⟨y5, y6, y7, y8, G6, rfl, e6, s6, g6, d6⟩
        rw [if_neg (by simp)] at d6
        refine ⟨_, rfl, p, cM, dx, _, _, rfl, d6, T.l_cM, T.n_cM_unit, rfl, _, rfl, ws.sum, L, rfl, by omega, by omega, _, rfl, p, cM, dx, _, rfl, d6, T.l_cM, T.n_cM_whole, (by show 5 < 1000; decide), ?_⟩
        have e7 := e6.mut (o := .ins cM dx (maF ws L pR)) (.inl np) g6 nP
        have hmp : upd H6 p (.ins cM dx (maF ws L pR)) p = some (.ins cM dx (maF ws L pR)) := upd_same
        refine ⟨_, rfl, p, dx, _, rfl, upd_same, rfl, G6, p, dx, pR, pT, usT, ws, L, rfl, e7.c, hmp, seqT s6 hRG, seqT s6 (seqT s4 hpT), pmap prT fun a b z => PwAt.to (s4.trans s6) z, ok, fun r G8 H8 e8 r8 => ?_⟩
        obtain ⟨d, rfl, hd⟩ := r8
        have d8 := e8.stay0 hmp nP
        have g8 := e8.none_g (by rw [upd_same]; simp) g6
        refine ⟨_, rfl, p, cM, dx, _, rfl, d8, T.l_cM, T.n_cM_weights, (by show 6 < 1000; decide), ?_⟩
        have e9 := (e7.trans e8).mut (o := .ins cM dx (maW ws L pR d)) (.inl np) g8 nP
        have e10 := e9.frz np upd_same nP
        exact q _ _ e10 ⟨p, dx, pR, d, rfl, upd_same, same_upd g8 _ _ hd⟩
def spMach (PT cM : Addr) (K : PySem.W.Frag) : Sp := fun vs H Q _ => ∃ (G : Hp) (v : V) (ws : List Nat) (L : Nat), vs = [.str (tx (List.range ws.length)), .int 0, v, .int L] ∧ Cl PT G H ∧ RwAt K G v ws ∧ okF ws L ∧ Ret PT G H Q fun G' v => MaAt cM G' v (ws, L)
theorem n_ma (T : Txt K mg cS cF cG cT cM cK) : NCal P w K mg base "Machine" 3 (spMach PT cM K) := by
  refine ⟨cM, _, _, ok_mai (PT := PT) T, fun vs H Q h x dx nx nd ne => ?_⟩
  obtain ⟨G, v, ws, L, rfl, c, hv, ok, q⟩ := h
  exact ⟨G, H, x, dx, v, ws, L, rfl, c, nx, nd, ne, rfl, hv, ok, fun G' H' e r => ⟨rfl, q _ _ _ e r⟩⟩
theorem n_mk (T : Txt K mg cS cF cG cT cM cK) : NCal P w K mg base "FarMarking" 6 (fun vs H Q _ => ∃ (G : Hp) (v u : V) (x : List Nat × Nat) (lv : Nat × Nat), vs = [v, u] ∧ Cl PT G H ∧ FarAt K cF G v x ∧ okF x.1 x.2 ∧ ShAt cS G u lv ∧ shSmall lv ∧ lv.2 < 2 ^ 30 ∧ Ret PT G H Q fun G' v => MkAt K cF cG G' v (x, lv)) := by
  refine ⟨cG, _, _, ok_gi (PT := PT) T, fun vs H Q h x dx nx nd ne => ?_⟩
  obtain ⟨G, v, u, y, lv, rfl, c, hv, ok, hs, sl, sl2, q⟩ := h
  exact ⟨G, H, x, dx, v, u, y, lv, rfl, c, nx, nd, ne, rfl, hv, ok, hs, sl, sl2, fun G' H' e r => ⟨rfl, q _ _ _ e r⟩⟩
end
end K43
-- part W20
/-! W20: Machine: texts, weight_of, share_of. -/
namespace K43
open PySem PySem.Spec PyProof.Rows L2
section
variable {P : Program} {w : World} {K : PySem.W.Frag} {mg : Str → Option Value} {base : Heap} {cS cF cG cT cM cK : Addr} {PT cc : Addr}
theorem mach_full {ws : List Nat} {L : Nat} (ok : okF ws L) : full (machS ws L) ws.length L := ⟨⟨ok.1, ok.2.1, ok.2.2.1, ok.2.2.2.2.2⟩, by rw [mach_keys]⟩
theorem sc_mtx : FnScope ["self"] ["self"] (defScope (inC 30 2)) := ⟨rfl, rfl, rfl, by decide +kernel, rfl, by decide +kernel, by decide +kernel⟩
def spMtx (PT cM : Addr) (K : PySem.W.Frag) : Sp := fun vs H Q _ => ∃ (G : Hp) (v : V) (x : List Nat × Nat), vs = [v] ∧ Cl PT G H ∧ MaAt cM G v x ∧ okF x.1 x.2 ∧ Ret PT G H Q fun G' r => TX K G' r (textsM x.1.length x.2)
theorem ok_mtx (T : Txt K mg cS cF cG cT cM cK) : MCal P w K mg base cM "texts" 1 ["self"] (spMtx PT cM K) := by
  refine T.m_cM_texts.ok T.l_cM sc_mtx (fun vs H Q E h => ?_) (fun f cdv A outer s H vs Q E hr h => ?_)
  · obtain ⟨G, v, x, rfl, _⟩ := h
    rfl
  · obtain ⟨G, v, ⟨ws, L⟩, rfl, c, hT, okf, q⟩ := h
    obtain ⟨ok, hp⟩ := mach_full okf
    obtain ⟨p, dx, pr, d, rfl, hpp, hd⟩ := id hT
    dsimp only at ok hp hpp hd q
    refine ⟨_, (pss_one (ps_ret (pe_callTy (call_tuple_ofK (K := K)) (by rfl) T.z_tuple (by decide +kernel) (pa_cons (pe_callB (call_sortedD rfl) (by rfl) T.z_sorted (by decide +kernel) (pa_cons (pe_fldK (K := K) (pv 0)) pa_nil)) pa_nil)))), ?_⟩
    have hs := texts_sorted ws.length (by have := ok.2.1; omega) L (by have := ok.2.2.1; omega) (fun z => by have := ok.2.2.2 z; omega)
    have hle := texts_le ws.length (by have := ok.2.1; omega) L (by have := ok.2.2.1; omega) (fun z => by have := ok.2.2.2 z; omega)
    have hlen := hp.length_eq
    rw [List.length_map] at hlen
    refine ⟨_, rfl, p, cM, dx, _, _, rfl, c.s _ _ hpp, T.l_cM, T.n_cM_weights, rfl, d, kvS (machS ws L), ((machS ws L).map (·.1)).map tx, rfl, .inl (c.s _ _ hd), ?_, ?_, fun ys o hy1 hy2 ho => ?_⟩
    · unfold kvS
      rw [List.map_map, List.map_map, List.map_map]
      rfl
    · rw [List.length_map, List.length_map]
      omega
    have hy : ys = (textsM ws.length L).map tx := sorted_one (hy1.trans (hp.map tx)) hy2 hs
    subst hy
    have e1 : Ext PT nM G H G (upd H o (.lst (((textsM ws.length L).map tx).map V.str))) := Ext.loc c ho
    refine ⟨o, _, rfl, .inl ⟨sq_ofL upd_same, fun t ht => q _ _ _ (e1.trans (Ext.new (M := nM) e1.c ht)) ⟨t, rfl, ?_⟩⟩⟩
    rw [List.map_map]
    exact sq_ofT upd_same
theorem sc_mwt : FnScope ["self", "text"] ["self", "text"] (defScope (inC 30 3)) := ⟨rfl, rfl, rfl, by decide +kernel, rfl, by decide +kernel, by decide +kernel⟩
def spMwt (cM : Addr) : Sp := fun vs H Q _ => ∃ (v : V) (x : List Nat × Nat) (l : List Nat), vs = [v, .str (tx l)] ∧ MaAt cM H v x ∧ Q (vN (nS (machS x.1 x.2) l)) H
theorem ok_mwt (T : Txt K mg cS cF cG cT cM cK) : MCal P w K mg base cM "weight_of" 1 ["self", "text"] (spMwt cM) := by
  refine T.m_cM_weight_of.ok T.l_cM sc_mwt (fun vs H Q E h => ?_) (fun f cdv A outer s H vs Q E hr h => ?_)
  · obtain ⟨v, x, l, rfl, _⟩ := h
    rfl
  · obtain ⟨v, x, l, rfl, hT, q⟩ := h
    obtain ⟨p, dx, pr, d, rfl, hpp, hd⟩ := id hT
    refine ⟨_, (pss_one (ps_ret (pe_dget2 (hu_of hr) (pe_fldK (K := K) (pv 0)) (pv 1) pe_int ⟨rfl, rfl, rfl, rfl⟩))), ?_⟩
    rw [← nS_val] at q
    exact ⟨_, rfl, p, cM, dx, _, _, rfl, hpp, T.l_cM, T.n_cM_weights, rfl, d, rfl, .inl ⟨_, .inl hd⟩, _, rfl, valV (kvS (machS x.1 x.2)) (kT l), DGet.k (k := kT l) hd, q⟩
theorem sc_msh : FnScope ["self", "text"] ["self", "text"] (defScope (inC 30 4)) := ⟨rfl, rfl, rfl, by decide +kernel, rfl, by decide +kernel, by decide +kernel⟩
def spMsh (PT cM cS : Addr) : Sp := fun vs H Q _ => ∃ (G : Hp) (v : V) (x : List Nat × Nat) (l : List Nat), vs = [v, .str (tx l)] ∧ Cl PT G H ∧ MaAt cM G v x ∧ okF x.1 x.2 ∧ Ret PT G H Q fun G' r => ShAt cS G' r (low (nS (machS x.1 x.2) l) (x.1.sum ^ x.2))
theorem ok_msh (T : Txt K mg cS cF cG cT cM cK) : MCal P w K mg base cM "share_of" 4 ["self", "text"] (spMsh PT cM cS) := by
  refine T.m_cM_share_of.ok T.l_cM sc_msh (fun vs H Q E h => ?_) (fun f cdv A outer s H vs Q E hr h => ?_)
  · obtain ⟨G, v, x, l, rfl, _⟩ := h
    rfl
  · obtain ⟨G, v, x, l, rfl, c, hT, ok, q⟩ := h
    obtain ⟨p, dx, pr, d, rfl, hpp, hd⟩ := id hT
    refine ⟨_, (pss_one (ps_ret (pe_n (n_sh (PT := PT) T) (hr.mono (by first | decide | omega)) (pa_cons (pe_m (ok_mwt T) (hr.mono (by first | decide | omega)) (pv 0) (pa_cons (pv 1) pa_nil)) (pa_cons (pe_fldK (K := K) (pv 0)) pa_nil))))), ?_⟩
    have hpH := c.s _ _ hpp
    have wl := whole_le ok
    refine ⟨_, rfl, p, dx, _, rfl, hpH, rfl, _, rfl, .ref p, x, l, rfl, MaAt.to c.s hT, _, rfl, p, cM, dx, _, _, rfl, hpH, T.l_cM, T.n_cM_whole, rfl, ?_⟩
    exact ⟨G, _, _, _, _, rfl, c, rfl, rfl, whole_pos ok, by omega, q⟩
end
end K43
-- part M5
/-! M5: the lesser of a share and the level, over one divisor. -/
namespace K43
open PySem PySem.Spec PyProof.Rows L2
def isLow (q : Nat × Nat) : Prop := low q.1 q.2 = q ∧ 0 < q.2
theorem low_is {a b : Nat} (h : 0 < b) : isLow (low a b) := ⟨low_low h, low_pos h⟩
theorem low_scale {a b c : Nat} (hb : 0 < b) (hc : 0 < c) : low (a * c) (b * c) = low a b := low_eq (Nat.mul_pos hb hc) hb (by rw [Nat.mul_assoc, Nat.mul_comm c b])
theorem less_low {n t : Nat} {q : Nat × Nat} (ht : 0 < t) (hq : isLow q) : lessF (low n t) q = low (min (n * q.2) (q.1 * t)) (t * q.2) := by
  have h := low_lt (a := n) (b := t) (c := q.1) (d := q.2) ht hq.2
  rw [hq.1] at h
  unfold lessF
  by_cases c : n * q.2 < q.1 * t
  · rw [if_pos (h.mpr c), Nat.min_eq_left (Nat.le_of_lt c), low_scale ht hq.2]
  · rw [if_neg (fun z => c (h.mp z)), Nat.min_eq_right (by omega), Nat.mul_comm t, low_scale hq.2 ht, hq.1]
end K43
-- part W21
/-! W21: plain_worth. -/
namespace K43
open PySem PySem.Spec PyProof.Rows L2
section
variable {P : Program} {w : World} {K : PySem.W.Frag} {mg : Str → Option Value} {base : Heap} {cS cF cG cT cM cK : Addr} {PT cc : Addr}
def minN (f : List Nat → Nat) (t : Nat) (q : Nat × Nat) (l : List Nat) : Nat := min (f l * q.2) (q.1 * t)
def pwN (f : List Nat → Nat) (t k L : Nat) (q : Nat × Nat) : Nat := ((textsM k L).map (minN f t q)).sum
theorem sc_pw : FnScope ["source", "level", "text"] ["source", "level"] (defScope (topS 32)) := ⟨rfl, rfl, rfl, by decide +kernel, rfl, by decide +kernel, by decide +kernel⟩
def spPwT (PT cT cS : Addr) : Sp := fun vs H Q _ => ∃ (G : Hp) (v u : V) (ps : List (List Nat × Nat)) (k L : Nat) (lv : Nat × Nat), vs = [v, u] ∧ Cl PT G H ∧ TaAt cT G v ps ∧ full ps k L ∧ ShAt cS G u lv ∧ shSmall lv ∧ isLow lv ∧ lv.2 < 2 ^ 30 ∧ 0 < totS ps ∧ totS ps < 2 ^ 30 ∧
  (∀ l, nS ps l ≤ totS ps) ∧ pwN (nS ps) (totS ps) k L lv < 2 ^ 60 ∧ Ret PT G H Q fun G' r => ShAt cS G' r (low (pwN (nS ps) (totS ps) k L lv) (totS ps * lv.2))
def spPwM (PT cM cS : Addr) : Sp := fun vs H Q _ => ∃ (G : Hp) (v u : V) (x : List Nat × Nat) (lv : Nat × Nat), vs = [v, u] ∧ Cl PT G H ∧ MaAt cM G v x ∧ okF x.1 x.2 ∧ ShAt cS G u lv ∧ shSmall lv ∧ isLow lv ∧ lv.2 < 2 ^ 30 ∧
  (∀ l, nS (machS x.1 x.2) l ≤ x.1.sum ^ x.2) ∧ pwN (nS (machS x.1 x.2)) (x.1.sum ^ x.2) x.1.length x.2 lv < 2 ^ 60 ∧ Ret PT G H Q fun G' r => ShAt cS G' r (low (pwN (nS (machS x.1 x.2)) (x.1.sum ^ x.2) x.1.length x.2 lv) (x.1.sum ^ x.2 * lv.2))
theorem ok_pw (T : Txt K mg cS cF cG cT cM cK) : Cal P w K mg base "plain_worth" 6 ["source", "level"] (fun vs H Q E => spPwT PT cT cS vs H Q E ∨ spPwM PT cM cS vs H Q E) := by
  refine T.d_plain_worth.ok sc_pw (fun vs H Q E h => ?_) (fun f cdv A outer s H vs Q E hr h => ?_)
  · rcases h with h | h
    · obtain ⟨G, v, u, ps, k, L, lv, rfl, _⟩ := h
      rfl
    · obtain ⟨G, v, u, x, lv, rfl, _⟩ := h
      rfl
  · rcases h with h | h
    · obtain ⟨G, v, u, ps, k, L, lv, rfl, c, hT, hf, hs, sl, lo, l30, ht, ht2, hle, hsm, q⟩ := h
      refine ⟨_, (pss_one (ps_ret (pe_c (ok_sum (PT := PT) T) (hr.mono (by first | decide | omega)) (pa_cons (pe_lc (own := [("text", 2)]) rfl sc_pw.nd (pi_tupK (K := K) (pe_m0 (ok_ttx (PT := PT) T) (hr.mono (by first | decide | omega)) (pv 0))) (blkOk_by (own := [("text", 2)]) (N := ["source", "level", "text"]) (sc := defScope (topS 32)) (by decide +kernel)) (fun _ _ _ _ _ => (pg_n 2 sc_pw.nd)) (fun _ _ _ _ _ => pts_nil) (fun _ _ _ _ _ => (pe_c (ok_lesser T) (hr.mono (by first | decide | omega)) (pa_cons (pe_m (ok_tsh (PT := PT) T) (hr.mono (by first | decide | omega)) (pv 0) (pa_cons (pv 2) pa_nil)) (pa_cons (pv 1) pa_nil))))) pa_nil)))), ?_⟩
      obtain ⟨p, dx, d, rfl, hpp, hd⟩ := id hT
      obtain ⟨pu, du, rfl, hu⟩ := id hs
      refine ⟨_, rfl, p, dx, _, rfl, c.s _ _ hpp, rfl, G, _, ps, k, L, rfl, c, hT, hf, fun r G1 H1 e1 r1 => ?_⟩
      obtain ⟨pt, rfl, hpt⟩ := r1
      refine ⟨pt, rfl, ⟨_, seqT e1.c.s hpt⟩, fun D hD => ?_⟩
      have nD : D ≠ PT := e1.c.ne hD
      have e2 := e1.trans (Ext.loc (M := nM) (o := .lst []) e1.c hD)
      have lt16 := texts_le k (by have := hf.1.2.1; omega) L (by have := hf.1.2.2.1; omega) (fun z => by have := hf.1.2.2.2 z; omega)
      refine wk_tup.comp (fun i H' => ∃ us G', Ext PT nM G H G' H' ∧ Same G1 G' ∧ G' D = none ∧ H' D = some (.lst us) ∧ Paired (fun v n => ShAt cS G' v (low n (totS ps * lv.2))) us (((textsM k L).take i).map (minN (nS ps) (totS ps) lv)))
        ⟨[], G1, e2, Same.refl _, e1.c.free hD, upd_same, .nil⟩ (fun i H' _ ⟨_, G', e, sm, _⟩ => seqT e.c.s (seqT sm hpt)) ?_ ?_
      · rintro i v H3 H3' hi ⟨us, G3, e3, s3, g3, d3, p3⟩ ⟨rfl, hx⟩
        rw [List.getElem?_map] at hx
        obtain ⟨l, hl, rfl⟩ := Option.map_eq_some_iff.mp hx
        refine ⟨rfl, _, rfl, p, dx, _, rfl, e3.c.s _ _ (e3.g _ _ hpp), rfl, _, rfl, G3, .ref p, ps, l, rfl, e3.c, TaAt.to e3.g hT, ht, by omega, fun r4 G4 H4 e4 s4 => ?_⟩
        have hn := hle l
        refine ⟨_, rfl, r4, _, _, lv, rfl, s4.to e4.c.s, ((hs.to e3.g).to e4.g).to e4.c.s, ⟨low_small (by omega) ht (by omega), sl⟩, ?_⟩
        have d4 := e4.stay0 d3 nD
        have l3 := plen p3
        refine ⟨us, d4, ?_, us ++ [_], G4, (e3.trans e4).mut (.inl (e1.nn hD)) (e4.none_g (by rw [d3]; simp) g3) nD, s3.trans e4.g, e4.none_g (by rw [d3]; simp) g3, upd_same, ?_⟩
        · rw [l3, List.length_map, List.length_take]
          exact ltS (by omega)
        · rw [take_get hl, List.map_append]
          refine psnoc (pmap p3 fun a b z => ShAt.to e4.g z) ?_
          show ShAt cS G4 _ (low (min (nS ps l * lv.2) (lv.1 * totS ps)) (totS ps * lv.2))
          rw [← less_low ht lo]
          exact lessS s4 ((hs.to e3.g).to e4.g)
      · rintro H3 ⟨us, G3, e3, s3, g3, d3, p3⟩
        rw [List.length_map, List.take_length] at p3
        have e4 := e3.frz (e1.nn hD) d3 nD
        refine ⟨_, D, us, _, _, rfl, e4.c, sq_ofL upd_same, pmap p3 fun a b z => ShAt.to (same_upd g3) z, Nat.mul_pos ht lo.2, ?_, hsm, fun r5 G5 H5 e5 s5 => q _ _ _ (e4.trans e5) s5⟩
        exact Nat.lt_of_lt_of_le (Nat.mul_lt_mul'' ht2 l30) (by decide)
    · obtain ⟨G, v, u, ⟨ws, L⟩, lv, rfl, c, hT, okf, hs, sl, lo, l30, hle, hsm, q⟩ := h
      have hf := mach_full okf
      have ht := whole_pos okf
      have wl := whole_le okf
      have ht2 : ws.sum ^ L < 2 ^ 30 := by dsimp only at wl; omega
      dsimp only at hf ht hle hsm q
      refine ⟨_, (pss_one (ps_ret (pe_c (ok_sum (PT := PT) T) (hr.mono (by first | decide | omega)) (pa_cons (pe_lc (own := [("text", 2)]) rfl sc_pw.nd (pi_tupK (K := K) (pe_m0 (ok_mtx (PT := PT) T) (hr.mono (by first | decide | omega)) (pv 0))) (blkOk_by (own := [("text", 2)]) (N := ["source", "level", "text"]) (sc := defScope (topS 32)) (by decide +kernel)) (fun _ _ _ _ _ => (pg_n 2 sc_pw.nd)) (fun _ _ _ _ _ => pts_nil) (fun _ _ _ _ _ => (pe_c (ok_lesser T) (hr.mono (by first | decide | omega)) (pa_cons (pe_m (ok_msh (PT := PT) T) (hr.mono (by first | decide | omega)) (pv 0) (pa_cons (pv 2) pa_nil)) (pa_cons (pv 1) pa_nil))))) pa_nil)))), ?_⟩
      obtain ⟨p, dx, pr, d, rfl, hpp, hd⟩ := id hT
      obtain ⟨pu, du, rfl, hu⟩ := id hs
      refine ⟨_, rfl, p, dx, _, rfl, c.s _ _ hpp, rfl, G, _, (ws, L), rfl, c, hT, okf, fun r G1 H1 e1 r1 => ?_⟩
      obtain ⟨pt, rfl, hpt⟩ := r1
      refine ⟨pt, rfl, ⟨_, seqT e1.c.s hpt⟩, fun D hD => ?_⟩
      have nD : D ≠ PT := e1.c.ne hD
      have e2 := e1.trans (Ext.loc (M := nM) (o := .lst []) e1.c hD)
      have lt16 := texts_le ws.length (by have := hf.1.2.1; omega) L (by have := hf.1.2.2.1; omega) (fun z => by have := hf.1.2.2.2 z; omega)
      refine wk_tup.comp (fun i H' => ∃ us G', Ext PT nM G H G' H' ∧ Same G1 G' ∧ G' D = none ∧ H' D = some (.lst us) ∧ Paired (fun v n => ShAt cS G' v (low n (ws.sum ^ L * lv.2))) us (((textsM ws.length L).take i).map (minN (nS (machS ws L)) (ws.sum ^ L) lv)))
        ⟨[], G1, e2, Same.refl _, e1.c.free hD, upd_same, .nil⟩ (fun i H' _ ⟨_, G', e, sm, _⟩ => seqT e.c.s (seqT sm hpt)) ?_ ?_
      · rintro i v H3 H3' hi ⟨us, G3, e3, s3, g3, d3, p3⟩ ⟨rfl, hx⟩
        rw [List.getElem?_map] at hx
        obtain ⟨l, hl, rfl⟩ := Option.map_eq_some_iff.mp hx
        refine ⟨rfl, _, rfl, p, dx, _, rfl, e3.c.s _ _ (e3.g _ _ hpp), rfl, _, rfl, G3, .ref p, (ws, L), l, rfl, e3.c, MaAt.to e3.g hT, okf, fun r4 G4 H4 e4 s4 => ?_⟩
        have hn := hle l
        refine ⟨_, rfl, r4, _, _, lv, rfl, s4.to e4.c.s, ((hs.to e3.g).to e4.g).to e4.c.s, ⟨low_small (a := nS (machS ws L) l) (b := ws.sum ^ L) (by omega) ht (by omega), sl⟩, ?_⟩
        have d4 := e4.stay0 d3 nD
        have l3 := plen p3
        refine ⟨us, d4, ?_, us ++ [_], G4, (e3.trans e4).mut (.inl (e1.nn hD)) (e4.none_g (by rw [d3]; simp) g3) nD, s3.trans e4.g, e4.none_g (by rw [d3]; simp) g3, upd_same, ?_⟩
        · rw [l3, List.length_map, List.length_take]
          exact ltS (by omega)
        · rw [take_get hl, List.map_append]
          refine psnoc (pmap p3 fun a b z => ShAt.to e4.g z) ?_
          show ShAt cS G4 _ (low (min (nS (machS ws L) l * lv.2) (lv.1 * ws.sum ^ L)) (ws.sum ^ L * lv.2))
          rw [← less_low ht lo]
          exact lessS s4 ((hs.to e3.g).to e4.g)
      · rintro H3 ⟨us, G3, e3, s3, g3, d3, p3⟩
        rw [List.length_map, List.take_length] at p3
        have e4 := e3.frz (e1.nn hD) d3 nD
        refine ⟨_, D, us, _, _, rfl, e4.c, sq_ofL upd_same, pmap p3 fun a b z => ShAt.to (same_upd g3) z, Nat.mul_pos ht lo.2, ?_, hsm, fun r5 G5 H5 e5 s5 => q _ _ _ (e4.trans e5) s5⟩
        exact Nat.lt_of_lt_of_le (Nat.mul_lt_mul'' ht2 l30) (by decide)
end
end K43
-- part M6
/-! M6: the makers' ring and intervals. -/
namespace K43
open PySem PySem.Spec PyProof.Rows L2
abbrev Src := (List (List Nat × Nat) × Nat × Nat) × (Nat × Nat)
def Src.ps (y : Src) : List (List Nat × Nat) := y.1.1
def Src.k (y : Src) : Nat := y.1.2.1
def Src.L (y : Src) : Nat := y.1.2.2
def Src.lv (y : Src) : Nat × Nat := y.2
def Src.tx (y : Src) : List (List Nat) := textsM y.k y.L
def shQ (y : Src) (l : List Nat) : Nat × Nat := low (nS y.ps l) (totS y.ps)
def arQ (y : Src) (l : List Nat) : Nat × Nat := lessF (shQ y l) (mostOf y.lv)
def lcmL (r : Nat) (l : List (Nat × Nat)) : Nat := l.foldl (fun r s => Nat.lcm r s.2) r
def ringK (y : Src) : Nat := lcmL 1 (y.tx.map (shQ y) ++ y.tx.map (arQ y))
def szS (y : Src) (l : List Nat) : Nat := (shQ y l).1 * (ringK y / (shQ y l).2)
def szA (y : Src) (l : List Nat) : Nat := (arQ y l).1 * (ringK y / (arQ y l).2)
def szR (y : Src) (l : List Nat) : Nat := szS y l - szA y l
def lay (f : List Nat → Nat) : Nat → List (List Nat) → List (List Nat × Nat × Nat)
  | _, [] => []
  | a, l :: r => (l, a, a + f l) :: lay f (a + f l) r
theorem lay_snoc (f : List Nat → Nat) (x : List Nat) : ∀ (l : List (List Nat)) (a : Nat), lay f a (l ++ [x]) = lay f a l ++ [(x, a + (l.map f).sum, a + (l.map f).sum + f x)]
  | [], a => by simp [lay]
  | b :: r, a => by
    show (b, a, a + f b) :: lay f (a + f b) (r ++ [x]) = (b, a, a + f b) :: lay f (a + f b) r ++ _
    rw [lay_snoc f x r]
    simp only [List.map_cons, List.sum_cons, List.cons_append]
    rw [show a + f b + (r.map f).sum = a + (f b + (r.map f).sum) by omega]
theorem lay_keys (f : List Nat → Nat) : ∀ (l : List (List Nat)) (a : Nat), (lay f a l).map (·.1) = l
  | [], _ => rfl
  | b :: r, a => by
    show b :: (lay f (a + f b) r).map (·.1) = _
    rw [lay_keys f r]
theorem lcmL_dvd {D : Nat} : ∀ {l : List (Nat × Nat)} {r : Nat}, r ∣ D → (∀ s ∈ l, s.2 ∣ D) → lcmL r l ∣ D
  | [], r, h, _ => h
  | a :: l, r, h, h2 => lcmL_dvd (l := l) (Nat.lcm_dvd h (h2 a (List.mem_cons_self ..))) fun s hs => h2 s (List.mem_cons_of_mem _ hs)
theorem dvd_lcmL : ∀ {l : List (Nat × Nat)} {r : Nat}, r ∣ lcmL r l ∧ ∀ s ∈ l, s.2 ∣ lcmL r l
  | [], r => ⟨Nat.dvd_refl _, fun s hs => by cases hs⟩
  | a :: l, r => by
    obtain ⟨h1, h2⟩ := dvd_lcmL (l := l) (r := Nat.lcm r a.2)
    refine ⟨Nat.dvd_trans (Nat.dvd_lcm_left _ _) h1, fun s hs => ?_⟩
    rcases List.mem_cons.mp hs with e | hs
    · rw [e]
      exact Nat.dvd_trans (Nat.dvd_lcm_right _ _) h1
    · exact h2 s hs
theorem most_low {lv : Nat × Nat} (h : isLow lv) : isLow (mostOf lv) := by
  unfold mostOf lessF
  split
  · exact h
  · exact ⟨by decide, by decide⟩
/-- what the sources hold -/
structure okK (y : Src) : Prop where
  f : full y.ps y.k y.L
  s : shSmall y.lv
  l : isLow y.lv
  b : y.lv.2 < 2 ^ 20
  t : 0 < totS y.ps
  u : totS y.ps < 2 ^ 30
  e : ∀ l, nS y.ps l ≤ totS y.ps
  o : 0 < y.lv.1
section
variable {y : Src} (h : okK y)
include h
theorem arQ_low (l : List Nat) : arQ y l = low (minN (nS y.ps) (totS y.ps) (mostOf y.lv) l) (totS y.ps * (mostOf y.lv).2) := less_low h.t (most_low h.l)
theorem mostu : 0 < (mostOf y.lv).2 ∧ (mostOf y.lv).2 < 2 ^ 20 := by
  refine ⟨(most_low h.l).2, ?_⟩
  unfold mostOf lessF
  split
  · exact h.b
  · decide
theorem divK_pos : 0 < totS y.ps * (mostOf y.lv).2 := Nat.mul_pos h.t (mostu h).1
theorem divK_lt : totS y.ps * (mostOf y.lv).2 < 2 ^ 50 := Nat.lt_of_lt_of_le (Nat.mul_lt_mul'' h.u (mostu h).2) (by decide)
theorem shQ_dvd (l : List Nat) : (shQ y l).2 ∣ totS y.ps * (mostOf y.lv).2 := Nat.dvd_trans low_dvd2 (Nat.dvd_mul_right _ _)
theorem arQ_dvd (l : List Nat) : (arQ y l).2 ∣ totS y.ps * (mostOf y.lv).2 := by
  rw [arQ_low h]
  exact low_dvd2
theorem unders_dvd : ∀ s ∈ y.tx.map (shQ y) ++ y.tx.map (arQ y), s.2 ∣ totS y.ps * (mostOf y.lv).2 := by
  intro s hs
  rcases List.mem_append.mp hs with hs | hs
  · obtain ⟨l, _, rfl⟩ := List.mem_map.mp hs
    exact shQ_dvd h l
  · obtain ⟨l, _, rfl⟩ := List.mem_map.mp hs
    exact arQ_dvd h l
theorem ringK_dvd : ringK y ∣ totS y.ps * (mostOf y.lv).2 := lcmL_dvd (Nat.one_dvd _) (unders_dvd h)
theorem ringK_pos : 0 < ringK y := Nat.pos_of_dvd_of_pos (ringK_dvd h) (divK_pos h)
theorem ringK_lt : ringK y < 2 ^ 50 := Nat.lt_of_le_of_lt (Nat.le_of_dvd (divK_pos h) (ringK_dvd h)) (divK_lt h)
theorem sh_in {l : List Nat} (hl : l ∈ y.tx) : (shQ y l).2 ∣ ringK y := dvd_lcmL.2 _ (List.mem_append_left _ (List.mem_map.mpr ⟨l, hl, rfl⟩))
theorem ar_in {l : List Nat} (hl : l ∈ y.tx) : (arQ y l).2 ∣ ringK y := dvd_lcmL.2 _ (List.mem_append_right _ (List.mem_map.mpr ⟨l, hl, rfl⟩))
theorem shQ_small (l : List Nat) : shSmall (shQ y l) := low_small (Nat.lt_of_le_of_lt (h.e l) (Nat.lt_trans h.u (by decide))) h.t (Nat.lt_trans h.u (by decide))
theorem arQ_small (l : List Nat) : shSmall (arQ y l) := by
  unfold arQ lessF
  split
  · exact shQ_small h l
  · exact most_small h.s
theorem ar_le (l : List Nat) : (arQ y l).1 * (shQ y l).2 ≤ (shQ y l).1 * (arQ y l).2 := by
  unfold arQ lessF
  split
  · exact Nat.le_refl _
  · rename_i c
    have c := Nat.le_of_not_lt c
    exact c
theorem sz_le {l : List Nat} (hl : l ∈ y.tx) : szA y l ≤ szS y l := by
  obtain ⟨a, ha⟩ := ar_in h hl
  obtain ⟨b, hb⟩ := sh_in h hl
  have ap := (arQ_small h l).2.1
  have sp := (shQ_small h l).2.1
  have e1 : ringK y / (arQ y l).2 = a := by rw [ha, Nat.mul_div_cancel_left _ ap]
  have e2 : ringK y / (shQ y l).2 = b := by rw [hb, Nat.mul_div_cancel_left _ sp]
  unfold szA szS
  rw [e1, e2]
  refine Nat.le_of_mul_le_mul_right (c := (arQ y l).2) ?_ ap
  have h1 : (arQ y l).1 * a * (arQ y l).2 = (arQ y l).1 * (shQ y l).2 * b := by
    rw [Nat.mul_assoc, Nat.mul_comm a, ← ha, hb, Nat.mul_assoc]
  have h2 : (shQ y l).1 * b * (arQ y l).2 = (shQ y l).1 * (arQ y l).2 * b := Nat.mul_right_comm _ _ _
  rw [h1, h2]
  exact Nat.mul_le_mul_right _ (ar_le h l)
theorem minK_le (l : List Nat) : minN (nS y.ps) (totS y.ps) (mostOf y.lv) l ≤ totS y.ps * (mostOf y.lv).2 := Nat.le_trans (Nat.min_le_left _ _) (Nat.mul_le_mul_right _ (h.e l))
end
end K43
-- part W22
/-! W22: Makers made. -/
namespace K43
open PySem PySem.Spec PyProof.Rows L2
section
variable {P : Program} {w : World} {K : PySem.W.Frag} {mg : Str → Option Value} {base : Heap} {cS cF cG cT cM cK : Addr} {PT cc : Addr}
def PiAt (G : Hp) (kv : Key × V) (x : List Nat × Nat × Nat) : Prop := kv.1 = kT x.1 ∧ ∃ t, kv.2 = .ref t ∧ G t = some (.tup [vN x.2.1, vN x.2.2])
theorem PiAt.to {G G1 : Hp} {kv : Key × V} {x : List Nat × Nat × Nat} (s : Same G G1) (h : PiAt G kv x) : PiAt G1 kv x := by
  obtain ⟨e, t, e2, h⟩ := h
  exact ⟨e, t, e2, s _ _ h⟩
theorem valP_out {G : Hp} {l : List Nat} {kvs : List (Key × V)} {ps : List (List Nat × Nat × Nat)} (h : Paired (PiAt G) kvs ps) (hl : l ∉ ps.map (·.1)) : valV kvs (kT l) = none := by
  induction h with
  | nil => rfl
  | cons a t ih =>
    rw [List.map_cons] at hl
    rw [valV_neg (by rw [a.1]; intro z; exact hl (by rw [← kT_inj z]; exact List.mem_cons_self ..))]
    exact ih fun z => hl (List.mem_cons_of_mem _ z)
def kF (y : Src) (ps pS dA dR : Addr) : List (Str × V) := [("source", .ref ps), ("many", .int 1), ("ring", vN (ringK y)), ("_sum", .ref pS), ("_arc", .ref dA), ("_rest", .ref dR)]
/-- makers that stand -/
def MrAt (cT cK cS : Addr) (G : Hp) (v : V) (y : Src) : Prop := ∃ p dx ps pS dA dR kvA kvR, v = .ref p ∧ G p = some (.ins cK dx (kF y ps pS dA dR)) ∧ TaAt cT G (.ref ps) y.ps ∧ ShAt cS G (.ref pS) (low ((y.tx.map (minN (nS y.ps) (totS y.ps) (mostOf y.lv))).sum) (totS y.ps * (mostOf y.lv).2)) ∧
  G dA = some (.dK kvA) ∧ Paired (PiAt G) kvA (lay (szA y) 0 y.tx) ∧ G dR = some (.dK kvR) ∧ Paired (PiAt G) kvR (lay (szR y) ((y.tx.map (szA y)).sum) y.tx)
theorem MrAt.to {G G1 : Hp} {v : V} {y : Src} (s : Same G G1) (h : MrAt cT cK cS G v y) : MrAt cT cK cS G1 v y := by
  obtain ⟨p, dx, ps, pS, dA, dR, kvA, kvR, e, h1, h2, h3, h4, h5, h6, h7⟩ := h
  exact ⟨p, dx, ps, pS, dA, dR, kvA, kvR, e, s _ _ h1, TaAt.to s h2, ShAt.to s h3, s _ _ h4, pmap h5 fun a b z => PiAt.to s z, s _ _ h6, pmap h7 fun a b z => PiAt.to s z⟩
theorem papp {α β : Type} {F : α → β → Prop} : ∀ {xs : List α} {ys : List β} {xs' : List α} {ys' : List β}, Paired F xs ys → Paired F xs' ys' → Paired F (xs ++ xs') (ys ++ ys')
  | _, _, _, _, .nil, h => h
  | _, _, _, _, .cons a t, h => .cons a (papp t h)
theorem pmap2 {α β γ : Type} {F : α → γ → Prop} {F' : α → β → Prop} {g : List Nat → γ} {g' : List Nat → β} : ∀ {xs : List α} {ls : List (List Nat)}, Paired F xs (ls.map g) → (∀ a l, F a (g l) → F' a (g' l)) → Paired F' xs (ls.map g')
  | [], [], _, _ => .nil
  | [], _ :: _, h, _ => by cases h
  | _ :: _, [], h, _ => by cases h
  | _ :: _, _ :: _, .cons a t, f => .cons (f _ _ a) (pmap2 t f)
theorem sum_leN {f : List Nat → Nat} {B : Nat} : ∀ {L : List (List Nat)}, (∀ l ∈ L, f l ≤ B) → (L.map f).sum ≤ L.length * B
  | [], _ => by simp
  | a :: r, h => by
    have ih := sum_leN (L := r) fun l hl => h l (List.mem_cons_of_mem _ hl)
    have h1 := h a (List.mem_cons_self ..)
    rw [List.map_cons, List.sum_cons, List.length_cons, Nat.succ_mul]
    omega
theorem lcmL_take {l : List (Nat × Nat)} {i : Nat} {x : Nat × Nat} {r : Nat} (h : l[i]? = some x) : lcmL r (l.take (i + 1)) = Nat.lcm (lcmL r (l.take i)) x.2 := by
  unfold lcmL
  rw [take_get h, List.foldl_append]
  rfl
theorem sc_ki : FnScope ["self", "source", "many", "level", "part", "text", "shares", "share", "arcs", "ring", "at", "arc", "size"] ["self", "source", "many", "level"] (defScope (inC 36 0)) := ⟨rfl, rfl, rfl, by decide +kernel, rfl, by decide +kernel, by decide +kernel⟩
def spKI (PT cT cS cK : Addr) (K : PySem.W.Frag) : Sp := fun vs H Q _ => ∃ (G H0 : Hp) (p dx : Addr) (v u : V) (y : Src), vs = [.ref p, v, .int 1, u] ∧ Cl PT G H0 ∧ H0 p = none ∧ H0 dx = none ∧ dx ≠ p ∧ H = upd (upd H0 dx (.own p)) p (.ins cK dx []) ∧
  TaAt cT G v y.ps ∧ ShAt cS G u y.lv ∧ okK y ∧ ∀ G' H', Ext PT nM G H0 G' H' → MrAt cT cK cS G' (.ref p) y → Q .non H'
theorem ok_ki (T : Txt K mg cS cF cG cT cM cK) : KCal P w K mg base "Makers" cK 6 ["self", "source", "many", "level"] (spKI PT cT cS cK K) := by
  refine T.k_cK.ok T.g_cK sc_ki (fun vs H Q E h => ?_) (fun f cdv A outer s H vs Q E hr h => ?_)
  · obtain ⟨G, H0, p, dx, v, u, y, rfl, _⟩ := h
    rfl
  · obtain ⟨G, H0, p, dx, v, u, y, rfl, c, np, nd, ne, rfl, hT, hs, ok, q⟩ := h
    obtain ⟨t6, gMOST⟩ := T.z_MOST
    refine ⟨_, (pss_cons (ps_if (PW.pt (pw_or (pt_not (pt_val (pe_c (ok_isb T) (hr.mono (by first | decide | omega)) (pa_cons (pv 2) (pa_cons (pe_op op_add (pe_glob (v := .int 6) rfl gMOST ⟨_, rfl⟩) pe_int) pa_nil))))) (pw_or1 (pt_cmpR op_lt (pv 2) pe_int (nomark _))))) (pss_one ps_never) pss_nil)
  (pss_cons (ps_fld (pv 0) (pv 1) rfl)
  (pss_cons (ps_fld (pv 0) (pv 2) rfl)
  (pss_cons (ps_s 4 sc_ki.nd (pe_m (ok_by (PT := PT) T) (hr.mono (by first | decide | omega)) (pe_c (ok_amo (PT := PT) T) (hr.mono (by first | decide | omega)) (pa_cons (pv 3) pa_nil)) (pa_cons (pe_n (n_sh (PT := PT) T) (hr.mono (by first | decide | omega)) (pa_cons (pv 2) (pa_cons pe_int pa_nil))) pa_nil)))
  (pss_cons (ps_setLc (i := 6) (own := [("text", 5)]) rfl sc_ki.nd rfl rfl (sw_true rfl rfl rfl (by decide +kernel)) (pi_tupK (K := K) (pe_m0 (ok_ttx (PT := PT) T) (hr.mono (by first | decide | omega)) (pv 1))) (blkOk_by (own := [("text", 5)]) (N := ["self", "source", "many", "level", "part", "text", "shares", "share", "arcs", "ring", "at", "arc", "size"]) (sc := defScope (inC 36 0)) (by decide +kernel)) (fun _ _ _ _ _ => (pg_n 5 sc_ki.nd)) (fun _ _ _ _ _ => pts_nil) (fun _ _ _ _ _ => (pe_m (ok_tsh (PT := PT) T) (hr.mono (by first | decide | omega)) (pv 1) (pa_cons (pv 5) pa_nil))))
  (pss_cons (ps_setLc (i := 8) (own := [("share", 7)]) rfl sc_ki.nd rfl rfl (sw_true rfl rfl rfl (by decide +kernel)) (pi_listK (K := K) (pv 6)) (blkOk_by (own := [("share", 7)]) (N := ["self", "source", "many", "level", "part", "text", "shares", "share", "arcs", "ring", "at", "arc", "size"]) (sc := defScope (inC 36 0)) (by decide +kernel)) (fun _ _ _ _ _ => (pg_n 7 sc_ki.nd)) (fun _ _ _ _ _ => pts_nil) (fun _ _ _ _ _ => (pe_c (ok_lesser T) (hr.mono (by first | decide | omega)) (pa_cons (pv 7) (pa_cons (pv 4) pa_nil)))))
  (pss_cons (ps_s 9 sc_ki.nd (pv 2))
  (pss_cons (ps_for PassesOwn.never rfl (pi_listK (K := K) (pe_op op_cat (pv 6) (pv 8))) (pg_n 7 sc_ki.nd)
  (pss_one (ps_s 9 sc_ki.nd (pe_c (ok_lcm T) (hr.mono (by first | decide | omega)) (pa_cons (pv 9) (pa_cons (pe_fldK (K := K) (pv 7)) pa_nil))))))
  (pss_cons (ps_fld (pv 0) (pv 9) rfl)
  (pss_cons (ps_fld (pv 0) (pe_c (ok_sum (PT := PT) T) (hr.mono (by first | decide | omega)) (pa_cons (pv 8) pa_nil)) rfl)
  (pss_cons (ps_fld (pv 0) pe_dnewK rfl)
  (pss_cons (ps_fld (pv 0) pe_dnewK rfl)
  (pss_cons (ps_s 10 sc_ki.nd pe_int)
  (pss_cons (ps_for PassesOwn.never rfl (pi_zipG (by rfl) T.z_zip (pa_cons (pe_m0 (ok_ttx (PT := PT) T) (hr.mono (by first | decide | omega)) (pv 1)) (pa_cons (pv 8) pa_nil))) (pg_tupK (K := K) (n := 2) (pgs_cons (pg_n 5 sc_ki.nd) (pgs_cons (pg_n 11 sc_ki.nd) pgs_nil)))
  (pss_cons (ps_s 12 sc_ki.nd (pe_op op_mul (pe_fldK (K := K) (pv 11)) (pe_op op_fdivW (pv 9) (pe_fldK (K := K) (pv 11)))))
  (pss_cons (ps_dput (hu_of hr) (pe_fldK (K := K) (pv 0)) (pv 5) (pe_tup (pa_cons (pv 10) (pa_cons (pe_op op_add (pv 10) (pv 12)) pa_nil))) rfl)
  (pss_one (ps_a 10 sc_ki.nd (pv 12) ip_add)))))
  (pss_one (ps_for PassesOwn.never rfl (pi_zipG3 (by rfl) T.z_zip (pa_cons (pe_m0 (ok_ttx (PT := PT) T) (hr.mono (by first | decide | omega)) (pv 1)) (pa_cons (pv 6) (pa_cons (pv 8) pa_nil)))) (pg_tupK (K := K) (n := 3) (pgs_cons (pg_n 5 sc_ki.nd) (pgs_cons (pg_n 7 sc_ki.nd) (pgs_cons (pg_n 11 sc_ki.nd) pgs_nil))))
  (pss_cons (ps_s 12 sc_ki.nd (pe_op op_sub (pe_op op_mul (pe_fldK (K := K) (pv 7)) (pe_op op_fdivW (pv 9) (pe_fldK (K := K) (pv 7)))) (pe_op op_mul (pe_fldK (K := K) (pv 11)) (pe_op op_fdivW (pv 9) (pe_fldK (K := K) (pv 11))))))
  (pss_cons (ps_dput (hu_of hr) (pe_fldK (K := K) (pv 0)) (pv 5) (pe_tup (pa_cons (pv 10) (pa_cons (pe_op op_add (pv 10) (pv 12)) pa_nil))) rfl)
  (pss_one (ps_a 10 sc_ki.nd (pv 12) ip_add)))))))))))))))))))), ?_⟩
    obtain ⟨ps, dps, dS, rfl, hps, hdS⟩ := id hT
    have e0 : Ext PT nM G H0 G (upd (upd H0 dx (.own p)) p (.ins cK dx [])) := Ext.made c np nd ne
    have nP : p ≠ PT := c.ne np
    have gp : G p = none := c.free np
    refine ⟨_, rfl, _, _, rfl, rfl, 1, 7, rfl, _, rfl, ?_⟩
    rw [show decide ((0 : Int) ≤ 1 ∧ (1 : Int) < 7) = true from rfl]
    refine ⟨_, rfl, _, _, rfl, rfl, _, rfl, ?_⟩
    rw [show decide ((1 : Int) < 1) = false from rfl]
    refine iteF ?_
    refine ⟨_, rfl, _, rfl, p, cK, dx, _, rfl, upd_same, T.l_cK, T.n_cK_source, by decide, ?_⟩
    rw [upd_upd]
    refine ⟨_, rfl, _, rfl, p, cK, dx, _, rfl, upd_same, T.l_cK, T.n_cK_many, (by show 1 < 1000; decide), ?_⟩
    rw [upd_upd]
    have e1 := e0.mut (o := .ins cK dx [("source", .ref ps), ("many", .int 1)]) (.inl np) gp nP
    rw [upd_upd] at e1
    -- the part
    refine ⟨_, rfl, G, _, _, rfl, e1.c, hs, ok.s, fun vm G2 H2 e2 s2 => ?_⟩
    have sm := most_small ok.s
    obtain ⟨pm, dm, rfl, hm⟩ := id s2
    refine ⟨pm, dm, _, rfl, e2.c.s _ _ hm, rfl, _, rfl, G2, _, _, 1, 1, rfl, e2.c, rfl, rfl, by decide, by decide, fun v3 G3 H3 e3 s3 => ?_⟩
    refine ⟨G3, _, _, mostOf y.lv, (1, 1), rfl, e3.c, s2.to e3.g, s3, ⟨sm, ⟨by decide, by decide, by decide⟩, by decide⟩, fun v4 G4 H4 e4 s4 => ?_⟩
    have hby : byF (mostOf y.lv) (1, 1) = mostOf y.lv := by
      show low ((mostOf y.lv).1 * 1) ((mostOf y.lv).2 * 1) = _
      rw [Nat.mul_one, Nat.mul_one]
      exact (most_low ok.l).1
    rw [hby] at s4
    have e14 := ((e1.trans e2).trans e3).trans e4
    have d1 : upd (upd H0 dx (.own p)) p (.ins cK dx [("source", .ref ps), ("many", .int 1)]) p = some (.ins cK dx [("source", .ref ps), ("many", .int 1)]) := upd_same
    have e24 := (e2.trans e3).trans e4
    have d4 := e24.stay0 d1 nP
    have g4 := e24.none_g (by rw [upd_same]; simp) gp
    -- the shares
    refine ⟨_, rfl, ps, dps, _, rfl, e14.c.s _ _ (e14.g _ _ hps), rfl, G4, _, y.ps, y.k, y.L, rfl, e14.c, TaAt.to e14.g hT, ok.f, fun r5 G5 H5 e5 t5 => ?_⟩
    obtain ⟨pt, rfl, hpt⟩ := t5
    have e15 := e14.trans e5
    have d5 := e5.stay0 d4 nP
    have g5 := e5.none_g (by rw [d4]; simp) g4
    have lt16 := texts_le y.k (by have := ok.f.1.2.1; omega) y.L (by have := ok.f.1.2.2.1; omega) (fun z => by have := ok.f.1.2.2.2 z; omega)
    refine ⟨pt, rfl, ⟨_, seqT e5.c.s hpt⟩, fun D hD => ?_⟩
    have nD : D ≠ PT := e15.c.ne hD
    have npD : p ≠ D := ne_of_none d5 hD
    have e6 := e15.trans (Ext.loc (M := nM) (o := .lst []) e15.c hD)
    refine wk_tup.comp (fun i H' => ∃ us G', Ext PT nM G H0 G' H' ∧ Same G5 G' ∧ G' D = none ∧ G' p = none ∧ H' D = some (.lst us) ∧ H' p = some (.ins cK dx [("source", .ref ps), ("many", .int 1)]) ∧ Paired (ShAt cS G') us ((y.tx.take i).map (shQ y)))
      ⟨[], G5, e6, Same.refl _, e15.c.free hD, g5, upd_same, by rw [upd_ne npD]; exact d5, .nil⟩ (fun i H' _ ⟨_, G', e, sm, _⟩ => seqT e.c.s (seqT sm hpt)) ?_ ?_
    · rintro i v H7 H7' hi ⟨us, G7, e7, s7, g71, g72, d71, d72, p7⟩ ⟨rfl, hx⟩
      rw [List.getElem?_map] at hx
      obtain ⟨l, hl, rfl⟩ := Option.map_eq_some_iff.mp hx
      have hl : y.tx[i]? = some l := hl
      refine ⟨rfl, _, rfl, ps, dps, _, rfl, e7.c.s _ _ (e7.g _ _ hps), rfl, _, rfl, G7, .ref ps, y.ps, l, rfl, e7.c, TaAt.to e7.g hT, ok.t, Nat.lt_trans ok.u (by decide), fun r8 G8 H8 e8 s8 => ?_⟩
      have l7 := plen p7
      refine ⟨us, e8.stay0 d71 nD, ?_, us ++ [r8], G8, (e7.trans e8).mut (.inl (e15.nn hD)) (e8.none_g (by rw [d71]; simp) g71) nD, s7.trans e8.g, e8.none_g (by rw [d71]; simp) g71, e8.none_g (by rw [d72]; simp) g72, upd_same, by rw [upd_ne npD]; exact e8.stay0 d72 nP, ?_⟩
      · rw [l7, List.length_map, List.length_take]
        exact ltS (by unfold Src.tx; omega)
      · rw [take_get hl, List.map_append]
        exact psnoc (pmap p7 fun a b z => ShAt.to e8.g z) s8
    rintro H7 ⟨us, G7, e7, s7, g71, g72, d71, d72, p7⟩
    rw [List.length_map, show (textsM y.k y.L) = y.tx from rfl, List.take_length] at p7
    have e8 := e7.frz (e15.nn hD) d71 nD
    have hsh : SqL K (upd G7 D (.lst us)) D us := sq_ofL upd_same
    have s8 : Same G5 (upd G7 D (.lst us)) := s7.trans (same_upd g71)
    have p8 : Paired (ShAt cS (upd G7 D (.lst us))) us (y.tx.map (shQ y)) := pmap p7 fun a b z => ShAt.to (same_upd g71) z
    have g8 : upd G7 D (.lst us) p = none := by rw [upd_ne npD]; exact g72
    have lus := plen p8
    rw [List.length_map] at lus
    -- the arcs
    have hpart := s4.to (e5.g.trans s8)
    refine ⟨_, rfl, D, rfl, ⟨us, seqL e8.c.s hsh⟩, fun D2 hD2 => ?_⟩
    have nD2 : D2 ≠ PT := e8.c.ne hD2
    have nDD2 : D ≠ D2 := ne_of_none d71 hD2
    have ltx : y.tx.length ≤ 16 := lt16
    have d7 : H7 p = some (.ins cK dx [("source", .ref ps), ("many", .int 1)]) := d72
    have npD2 : p ≠ D2 := ne_of_none d7 hD2
    have hpH := hpart.to e8.c.s
    refine wk_list.comp (fun i H' => ∃ us2, H' = upd H7 D2 (.lst us2) ∧ Paired (ShAt cS (upd G7 D (.lst us))) us2 ((y.tx.take i).map (arQ y))) ⟨[], rfl, .nil⟩ (fun i H' _ ⟨_, e, _⟩ => by rw [e]; exact seqL (Ext.loc (M := nM) e8.c hD2).c.s hsh) ?_ ?_
    · rintro i v H9 H9' hi ⟨us2, rfl, p9⟩ ⟨rfl, hx⟩
      obtain ⟨q0, hq0, hv⟩ := pget p8 hx
      rw [List.getElem?_map] at hq0
      obtain ⟨l, hl, rfl⟩ := Option.map_eq_some_iff.mp hq0
      have cl := (Ext.loc (M := nM) (o := .lst us2) e8.c hD2).c.s
      have l9 := plen p9
      refine ⟨rfl, _, rfl, _, rfl, v, _, shQ y l, mostOf y.lv, rfl, hv.to cl, hpart.to cl, ⟨shQ_small ok l, sm⟩, us2, upd_same, ?_, us2 ++ [_], by rw [upd_upd], ?_⟩
      · rw [l9, List.length_map, List.length_take]
        exact ltS (by omega)
      · rw [take_get hl, List.map_append]
        exact psnoc p9 (lessS hv hpart)
    rintro H9 ⟨us2, rfl, p9⟩
    rw [lus, List.take_length] at p9
    have lus2 := plen p9
    rw [List.length_map] at lus2
    have g9 : (upd G7 D (.lst us)) D2 = none := e8.c.free hD2
    have e9 := (e8.trans (Ext.loc (M := nM) (o := .lst us2) e8.c hD2)).frz (e8.nn hD2) upd_same nD2
    have s9 : Same (upd G7 D (.lst us)) (upd (upd G7 D (.lst us)) D2 (.lst us2)) := same_upd g9
    have p9' : Paired (ShAt cS (upd (upd G7 D (.lst us)) D2 (.lst us2))) us2 (y.tx.map (arQ y)) := pmap p9 fun a b z => ShAt.to s9 z
    have p8' : Paired (ShAt cS (upd (upd G7 D (.lst us)) D2 (.lst us2))) us (y.tx.map (shQ y)) := pmap p8 fun a b z => ShAt.to s9 z
    have hsh9 := seqL s9 hsh
    have har9 : SqL K (upd (upd G7 D (.lst us)) D2 (.lst us2)) D2 us2 := sq_ofL upd_same
    refine ⟨_, rfl, ?_⟩
    refine ⟨_, rfl, _, rfl, D, D2, us, us2, rfl, rfl, by rw [upd_ne nDD2]; exact d71, upd_same, leS (by omega), fun D3 hD3 => ?_⟩
    have nD3 : D3 ≠ PT := e9.c.ne hD3
    have d9 : upd H7 D2 (.lst us2) p = some (.ins cK dx [("source", .ref ps), ("many", .int 1)]) := by rw [upd_ne npD2]; exact d7
    have npD3 : p ≠ D3 := ne_of_none d9 hD3
    have e10 := e9.trans (Ext.loc (M := nM) (o := .lst (us ++ us2)) e9.c hD3)
    have d10 : upd (upd H7 D2 (.lst us2)) D3 (.lst (us ++ us2)) p = some (.ins cK dx [("source", .ref ps), ("many", .int 1)]) := by rw [upd_ne npD3]; exact d9
    have pall : Paired (ShAt cS (upd (upd G7 D (.lst us)) D2 (.lst us2))) (us ++ us2) (y.tx.map (shQ y) ++ y.tx.map (arQ y)) := papp p8' p9'
    refine ⟨D3, rfl, ⟨_, sq_ofL upd_same⟩, ?_⟩
    refine wk_list.loop (fun i σ H' => ∃ y5 y7 y10 y11 y12, σ = [some (.ref p), some (.ref ps), some (.int 1), some u, some v4, y5, some (.ref D), y7, some (.ref D2), some (vN (lcmL 1 ((y.tx.map (shQ y) ++ y.tx.map (arQ y)).take i))), y10, y11, y12] ∧ H' = upd (upd H7 D2 (.lst us2)) D3 (.lst (us ++ us2)))
      ⟨none, none, none, none, none, rfl, rfl⟩ (fun i σ H' _ ⟨_, _, _, _, _, _, e⟩ => by rw [e]; exact sq_ofL upd_same) ?_ ?_
    · rintro i v σ H11 H11' hi ⟨y5, y7, y10, y11, y12, rfl, rfl⟩ ⟨rfl, hx⟩
      obtain ⟨q0, hq0, hv⟩ := pget pall hx
      obtain ⟨pq, dq, rfl, hpq⟩ := hv.to e10.c.s
      have hqm := List.mem_of_getElem? hq0
      have hdv := lcmL_dvd (l := (y.tx.map (shQ y) ++ y.tx.map (arQ y)).take i) (Nat.one_dvd _) (fun s hs => unders_dvd ok s (List.mem_of_mem_take hs))
      have hdp := divK_pos ok
      have hdl := divK_lt ok
      have h1 := Nat.le_of_dvd hdp hdv
      have h2 := Nat.pos_of_dvd_of_pos hdv hdp
      have h3 := Nat.le_of_dvd hdp (unders_dvd ok _ hqm)
      have h4 := Nat.pos_of_dvd_of_pos (unders_dvd ok _ hqm) hdp
      refine ⟨_, rfl, _, rfl, pq, cS, dq, _, _, rfl, hpq, T.l_cS, T.n_cS_under, shF_under _, _, _, rfl, h2, by omega, h4, by omega, y5, some (.ref pq), y10, y11, y12, ?_, rfl⟩
      rw [lcmL_take hq0]
      rfl
    rintro σ H11 ⟨y5, y7, y10, y11, y12, rfl, rfl⟩
    have hlen : (us ++ us2).length = (y.tx.map (shQ y) ++ y.tx.map (arQ y)).length := plen pall
    rw [hlen, List.take_length, show lcmL 1 (y.tx.map (shQ y) ++ y.tx.map (arQ y)) = ringK y from rfl]
    have g10 : (upd (upd G7 D (.lst us)) D2 (.lst us2)) p = none := by rw [upd_ne npD2]; exact g8
    refine ⟨_, rfl, _, rfl, p, cK, dx, _, rfl, d10, T.l_cK, T.n_cK_ring, (by show 2 < 1000; decide), ?_⟩
    have e11 := e10.mut (o := .ins cK dx [("source", .ref ps), ("many", .int 1), ("ring", vN (ringK y))]) (.inl np) g10 nP
    -- the sum
    have par : Paired (fun v n => ShAt cS (upd (upd G7 D (.lst us)) D2 (.lst us2)) v (low n (totS y.ps * (mostOf y.lv).2))) us2 (y.tx.map (minN (nS y.ps) (totS y.ps) (mostOf y.lv))) := by
      refine pmap2 p9' fun v l hv => ?_
      rw [← arQ_low ok]
      exact hv
    refine ⟨_, rfl, _, D2, us2, _, _, rfl, e11.c, har9, par, divK_pos ok, Nat.lt_trans (divK_lt ok) (by decide), ?_, fun v12 G12 H12 e12 s12 => ?_⟩
    · refine Nat.lt_of_le_of_lt (sum_leN (B := totS y.ps * (mostOf y.lv).2) (fun l _ => minK_le ok l)) ?_
      have hdl := divK_lt ok
      refine Nat.lt_of_le_of_lt (Nat.mul_le_mul ltx (Nat.le_of_lt hdl)) (by decide)
    obtain ⟨pS, dS2, rfl, hpS⟩ := id s12
    have d11 : upd (upd (upd H7 D2 (.lst us2)) D3 (.lst (us ++ us2))) p (.ins cK dx [("source", .ref ps), ("many", .int 1), ("ring", vN (ringK y))]) p = some (.ins cK dx [("source", .ref ps), ("many", .int 1), ("ring", vN (ringK y))]) := upd_same
    have d12 := e12.stay0 d11 nP
    have g12 := e12.none_g (by rw [upd_same]; simp) g10
    have e112 := e11.trans e12
    refine ⟨_, rfl, p, cK, dx, _, rfl, d12, T.l_cK, T.n_cK_sum, (by show 3 < 1000; decide), ?_⟩
    have e13 := e112.mut (o := .ins cK dx [("source", .ref ps), ("many", .int 1), ("ring", vN (ringK y)), ("_sum", .ref pS)]) (.inl np) g12 nP
    intro dA hdA
    have nA : dA ≠ PT := e13.c.ne hdA
    have npA : p ≠ dA := ne_of_none upd_same hdA
    have hA0 := e13.nn hdA
    have e14' := e13.trans (Ext.loc (M := nM) (o := .dK []) e13.c hdA)
    refine ⟨_, rfl, p, cK, dx, _, rfl, by rw [upd_ne npA, upd_same], T.l_cK, T.n_cK_arc, (by show 4 < 1000; decide), ?_⟩
    have gA13 : G12 dA = none := e13.c.free hdA
    have e15' := e14'.mut (o := .ins cK dx [("source", .ref ps), ("many", .int 1), ("ring", vN (ringK y)), ("_sum", .ref pS), ("_arc", .ref dA)]) (.inl np) g12 nP
    intro dR hdR
    have nR : dR ≠ PT := e15'.c.ne hdR
    have npR : p ≠ dR := ne_of_none upd_same hdR
    have nAR : dA ≠ dR := ne_of_none (by rw [upd_ne npA.symm, upd_same]) hdR
    have hR0 := e15'.nn hdR
    have e16 := e15'.trans (Ext.loc (M := nM) (o := .dK []) e15'.c hdR)
    refine ⟨_, rfl, p, cK, dx, _, rfl, by rw [upd_ne npR, upd_same], T.l_cK, T.n_cK_rest, (by show 5 < 1000; decide), ?_⟩
    have gR15 : G12 dR = none := e15'.c.free hdR
    have e17 := e16.mut (o := .ins cK dx [("source", .ref ps), ("many", .int 1), ("ring", vN (ringK y)), ("_sum", .ref pS), ("_arc", .ref dA), ("_rest", .ref dR)]) (.inl np) g12 nP
    have ndt : y.tx.Nodup := texts_nd y.k (by have := ok.f.1.2.1; omega) y.L (by have := ok.f.1.2.2.1; omega) (fun z => by have := ok.f.1.2.2.2 z; omega)
    have ltt : ((textsM y.k y.L).map fun l => V.str (tx l)).length = y.tx.length := List.length_map ..
    refine ⟨_, rfl, ps, dps, _, rfl, e17.c.s _ _ (e17.g _ _ hps), rfl, G12, _, y.ps, y.k, y.L, rfl, e17.c, TaAt.to e17.g hT, ok.f, fun r18 G18 H18 e18 t18 => ?_⟩
    obtain ⟨pt3, rfl, hpt3⟩ := t18
    have d17 : upd (upd (upd (upd (upd H12 p (.ins cK dx [("source", .ref ps), ("many", .int 1), ("ring", vN (ringK y)), ("_sum", .ref pS)])) dA (.dK [])) p (.ins cK dx [("source", .ref ps), ("many", .int 1), ("ring", vN (ringK y)), ("_sum", .ref pS), ("_arc", .ref dA)])) dR (.dK [])) p (.ins cK dx [("source", .ref ps), ("many", .int 1), ("ring", vN (ringK y)), ("_sum", .ref pS), ("_arc", .ref dA), ("_rest", .ref dR)]) p = some (.ins cK dx [("source", .ref ps), ("many", .int 1), ("ring", vN (ringK y)), ("_sum", .ref pS), ("_arc", .ref dA), ("_rest", .ref dR)]) := upd_same
    have d18 := e18.stay0 d17 nP
    have lA18 := e18.stay0 (b := dA) (o := .dK []) (by rw [upd_ne npA.symm, upd_ne nAR, upd_ne npA.symm, upd_same]) nA
    have lR18 := e18.stay0 (b := dR) (o := .dK []) (by rw [upd_ne npR.symm, upd_same]) nR
    have e118 := e17.trans e18
    have g18 := e18.none_g (by rw [upd_same]; simp) g12
    have gA18 := e18.none_g (b := dA) (by rw [upd_ne npA.symm, upd_ne nAR, upd_ne npA.symm, upd_same]; simp) gA13
    have gR18 := e18.none_g (b := dR) (by rw [upd_ne npR.symm, upd_same]; simp) gR15
    refine ⟨_, rfl, .t pt3, .l D2, _, us2, rfl, seqT e18.c.s hpt3, seqL e18.c.s (seqL e18.g (seqL e12.g har9)), ?_⟩
    refine (wk_z2 (xs := (textsM y.k y.L).map fun l => V.str (tx l)) ltt lus2).loop (fun i σ H' => ∃ y5 y7 y11 y12 kvA G', σ = [some (.ref p), some (.ref ps), some (.int 1), some u, some v4, y5, some (.ref D), y7, some (.ref D2), some (vN (ringK y)), some (vN (((y.tx.take i).map (szA y)).sum)), y11, y12] ∧ Ext PT nM G H0 G' H' ∧ Same G18 G' ∧ G' p = none ∧ G' dA = none ∧ G' dR = none ∧
        H' p = some (.ins cK dx [("source", .ref ps), ("many", .int 1), ("ring", vN (ringK y)), ("_sum", .ref pS), ("_arc", .ref dA), ("_rest", .ref dR)]) ∧ H' dA = some (.dK kvA) ∧ H' dR = some (.dK []) ∧ Paired (PiAt G') kvA (lay (szA y) 0 (y.tx.take i)))
      ⟨y5, y7, y11, y12, [], G18, rfl, e118, Same.refl _, g18, gA18, gR18, d18, lA18, lR18, .nil⟩
      (fun i σ H' _ ⟨_, _, _, _, _, G', _, e, sm, _⟩ => ⟨seqT e.c.s (seqT sm hpt3), seqL e.c.s (seqL sm (seqL e18.g (seqL e12.g har9)))⟩) ?_ ?_
    · rintro i v σ H19 H19' hi ⟨y5, y7, y11, y12, kvA, G19, rfl, e19, s19, g19, gA, gR, d19, lA, lR, p19⟩ ⟨tt, a1, a3, rfl, htt, rfl, ha1, ha3⟩
      rw [List.getElem?_map] at ha1
      obtain ⟨l, hl, rfl⟩ := Option.map_eq_some_iff.mp ha1
      have hl : y.tx[i]? = some l := hl
      have hlm := List.mem_of_getElem? hl
      obtain ⟨q3, hq3, hv3⟩ := pget p9' ha3
      rw [List.getElem?_map, hl] at hq3
      obtain rfl : arQ y l = q3 := Option.some.inj hq3
      have n1 : p ≠ tt := ne_of_none d19 htt
      have n2 : dA ≠ tt := ne_of_none lA htt
      have n3 : dR ≠ tt := ne_of_none lR htt
      have e20 := e19.trans (Ext.new (M := nM) (o := .tup [.str (tx l), a3]) e19.c htt)
      obtain ⟨pq3, dq3, rfl, hpq3⟩ := (((hv3.to e12.g).to (e18.g.trans s19)).to (same_upd (o := .tup [.str (tx l), a3]) (e19.c.free htt))).to e20.c.s
      have sa := arQ_small ok l
      refine ⟨tt, _, rfl, sq_ofT upd_same, rfl, _, _, rfl, _, _, rfl, rfl, ?_⟩
      refine ⟨_, rfl, pq3, cS, dq3, _, _, rfl, hpq3, T.l_cS, T.n_cS_over, shF_over _, _, rfl, _, rfl, pq3, cS, dq3, _, _, rfl, hpq3, T.l_cS, T.n_cS_under, shF_under _, _, _, rfl, rfl, divI (by have := sa.2.1; omega) (by have := sa.2.2; omega), _, _, rfl, rfl, .inl ⟨by have := sa.1; omega, by have := sa.1; omega⟩, ?_⟩
      have hsz : V.int (((arQ y l).1 : Int) * ((ringK y : Int) / ((arQ y l).2 : Int))) = vN (szA y l) := by
        rw [natdiv, natmul]
        rfl
      refine ⟨_, rfl, _, rfl, _, rfl, _, _, rfl, rfl, leS (by show 2 ≤ 100000; decide), fun t21 ht21 => ?_⟩
      have m1 : p ≠ t21 := ne_of_none (by rw [upd_ne n1]; exact d19) ht21
      have m2 : dA ≠ t21 := ne_of_none (by rw [upd_ne n2]; exact lA) ht21
      have m3 : dR ≠ t21 := ne_of_none (by rw [upd_ne n3]; exact lR) ht21
      have hraw : V.int ((((y.tx.take i).map (szA y)).sum : Nat) + (((arQ y l).1 : Int) * ((ringK y : Int) / ((arQ y l).2 : Int)))) = vN (((y.tx.take i).map (szA y)).sum + szA y l) := by
        rw [V.int.inj hsz]
        rfl
      have e21 := e20.trans (Ext.new (M := nM) (o := .tup [vN (((y.tx.take i).map (szA y)).sum), V.int ((((y.tx.take i).map (szA y)).sum : Nat) + (((arQ y l).1 : Int) * ((ringK y : Int) / ((arQ y l).2 : Int))))]) e20.c ht21)
      have s21 : Same G19 _ := (same_upd (o := .tup [.str (tx l), .ref pq3]) (e19.c.free htt)).trans (same_upd (o := .tup [vN (((y.tx.take i).map (szA y)).sum), V.int ((((y.tx.take i).map (szA y)).sum : Nat) + (((arQ y l).1 : Int) * ((ringK y : Int) / ((arQ y l).2 : Int))))]) (e20.c.free ht21))
      have hout : valV kvA (kT l) = none := valP_out p19 (by rw [lay_keys]; exact nd_take ndt hl)
      have l19 := plen p19
      have ll : (lay (szA y) 0 (y.tx.take i)).length ≤ 16 := by
        have := congrArg List.length (lay_keys (szA y) (y.tx.take i) 0)
        rw [List.length_map, List.length_take] at this
        omega
      refine ⟨_, rfl, p, cK, dx, _, _, rfl, by rw [upd_ne m1, upd_ne n1]; exact d19, T.l_cK, T.n_cK_arc, rfl, _, rfl, dA, _, rfl, DPut.k (k := kT l) (kvs := kvA) (by rw [upd_ne m2, upd_ne n2]; exact lA) (ltS (by omega)), ?_⟩
      refine ⟨_, rfl, _, rfl, _, _, rfl, rfl, some (.str (tx l)), y7, some (.ref pq3), some (V.int (((arQ y l).1 : Int) * ((ringK y : Int) / ((arQ y l).2 : Int)))), _, _, ?_, e21.mut (.inl hA0) (by rw [upd_ne m2, upd_ne n2]; exact gA) nA, s19.trans s21, by rw [upd_ne m1, upd_ne n1]; exact g19, by rw [upd_ne m2, upd_ne n2]; exact gA, by rw [upd_ne m3, upd_ne n3]; exact gR, by rw [upd_ne npA, upd_ne m1, upd_ne n1]; exact d19, upd_same, by rw [upd_ne nAR.symm, upd_ne m3, upd_ne n3]; exact lR, ?_⟩
      · have hs2 : ((y.tx.take (i + 1)).map (szA y)).sum = ((y.tx.take i).map (szA y)).sum + szA y l := by
          rw [take_get hl, List.map_append, List.sum_append]
          simp only [List.map_cons, List.map_nil, List.sum_cons, List.sum_nil]
          omega
        rw [hs2, ← hraw]
        rfl
      · rw [putK_new _ hout, take_get hl, lay_snoc, Nat.zero_add]
        refine psnoc (pmap p19 fun a b z => PiAt.to s21 z) ⟨rfl, t21, rfl, ?_⟩
        dsimp only
        rw [← hraw]
        exact upd_same
    -- the second walk
    · rintro σ H17 ⟨y5, y7, y11, y12, kvA, G17, rfl, e17, s17, g17, gA, gR, d17, lA, lR, p17⟩
      have s17 := e18.g.trans s17
      rw [List.take_length] at p17
      rw [List.take_length]
      refine ⟨_, rfl, ps, dps, _, rfl, e17.c.s _ _ (e17.g _ _ hps), rfl, G17, _, y.ps, y.k, y.L, rfl, e17.c, TaAt.to e17.g hT, ok.f, fun r18 G18 H18 e18 t18 => ?_⟩
      obtain ⟨pt3, rfl, hpt3⟩ := t18
      have d18 := e18.stay0 d17 nP
      have lA18 := e18.stay0 lA nA
      have lR18 := e18.stay0 lR nR
      have e118 := e17.trans e18
      have s18 := s17.trans e18.g
      have p18 : Paired (PiAt G18) kvA (lay (szA y) 0 y.tx) := pmap p17 fun a b z => PiAt.to e18.g z
      have g18 := e18.none_g (by rw [d17]; simp) g17
      have gA18 := e18.none_g (by rw [lA]; simp) gA
      have gR18 := e18.none_g (by rw [lR]; simp) gR
      refine ⟨_, rfl, _, rfl, .t pt3, .l D, .l D2, _, us, us2, rfl, seqT e18.c.s hpt3, seqL e18.c.s (seqL s18 (seqL e12.g hsh9)), seqL e18.c.s (seqL s18 (seqL e12.g har9)), ?_⟩
      refine (wk_z3 (xs := (textsM y.k y.L).map fun l => V.str (tx l)) ltt lus (lus2)).loop (fun i σ H' => ∃ y5 y7 y11 y12 kvR G', σ = [some (.ref p), some (.ref ps), some (.int 1), some u, some v4, y5, some (.ref D), y7, some (.ref D2), some (vN (ringK y)), some (vN ((y.tx.map (szA y)).sum + ((y.tx.take i).map (szR y)).sum)), y11, y12] ∧ Ext PT nM G H0 G' H' ∧ Same G18 G' ∧ G' p = none ∧ G' dA = none ∧ G' dR = none ∧
          H' p = some (.ins cK dx [("source", .ref ps), ("many", .int 1), ("ring", vN (ringK y)), ("_sum", .ref pS), ("_arc", .ref dA), ("_rest", .ref dR)]) ∧ H' dA = some (.dK kvA) ∧ H' dR = some (.dK kvR) ∧ Paired (PiAt G') kvR (lay (szR y) ((y.tx.map (szA y)).sum) (y.tx.take i)))
        ⟨y5, y7, y11, y12, [], G18, rfl, e118, Same.refl _, g18, gA18, gR18, d18, lA18, lR18, .nil⟩
        (fun i σ H' _ ⟨_, _, _, _, _, G', _, e, sm, _⟩ => ⟨seqT e.c.s (seqT sm hpt3), seqL e.c.s (seqL sm (seqL s18 (seqL e12.g hsh9))), seqL e.c.s (seqL sm (seqL s18 (seqL e12.g har9)))⟩) ?_ ?_
      · rintro i v σ H19 H19' hi ⟨y5, y7, y11, y12, kvR, G19, rfl, e19, s19, g19, gA, gR, d19, lA, lR, p19⟩ ⟨tt, a1, a2, a3, rfl, htt, rfl, ha1, ha2, ha3⟩
        rw [List.getElem?_map] at ha1
        obtain ⟨l, hl, rfl⟩ := Option.map_eq_some_iff.mp ha1
        have hl : y.tx[i]? = some l := hl
        have hlm := List.mem_of_getElem? hl
        obtain ⟨q3, hq3, hv3⟩ := pget p9' ha3
        obtain ⟨q2, hq2, hv2⟩ := pget p8' ha2
        rw [List.getElem?_map, hl] at hq3 hq2
        obtain rfl : arQ y l = q3 := Option.some.inj hq3
        obtain rfl : shQ y l = q2 := Option.some.inj hq2
        have n1 : p ≠ tt := ne_of_none d19 htt
        have n2 : dA ≠ tt := ne_of_none lA htt
        have n3 : dR ≠ tt := ne_of_none lR htt
        have e20 := e19.trans (Ext.new (M := nM) (o := .tup [.str (tx l), a2, a3]) e19.c htt)
        obtain ⟨pq3, dq3, rfl, hpq3⟩ := (((hv3.to e12.g).to (s18.trans s19)).to (same_upd (o := .tup [.str (tx l), a2, a3]) (e19.c.free htt))).to e20.c.s
        obtain ⟨pq2, dq2, rfl, hpq2⟩ := (((hv2.to e12.g).to (s18.trans s19)).to (same_upd (o := .tup [.str (tx l), a2, .ref pq3]) (e19.c.free htt))).to e20.c.s
        have sa := arQ_small ok l
        have ss := shQ_small ok l
        have hszle := sz_le ok hlm
        refine ⟨tt, _, rfl, sq_ofT upd_same, rfl, _, _, rfl, _, _, rfl, _, _, rfl, rfl, ?_⟩
        refine ⟨_, rfl, pq2, cS, dq2, _, _, rfl, hpq2, T.l_cS, T.n_cS_over, shF_over _, _, rfl, _, rfl, pq2, cS, dq2, _, _, rfl, hpq2, T.l_cS, T.n_cS_under, shF_under _, _, _, rfl, rfl, divI (by have := ss.2.1; omega) (by have := ss.2.2; omega), _, _, rfl, rfl, .inl ⟨by have := ss.1; omega, by have := ss.1; omega⟩, ?_⟩
        refine ⟨_, rfl, pq3, cS, dq3, _, _, rfl, hpq3, T.l_cS, T.n_cS_over, shF_over _, _, rfl, _, rfl, pq3, cS, dq3, _, _, rfl, hpq3, T.l_cS, T.n_cS_under, shF_under _, _, _, rfl, rfl, divI (by have := sa.2.1; omega) (by have := sa.2.2; omega), _, _, rfl, rfl, .inl ⟨by have := sa.1; omega, by have := sa.1; omega⟩, ?_⟩
        have hsz : V.int (((shQ y l).1 : Int) * ((ringK y : Int) / ((shQ y l).2 : Int)) - ((arQ y l).1 : Int) * ((ringK y : Int) / ((arQ y l).2 : Int))) = vN (szR y l) := by
          rw [natdiv, natmul, natdiv, natmul]
          show V.int (((szS y l : Nat) : Int) - ((szA y l : Nat) : Int)) = _
          rw [← Int.ofNat_sub hszle]
          rfl
        refine ⟨_, _, rfl, rfl, ?_⟩
        refine ⟨_, rfl, _, rfl, _, rfl, _, _, rfl, rfl, leS (by show 2 ≤ 100000; decide), fun t21 ht21 => ?_⟩
        have m1 : p ≠ t21 := ne_of_none (by rw [upd_ne n1]; exact d19) ht21
        have m2 : dA ≠ t21 := ne_of_none (by rw [upd_ne n2]; exact lA) ht21
        have m3 : dR ≠ t21 := ne_of_none (by rw [upd_ne n3]; exact lR) ht21
        have hraw : V.int (((y.tx.map (szA y)).sum + ((y.tx.take i).map (szR y)).sum : Nat) + (((shQ y l).1 : Int) * ((ringK y : Int) / ((shQ y l).2 : Int)) - ((arQ y l).1 : Int) * ((ringK y : Int) / ((arQ y l).2 : Int)))) = vN ((y.tx.map (szA y)).sum + ((y.tx.take i).map (szR y)).sum + szR y l) := by
          rw [V.int.inj hsz]
          rfl
        have e21 := e20.trans (Ext.new (M := nM) (o := .tup [vN ((y.tx.map (szA y)).sum + ((y.tx.take i).map (szR y)).sum), V.int (((y.tx.map (szA y)).sum + ((y.tx.take i).map (szR y)).sum : Nat) + (((shQ y l).1 : Int) * ((ringK y : Int) / ((shQ y l).2 : Int)) - ((arQ y l).1 : Int) * ((ringK y : Int) / ((arQ y l).2 : Int))))]) e20.c ht21)
        have s21 : Same G19 _ := (same_upd (o := .tup [.str (tx l), .ref pq2, .ref pq3]) (e19.c.free htt)).trans (same_upd (o := .tup [vN ((y.tx.map (szA y)).sum + ((y.tx.take i).map (szR y)).sum), V.int (((y.tx.map (szA y)).sum + ((y.tx.take i).map (szR y)).sum : Nat) + (((shQ y l).1 : Int) * ((ringK y : Int) / ((shQ y l).2 : Int)) - ((arQ y l).1 : Int) * ((ringK y : Int) / ((arQ y l).2 : Int))))]) (e20.c.free ht21))
        have hout : valV kvR (kT l) = none := valP_out p19 (by rw [lay_keys]; exact nd_take ndt hl)
        have l19 := plen p19
        have ll : (lay (szR y) ((y.tx.map (szA y)).sum) (y.tx.take i)).length ≤ 16 := by
          have := congrArg List.length (lay_keys (szR y) (y.tx.take i) ((y.tx.map (szA y)).sum))
          rw [List.length_map, List.length_take] at this
          omega
        refine ⟨_, rfl, p, cK, dx, _, _, rfl, by rw [upd_ne m1, upd_ne n1]; exact d19, T.l_cK, T.n_cK_rest, rfl, _, rfl, dR, _, rfl, DPut.k (k := kT l) (kvs := kvR) (by rw [upd_ne m3, upd_ne n3]; exact lR) (ltS (by omega)), ?_⟩
        refine ⟨_, rfl, _, rfl, _, _, rfl, rfl, some (.str (tx l)), some (.ref pq2), some (.ref pq3), some (V.int (((shQ y l).1 : Int) * ((ringK y : Int) / ((shQ y l).2 : Int)) - ((arQ y l).1 : Int) * ((ringK y : Int) / ((arQ y l).2 : Int)))), _, _, ?_, e21.mut (.inl hR0) (by rw [upd_ne m3, upd_ne n3]; exact gR) nR, s19.trans s21, by rw [upd_ne m1, upd_ne n1]; exact g19, by rw [upd_ne m2, upd_ne n2]; exact gA, by rw [upd_ne m3, upd_ne n3]; exact gR, by rw [upd_ne npR, upd_ne m1, upd_ne n1]; exact d19, by rw [upd_ne nAR, upd_ne m2, upd_ne n2]; exact lA, upd_same, ?_⟩
        · have hs2 : (y.tx.map (szA y)).sum + ((y.tx.take (i + 1)).map (szR y)).sum = (y.tx.map (szA y)).sum + ((y.tx.take i).map (szR y)).sum + szR y l := by
            rw [take_get hl, List.map_append, List.sum_append]
            simp only [List.map_cons, List.map_nil, List.sum_cons, List.sum_nil]
            omega
          rw [hs2, ← hraw]
          rfl
        · rw [putK_new _ hout, take_get hl, lay_snoc]
          refine psnoc (pmap p19 fun a b z => PiAt.to s21 z) ⟨rfl, t21, rfl, ?_⟩
          dsimp only
          rw [← hraw]
          exact upd_same
      · rintro σ H19 ⟨y5, y7, y11, y12, kvR, G19, rfl, e19, s19, g19, gA, gR, d19, lA, lR, p19⟩
        rw [List.take_length] at p19
        have eA := e19.frz hA0 lA nA
        have eR := eA.frz hR0 lR nR
        have gp2 : upd (upd G19 dA (.dK kvA)) dR (.dK kvR) p = none := by rw [upd_ne npR, upd_ne npA]; exact g19
        have eP := eR.frz np d19 nP
        have sA : Same G19 (upd G19 dA (.dK kvA)) := same_upd gA
        have gR2 : upd G19 dA (.dK kvA) dR = none := by rw [upd_ne nAR.symm]; exact gR
        have sR : Same (upd G19 dA (.dK kvA)) (upd (upd G19 dA (.dK kvA)) dR (.dK kvR)) := same_upd gR2
        have sP := same_upd (o := .ins cK dx [("source", .ref ps), ("many", .int 1), ("ring", vN (ringK y)), ("_sum", .ref pS), ("_arc", .ref dA), ("_rest", .ref dR)]) gp2
        have sAll := (sA.trans sR).trans sP
        exact q _ _ eP ⟨p, dx, ps, pS, dA, dR, kvA, kvR, rfl, upd_same, TaAt.to eP.g hT, (s12.to ((s18.trans s19))).to sAll, (sR.trans sP) _ _ upd_same, pmap p18 fun a b z => PiAt.to (s19.trans sAll) z, sP _ _ upd_same, pmap p19 fun a b z => PiAt.to sAll z⟩
end
end K43
-- part W23
/-! W23: Makers: arcs, write, who. -/
namespace K43
open PySem PySem.Spec PyProof.Rows L2
section
variable {P : Program} {w : World} {K : PySem.W.Frag} {mg : Str → Option Value} {base : Heap} {cS cF cG cT cM cK : Addr} {PT cc : Addr}
def sumK (y : Src) : Nat := (y.tx.map (minN (nS y.ps) (totS y.ps) (mostOf y.lv))).sum
def dvK (y : Src) : Nat := totS y.ps * (mostOf y.lv).2
def loA (y : Src) (i : Nat) : Nat := ((y.tx.take i).map (szA y)).sum
def loR (y : Src) (i : Nat) : Nat := (y.tx.map (szA y)).sum + ((y.tx.take i).map (szR y)).sum
theorem lay_get (f : List Nat → Nat) : ∀ {L : List (List Nat)} {i : Nat} {l : List Nat} (a : Nat), L[i]? = some l → (lay f a L)[i]? = some (l, a + ((L.take i).map f).sum, a + ((L.take (i + 1)).map f).sum)
  | b :: r, 0, l, a, h => by
    have h : b = l := Option.some.inj h
    subst h
    simp [lay]
  | b :: r, i + 1, l, a, h => by
    show (lay f (a + f b) r)[i]? = _
    rw [lay_get f (a + f b) (show r[i]? = some l from h)]
    simp only [List.take_succ_cons, List.map_cons, List.sum_cons]
    rw [Nat.add_assoc, Nat.add_assoc]
theorem valP_in {G : Hp} {kvs : List (Key × V)} {ps : List (List Nat × Nat × Nat)} (h : Paired (PiAt G) kvs ps) (nd : (ps.map (·.1)).Nodup) : ∀ x ∈ ps, ∃ t, valV kvs (kT x.1) = some (.ref t) ∧ G t = some (.tup [vN x.2.1, vN x.2.2]) := by
  induction h with
  | nil => intro x hx; cases hx
  | @cons a b as bs h t ih =>
    intro x hx
    rw [List.map_cons] at nd
    obtain ⟨e, tt, ev, ht⟩ := h
    rcases List.mem_cons.mp hx with z | hx
    · rw [z]
      exact ⟨tt, by rw [valV_pos e, ev], ht⟩
    · have hne : b.1 ≠ x.1 := fun z => (List.nodup_cons.mp nd).1 (List.mem_map.mpr ⟨x, hx, z.symm⟩)
      obtain ⟨t2, h1, h2⟩ := ih (List.nodup_cons.mp nd).2 x hx
      exact ⟨t2, by rw [valV_neg (by rw [e]; intro z; exact hne (kT_inj z))]; exact h1, h2⟩
theorem tx_nd {y : Src} (ok : okK y) : y.tx.Nodup := texts_nd y.k (by have := ok.f.1.2.1; omega) y.L (by have := ok.f.1.2.2.1; omega) (fun z => by have := ok.f.1.2.2.2 z; omega)
theorem tx_le {y : Src} (ok : okK y) : y.tx.length ≤ 16 := texts_le y.k (by have := ok.f.1.2.1; omega) y.L (by have := ok.f.1.2.2.1; omega) (fun z => by have := ok.f.1.2.2.2 z; omega)
theorem arc_at {y : Src} (ok : okK y) {G : Hp} {kvs : List (Key × V)} (h : Paired (PiAt G) kvs (lay (szA y) 0 y.tx)) {i : Nat} {l : List Nat} (hl : y.tx[i]? = some l) : ∃ t, valV kvs (kT l) = some (.ref t) ∧ G t = some (.tup [vN (loA y i), vN (loA y (i + 1))]) := by
  have hg := lay_get (szA y) 0 hl
  rw [Nat.zero_add, Nat.zero_add] at hg
  exact valP_in h (by rw [lay_keys]; exact tx_nd ok) _ (List.mem_of_getElem? hg)
theorem rest_at {y : Src} (ok : okK y) {G : Hp} {kvs : List (Key × V)} (h : Paired (PiAt G) kvs (lay (szR y) ((y.tx.map (szA y)).sum) y.tx)) {i : Nat} {l : List Nat} (hl : y.tx[i]? = some l) : ∃ t, valV kvs (kT l) = some (.ref t) ∧ G t = some (.tup [vN (loR y i), vN (loR y (i + 1))]) := by
  have hg := lay_get (szR y) ((y.tx.map (szA y)).sum) hl
  exact valP_in h (by rw [lay_keys]; exact tx_nd ok) _ (List.mem_of_getElem? hg)
def hitA (y : Src) (x i : Nat) : Prop := loA y i ≤ x ∧ x < loA y (i + 1)
def hitR (y : Src) (x i : Nat) : Prop := loR y i ≤ x ∧ x < loR y (i + 1)
instance (y : Src) (x i : Nat) : Decidable (hitA y x i) := by unfold hitA; exact inferInstance
instance (y : Src) (x i : Nat) : Decidable (hitR y x i) := by unfold hitR; exact inferInstance
theorem sc_arcs : FnScope ["self"] ["self"] (defScope (inC 36 1)) := ⟨rfl, rfl, rfl, by decide +kernel, rfl, by decide +kernel, by decide +kernel⟩
def spArcs (cT cK cS : Addr) : Sp := fun vs H Q _ => ∃ (v : V) (y : Src), vs = [v] ∧ MrAt cT cK cS H v y ∧ ∀ r, ShAt cS H r (low (sumK y) (dvK y)) → Q r H
theorem ok_arcs (T : Txt K mg cS cF cG cT cM cK) {f : Addr} {fd : FuncData} (F : Fun K "arcs" "Makers.arcs" (inC 36 1) f fd) : FnOk P w K mg base CX0 1 f fd ["self"] (spArcs cT cK cS) := by
  refine F.ok sc_arcs (fun vs H Q E h => ?_) (fun cdv A outer s H vs Q E hr h => ?_)
  · obtain ⟨v, y, rfl, _⟩ := h
    rfl
  · obtain ⟨v, y, rfl, ⟨p, dx, ps, pS, dA, dR, kvA, kvR, rfl, hp, _, hS, _⟩, q⟩ := h
    exact ⟨_, pss_one (ps_ret (pe_fldK (K := K) (pv 0))), _, rfl, p, cK, dx, _, _, rfl, hp, T.l_cK, T.n_cK_sum, rfl, q _ hS⟩
theorem pe_prop' {X : Cx} {k : Nat} {e : Expr} {ta : TE} {pos : Pos} (T : Txt X.K X.mg cS cF cG cT cM cK) (hr : Room k X.A) (he : PE X e ta) (hk : 2 ≤ k := by decide) (hab : attributeBase e "arcs" X.env (eval e X.env) = eval e X.env := by rfl) : PE X (.Attribute e "arcs" pos) (tProp cK (spArcs cT cK cS) [] E0 ta) := by
  obtain ⟨p, g, fd, hp, F, b⟩ := T.p_cK
  exact pe_prop he T.l_cK hp (ok_arcs T F) (hr.mono hk) b .nil pass0 hab
theorem sc_step : FnScope ["self", "maker"] ["self", "maker"] (defScope (inC 36 2)) := ⟨rfl, rfl, rfl, by decide +kernel, rfl, by decide +kernel, by decide +kernel⟩
def spStep (cT cK cS : Addr) : Sp := fun vs H Q _ => ∃ (v : V) (y : Src), vs = [v, .int 0] ∧ MrAt cT cK cS H v y ∧ Q (.int 0) H
theorem ok_step (T : Txt K mg cS cF cG cT cM cK) : MCal P w K mg base cK "_step" 1 ["self", "maker"] (spStep cT cK cS) := by
  refine T.m_cK_step.ok T.l_cK sc_step (fun vs H Q E h => ?_) (fun f cdv A outer s H vs Q E hr h => ?_)
  · obtain ⟨v, y, rfl, _⟩ := h
    rfl
  · obtain ⟨v, y, rfl, ⟨p, dx, ps, pS, dA, dR, kvA, kvR, rfl, hp, _⟩, q⟩ := h
    refine ⟨_, (pss_one (ps_ret (pe_op op_mul (pv 1) (pe_op op_fdivW (pe_fldK (K := K) (pv 0)) (pe_fldK (K := K) (pv 0)))))), ?_⟩
    refine ⟨_, rfl, _, rfl, p, cK, dx, _, _, rfl, hp, T.l_cK, T.n_cK_ring, rfl, _, rfl, p, cK, dx, _, _, rfl, hp, T.l_cK, T.n_cK_many, rfl, _, _, rfl, rfl, divI (by decide) (by decide), _, _, rfl, rfl, .inl ⟨by decide, by decide⟩, qI q (Int.zero_mul _)⟩
theorem sc_point : FnScope ["self", "maker", "key", "point"] ["self", "maker", "key"] (defScope (inC 36 3)) := ⟨rfl, rfl, rfl, by decide +kernel, rfl, by decide +kernel, by decide +kernel⟩
def spPoint (cT cK cS : Addr) : Sp := fun vs H Q _ => ∃ (v : V) (y : Src) (x : Nat), vs = [v, .int 0, .int x] ∧ MrAt cT cK cS H v y ∧ x < ringK y ∧ Q (.int x) H
theorem ok_point (T : Txt K mg cS cF cG cT cM cK) : MCal P w K mg base cK "_point" 2 ["self", "maker", "key"] (spPoint cT cK cS) := by
  refine T.m_cK_point.ok T.l_cK sc_point (fun vs H Q E h => ?_) (fun f cdv A outer s H vs Q E hr h => ?_)
  · obtain ⟨v, y, x, rfl, _⟩ := h
    rfl
  · obtain ⟨v, y, x, rfl, hM, hx, q⟩ := h
    obtain ⟨p, dx, ps, pS, dA, dR, kvA, kvR, rfl, hp, _⟩ := id hM
    refine ⟨_, (pss_cons (ps_s 3 sc_point.nd (pe_op op_add (pv 2) (pe_m (ok_step T) (hr.mono (by first | decide | omega)) (pv 0) (pa_cons (pv 1) pa_nil))))
  (pss_one (ps_ret (pe_ifExp (pt_cmpR op_lt (pv 3) (pe_fldK (K := K) (pv 0)) (nomark _)) (pv 3) (pe_op op_sub (pv 3) (pe_fldK (K := K) (pv 0))))))), ?_⟩
    refine ⟨_, rfl, _, rfl, p, dx, _, rfl, hp, rfl, _, rfl, .ref p, y, rfl, hM, _, _, rfl, rfl, ?_⟩
    refine ⟨_, rfl, _, rfl, p, cK, dx, _, _, rfl, hp, T.l_cK, T.n_cK_ring, rfl, _, _, rfl, rfl, _, rfl, ?_⟩
    rw [Int.add_zero, decide_eq_true (by omega)]
    exact ⟨_, rfl, q⟩
end
end K43
-- part W24
/-! W24: Makers: write, who. -/
namespace K43
open PySem PySem.Spec PyProof.Rows L2
section
variable {P : Program} {w : World} {K : PySem.W.Frag} {mg : Str → Option Value} {base : Heap} {cS cF cG cT cM cK : Addr} {PT cc : Addr}
theorem sc_kw : FnScope ["self", "maker", "key", "point", "texts", "text", "first", "behind", "other", "last"] ["self", "maker", "key"] (defScope (inC 36 4)) := ⟨rfl, rfl, rfl, by decide +kernel, rfl, by decide +kernel, by decide +kernel⟩
def spKw (PT cT cK cS : Addr) : Sp := fun vs H Q _ => ∃ (G : Hp) (v : V) (y : Src) (x : Nat), vs = [v, .int 0, .int x] ∧ Cl PT G H ∧ MrAt cT cK cS G v y ∧ okK y ∧ x < ringK y ∧ (∃ i, i < y.tx.length ∧ (hitA y x i ∨ hitR y x i)) ∧
  ∀ l i G' H', y.tx[i]? = some l → (hitA y x i ∨ hitR y x i) → Ext PT nM G H G' H' → Q (.str (tx l)) H'
theorem ok_kw (T : Txt K mg cS cF cG cT cM cK) : MCal P w K mg base cK "write" 3 ["self", "maker", "key"] (spKw PT cT cK cS) := by
  refine T.m_cK_write.ok T.l_cK sc_kw (fun vs H Q E h => ?_) (fun f cdv A outer s H vs Q E hr h => ?_)
  · obtain ⟨G, v, y, x, rfl, _⟩ := h
    rfl
  · obtain ⟨G, v, y, x, rfl, c, hM, ok, hx, hex, q⟩ := h
    obtain ⟨p, dx, ps, pS, dA, dR, kvA, kvR, rfl, hp, hT, hS, hdA, prA, hdR, prR⟩ := id hM
    obtain ⟨ps2, dps, dd, eps, hps, hdd⟩ := id hT
    obtain rfl : ps2 = ps := (V.ref.inj eps).symm
    refine ⟨_, (pss_cons (ps_if (pt_not (pt_val (pe_c (ok_isb T) (hr.mono (by first | decide | omega)) (pa_cons (pv 1) (pa_cons (pe_fldK (K := K) (pv 0)) pa_nil))))) (pss_one ps_never) pss_nil)
  (pss_cons (ps_if (pt_not (pt_val (pe_c (ok_isb T) (hr.mono (by first | decide | omega)) (pa_cons (pv 2) (pa_cons (pe_fldK (K := K) (pv 0)) pa_nil))))) (pss_one ps_never) pss_nil)
  (pss_cons (ps_s 3 sc_kw.nd (pe_m (ok_point T) (hr.mono (by first | decide | omega)) (pv 0) (pa_cons (pv 1) (pa_cons (pv 2) pa_nil))))
  (pss_cons (ps_s 4 sc_kw.nd (pe_m0 (ok_ttx (PT := PT) T) (hr.mono (by first | decide | omega)) (pe_fldK (K := K) (pv 0))))
  (pss_cons (ps_for PassesOwn.never rfl (pi_tupK (K := K) (pv 4)) (pg_n 5 sc_kw.nd)
  (pss_cons (ps_asg (pe_dget (hu_of hr) (pe_fldK (K := K) (pv 0)) (pv 5) (fun _ _ => rfl)) (pg_tupK (K := K) (n := 2) (pgs_cons (pg_n 6 sc_kw.nd) (pgs_cons (pg_n 7 sc_kw.nd) pgs_nil))))
  (pss_cons (ps_asg (pe_dget (hu_of hr) (pe_fldK (K := K) (pv 0)) (pv 5) (fun _ _ => rfl)) (pg_tupK (K := K) (n := 2) (pgs_cons (pg_n 8 sc_kw.nd) (pgs_cons (pg_n 9 sc_kw.nd) pgs_nil))))
  (pss_one (ps_if (PW.pt (pw_or (pt_chain op_le op_lt (pv 6) (pv 3) (pv 7)) (pw_or1 (pt_chain op_le op_lt (pv 8) (pv 3) (pv 9))))) (pss_one (ps_ret (pv 5))) pss_nil)))))
  (pss_one (ps_ret (pe_ix (ix_tupK (K := K)) (pv 4) (pe_un un_neg pe_int) (fun _ _ => rfl))))))))), ?_⟩
    have hpH := c.s _ _ hp
    refine ⟨_, rfl, _, rfl, p, cK, dx, _, _, rfl, hpH, T.l_cK, T.n_cK_many, rfl, 0, 1, rfl, _, rfl, ?_⟩
    rw [show decide ((0 : Int) ≤ 0 ∧ (0 : Int) < 1) = true from rfl]
    refine ⟨_, rfl, _, rfl, p, cK, dx, _, _, rfl, hpH, T.l_cK, T.n_cK_ring, rfl, (x : Int), (ringK y : Int), rfl, _, rfl, ?_⟩
    rw [decide_eq_true (show (0 : Int) ≤ (x : Int) ∧ (x : Int) < (ringK y : Int) by omega)]
    refine ⟨_, rfl, p, dx, _, rfl, hpH, rfl, _, rfl, _, rfl, .ref p, y, x, rfl, MrAt.to c.s hM, hx, ?_⟩
    refine ⟨_, rfl, p, cK, dx, _, _, rfl, hpH, T.l_cK, T.n_cK_source, rfl, ps2, dps, _, rfl, c.s _ _ hps, rfl, G, _, y.ps, y.k, y.L, rfl, c, hT, ok.f, fun r1 G1 H1 e1 t1 => ?_⟩
    obtain ⟨pt, rfl, hpt⟩ := t1
    have ltt : ((textsM y.k y.L).map fun l => V.str (tx l)).length = y.tx.length := List.length_map ..
    refine ⟨_, rfl, pt, rfl, ⟨_, seqT e1.c.s hpt⟩, ?_⟩
    refine wk_tup.loop (fun i σ H' => ∃ y5 y6 y7 y8 y9, σ = [some (.ref p), some (.int 0), some (.int x), some (.int x), some (.ref pt), y5, y6, y7, y8, y9] ∧ H' = H1 ∧ ∀ j < i, ¬ (hitA y x j ∨ hitR y x j))
      ⟨none, none, none, none, none, rfl, rfl, fun j hj => by omega⟩ (fun i σ H' _ ⟨_, _, _, _, _, _, e, _⟩ => by rw [e]; exact seqT e1.c.s hpt) ?_ ?_
    · rintro i v σ H2 H2' hi ⟨y5, y6, y7, y8, y9, rfl, rfl, hno⟩ ⟨rfl, hv⟩
      rw [List.getElem?_map] at hv
      obtain ⟨l, hl, rfl⟩ := Option.map_eq_some_iff.mp hv
      have hl : y.tx[i]? = some l := hl
      obtain ⟨tA, hvA, htA⟩ := arc_at ok prA hl
      obtain ⟨tR, hvR, htR⟩ := rest_at ok prR hl
      have up : Same G H2' := e1.g.trans e1.c.s
      have dgA : DGet H2' dA (.str (tx l)) (some (.ref tA)) := by
        rw [← hvA]
        exact DGet.k (k := kT l) (up _ _ hdA)
      have dgR : DGet H2' dR (.str (tx l)) (some (.ref tR)) := by
        rw [← hvR]
        exact DGet.k (k := kT l) (up _ _ hdR)
      refine ⟨_, rfl, p, cK, dx, _, _, rfl, up _ _ hp, T.l_cK, T.n_cK_arc, rfl, _, rfl, dA, _, rfl, dgA, tA, _, rfl, sq_ofT (up _ _ htA), rfl, _, _, rfl, _, _, rfl, rfl, ?_⟩
      refine ⟨_, rfl, p, cK, dx, _, _, rfl, up _ _ hp, T.l_cK, T.n_cK_rest, rfl, _, rfl, dR, _, rfl, dgR, tR, _, rfl, sq_ofT (up _ _ htR), rfl, _, _, rfl, _, _, rfl, rfl, ?_⟩
      have hgo : ¬ (hitA y x i ∨ hitR y x i) → ∀ j < i + 1, ¬ (hitA y x j ∨ hitR y x j) := fun h j hj => by
        by_cases z : j = i
        · rw [z]
          exact h
        · exact hno j (by omega)
      have fin : ∀ R : Bool → Hp → Prop, (hitR y x i → R true H2') → (¬ hitR y x i → R false H2') → tTest (tChain (rI0 fun i j => V.bl (decide (i ≤ j))) (rI0 fun i j => V.bl (decide (i < j))) (tVar 8) (tVar 3) (tVar 9))
          [some (.ref p), some (.int 0), some (.int x), some (.int x), some (.ref pt), some (.str (tx l)), some (vN (loA y i)), some (vN (loA y (i + 1))), some (vN (loR y i)), some (vN (loR y (i + 1)))] H2' R := fun R r1 r2 => by
        refine ⟨_, rfl, _, rfl, _, _, rfl, rfl, _, rfl, ite2 (fun h1 => ⟨_, rfl, _, _, rfl, rfl, _, rfl, ?_⟩) (fun h1 => ⟨_, rfl, r2 fun z => h1 (decide_eq_true ?_)⟩)⟩
        · have a1 := of_decide_eq_true h1
          by_cases h2 : (x : Int) < (loR y (i + 1) : Nat)
          · rw [decide_eq_true h2]
            exact r1 ⟨by omega, by omega⟩
          · rw [decide_eq_false h2]
            refine r2 fun z => h2 ?_
            have := z.2
            omega
        · have := z.1
          omega
      have fin2 : ¬ hitA y x i → ∀ D : Ends, (D.rt = Q) → (∀ H', H' = H2' → (∀ j < i + 1, ¬ (hitA y x j ∨ hitR y x j)) → D.nx [some (.ref p), some (.int 0), some (.int x), some (.int x), some (.ref pt), some (.str (tx l)), some (vN (loA y i)), some (vN (loA y (i + 1))), some (vN (loR y i)), some (vN (loR y (i + 1)))] H') →
          tTest (tChain (rI0 fun i j => V.bl (decide (i ≤ j))) (rI0 fun i j => V.bl (decide (i < j))) (tVar 8) (tVar 3) (tVar 9))
          [some (.ref p), some (.int 0), some (.int x), some (.int x), some (.ref pt), some (.str (tx l)), some (vN (loA y i)), some (vN (loA y (i + 1))), some (vN (loR y i)), some (vN (loR y (i + 1)))] H2' fun b H1 => if b = true then tRet (tVar 5) D [some (.ref p), some (.int 0), some (.int x), some (.int x), some (.ref pt), some (.str (tx l)), some (vN (loA y i)), some (vN (loA y (i + 1))), some (vN (loR y i)), some (vN (loR y (i + 1)))] H1 else tNext D [some (.ref p), some (.int 0), some (.int x), some (.int x), some (.ref pt), some (.str (tx l)), some (vN (loA y i)), some (vN (loA y (i + 1))), some (vN (loR y i)), some (vN (loR y (i + 1)))] H1 := fun hnA D hD hN => by
        refine fin _ (fun hr => iteT ⟨_, rfl, ?_⟩) (fun hnR => iteF (hN _ rfl (hgo fun z => z.elim hnA hnR)))
        rw [hD]
        exact q l i _ _ hl (.inr hr) e1
      refine ⟨_, rfl, _, rfl, _, _, rfl, rfl, _, rfl, ite2 (fun h1 => ⟨_, rfl, _, _, rfl, rfl, _, rfl, ite2 (fun h2 => ?_) (fun h2 => ?_)⟩) (fun h1 => ⟨_, rfl, ?_⟩)⟩
      · have a1 := of_decide_eq_true h1
        have a2 := of_decide_eq_true h2
        exact ⟨_, rfl, q l i _ _ hl (.inl ⟨by omega, by omega⟩) e1⟩
      · refine fin2 (fun z => h2 (decide_eq_true ?_)) _ rfl (fun H' e hh => ⟨_, _, _, _, _, rfl, e, hh⟩)
        have := z.2
        omega
      · refine iteF (fin2 (fun z => h1 (decide_eq_true ?_)) _ rfl (fun H' e hh => ⟨_, _, _, _, _, rfl, e, hh⟩))
        have := z.1
        omega
    · rintro σ H2 ⟨y5, y6, y7, y8, y9, rfl, rfl, hno⟩
      obtain ⟨i, hi, hh⟩ := hex
      exact absurd hh (hno i (by rw [ltt]; exact hi))
theorem sc_kwho : FnScope ["self", "key", "text", "first", "behind", "maker"] ["self", "key", "text"] (defScope (inC 36 5)) := ⟨rfl, rfl, rfl, by decide +kernel, rfl, by decide +kernel, by decide +kernel⟩
def spKwho (cT cK cS : Addr) : Sp := fun vs H Q _ => ∃ (v : V) (y : Src) (x i : Nat) (l : List Nat), vs = [v, .int x, .str (tx l)] ∧ MrAt cT cK cS H v y ∧ okK y ∧ x < ringK y ∧ y.tx[i]? = some l ∧ Q (if hitA y x i then .int 0 else .non) H
theorem ok_kwho (T : Txt K mg cS cF cG cT cM cK) : MCal P w K mg base cK "who" 3 ["self", "key", "text"] (spKwho cT cK cS) := by
  refine T.m_cK_who.ok T.l_cK sc_kwho (fun vs H Q E h => ?_) (fun f cdv A outer s H vs Q E hr h => ?_)
  · obtain ⟨v, y, x, i, l, rfl, _⟩ := h
    rfl
  · obtain ⟨v, y, x, i, l, rfl, hM, ok, hx, hl, q⟩ := h
    obtain ⟨p, dx, ps, pS, dA, dR, kvA, kvR, rfl, hp, hT, hS, hdA, prA, hdR, prR⟩ := id hM
    refine ⟨_, (pss_cons (ps_if (pt_not (pt_val (pe_c (ok_isb T) (hr.mono (by first | decide | omega)) (pa_cons (pv 1) (pa_cons (pe_fldK (K := K) (pv 0)) pa_nil))))) (pss_one ps_never) pss_nil)
  (pss_cons (ps_if (pt_cmp (pc_din (hu_of hr) (pv 2) (pe_fldK (K := K) (pv 0)))) (pss_cons (ps_asg (pe_dget (hu_of hr) (pe_fldK (K := K) (pv 0)) (pv 2) (fun _ _ => rfl)) (pg_tupK (K := K) (n := 2) (pgs_cons (pg_n 3 sc_kwho.nd) (pgs_cons (pg_n 4 sc_kwho.nd) pgs_nil))))
  (pss_one (ps_for PassesOwn.never rfl (pi_range1 rfl T.z_range (pa_cons (pe_fldK (K := K) (pv 0)) pa_nil)) (pg_n 5 sc_kwho.nd)
  (pss_one (ps_if (pt_chain op_le op_lt (pv 3) (pe_m (ok_point T) (hr.mono (by first | decide | omega)) (pv 0) (pa_cons (pv 5) (pa_cons (pv 1) pa_nil))) (pv 4)) (pss_one (ps_ret (pv 5))) pss_nil))))) pss_nil)
  (pss_one (ps_ret pe_non)))), ?_⟩
    obtain ⟨tA, hvA, htA⟩ := arc_at ok prA hl
    have dgA : DGet H dA (.str (tx l)) (some (.ref tA)) := by
      rw [← hvA]
      exact DGet.k (k := kT l) hdA
    refine ⟨_, rfl, _, rfl, p, cK, dx, _, _, rfl, hp, T.l_cK, T.n_cK_ring, rfl, (x : Int), (ringK y : Int), rfl, _, rfl, ?_⟩
    rw [decide_eq_true (show (0 : Int) ≤ (x : Int) ∧ (x : Int) < (ringK y : Int) by omega)]
    refine ⟨_, rfl, _, rfl, p, cK, dx, _, _, rfl, hp, T.l_cK, T.n_cK_arc, rfl, dA, _, rfl, dgA, _, rfl, ?_⟩
    refine ⟨_, rfl, p, cK, dx, _, _, rfl, hp, T.l_cK, T.n_cK_arc, rfl, _, rfl, dA, _, rfl, dgA, tA, _, rfl, sq_ofT htA, rfl, _, _, rfl, _, _, rfl, rfl, ?_⟩
    refine ⟨_, rfl, p, cK, dx, _, _, rfl, hp, T.l_cK, T.n_cK_many, rfl, _, rfl, by decide, by decide, ?_⟩
    have hpoint : ∀ σ2 : L2.St, True := fun _ => True.intro
    refine wk_range.loop (n := Int.toNat 1) (fun j σ H' => ∃ y5, σ = [some (.ref p), some (.int x), some (.str (tx l)), some (vN (loA y i)), some (vN (loA y (i + 1))), y5] ∧ H' = H ∧ (j = 1 → ¬ hitA y x i))
      ⟨none, rfl, rfl, fun h => by cases h⟩ (fun _ _ _ _ _ => True.intro) ?_ ?_
    · rintro j v σ H2 H2' hj ⟨y5, rfl, rfl, _⟩ ⟨rfl, rfl⟩
      obtain rfl : j = 0 := by
        have : Int.toNat 1 = 1 := rfl
        omega
      refine ⟨_, rfl, _, rfl, p, dx, _, rfl, hp, rfl, _, rfl, _, rfl, .ref p, y, x, rfl, hM, hx, _, _, rfl, rfl, _, rfl, ite2 (fun h1 => ⟨_, rfl, _, _, rfl, rfl, _, rfl, ite2 (fun h2 => ?_) (fun h2 => ?_)⟩) (fun h1 => ⟨_, rfl, ?_⟩)⟩
      · have a1 := of_decide_eq_true h1
        have a2 := of_decide_eq_true h2
        rw [if_pos (show hitA y x i from ⟨by omega, by omega⟩)] at q
        exact ⟨_, rfl, q⟩
      · refine ⟨_, rfl, rfl, fun _ z => h2 (decide_eq_true ?_)⟩
        have := z.2
        omega
      · refine ⟨_, rfl, rfl, fun _ z => h1 (decide_eq_true ?_)⟩
        have := z.1
        omega
    · rintro σ H2 ⟨y5, rfl, rfl, hno⟩
      rw [if_neg (hno rfl)] at q
      exact q
end
end K43
-- part W25
/-! W25: streams. -/
namespace K43
open PySem PySem.Spec PyProof.Rows L2
section
variable {P : Program} {w : World} {K : PySem.W.Frag} {mg : Str → Option Value} {base : Heap} {cS cF cG cT cM cK : Addr} {PT cc : Addr}
def StL (x y z : Nat) : HO := .lst [vN x, vN y, vN z]
theorem sc_lst : FnScope ["_law_script", "_law_at", "_law_cell"] ["_law_script", "_law_at"] (defScope (topS 38)) := ⟨rfl, rfl, rfl, by decide +kernel, rfl, by decide +kernel, by decide +kernel⟩
def spLst (K : PySem.W.Frag) : Sp := fun vs H Q _ => ∃ (a : Addr) (ns : List Int) (i : Nat), vs = [.ref a, .int i] ∧ SqL K H a (ns.map V.int) ∧ ns.length < 2 ^ 40 ∧ i ≤ 10 ∧ ∀ x y z p, H p = none → Q (.ref p) (upd H p (StL x y z))
theorem ok_lst (T : Txt K mg cS cF cG cT cM cK) : Cal P w K mg base "_law_stream" 1 ["_law_script", "_law_at"] (spLst K) := by
  refine T.d_law_stream.ok sc_lst (fun vs H Q E h => ?_) (fun f cdv A outer s H vs Q E hr h => ?_)
  · obtain ⟨a, ns, i, rfl, _⟩ := h
    rfl
  · obtain ⟨a, ns, i, rfl, ha, hl, hi, q⟩ := h
    refine ⟨_, (pss_cons (ps_s 2 sc_lst.nd (pe_op op_add (pe_op op_mul pe_int (pv 1)) pe_int))
  (pss_cons (ps_if (pt_cmpR op_gt (pe_callB (call_len_seqK (K := K)) (by rfl) T.z_len (by decide +kernel) (pa_cons (pv 0) pa_nil)) pe_int (nomark _)) (pss_one (ps_s 2 sc_lst.nd (pe_op op_add (pe_callTy call_int1 (by rfl) T.z_int (by decide +kernel) (pa_cons (pe_ix (ix_listK (K := K)) (pv 0) (pe_op op_mod (pv 1) (pe_callB (call_len_seqK (K := K)) (by rfl) T.z_len (by decide +kernel) (pa_cons (pv 0) pa_nil))) (fun _ _ => rfl)) pa_nil)) (pe_op op_mul (pe_op op_fdivW (pv 1) (pe_callB (call_len_seqK (K := K)) (by rfl) T.z_len (by decide +kernel) (pa_cons (pv 0) pa_nil))) pe_int)))) pss_nil)
  (pss_cons (ps_if (pt_cmpR op_lt (pv 2) pe_int (nomark _)) (pss_one (ps_s 2 sc_lst.nd (pe_op op_sub pe_int (pv 2)))) pss_nil)
  (pss_cons (ps_if (pt_cmpR op_ge (pv 2) (pe_op op_pow pe_int pe_int) (nomark _)) (pss_one (ps_ret (pe_lst (pa_cons (pv 2) (pa_cons (pe_op op_mod (pe_callTy call_int1 (by rfl) T.z_int (by decide +kernel) (pa_cons (pv 2) pa_nil)) pe_int) (pa_cons pe_int pa_nil)))))) pss_nil)
  (pss_one (ps_ret (pe_lst (pa_cons pe_int (pa_cons (pe_op op_mod (pe_callTy call_int1 (by rfl) T.z_int (by decide +kernel) (pa_cons (pv 2) pa_nil)) pe_int) (pa_cons pe_int pa_nil)))))))))), ?_⟩
    have tail : ∀ c : Int, 0 ≤ c → ∀ p, H p = none → Q (.ref p) (upd H p (.lst [.int c, .int (c % 2147483647), .int 0])) ∧ Q (.ref p) (upd H p (.lst [.int 0, .int (c % 2147483647), .int 0])) := fun c hc p hp => by
      obtain ⟨n, rfl⟩ := Int.eq_ofNat_of_zero_le hc
      exact ⟨q n (n % 2147483647) 0 p hp, q 0 (n % 2147483647) 0 p hp⟩
    have hls : (SqL K H a (ns.map V.int) ∨ SqT K H a (ns.map V.int)) := .inl ha
    refine ⟨_, rfl, _, _, rfl, rfl, .inl ⟨by decide, by decide⟩, _, _, rfl, rfl, ?_⟩
    refine ⟨_, rfl, a, _, rfl, hls, _, _, rfl, rfl, _, rfl, ite2 (fun h => ?_) (fun h => ?_)⟩
    · have hlen : 0 < ns.length := by
        have := of_decide_eq_true h
        rw [List.length_map] at this
        omega
      have hm : i % ns.length < ns.length := Nat.mod_lt _ hlen
      have hat : atI (ns.map V.int) ((i : Int) % ((ns.map V.int).length : Nat)) = some (.int (ns[i % ns.length])) := by
        rw [List.length_map, ← Int.natCast_emod]
        refine atI_nat ?_
        rw [List.getElem?_map, List.getElem?_eq_getElem hm]
        rfl
      refine ⟨_, rfl, _, rfl, _, rfl, a, _, rfl, hls, _, _, rfl, rfl, by rw [List.length_map]; omega, a, _, _, _, rfl, rfl, ha, hat, .inl ⟨_, rfl, ?_⟩⟩
      refine ⟨_, rfl, _, rfl, a, _, rfl, hls, _, _, rfl, rfl, divI (by rw [List.length_map]; omega) (by rw [List.length_map]; omega), _, _, rfl, rfl, .inr ⟨by decide, by decide⟩, _, _, rfl, rfl, ?_⟩
      refine ⟨_, rfl, _, _, rfl, rfl, _, rfl, ite2 (fun hneg => ?_) (fun hneg => ?_)⟩
      · have hlt := of_decide_eq_true hneg
        have hge : (0 : Int) ≤ 1 - (ns[i % ns.length] + (i : Int) / ((ns.map V.int).length : Nat) * 104729) := by omega
        refine ⟨_, rfl, _, _, rfl, rfl, ?_⟩
        refine ⟨_, rfl, _, _, rfl, rfl, ⟨by decide, by decide, by decide⟩, _, _, rfl, rfl, _, rfl, ite2 (fun hb => ?_) (fun hb => ?_)⟩
        · exact ⟨_, rfl, _, rfl, .inl ⟨_, rfl, _, _, rfl, rfl, (by show (0 : Int) < _; decide), leS (by show 3 ≤ 100000; decide), fun p hp => (tail _ hge p hp).1⟩⟩
        · exact ⟨_, rfl, .inl ⟨_, rfl, _, _, rfl, rfl, (by show (0 : Int) < _; decide), leS (by show 3 ≤ 100000; decide), fun p hp => (tail _ hge p hp).2⟩⟩
      · have hge : (0 : Int) ≤ ns[i % ns.length] + (i : Int) / ((ns.map V.int).length : Nat) * 104729 := by
          by_cases z : (ns[i % ns.length] + (i : Int) / ((ns.map V.int).length : Nat) * 104729 : Int) < 0
          · exact absurd (decide_eq_true z) hneg
          · omega
        refine ⟨_, rfl, _, _, rfl, rfl, ⟨by decide, by decide, by decide⟩, _, _, rfl, rfl, _, rfl, ite2 (fun hb => ?_) (fun hb => ?_)⟩
        · exact ⟨_, rfl, _, rfl, .inl ⟨_, rfl, _, _, rfl, rfl, (by show (0 : Int) < _; decide), leS (by show 3 ≤ 100000; decide), fun p hp => (tail _ hge p hp).1⟩⟩
        · exact ⟨_, rfl, .inl ⟨_, rfl, _, _, rfl, rfl, (by show (0 : Int) < _; decide), leS (by show 3 ≤ 100000; decide), fun p hp => (tail _ hge p hp).2⟩⟩
    · skip
      refine ⟨_, rfl, _, _, rfl, rfl, _, rfl, ite2 (fun hneg => ?_) (fun hneg => ?_)⟩
      · have hlt := of_decide_eq_true hneg
        have hge : (0 : Int) ≤ 1 - (3 * (i : Int) + 1) := by omega
        refine ⟨_, rfl, _, _, rfl, rfl, ?_⟩
        refine ⟨_, rfl, _, _, rfl, rfl, ⟨by decide, by decide, by decide⟩, _, _, rfl, rfl, _, rfl, ite2 (fun hb => ?_) (fun hb => ?_)⟩
        · exact ⟨_, rfl, _, rfl, .inl ⟨_, rfl, _, _, rfl, rfl, (by show (0 : Int) < _; decide), leS (by show 3 ≤ 100000; decide), fun p hp => (tail _ hge p hp).1⟩⟩
        · exact ⟨_, rfl, .inl ⟨_, rfl, _, _, rfl, rfl, (by show (0 : Int) < _; decide), leS (by show 3 ≤ 100000; decide), fun p hp => (tail _ hge p hp).2⟩⟩
      · have hge : (0 : Int) ≤ 3 * (i : Int) + 1 := by
          by_cases z : (3 * (i : Int) + 1 : Int) < 0
          · exact absurd (decide_eq_true z) hneg
          · omega
        refine ⟨_, rfl, _, _, rfl, rfl, ⟨by decide, by decide, by decide⟩, _, _, rfl, rfl, _, rfl, ite2 (fun hb => ?_) (fun hb => ?_)⟩
        · exact ⟨_, rfl, _, rfl, .inl ⟨_, rfl, _, _, rfl, rfl, (by show (0 : Int) < _; decide), leS (by show 3 ≤ 100000; decide), fun p hp => (tail _ hge p hp).1⟩⟩
        · exact ⟨_, rfl, .inl ⟨_, rfl, _, _, rfl, rfl, (by show (0 : Int) < _; decide), leS (by show 3 ≤ 100000; decide), fun p hp => (tail _ hge p hp).2⟩⟩
theorem sc_draw : FnScope ["_law_stream_here", "_law_many", "_law_digit", "_law_second"] ["_law_stream_here", "_law_many"] (defScope (topS 39)) := ⟨rfl, rfl, rfl, by decide +kernel, rfl, by decide +kernel, by decide +kernel⟩
def spDraw (K : PySem.W.Frag) : Sp := fun vs H Q _ => ∃ (a : Addr) (m x y z : Nat), vs = [.ref a, .int m] ∧ H a = some (StL x y z) ∧ 0 < m ∧ m < 2 ^ 60 ∧ ∀ d x y z, d < m → Q (vN d) (upd H a (StL x y z))
theorem ok_draw (T : Txt K mg cS cF cG cT cM cK) : Cal P w K mg base "_law_draw" 1 ["_law_stream_here", "_law_many"] (spDraw K) := by
  refine T.d_law_draw.ok sc_draw (fun vs H Q E h => ?_) (fun f cdv A outer s H vs Q E hr h => ?_)
  · obtain ⟨a, m, x, y, z, rfl, _⟩ := h
    rfl
  · obtain ⟨a, m, x, y, z, rfl, ha, hm, hm2, q⟩ := h
    refine ⟨_, (pss_cons (ps_if (pt_cmpR op_gt (pe_ix (ix_listK (K := K)) (pv 0) pe_int (fun _ _ => rfl)) pe_int (nomark _)) (pss_cons (ps_s 2 sc_draw.nd (pe_op op_mod (pe_callTy call_int1 (by rfl) T.z_int (by decide +kernel) (pa_cons (pe_ix (ix_listK (K := K)) (pv 0) pe_int (fun _ _ => rfl)) pa_nil)) (pv 1)))
  (pss_cons (ps_asg (pe_op op_fdivW (pe_ix (ix_listK (K := K)) (pv 0) pe_int (fun _ _ => rfl)) (pv 1)) (pg_sub (pv 0) pe_int set_list))
  (pss_one (ps_ret (pv 2))))) pss_nil)
  (pss_cons (ps_asg (pe_op op_add (pe_ix (ix_listK (K := K)) (pv 0) pe_int (fun _ _ => rfl)) pe_int) (pg_sub (pv 0) pe_int set_list))
  (pss_cons (ps_asg (pe_op op_mod (pe_callTy call_int1 (by rfl) T.z_int (by decide +kernel) (pa_cons (pe_op op_add (pe_op op_add (pe_op op_mul (pe_ix (ix_listK (K := K)) (pv 0) pe_int (fun _ _ => rfl)) pe_int) (pe_op op_mul (pe_ix (ix_listK (K := K)) (pv 0) pe_int (fun _ _ => rfl)) pe_int)) pe_int) pa_nil)) pe_int) (pg_sub (pv 0) pe_int set_list))
  (pss_cons (ps_s 3 sc_draw.nd (pe_op op_mod (pe_callTy call_int1 (by rfl) T.z_int (by decide +kernel) (pa_cons (pe_op op_add (pe_op op_mul (pe_ix (ix_listK (K := K)) (pv 0) pe_int (fun _ _ => rfl)) pe_int) (pe_ix (ix_listK (K := K)) (pv 0) pe_int (fun _ _ => rfl))) pa_nil)) pe_int))
  (pss_one (ps_ret (pe_op op_mod (pe_callTy call_int1 (by rfl) T.z_int (by decide +kernel) (pa_cons (pv 3) pa_nil)) (pv 1)))))))), ?_⟩
    have h0 : atI [vN x, vN y, vN z] (0 : Int) = some (vN x) := atI_nat (j := 0) rfl
    have hsL : ∀ {x y z : Nat}, SqL K (upd H a (StL x y z)) a [vN x, vN y, vN z] := sq_ofL upd_same
    refine ⟨_, rfl, a, _, 0, _, rfl, rfl, sq_ofL ha, h0, _, _, rfl, rfl, _, rfl, ite2 (fun h => ?_) (fun h => ?_)⟩
    · refine ⟨_, rfl, a, _, 0, _, rfl, rfl, sq_ofL ha, h0, .inl ⟨_, rfl, _, rfl, _, _, rfl, rfl, by omega, ?_⟩⟩
      refine ⟨_, rfl, a, _, 0, _, rfl, rfl, sq_ofL ha, h0, _, rfl, _, _, rfl, rfl, divI (by omega) (by omega), _, rfl, a, _, 0, 0, rfl, rfl, ha, rfl, _, rfl, ?_⟩
      have := q (x % m) (x / m) y z (Nat.mod_lt _ hm)
      unfold vN StL vN at this
      rw [← natdiv] at this
      exact this
    · refine ⟨_, rfl, a, _, 2, _, rfl, rfl, sq_ofL ha, atI_nat (j := 2) rfl, _, _, rfl, rfl, _, rfl, a, _, 2, 2, rfl, rfl, ha, rfl, ?_⟩
      refine ⟨_, rfl, a, _, 1, _, rfl, rfl, sq_ofL upd_same, atI_nat (j := 1) rfl, _, _, rfl, rfl, .inr ⟨by decide, by decide⟩, _, rfl, a, _, 2, _, rfl, rfl, sq_ofL upd_same, atI_nat (j := 2) rfl, _, _, rfl, rfl, .inr ⟨by decide, by decide⟩, _, _, rfl, rfl, _, _, rfl, rfl, .inl ⟨_, rfl, _, _, rfl, rfl, (by show (0 : Int) < _; decide), _, rfl, a, _, 1, 1, rfl, rfl, upd_same, rfl, ?_⟩⟩
      rw [upd_upd]
      refine ⟨_, rfl, a, _, 1, _, rfl, rfl, sq_ofL upd_same, atI_nat (j := 1) rfl, _, _, rfl, rfl, .inr ⟨by decide, by decide⟩, _, rfl, a, _, 2, _, rfl, rfl, sq_ofL upd_same, atI_nat (j := 2) rfl, _, _, rfl, rfl, .inl ⟨_, rfl, _, _, rfl, rfl, (by show (0 : Int) < _; decide), ?_⟩⟩
      refine ⟨_, rfl, .inl ⟨_, rfl, _, rfl, _, _, rfl, rfl, by omega, ?_⟩⟩
      exact q ((((y * 48271 + (z + 1) * 69621 + 7) % 2147483647 * 40692 + (z + 1)) % 2147483399) % m) x ((y * 48271 + (z + 1) * 69621 + 7) % 2147483647) (z + 1) (Nat.mod_lt _ hm)
end
end K43
-- part W26
/-! W26: lowest terms. -/
namespace K43
open PySem PySem.Spec PyProof.Rows L2
section
variable {P : Program} {w : World} {K : PySem.W.Frag} {mg : Str → Option Value} {base : Heap} {cS cF cG cT cM cK : Addr} {PT cc : Addr}
theorem sc_llow : FnScope ["_law_over", "_law_under_here", "_law_left", "_law_right", "_law_step"] ["_law_over", "_law_under_here"] (defScope (topS 40)) := ⟨rfl, rfl, rfl, by decide +kernel, rfl, by decide +kernel, by decide +kernel⟩
def spLlow (PT : Addr) (K : PySem.W.Frag) : Sp := fun vs H Q _ => ∃ (G : Hp) (a b : Nat), vs = [.int a, .int b] ∧ Cl PT G H ∧ 0 < b ∧ b < 2 ^ 60 ∧ Ret PT G H Q fun G' r => TN K G' r [(low a b).1, (low a b).2]
theorem ok_llow (T : Txt K mg cS cF cG cT cM cK) : Cal P w K mg base "_law_lowest" 1 ["_law_over", "_law_under_here"] (spLlow PT K) := by
  refine T.d_law_lowest.ok sc_llow (fun vs H Q E h => ?_) (fun f cdv A outer s H vs Q E hr h => ?_)
  · obtain ⟨G, a, b, rfl, _⟩ := h
    rfl
  · obtain ⟨G, a, b, rfl, c, hb, hb2, q⟩ := h
    refine ⟨_, (pss_cons (ps_s 2 sc_llow.nd (pe_callB call_abs (by rfl) T.z_abs (by decide +kernel) (pa_cons (pv 0) pa_nil)))
  (pss_cons (ps_s 3 sc_llow.nd (pv 1))
  (pss_cons (ps_for PassesOwn.never rfl (pi_range1 rfl T.z_range (pa_cons (pe_op op_add (pe_op op_mul pe_int (pe_bits (pv 1))) pe_int) pa_nil)) (pg_n 4 sc_llow.nd)
  (pss_cons (ps_if (pt_cmpR op_eq (pv 3) pe_int (nomark _)) (pss_one ps_break) pss_nil)
  (pss_one (ps_par (i := 2) (j := 3) rfl sc_llow.nd rfl rfl (by decide) rfl rfl (pa_cons (pv 3) (pa_cons (pe_op op_mod (pe_callTy call_int1 (by rfl) T.z_int (by decide +kernel) (pa_cons (pv 2) pa_nil)) (pv 3)) pa_nil)) rfl))))
  (pss_one (ps_ret (pe_tup (pa_cons (pe_op op_fdivW (pv 0) (pv 2)) (pa_cons (pe_op op_fdivW (pv 1) (pv 2)) pa_nil)))))))), ?_⟩
    have hB : Builtin.Int.intBits (b : Int) = b.log2 + 1 := by
      unfold Builtin.Int.intBits
      rw [if_neg (by simp; omega), Int.natAbs_natCast]
    have hlt : b < 2 ^ (b.log2 + 1) := Nat.lt_log2_self
    have hB2 : b.log2 ≤ b := Nat.log2_le_self b
    have fin : ∀ l, l = Nat.gcd a b → ∀ p, H p = none → Q (.ref p) (upd H p (.tup [.int ((a : Int) / (l : Int)), .int ((b : Int) / (l : Int))])) := fun l hl p hp => by
      subst hl
      have := q _ _ _ (Ext.new (M := nM) (o := .tup [vN (low a b).1, vN (low a b).2]) c hp) ⟨p, rfl, upd_same⟩
      rw [natdiv, natdiv]
      exact this
    have gpos : 0 < Nat.gcd a b := Nat.gcd_pos_of_pos_right _ hb
    have gle : Nat.gcd a b ≤ b := Nat.gcd_le_right _ hb
    refine ⟨_, rfl, _, rfl, ?_⟩
    rw [show (if (a : Int) < 0 then -(a : Int) else (a : Int)) = (a : Int) from if_neg (by omega)]
    refine ⟨_, rfl, _, rfl, _, rfl, _, _, rfl, rfl, .inl ⟨by decide, by decide⟩, _, _, rfl, rfl, _, rfl, by rw [hB]; omega, by rw [hB]; omega, ?_⟩
    rw [hB]
    refine wk_range.loop (n := (2 * ((b.log2 + 1 : Nat) : Int) + 2).toNat) (fun i σ H' => ∃ l r y, σ = [some (.int a), some (.int b), some (vN l), some (vN r), y] ∧ H' = H ∧ Nat.gcd l r = Nat.gcd a b ∧ r * 2 ^ (i / 2) ≤ b ∧ (i % 2 = 1 → l * 2 ^ (i / 2) ≤ b ∧ r < l))
      ⟨a, b, none, rfl, rfl, rfl, by simp, fun h => by cases h⟩ (fun _ _ _ _ _ => True.intro) ?_ ?_
    · rintro i v σ H2 H2' hi ⟨l, r, y, rfl, rfl, hg, h1, h2⟩ ⟨rfl, rfl⟩
      refine ⟨_, rfl, rfl, _, rfl, ite2 (fun h => ?_) (fun h => ?_)⟩
      · have hr0 : r = 0 := by
          have := V.int.inj (of_decide_eq_true h)
          omega
        subst hr0
        rw [Nat.gcd_zero_right] at hg
        refine ⟨_, rfl, _, rfl, _, _, rfl, rfl, divI (by omega) (by omega), _, rfl, _, rfl, _, _, rfl, rfl, divI (by omega) (by omega), leS (by show 2 ≤ 100000; decide), fun p hp => fin l hg p hp⟩
      · have hr0 : 0 < r := by
          rcases Nat.eq_zero_or_pos r with z | z
          · rw [z] at h
            exact absurd (decide_eq_true rfl) h
          · exact z
        refine ⟨_, rfl, _, rfl, .inl ⟨_, rfl, _, rfl, _, _, rfl, rfl, by omega, _, _, rfl, r, l % r, some (.int (0 + (i : Nat))), rfl, rfl, ?_, ?_, fun hod => ?_⟩⟩
        · rw [← hg, Nat.gcd_comm l r, Nat.gcd_rec r l, Nat.gcd_comm]
        · rcases Nat.mod_two_eq_zero_or_one i with he | ho
          · rw [show (i + 1) / 2 = i / 2 by omega]
            exact Nat.le_trans (Nat.mul_le_mul_right _ (Nat.le_of_lt (Nat.mod_lt _ hr0))) h1
          · obtain ⟨h3, h4⟩ := h2 ho
            rw [show (i + 1) / 2 = i / 2 + 1 by omega, Nat.pow_succ]
            have h5 : 2 * (l % r) ≤ l := by
              have h6 := Nat.mod_lt l hr0
              have h7 : r ≤ r * (l / r) := Nat.le_mul_of_pos_right _ (Nat.div_pos (Nat.le_of_lt h4) hr0)
              have h8 := Nat.div_add_mod l r
              omega
            calc l % r * (2 ^ (i / 2) * 2) = 2 * (l % r) * 2 ^ (i / 2) := by rw [Nat.mul_comm (2 ^ (i / 2)), ← Nat.mul_assoc, Nat.mul_comm (l % r)]
              _ ≤ l * 2 ^ (i / 2) := Nat.mul_le_mul_right _ h5
              _ ≤ b := h3
        · rw [show (i + 1) / 2 = i / 2 by omega]
          exact ⟨h1, Nat.mod_lt _ hr0⟩
    · rintro σ H2 ⟨l, r, y, rfl, rfl, hg, h1, h2⟩
      have hr0 : r = 0 := by
        rw [show (2 * ((b.log2 + 1 : Nat) : Int) + 2).toNat / 2 = (b.log2 + 1) + 1 by omega] at h1
        rcases Nat.eq_zero_or_pos r with z | z
        · exact z
        · exfalso
          have h3 : 2 ^ (b.log2 + 1 + 1) ≤ r * 2 ^ (b.log2 + 1 + 1) := Nat.le_mul_of_pos_left _ z
          have h4 : 2 ^ (b.log2 + 1) ≤ 2 ^ (b.log2 + 1 + 1) := Nat.pow_le_pow_right (by decide) (by omega)
          omega
      subst hr0
      rw [Nat.gcd_zero_right] at hg
      refine ⟨_, rfl, _, rfl, _, _, rfl, rfl, divI (by omega) (by omega), _, rfl, _, rfl, _, _, rfl, rfl, divI (by omega) (by omega), leS (by show 2 ≤ 100000; decide), fun p hp => fin l hg p hp⟩
theorem sc_lish : FnScope ["_law_told", "_law_over", "_law_under_here", "_law_due"] ["_law_told", "_law_over", "_law_under_here"] (defScope (topS 42)) := ⟨rfl, rfl, rfl, by decide +kernel, rfl, by decide +kernel, by decide +kernel⟩
def spLish (PT cS : Addr) : Sp := fun vs H Q _ => ∃ (G : Hp) (v : V) (a b : Nat), vs = [v, .int a, .int b] ∧ Cl PT G H ∧ 0 < b ∧ b < 2 ^ 60 ∧ ShAt cS G v (low a b) ∧ ∀ G' H', Ext PT nM G H G' H' → Q (.bl true) H'
theorem ok_lish (T : Txt K mg cS cF cG cT cM cK) : Cal P w K mg base "_law_is_share" 2 ["_law_told", "_law_over", "_law_under_here"] (spLish PT cS) := by
  refine T.d_law_is_share.ok sc_lish (fun vs H Q E h => ?_) (fun f cdv A outer s H vs Q E hr h => ?_)
  · obtain ⟨G, v, a, b, rfl, _⟩ := h
    rfl
  · obtain ⟨G, v, a, b, rfl, c, hb, hb2, hs, q⟩ := h
    obtain ⟨p, dx, rfl, hp⟩ := id hs
    obtain ⟨i1, i2, i3, i4, i5⟩ := T.i_cS
    refine ⟨_, (pss_cons (ps_if (PW.pt (pw_or (pt_not (pt_val (pe_callB (call_isiK (K := K)) (by rfl) T.z_isinstance (by decide +kernel) (pa_cons (pv 0) (pa_cons (pe_glob (v := .ref cS) rfl T.g_cS rfl) pa_nil))))) (pw_or (pt_not (pt_val (pe_c (ok_lisint T) (hr.mono (by first | decide | omega)) (pa_cons (pe_fldK (K := K) (pv 0)) pa_nil)))) (pw_or1 (pt_not (pt_val (pe_c (ok_lisint T) (hr.mono (by first | decide | omega)) (pa_cons (pe_fldK (K := K) (pv 0)) pa_nil)))))))) (pss_one (ps_ret pe_bl)) pss_nil)
  (pss_cons (ps_s 3 sc_lish.nd (pe_c (ok_llow (PT := PT) T) (hr.mono (by first | decide | omega)) (pa_cons (pv 1) (pa_cons (pv 2) pa_nil))))
  (pss_one (ps_ret (pe_and (pe_cmpR op_eq (pe_fldK (K := K) (pv 0)) (pe_ix (ix_tupK (K := K)) (pv 3) pe_int (fun _ _ => rfl)) (nomark _)) (pe_one (pe_cmpR op_eq (pe_fldK (K := K) (pv 0)) (pe_ix (ix_tupK (K := K)) (pv 3) pe_int (fun _ _ => rfl)) (nomark _)))))))), ?_⟩
    have hpH := c.s _ _ hp
    refine ⟨_, rfl, _, _, .ref cS, .ref cS, true, rfl, .own cS, .base (.ins hpH T.l_cS i1 i2 i3 i4), i5, _, rfl, ?_⟩
    refine ⟨_, rfl, p, cS, dx, _, _, rfl, hpH, T.l_cS, T.n_cS_over, shF_over _, _, rfl, _, rfl, ?_⟩
    refine ⟨_, rfl, p, cS, dx, _, _, rfl, hpH, T.l_cS, T.n_cS_under, shF_under _, _, rfl, _, rfl, ?_⟩
    refine ⟨_, rfl, _, rfl, G, a, b, rfl, c, hb, hb2, fun r G1 H1 e1 r1 => ?_⟩
    obtain ⟨pt, rfl, hpt⟩ := r1
    have hp1 := e1.c.s _ _ (e1.g _ _ hp)
    refine ⟨_, rfl, p, cS, dx, _, _, rfl, hp1, T.l_cS, T.n_cS_over, shF_over _, _, rfl, pt, _, 0, _, rfl, rfl, sq_ofT (e1.c.s _ _ hpt), atI_nat (j := 0) rfl, rfl, _, rfl, ?_⟩
    rw [show decide (V.int ((low a b).1 : Nat) = vN (low a b).1) = true from decide_eq_true rfl]
    refine iteT ⟨_, rfl, p, cS, dx, _, _, rfl, hp1, T.l_cS, T.n_cS_under, shF_under _, _, rfl, pt, _, 1, _, rfl, rfl, sq_ofT (e1.c.s _ _ hpt), atI_nat (j := 1) rfl, rfl, qB (q _ _ e1) (decide_eq_true rfl)⟩
end
end K43
-- part W27
/-! W27: the law's counts, powers, weights. -/
namespace K43
open PySem PySem.Spec PyProof.Rows L2
section
variable {P : Program} {w : World} {K : PySem.W.Frag} {mg : Str → Option Value} {base : Heap} {cS cF cG cT cM cK : Addr} {PT cc : Addr}
theorem flatMap_congr' {α β : Type} {f g : α → List β} : ∀ {l : List α}, (∀ x ∈ l, f x = g x) → l.flatMap f = l.flatMap g
  | [], _ => rfl
  | a :: r, h => by
    rw [List.flatMap_cons, List.flatMap_cons, h a (List.mem_cons_self ..), flatMap_congr' fun x hx => h x (List.mem_cons_of_mem _ hx)]
theorem sc_lcts : FnScope ["_law_kinds", "_law_length", "_law_counts_here", "_law_ways", "_law_other", "_law_split", "_law_third"] ["_law_kinds", "_law_length"] (defScope (topS 44)) := ⟨rfl, rfl, rfl, by decide +kernel, rfl, by decide +kernel, by decide +kernel⟩
def lcRow (L o j : Nat) : List Nat := [chV L o * chV o j, L - o, o - j, j]
def lcN (k L : Nat) : List (List Nat) := (List.range (L + 1)).flatMap fun o => (List.range (1 + o * (k - 2))).map fun j => lcRow L o j
def spLcts (PT : Addr) (K : PySem.W.Frag) : Sp := fun vs H Q _ => ∃ (G : Hp) (k L : Nat), vs = [.int k, .int L] ∧ Cl PT G H ∧ 2 ≤ k ∧ k ≤ 3 ∧ L ≤ 4 ∧ Ret PT G H Q fun G' r => LR K (TN K) G' r (lcN k L)
theorem ok_lcts (T : Txt K mg cS cF cG cT cM cK) : Cal P w K mg base "_law_counts" 1 ["_law_kinds", "_law_length"] (spLcts PT K) := by
  refine T.d_law_counts.ok sc_lcts (fun vs H Q E h => ?_) (fun f cdv A outer s H vs Q E hr h => ?_)
  · obtain ⟨G, k, L, rfl, _⟩ := h
    rfl
  · obtain ⟨G, k, L, rfl, c, hk1, hk2, hL, q⟩ := h
    refine ⟨_, (pss_cons (ps_s 2 sc_lcts.nd (pe_lst pa_nil))
  (pss_cons (ps_s 3 sc_lcts.nd pe_int)
  (pss_cons (ps_for PassesOwn.never rfl (pi_range1 rfl T.z_range (pa_cons (pe_op op_add (pv 1) pe_int) pa_nil)) (pg_n 4 sc_lcts.nd)
  (pss_cons (ps_s 5 sc_lcts.nd pe_int)
  (pss_cons (ps_for PassesOwn.never rfl (pi_range1 rfl T.z_range (pa_cons (pe_op op_add pe_int (pe_op op_mul (pv 4) (pe_op op_sub (pv 0) pe_int))) pa_nil)) (pg_n 6 sc_lcts.nd)
  (pss_cons (ps_expr (pe_bm PySem.F.plainAttrs_list PySem.F.slot_list_append PySem.F.type_list_append mt_append (pv 2) (pa_cons (pe_tup (pa_cons (pe_op op_mul (pv 3) (pv 5)) (pa_cons (pe_op op_sub (pv 1) (pv 4)) (pa_cons (pe_op op_sub (pv 4) (pv 6)) (pa_cons (pv 6) pa_nil))))) pa_nil)))
  (pss_one (ps_s 5 sc_lcts.nd (pe_op op_fdivW (pe_op op_mul (pv 5) (pe_op op_sub (pv 4) (pv 6))) (pe_op op_add (pv 6) pe_int))))))
  (pss_one (ps_s 3 sc_lcts.nd (pe_op op_fdivW (pe_op op_mul (pv 3) (pe_op op_sub (pv 1) (pv 4))) (pe_op op_add (pv 4) pe_int)))))))
  (pss_one (ps_ret (pv 2)))))), ?_⟩
    refine ⟨Nat.zero_le _, fun D hD => ?_⟩
    have nD : D ≠ PT := c.ne hD
    have e0 : Ext PT nM G H G (upd H D (.lst [])) := Ext.loc c hD
    have hcnt : ∀ o : Nat, (1 + (0 + (o : Int)) * ((k : Int) - 2)).toNat = 1 + o * (k - 2) := fun o => by
      rcases (by omega : k = 2 ∨ k = 3) with e | e
      · subst e
        simp
      · subst e
        simp
        omega
    refine ⟨_, rfl, _, _, rfl, rfl, _, rfl, by omega, by omega, ?_⟩
    refine wk_range.loop (n := ((L : Int) + 1).toNat) (fun o σ H' => ∃ y4 y5 y6 us G', σ = [some (.int k), some (.int L), some (.ref D), some (vN (chV L o)), y4, y5, y6] ∧ Ext PT nM G H G' H' ∧ G' D = none ∧ H' D = some (.lst us) ∧ Paired (TN K G') us ((List.range o).flatMap fun o => (List.range (1 + o * (k - 2))).map fun j => lcRow L o j))
      ⟨none, none, none, [], G, rfl, e0, c.free hD, upd_same, .nil⟩ (fun _ _ _ _ _ => True.intro) ?_ ?_
    · rintro o v σ H1 H1' ho ⟨y4, y5, y6, us, G1, rfl, e1, g1, d1, p1⟩ ⟨rfl, rfl⟩
      have hoL : o ≤ L := by omega
      have hB : ∀ x ≤ 4, 1 + x * (k - 2) ≤ 5 := fun x hx => by
        rcases (by omega : k = 2 ∨ k = 3) with e | e
        · subst e
          omega
        · subst e
          omega
      have hbo := hB o (by omega)
      have hfl := len_flat (g := fun o => (List.range (min (1 + o * (k - 2)) 5)).map fun j => lcRow L o j) (B := 5) (fun o => by rw [List.length_map, List.length_range]; omega) o
      have hfl2 : ((List.range o).flatMap fun o => (List.range (1 + o * (k - 2))).map fun j => lcRow L o j).length ≤ 25 := by
        have e : ((List.range o).flatMap fun o => (List.range (1 + o * (k - 2))).map fun j => lcRow L o j) = ((List.range o).flatMap fun o => (List.range (min (1 + o * (k - 2)) 5)).map fun j => lcRow L o j) := by
          refine flatMap_congr' fun x hx => ?_
          have := hB x (by have := List.mem_range.mp hx; omega)
          rw [Nat.min_eq_left this]
        rw [e]
        omega
      have l1 := plen p1
      have hk0 := hcnt o
      refine ⟨_, rfl, _, rfl, _, _, rfl, rfl, _, _, rfl, rfl, .inl ⟨by omega, by omega⟩, _, _, rfl, rfl, _, rfl, ?_, ?_, ?_⟩
      · rcases (by omega : k = 2 ∨ k = 3) with e | e
        · subst e
          simp
        · subst e
          simp
          omega
      · rcases (by omega : k = 2 ∨ k = 3) with e | e
        · subst e
          simp
        · subst e
          simp
          omega
      refine wk_range.loop (n := (1 + (0 + (o : Int)) * ((k : Int) - 2)).toNat) (fun j σ H' => ∃ y6 us G', σ = [some (.int k), some (.int L), some (.ref D), some (vN (chV L o)), some (.int (0 + (o : Nat))), some (vN (chV o j)), y6] ∧ Ext PT nM G H G' H' ∧ G' D = none ∧ H' D = some (.lst us) ∧
          Paired (TN K G') us (((List.range o).flatMap fun o => (List.range (1 + o * (k - 2))).map fun j => lcRow L o j) ++ (List.range j).map fun j => lcRow L o j))
        ⟨y6, us, G1, rfl, e1, g1, d1, by rw [List.range_zero, List.map_nil, List.append_nil]; exact p1⟩ (fun _ _ _ _ _ => True.intro) ?_ ?_
      · rintro j v σ H2 H2' hj ⟨y6, us, G2, rfl, e2, g2, d2, p2⟩ ⟨rfl, rfl⟩
        rw [hk0] at hj
        have hjo : j ≤ o := by
          rcases (by omega : k = 2 ∨ k = 3) with e | e
          · subst e
            omega
          · subst e
            omega
        have c1 := chV_le L (by omega) o (by omega)
        have c2 := chV_le o (by omega) j (by omega)
        have l2 := plen p2
        refine ⟨_, rfl, .inl ⟨rfl, _, sq_ofL d2⟩, ?_⟩
        refine ⟨_, rfl, _, rfl, _, _, rfl, rfl, .inl ⟨by omega, by omega⟩, _, rfl, _, rfl, _, _, rfl, rfl, _, rfl, _, rfl, _, _, rfl, rfl, _, rfl, leS (by show 4 ≤ 100000; decide), fun t ht => ?_⟩
        have nt : D ≠ t := ne_of_none d2 ht
        have hrow : [V.int (((chV L o : Nat) : Int) * ((chV o j : Nat) : Int)), V.int ((L : Int) - (0 + (o : Int))), V.int ((0 + (o : Int)) - (0 + (j : Int))), V.int (0 + (j : Int))] = (lcRow L o j).map vN := by
          rw [natmul, show (L : Int) - (0 + (o : Int)) = ((L - o : Nat) : Int) by omega, show (0 + (o : Int)) - (0 + (j : Int)) = ((o - j : Nat) : Int) by omega, Int.zero_add]
          rfl
        have e3 := e2.trans (Ext.new (M := nM) (o := .tup [V.int (((chV L o : Nat) : Int) * ((chV o j : Nat) : Int)), V.int ((L : Int) - (0 + (o : Int))), V.int ((0 + (o : Int)) - (0 + (j : Int))), V.int (0 + (j : Int))]) e2.c ht)
        refine ⟨D, _, _, rfl, rfl, by rw [upd_ne nt]; exact d2, ?_, ?_⟩
        · rw [l2, List.length_append, List.length_map, List.length_range]
          exact ltS (by omega)
        refine ⟨_, rfl, _, rfl, _, rfl, _, _, rfl, rfl, _, _, rfl, rfl, .inl ⟨by omega, by omega⟩, _, rfl, _, _, rfl, rfl, _, _, rfl, rfl, divI (by omega) (by omega), some (.int (0 + (j : Nat))), us ++ [.ref t], _, ?_, e3.mut (.inl hD) (by rw [upd_ne nt]; exact g2) nD, by rw [upd_ne nt]; exact g2, upd_same, ?_⟩
        · have e : vN (chV o (j + 1)) = V.int (((chV o j : Nat) : Int) * ((0 + (o : Int)) - (0 + (j : Int))) / ((0 + (j : Int)) + 1)) := by
            show V.int _ = V.int _
            congr 1
            rw [show (0 + (o : Int)) - (0 + (j : Int)) = ((o - j : Nat) : Int) by omega, show (0 + (j : Int)) + 1 = ((j + 1 : Nat) : Int) by omega, natmul, natdiv]
            rfl
          rw [e]
          rfl
        · rw [List.range_succ, List.map_append, ← List.append_assoc]
          refine psnoc (pmap p2 fun a b z => TN.to (same_upd (e2.c.free ht)) z) ⟨t, rfl, ?_⟩
          rw [← hrow]
          exact upd_same
      · rintro σ H2 ⟨y6, us, G2, rfl, e2, g2, d2, p2⟩
        rw [hk0] at p2 ⊢
        have c1 := chV_le L (by omega) o (by omega)
        refine ⟨_, rfl, _, rfl, _, rfl, _, _, rfl, rfl, _, _, rfl, rfl, .inl ⟨by omega, by omega⟩, _, rfl, _, _, rfl, rfl, _, _, rfl, rfl, divI (by omega) (by omega), some (.int (0 + (o : Nat))), some (vN (chV o (1 + o * (k - 2)))), y6, us, G2, ?_, e2, g2, d2, ?_⟩
        · have e : vN (chV L (o + 1)) = V.int (((chV L o : Nat) : Int) * ((L : Int) - (0 + (o : Int))) / ((0 + (o : Int)) + 1)) := by
            show V.int _ = V.int _
            congr 1
            rw [show (L : Int) - (0 + (o : Int)) = ((L - o : Nat) : Int) by omega, show (0 + (o : Int)) + 1 = ((o + 1 : Nat) : Int) by omega, natmul, natdiv]
            rfl
          rw [e]
          rfl
        · rw [flat_succ]
          exact p2
    · rintro σ H1 ⟨y4, y5, y6, us, G1, rfl, e1, g1, d1, p1⟩
      refine ⟨_, rfl, q _ _ _ (e1.frz hD d1 nD) ⟨D, us, rfl, sq_ofL upd_same, ?_⟩⟩
      rw [show ((L : Int) + 1).toNat = L + 1 by omega] at p1
      exact pmap p1 fun a b z => TN.to (same_upd g1) z
theorem sc_lall : FnScope ["_law_weights", "_law_length", "_law_weight_here", "_law_powers_here"] ["_law_weights", "_law_length"] (defScope (topS 45)) := ⟨rfl, rfl, rfl, by decide +kernel, rfl, by decide +kernel, by decide +kernel⟩
def spLall (PT : Addr) (K : PySem.W.Frag) : Sp := fun vs H Q _ => ∃ (G : Hp) (v : V) (ws : List Nat) (L : Nat), vs = [v, .int L] ∧ Cl PT G H ∧ LN K G v ws ∧ ws.length ≤ 10 ∧ (∀ w ∈ ws, w ≤ 1000) ∧ L ≤ 10 ∧ Ret PT G H Q fun G' r => LR K (LN K) G' r (ws.map (fun w => powN w L) ++ [[1]])
theorem ok_lall (T : Txt K mg cS cF cG cT cM cK) : Cal P w K mg base "_law_all_powers" 2 ["_law_weights", "_law_length"] (spLall PT K) := by
  refine T.d_law_all_powers.ok sc_lall (fun vs H Q E h => ?_) (fun f cdv A outer s H vs Q E hr h => ?_)
  · obtain ⟨G, v, ws, L, rfl, _⟩ := h
    rfl
  · obtain ⟨G, v, ws, L, rfl, c, ⟨p, rfl, hp⟩, hl, hw, hL, q⟩ := h
    refine ⟨_, (pss_cons (ps_setLc (i := 3) (own := [("_law_weight_here", 2)]) rfl sc_lall.nd rfl rfl (sw_true rfl rfl rfl (by decide +kernel)) (pi_listK (K := K) (pv 0)) (blkOk_by (own := [("_law_weight_here", 2)]) (N := ["_law_weights", "_law_length", "_law_weight_here", "_law_powers_here"]) (sc := defScope (topS 45)) (by decide +kernel)) (fun _ _ _ _ _ => (pg_n 2 sc_lall.nd)) (fun _ _ _ _ _ => pts_nil) (fun _ _ _ _ _ => (pe_c (ok_lpows (PT := PT) T) (hr.mono (by first | decide | omega)) (pa_cons (pv 2) (pa_cons (pv 1) pa_nil)))))
  (pss_cons (ps_expr (pe_bm PySem.F.plainAttrs_list PySem.F.slot_list_append PySem.F.type_list_append mt_append (pv 3) (pa_cons (pe_lst (pa_cons pe_int pa_nil)) pa_nil)))
  (pss_one (ps_ret (pv 3))))), ?_⟩
    refine ⟨_, rfl, p, rfl, ⟨_, seqL c.s hp⟩, fun D hD => ?_⟩
    have nD : D ≠ PT := c.ne hD
    have e0 : Ext PT nM G H G (upd H D (.lst [])) := Ext.loc c hD
    refine wk_list.comp (fun i H' => ∃ us G', Ext PT nM G H G' H' ∧ G' D = none ∧ H' D = some (.lst us) ∧ Paired (LN K G') us ((ws.take i).map fun w => powN w L)) ⟨[], G, e0, c.free hD, upd_same, .nil⟩ (fun i H' _ ⟨_, G', e, _⟩ => seqL e.c.s (seqL e.g hp)) ?_ ?_
    · rintro i v H1 H1' hi ⟨us, G1, e1, g1, d1, p1⟩ ⟨rfl, hx⟩
      obtain ⟨wv, hw1, rfl⟩ := vNs_of hx
      have := hw _ (List.mem_of_getElem? hw1)
      refine ⟨rfl, _, rfl, _, rfl, G1, wv, L, rfl, e1.c, by omega, by omega, fun v2 G2 H2 e2 r2 => ?_⟩
      have l1 := plen p1
      refine ⟨us, e2.stay0 d1 nD, ?_, us ++ [v2], G2, (e1.trans e2).mut (.inl hD) (e2.none_g (by rw [d1]; simp) g1) nD, e2.none_g (by rw [d1]; simp) g1, upd_same, ?_⟩
      · rw [l1, List.length_map, List.length_take]
        exact ltS (by omega)
      · rw [take_get hw1, List.map_append]
        exact psnoc (pmap p1 fun a b z => LN.to e2.g z) r2
    · rintro H1 ⟨us, G1, e1, g1, d1, p1⟩
      rw [List.length_map, List.take_length] at p1
      have l1 := plen p1
      rw [List.length_map] at l1
      refine ⟨_, rfl, .inl ⟨rfl, _, sq_ofL d1⟩, leS (by show 1 ≤ 100000; decide), fun t ht => ?_⟩
      have nt : D ≠ t := ne_of_none d1 ht
      have e2 := e1.trans (Ext.new (M := nM) (o := .lst [.int 1]) e1.c ht)
      refine ⟨D, _, _, rfl, rfl, by rw [upd_ne nt]; exact d1, ltS (by omega), ?_⟩
      have e3 := e2.mut (o := .lst (us ++ [.ref t])) (.inl hD) (by rw [upd_ne nt]; exact g1) nD
      have e4 := e3.frz hD upd_same nD
      have s1 : Same G1 (upd (upd G1 t (.lst [.int 1])) D (.lst (us ++ [.ref t]))) := (same_upd (e1.c.free ht)).trans (same_upd (by rw [upd_ne nt]; exact g1))
      refine ⟨_, rfl, q _ _ _ e4 ⟨D, us ++ [.ref t], rfl, sq_ofL upd_same, ?_⟩⟩
      refine psnoc (pmap p1 fun a b z => LN.to s1 z) ⟨t, rfl, sq_ofL ?_⟩
      exact same_upd (by rw [upd_ne nt]; exact g1) _ _ upd_same
theorem sc_lwt : FnScope ["_law_weights", "_law_text", "_law_weight_here", "_law_sign"] ["_law_weights", "_law_text"] (defScope (topS 46)) := ⟨rfl, rfl, rfl, by decide +kernel, rfl, by decide +kernel, by decide +kernel⟩
def wtL (ws l : List Nat) : Nat := (l.map fun c => ws.getD c 0).prod
def spLwt (K : PySem.W.Frag) : Sp := fun vs H Q _ => ∃ (v : V) (ws l : List Nat), vs = [v, .str (tx l)] ∧ LN K H v ws ∧ ws.length ≤ 3 ∧ (∀ c ∈ l, c < ws.length) ∧ (∀ w ∈ ws, w ≤ 1000) ∧ l.length ≤ 10 ∧ Q (vN (wtL ws l)) H
theorem ok_lwt (T : Txt K mg cS cF cG cT cM cK) : Cal P w K mg base "_law_weight" 1 ["_law_weights", "_law_text"] (spLwt K) := by
  refine T.d_law_weight.ok sc_lwt (fun vs H Q E h => ?_) (fun f cdv A outer s H vs Q E hr h => ?_)
  · obtain ⟨v, ws, l, rfl, _⟩ := h
    rfl
  · obtain ⟨v, ws, l, rfl, ⟨p, rfl, hp⟩, hk, hc, hw, hl, q⟩ := h
    refine ⟨_, (pss_cons (ps_s 2 sc_lwt.nd pe_int)
  (pss_cons (ps_for PassesOwn.never rfl (pi_str (pv 1)) (pg_n 3 sc_lwt.nd)
  (pss_one (ps_s 2 sc_lwt.nd (pe_op op_mul (pv 2) (pe_ix (ix_listK (K := K)) (pv 0) (pe_strindex pe_str (pv 3)) (fun _ _ => rfl))))))
  (pss_one (ps_ret (pv 2))))), ?_⟩
    have hsz : (tx l).cps.size = l.length := tx_len l
    refine ⟨_, rfl, _, rfl, ?_⟩
    refine wk_str.loop (fun i σ H' => ∃ y3 z, σ = [some (.ref p), some (.str (tx l)), some (vN z), y3] ∧ H' = H ∧ z = ((l.take i).map fun c => ws.getD c 0).prod) ⟨none, 1, rfl, rfl, rfl⟩ (fun _ _ _ _ _ => True.intro) ?_ ?_
    · rintro i v σ H2 H2' hi ⟨y3, z, rfl, rfl, hz⟩ ⟨rfl, ch, hch, rfl⟩
      obtain ⟨a, ha, rfl⟩ := tx_at hch
      have hal : a < ws.length := hc a (List.mem_of_getElem? ha)
      have hga : ws[a]? = some (ws.getD a 0) := by
        rw [List.getD_eq_getElem?_getD, List.getElem?_eq_getElem hal]
        rfl
      have hwa := hw _ (List.mem_of_getElem? hga)
      refine ⟨_, rfl, _, rfl, ⟨_, rfl⟩, _, rfl, tx [0, 1, 2], tx [a], a, ?_, rfl, idx_tx a (by omega), ?_⟩
      · show V.str _ = V.str _
        rw [← abc_str]
      refine ⟨p, _, _, _, rfl, rfl, hp, vNs_at rfl hga, _, _, rfl, rfl, .inr ⟨by omega, by omega⟩, some (.str (tx [a])), z * ws.getD a 0, ?_, rfl, ?_⟩
      · rw [show vN (z * ws.getD a 0) = V.int (((z : Nat) : Int) * ((ws.getD a 0 : Nat) : Int)) by rw [natmul]; rfl]
        rfl
      · rw [take_get ha, List.map_append, hz]
        simp
    · rintro σ H2 ⟨y3, z, rfl, rfl, hz⟩
      rw [hsz, List.take_length] at hz
      subst hz
      exact ⟨_, rfl, q⟩
end
end K43
-- part W28
/-! W28: the law's ring. -/
namespace K43
open PySem PySem.Spec PyProof.Rows L2
section
variable {P : Program} {w : World} {K : PySem.W.Frag} {mg : Str → Option Value} {base : Heap} {cS cF cG cT cM cK : Addr} {PT cc : Addr}
def gL (ws : List Nat) : Nat := ws.foldl Nat.gcd (ws.getD 0 0)
def mxN (ws : List Nat) : Nat := ws.foldl Nat.max 0
theorem mxN_ge : ∀ {ws : List Nat} {a : Nat}, a ≤ ws.foldl Nat.max a ∧ ∀ x ∈ ws, x ≤ ws.foldl Nat.max a
  | [], a => ⟨Nat.le_refl _, fun x h => by cases h⟩
  | b :: r, a => by
    obtain ⟨h1, h2⟩ := mxN_ge (ws := r) (a := Nat.max a b)
    refine ⟨Nat.le_trans (Nat.le_max_left a b) h1, fun x hx => ?_⟩
    rcases List.mem_cons.mp hx with e | hx
    · rw [e]
      exact Nat.le_trans (Nat.le_max_right a b) h1
    · exact h2 x hx
theorem mxN_le : ∀ {ws : List Nat} {a m : Nat}, a ≤ m → (∀ x ∈ ws, x ≤ m) → ws.foldl Nat.max a ≤ m
  | [], a, m, h, _ => h
  | b :: r, a, m, h, h2 => mxN_le (ws := r) (Nat.max_le.mpr ⟨h, h2 b (List.mem_cons_self ..)⟩) fun x hx => h2 x (List.mem_cons_of_mem _ hx)
theorem mxN_eq {ws : List Nat} {m : Nat} (h : m ∈ ws) (h2 : ∀ x ∈ ws, x ≤ m) : mxN ws = m := Nat.le_antisymm (mxN_le (Nat.zero_le _) h2) (mxN_ge.2 m h)
theorem gfold_dvd : ∀ {ws : List Nat} {a : Nat}, ws.foldl Nat.gcd a ∣ a ∧ ∀ x ∈ ws, ws.foldl Nat.gcd a ∣ x
  | [], a => ⟨Nat.dvd_refl _, fun x h => by cases h⟩
  | b :: r, a => by
    obtain ⟨h1, h2⟩ := gfold_dvd (ws := r) (a := Nat.gcd a b)
    refine ⟨Nat.dvd_trans h1 (Nat.gcd_dvd_left _ _), fun x hx => ?_⟩
    rcases List.mem_cons.mp hx with e | hx
    · rw [e]
      exact Nat.dvd_trans h1 (Nat.gcd_dvd_right _ _)
    · exact h2 x hx
def ringL (ws : List Nat) (L : Nat) (lv : Nat × Nat) : Nat :=
  if (mxN ws / gL ws) ^ L * lv.2 ≤ lv.1 * (ws.sum / gL ws) ^ L then (ws.sum / gL ws) ^ L else (ws.sum / gL ws) ^ L * (low ((ws.sum / gL ws) ^ L) (low lv.1 lv.2).2).2
def okW (ws : List Nat) (L : Nat) : Prop := 1 ≤ ws.length ∧ ws.length ≤ 3 ∧ L ≤ 4 ∧ ws.sum ≤ 180 ∧ ∀ w ∈ ws, 0 < w
theorem sc_lring : FnScope ["_law_weights", "_law_length", "_law_level_here", "_law_low", "_law_weight_here", "_law_full", "_law_most", "_law_under_here"] ["_law_weights", "_law_length", "_law_level_here"] (defScope (topS 47)) := ⟨rfl, rfl, rfl, by decide +kernel, rfl, by decide +kernel, by decide +kernel⟩
def spLring (PT : Addr) (K : PySem.W.Frag) : Sp := fun vs H Q _ => ∃ (G : Hp) (v u : V) (ws : List Nat) (L a b : Nat), vs = [v, .int L, u] ∧ Cl PT G H ∧ LN K G v ws ∧ okW ws L ∧ TN K G u [a, b] ∧ a < 2 ^ 20 ∧ 0 < b ∧ b < 2 ^ 20 ∧
  ∀ G' H', Ext PT nM G H G' H' → Q (vN (ringL ws L (a, b))) H'
theorem ok_lring (T : Txt K mg cS cF cG cT cM cK) : Cal P w K mg base "_law_ring" 2 ["_law_weights", "_law_length", "_law_level_here"] (spLring PT K) := by
  refine T.d_law_ring.ok sc_lring (fun vs H Q E h => ?_) (fun f cdv A outer s H vs Q E hr h => ?_)
  · obtain ⟨G, v, u, ws, L, a, b, rfl, _⟩ := h
    rfl
  · obtain ⟨G, v, u, ws, L, a, b, rfl, c, ⟨p, rfl, hp⟩, ⟨ok1, ok2, ok3, ok4, ok5⟩, ⟨pu, rfl, hu⟩, ha, hb, hb2, q⟩ := h
    refine ⟨_, (pss_cons (ps_s 3 sc_lring.nd (pe_ix (ix_listK (K := K)) (pv 0) pe_int (fun _ _ => rfl)))
  (pss_cons (ps_for PassesOwn.never rfl (pi_listK (K := K) (pv 0)) (pg_n 4 sc_lring.nd)
  (pss_one (ps_s 3 sc_lring.nd (pe_op op_fdivW (pv 4) (pe_ix (ix_tupK (K := K)) (pe_c (ok_llow (PT := PT) T) (hr.mono (by first | decide | omega)) (pa_cons (pv 3) (pa_cons (pv 4) pa_nil))) pe_int (fun _ _ => rfl))))))
  (pss_cons (ps_s 5 sc_lring.nd (pe_ix (ix_listK (K := K)) (pe_c (ok_lpows (PT := PT) T) (hr.mono (by first | decide | omega)) (pa_cons (pe_op op_fdivW (pe_callB (cr_sumK (K := K) rfl) (by rfl) T.z_sum (by decide +kernel) (pa_cons (pv 0) pa_nil)) (pv 3)) (pa_cons (pv 1) pa_nil))) (pv 1) (fun _ _ => rfl)))
  (pss_cons (ps_s 6 sc_lring.nd (pe_ix (ix_listK (K := K)) (pe_c (ok_lpows (PT := PT) T) (hr.mono (by first | decide | omega)) (pa_cons (pe_op op_fdivW (pe_callB (cr_maxK (K := K) rfl) (by rfl) T.z_max (by decide +kernel) (pa_cons (pv 0) pa_nil)) (pv 3)) (pa_cons (pv 1) pa_nil))) (pv 1) (fun _ _ => rfl)))
  (pss_cons (ps_if (pt_cmpR op_ge (pe_op op_mul (pe_ix (ix_tupK (K := K)) (pv 2) pe_int (fun _ _ => rfl)) (pv 5)) (pe_op op_mul (pv 6) (pe_ix (ix_tupK (K := K)) (pv 2) pe_int (fun _ _ => rfl))) (nomark _)) (pss_one (ps_ret (pv 5))) pss_nil)
  (pss_cons (ps_s 7 sc_lring.nd (pe_ix (ix_tupK (K := K)) (pe_c (ok_llow (PT := PT) T) (hr.mono (by first | decide | omega)) (pa_cons (pe_ix (ix_tupK (K := K)) (pv 2) pe_int (fun _ _ => rfl)) (pa_cons (pe_ix (ix_tupK (K := K)) (pv 2) pe_int (fun _ _ => rfl)) pa_nil))) pe_int (fun _ _ => rfl)))
  (pss_one (ps_ret (pe_op op_mul (pv 5) (pe_ix (ix_tupK (K := K)) (pe_c (ok_llow (PT := PT) T) (hr.mono (by first | decide | omega)) (pa_cons (pv 5) (pa_cons (pv 7) pa_nil))) pe_int (fun _ _ => rfl))))))))))), ?_⟩
    obtain ⟨w0, wr, rfl⟩ : ∃ w0 wr, ws = w0 :: wr := by
      cases ws with
      | nil => simp at ok1
      | cons a b => exact ⟨a, b, rfl⟩
    have hpH := seqL c.s hp
    have hw0 := ok5 w0 (List.mem_cons_self ..)
    refine ⟨_, rfl, p, _, 0, _, rfl, rfl, hpH, atI_nat (j := 0) rfl, ?_⟩
    refine ⟨_, rfl, p, rfl, ⟨_, hpH⟩, ?_⟩
    refine wk_list.loop (fun i σ H' => ∃ y4 y5 y6 y7 G' z, σ = [some (.ref p), some (.int L), some (.ref pu), some (vN z), y4, y5, y6, y7] ∧ Ext PT nM G H G' H' ∧ 0 < z ∧ z = (((w0 :: wr).take i).foldl Nat.gcd w0))
      ⟨none, none, none, none, G, w0, rfl, Ext.refl c, hw0, rfl⟩ (fun i σ H' _ ⟨_, _, _, _, G', _, _, e, _⟩ => seqL e.c.s (seqL e.g hp)) ?_ ?_
    · rintro i v σ H1 H1' hi ⟨y4, y5, y6, y7, G1, z, rfl, e1, hz0, hz⟩ ⟨rfl, hx⟩
      obtain ⟨wv, hw1, rfl⟩ := vNs_of hx
      have hwp := ok5 wv (List.mem_of_getElem? hw1)
      have hwl : wv ≤ 180 := Nat.le_trans (mem_sum (List.mem_of_getElem? hw1)) ok4
      refine ⟨_, rfl, _, rfl, _, rfl, G1, z, wv, rfl, e1.c, hwp, by omega, fun r G2 H2 e2 r2 => ?_⟩
      obtain ⟨pt, rfl, hpt⟩ := r2
      have hlp := low_pos (a := z) hwp
      have hll := low_le2 (a := z) (b := wv)
      refine ⟨pt, _, 1, _, rfl, rfl, sq_ofT (e2.c.s _ _ hpt), atI_nat (j := 1) rfl, _, _, rfl, rfl, divI (by omega) (by omega), some (vN wv), y5, y6, y7, G2, Nat.gcd z wv, ?_, e1.trans e2, Nat.gcd_pos_of_pos_right _ hwp, ?_⟩
      · have hg : wv / (low z wv).2 = Nat.gcd z wv := by
          have h1 := low_under (a := z) (b := wv)
          exact Nat.div_eq_of_eq_mul_right hlp h1.symm
        rw [← hg, show vN (wv / (low z wv).2) = V.int ((wv : Int) / ((low z wv).2 : Int)) by rw [natdiv]; rfl]
        rfl
      · rw [take_get hw1, List.foldl_append, ← hz]
        rfl
    rintro σ H1 ⟨y4, y5, y6, y7, G1, z, rfl, e1, hz0, hz⟩
    rw [List.length_map, List.take_length] at hz
    have hzg : z = gL (w0 :: wr) := hz
    subst hzg
    have hgd := gfold_dvd (ws := w0 :: wr) (a := (w0 :: wr).getD 0 0)
    have hgle : gL (w0 :: wr) ≤ 180 := Nat.le_trans (Nat.le_of_dvd hw0 (hgd.2 w0 (List.mem_cons_self ..))) (Nat.le_trans (mem_sum (List.mem_cons_self ..)) ok4)
    have hp1 := seqL e1.c.s (seqL e1.g hp)
    have hz1 : SqL K H1 p (((w0 :: wr).map (fun n : Nat => (n : Int))).map V.int) := by
      rw [vZ]
      exact hp1
    have hfl : (w0 :: wr).sum / gL (w0 :: wr) ≤ 180 := Nat.le_trans (Nat.div_le_self _ _) ok4
    refine ⟨_, rfl, p, _, rfl, hz1, ?_⟩
    rw [sumZ]
    refine ⟨_, rfl, _, _, rfl, rfl, divI (by omega) (by omega), _, rfl, G1, (w0 :: wr).sum / gL (w0 :: wr), L, (by show [V.int _, V.int _] = [V.int _, V.int _]; rw [natdiv]), e1.c, by omega, by omega, fun v2 G2 H2 e2 r2 => ?_⟩
    obtain ⟨pf, rfl, hpf⟩ := r2
    refine ⟨_, rfl, pf, _, L, _, rfl, rfl, seqL e2.c.s hpf, vNs_at rfl (powN_get (Nat.le_refl L)), ?_⟩
    have e12 := e1.trans e2
    have hp2 : SqL K H2 p (((w0 :: wr).map (fun n : Nat => (n : Int))).map V.int) := by
      rw [vZ]
      exact seqL e12.c.s (seqL e12.g hp)
    refine ⟨_, rfl, p, _, rfl, hp2, by simp, fun m hm hmx => ?_⟩
    obtain ⟨mn, hmn, rfl⟩ := List.mem_map.mp hm
    have hmx2 : mxN (w0 :: wr) = mn := mxN_eq hmn fun x hx => by
      have := hmx (x : Int) (List.mem_map.mpr ⟨x, hx, rfl⟩)
      omega
    have hmle : mn ≤ 180 := Nat.le_trans (mem_sum hmn) ok4
    have hml : mn / gL (w0 :: wr) ≤ 180 := Nat.le_trans (Nat.div_le_self _ _) hmle
    refine ⟨_, rfl, _, _, rfl, rfl, divI (by omega) (by omega), _, rfl, G2, mn / gL (w0 :: wr), L, (by show [V.int _, V.int _] = [V.int _, V.int _]; rw [natdiv]), e12.c, by omega, by omega, fun v3 G3 H3 e3 r3 => ?_⟩
    obtain ⟨pm, rfl, hpm⟩ := r3
    have e13 := e12.trans e3
    have hu3 := sq_ofT (K := K) (e13.c.s _ _ (e13.g _ _ hu))
    have hf4 := pow_le4 (n := L) hfl ok3
    have hm4 := pow_le4 (n := L) hml ok3
    refine ⟨_, rfl, pm, _, L, _, rfl, rfl, seqL e3.c.s hpm, vNs_at rfl (powN_get (Nat.le_refl L)), ?_⟩
    refine ⟨_, rfl, pu, _, 0, _, rfl, rfl, hu3, atI_nat (j := 0) rfl, _, rfl, _, _, rfl, rfl, .inl ⟨by omega, by omega⟩, ?_⟩
    refine ⟨_, rfl, _, rfl, pu, _, 1, _, rfl, rfl, hu3, atI_nat (j := 1) rfl, _, _, rfl, rfl, .inr ⟨by omega, by omega⟩, _, _, rfl, rfl, _, rfl, ite2 (fun h => ?_) (fun h => ?_)⟩
    · have hle : (mn / gL (w0 :: wr)) ^ L * b ≤ a * ((w0 :: wr).sum / gL (w0 :: wr)) ^ L := by
        have := of_decide_eq_true h
        rw [natmul, natmul] at this
        exact Int.ofNat_le.mp this
      have := q _ _ e13
      unfold ringL at this
      rw [hmx2, if_pos hle] at this
      exact ⟨_, rfl, this⟩
    · have hle : ¬ (mn / gL (w0 :: wr)) ^ L * b ≤ a * ((w0 :: wr).sum / gL (w0 :: wr)) ^ L := by
        intro z
        refine h (decide_eq_true ?_)
        rw [natmul, natmul]
        exact Int.ofNat_le.mpr z
      refine ⟨_, rfl, pu, _, 0, _, rfl, rfl, hu3, atI_nat (j := 0) rfl, _, rfl, pu, _, 1, _, rfl, rfl, hu3, atI_nat (j := 1) rfl, G3, a, b, rfl, e13.c, hb, by omega, fun r4 G4 H4 e4 t4 => ?_⟩
      obtain ⟨p4, rfl, h4⟩ := t4
      have hlp := low_pos (a := a) hb
      have hll := low_le2 (a := a) (b := b)
      refine ⟨p4, _, 1, _, rfl, rfl, sq_ofT (e4.c.s _ _ h4), atI_nat (j := 1) rfl, ?_⟩
      refine ⟨_, rfl, _, rfl, _, rfl, G4, _, (low a b).2, rfl, (e13.trans e4).c, hlp, by omega, fun r5 G5 H5 e5 t5 => ?_⟩
      obtain ⟨p5, rfl, h5⟩ := t5
      refine ⟨p5, _, 1, _, rfl, rfl, sq_ofT (e5.c.s _ _ h5), atI_nat (j := 1) rfl, _, _, rfl, rfl, .inl ⟨by omega, by omega⟩, ?_⟩
      have := q _ _ ((e13.trans e4).trans e5)
      unfold ringL at this
      rw [hmx2, if_neg hle] at this
      unfold vN at this
      rw [← natmul] at this
      exact this
end
end K43
-- part W29
/-! W29: the law's plan. -/
namespace K43
open PySem PySem.Spec PyProof.Rows L2
section
variable {P : Program} {w : World} {K : PySem.W.Frag} {mg : Str → Option Value} {base : Heap} {cS cF cG cT cM cK : Addr} {PT cc : Addr}
/-- the plan's key for a name -/
def kS (x : Str) : Key := Sum.inr x
def plKV (k L R : Nat) (d : Addr) (A : Nat) : List (Key × V) := mergeK [] [(kS "kinds", vN k), (kS "length", vN L), (kS "ring", vN R), (kS "spans", .ref d), (kS "arcs", vN A)]
theorem pl_kinds {k L R A : Nat} {d : Addr} : valV (plKV k L R d A) (kS "kinds") = some (vN k) := rfl
theorem pl_length {k L R A : Nat} {d : Addr} : valV (plKV k L R d A) (kS "length") = some (vN L) := rfl
theorem pl_ring {k L R A : Nat} {d : Addr} : valV (plKV k L R d A) (kS "ring") = some (vN R) := rfl
theorem pl_spans {k L R A : Nat} {d : Addr} : valV (plKV k L R d A) (kS "spans") = some (.ref d) := rfl
theorem pl_arcs {k L R A : Nat} {d : Addr} : valV (plKV k L R d A) (kS "arcs") = some (vN A) := rfl
structure Pl where
  k : Nat
  L : Nat
  R : Nat
  f : List Nat → Nat
  g : List Nat → Nat
def Pl.A (p : Pl) : Nat := ((lcN p.k p.L).map fun r => r.getD 0 0 * p.f r.tail).sum
def SpOk (G : Hp) (kv : List (List Key × V)) (f g : List Nat → Nat) (rs : List (List Nat)) : Prop := ∀ r ∈ rs, ∃ t, valV kv (keyT r.tail) = some (.ref t) ∧ G t = some (.tup [vN (f r.tail), vN (g r.tail)])
theorem SpOk.to {G G1 : Hp} {kv : List (List Key × V)} {f g : List Nat → Nat} {rs : List (List Nat)} (s : Same G G1) (h : SpOk G kv f g rs) : SpOk G1 kv f g rs := fun r hr => by
  obtain ⟨t, h1, h2⟩ := h r hr
  exact ⟨t, h1, s _ _ h2⟩
def PlAt (G : Hp) (v : V) (y : Pl) : Prop := ∃ p d kv, v = .ref p ∧ G p = some (.dK (plKV y.k y.L y.R d y.A)) ∧ G d = some (.dT kv) ∧ SpOk G kv y.f y.g (lcN y.k y.L)
theorem PlAt.to {G G1 : Hp} {v : V} {y : Pl} (s : Same G G1) (h : PlAt G v y) : PlAt G1 v y := by
  obtain ⟨p, d, kv, e, h1, h2, h3⟩ := h
  exact ⟨p, d, kv, e, s _ _ h1, s _ _ h2, SpOk.to s h3⟩
def wt3 (ws c : List Nat) : Nat := (ws.getD 0 1) ^ (c.getD 0 0) * (ws.getD 1 1) ^ (c.getD 1 0) * (ws.getD 2 1) ^ (c.getD 2 0)
def pA (ws : List Nat) (L : Nat) (lv : Nat × Nat) (c : List Nat) : Nat := min (wt3 ws c * lv.2) (lv.1 * ws.sum ^ L) * ringL ws L lv / (ws.sum ^ L * lv.2)
def pR (ws : List Nat) (L : Nat) (lv : Nat × Nat) (c : List Nat) : Nat := wt3 ws c * ringL ws L lv / ws.sum ^ L - pA ws L lv c
def planM (ws : List Nat) (L : Nat) (lv : Nat × Nat) : Pl := ⟨ws.length, L, ringL ws L lv, pA ws L lv, pR ws L lv⟩
theorem lc_mem {k L : Nat} {r : List Nat} (hk2 : k ≤ 3) (hL : L ≤ 4) (h : r ∈ lcN k L) : ∃ n x y z, r = [n, x, y, z] ∧ x + y + z = L ∧ (k = 2 → z = 0) ∧ n < 1000000 := by
  obtain ⟨o, ho, hm⟩ := List.mem_flatMap.mp h
  obtain ⟨j, hj, rfl⟩ := List.mem_map.mp hm
  have ho := List.mem_range.mp ho
  have hj := List.mem_range.mp hj
  have hj2 : o * (k - 2) ≤ o * 1 := Nat.mul_le_mul_left _ (by omega)
  have c1 := chV_le L (by omega) o (by omega)
  have c2 := chV_le o (by omega) j (by omega)
  refine ⟨_, L - o, o - j, j, rfl, by omega, fun e => ?_, Nat.mul_lt_mul'' c1 c2⟩
  subst e
  simp at hj
  exact hj
theorem mem_lc {k L x y z : Nat} (hk1 : 2 ≤ k) (h : x + y + z = L) (hz : k = 2 → z = 0) : ∃ n, [n, x, y, z] ∈ lcN k L := by
  refine ⟨chV L (L - x) * chV (L - x) z, List.mem_flatMap.mpr ⟨L - x, List.mem_range.mpr (by omega), List.mem_map.mpr ⟨z, List.mem_range.mpr ?_, ?_⟩⟩⟩
  · by_cases e : k = 2
    · have := hz e
      omega
    · have : (L - x) * 1 ≤ (L - x) * (k - 2) := Nat.mul_le_mul_left _ (by omega)
      omega
  · unfold lcRow
    rw [show L - (L - x) = x by omega, show L - x - z = y by omega]
theorem ringL_le {ws : List Nat} {L a b : Nat} (hb : 0 < b) : ringL ws L (a, b) ≤ (ws.sum / gL ws) ^ L * b := by
  unfold ringL
  have hlp := low_pos (a := a) hb
  have h1 := low_le2 (a := (ws.sum / gL ws) ^ L) (b := (low a b).2)
  have h2 := low_le2 (a := a) (b := b)
  split
  · exact Nat.le_mul_of_pos_right _ hb
  · exact Nat.mul_le_mul_left _ (Nat.le_trans h1 h2)
theorem pw_at {ws : List Nat} {L j c : Nat} {G : Hp} {us : List V} (pr : Paired (LN K G) us (ws.map (fun w => powN w L) ++ [[1]])) (hk1 : 2 ≤ ws.length) (hk2 : ws.length ≤ 3) (hj : j < 3) (hc : c ≤ L) (hz : j = 2 → ws.length = 2 → c = 0) :
    ∃ (pj : Addr) (lj : List Nat), us[j]? = some (.ref pj) ∧ SqL K G pj (lj.map vN) ∧ lj[c]? = some ((ws.getD j 1) ^ c) := by
  have hl := plen pr
  rw [List.length_append, List.length_map] at hl
  have hju : j < us.length := by
    simp at hl
    omega
  obtain ⟨lj, hlj, pj, e, hp⟩ := pget pr (List.getElem?_eq_getElem hju)
  refine ⟨pj, lj, by rw [List.getElem?_eq_getElem hju, e], hp, ?_⟩
  by_cases h : j < ws.length
  · rw [List.getElem?_append_left (by rw [List.length_map]; exact h), List.getElem?_map, List.getElem?_eq_getElem h] at hlj
    obtain rfl := Option.some.inj hlj
    rw [powN_get hc, List.getD_eq_getElem?_getD, List.getElem?_eq_getElem h]
    rfl
  · have hj2 : j = 2 := by omega
    have hk : ws.length = 2 := by omega
    rw [List.getElem?_append_right (by rw [List.length_map]; omega), List.length_map, hj2, hk] at hlj
    obtain rfl := Option.some.inj hlj
    have hc0 := hz hj2 hk
    subst hc0
    have hnone : ws[j]? = none := List.getElem?_eq_none (by omega)
    rw [List.getD_eq_getElem?_getD, hnone]
    rfl
theorem flat_len {f : Nat → List (List Nat)} {B : Nat} : ∀ {l : List Nat}, (∀ o ∈ l, (f o).length ≤ B) → (l.flatMap f).length ≤ l.length * B
  | [], _ => Nat.zero_le _
  | o :: l, h => by
    have h1 := h o List.mem_cons_self
    have h2 := flat_len (l := l) fun o ho => h o (List.mem_cons_of_mem _ ho)
    rw [List.flatMap_cons, List.length_append, List.length_cons, Nat.succ_mul]
    omega
theorem lc_len {k L : Nat} (hk : k ≤ 3) (hL : L ≤ 4) : (lcN k L).length ≤ 25 := by
  have h := flat_len (f := fun o => (List.range (1 + o * (k - 2))).map fun j => lcRow L o j) (B := 5) (l := List.range (L + 1)) fun o ho => by
    have ho := List.mem_range.mp ho
    have : o * (k - 2) ≤ o * 1 := Nat.mul_le_mul_left _ (by omega)
    rw [List.length_map, List.length_range]
    omega
  rw [List.length_range] at h
  exact Nat.le_trans h (by omega)
theorem sc_lplan : FnScope ["_law_weights", "_law_length", "_law_level_here", "_law_powers_here", "_law_full", "_law_ring_here", "_law_spans", "_law_arcs", "_law_count", "_law_weight_here", "_law_arc"] ["_law_weights", "_law_length", "_law_level_here"] (defScope (topS 48)) := ⟨rfl, rfl, rfl, by decide +kernel, rfl, by decide +kernel, by decide +kernel⟩
def spLplan (PT : Addr) (K : PySem.W.Frag) : Sp := fun vs H Q _ => ∃ (G : Hp) (v u : V) (ws : List Nat) (L a b : Nat), vs = [v, .int L, u] ∧ Cl PT G H ∧ LN K G v ws ∧ okF ws L ∧ TN K G u [a, b] ∧ a < 2 ^ 20 ∧ 0 < b ∧ b < 2 ^ 20 ∧ Ret PT G H Q fun G' r => PlAt G' r (planM ws L (a, b))
theorem ok_lplan (T : Txt K mg cS cF cG cT cM cK) : Cal P w K mg base "_law_plan" 3 ["_law_weights", "_law_length", "_law_level_here"] (spLplan PT K) := by
  refine T.d_law_plan.ok sc_lplan (fun vs H Q E h => ?_) (fun f cdv A outer s H vs Q E hr h => ?_)
  · obtain ⟨G, v, u, ws, L, a, b, rfl, _⟩ := h
    rfl
  · obtain ⟨G, v, u, ws, L, a, b, rfl, c, hv, ok, hu0, ha, hb, hb2, q⟩ := h
    obtain ⟨p, rfl, hp⟩ := id hv
    obtain ⟨pu, rfl, hu⟩ := id hu0
    refine ⟨_, (pss_cons (ps_s 3 sc_lplan.nd (pe_c (ok_lall (PT := PT) T) (hr.mono (by first | decide | omega)) (pa_cons (pv 0) (pa_cons (pv 1) pa_nil))))
  (pss_cons (ps_s 4 sc_lplan.nd (pe_ix (ix_listK (K := K)) (pe_c (ok_lpows (PT := PT) T) (hr.mono (by first | decide | omega)) (pa_cons (pe_callB (cr_sumK (K := K) rfl) (by rfl) T.z_sum (by decide +kernel) (pa_cons (pv 0) pa_nil)) (pa_cons (pv 1) pa_nil))) (pv 1) (fun _ _ => rfl)))
  (pss_cons (ps_s 5 sc_lplan.nd (pe_c (ok_lring (PT := PT) T) (hr.mono (by first | decide | omega)) (pa_cons (pv 0) (pa_cons (pv 1) (pa_cons (pv 2) pa_nil)))))
  (pss_cons (ps_s 6 sc_lplan.nd pe_dnewT)
  (pss_cons (ps_s 7 sc_lplan.nd pe_int)
  (pss_cons (ps_for PassesOwn.never rfl (pi_listK (K := K) (pe_c (ok_lcts (PT := PT) T) (hr.mono (by first | decide | omega)) (pa_cons (pe_callB (call_len_seqK (K := K)) (by rfl) T.z_len (by decide +kernel) (pa_cons (pv 0) pa_nil)) (pa_cons (pv 1) pa_nil)))) (pg_n 8 sc_lplan.nd)
  (pss_cons (ps_s 9 sc_lplan.nd (pe_op op_mul (pe_op op_mul (pe_ix (ix_listK (K := K)) (pe_ix (ix_listK (K := K)) (pv 3) pe_int (fun _ _ => rfl)) (pe_ix (ix_tupK (K := K)) (pv 8) pe_int (fun _ _ => rfl)) (fun _ _ => rfl)) (pe_ix (ix_listK (K := K)) (pe_ix (ix_listK (K := K)) (pv 3) pe_int (fun _ _ => rfl)) (pe_ix (ix_tupK (K := K)) (pv 8) pe_int (fun _ _ => rfl)) (fun _ _ => rfl))) (pe_ix (ix_listK (K := K)) (pe_ix (ix_listK (K := K)) (pv 3) pe_int (fun _ _ => rfl)) (pe_ix (ix_tupK (K := K)) (pv 8) pe_int (fun _ _ => rfl)) (fun _ _ => rfl))))
  (pss_cons (ps_s 10 sc_lplan.nd (pe_op op_fdivW (pe_op op_mul (pe_callB (call_min2 rfl) (by rfl) T.z_min (by decide +kernel) (pa_cons (pe_op op_mul (pv 9) (pe_ix (ix_tupK (K := K)) (pv 2) pe_int (fun _ _ => rfl))) (pa_cons (pe_op op_mul (pe_ix (ix_tupK (K := K)) (pv 2) pe_int (fun _ _ => rfl)) (pv 4)) pa_nil))) (pv 5)) (pe_op op_mul (pv 4) (pe_ix (ix_tupK (K := K)) (pv 2) pe_int (fun _ _ => rfl)))))
  (pss_cons (ps_dput (hu_of hr) (pv 6) (pe_slice (sl_tupK (K := K)) (pv 8) (po_some pe_int) po_none) (pe_tup (pa_cons (pv 10) (pa_cons (pe_op op_sub (pe_op op_fdivW (pe_op op_mul (pv 9) (pv 5)) (pv 4)) (pv 10)) pa_nil))) rfl)
  (pss_one (ps_s 7 sc_lplan.nd (pe_op op_add (pv 7) (pe_op op_mul (pe_ix (ix_tupK (K := K)) (pv 8) pe_int (fun _ _ => rfl)) (pv 10)))))))))
  (pss_one (ps_ret (pe_disp (pps_cons pe_str (pe_callB (call_len_seqK (K := K)) (by rfl) T.z_len (by decide +kernel) (pa_cons (pv 0) pa_nil)) (pps_cons pe_str (pv 1) (pps_cons pe_str (pv 5) (pps_cons pe_str (pv 6) (pps_cons pe_str (pv 7) pps_nil))))) (by rfl) (by rfl) (fun z => by cases z) (by decide)))))))))), ?_⟩
    have okw : okW ws L := ⟨by have := ok.1; omega, ok.2.1, ok.2.2.1, ok.2.2.2.1, ok.2.2.2.2.1⟩
    have hk1 := ok.1
    have hk2 := ok.2.1
    have hL := ok.2.2.1
    refine ⟨_, rfl, _, rfl, G, .ref p, ws, L, rfl, c, hv, by omega, fun w hw => Nat.le_trans (ok.le hw) (by decide), by omega, fun v1 G1 H1 e1 r1 => ?_⟩
    obtain ⟨pp, us, rfl, hpp, prs⟩ := r1
    have hp1 : SqL K H1 p ((ws.map (fun n : Nat => (n : Int))).map V.int) := by
      rw [vZ]
      exact seqL e1.c.s (seqL e1.g hp)
    have hs180 := ok.2.2.2.1
    refine ⟨_, rfl, p, _, rfl, hp1, ?_⟩
    rw [sumZ]
    refine ⟨_, rfl, G1, ws.sum, L, rfl, e1.c, by omega, by omega, fun v2 G2 H2 e2 r2 => ?_⟩
    obtain ⟨pf, rfl, hpf⟩ := r2
    have e12 := e1.trans e2
    refine ⟨_, rfl, pf, _, L, _, rfl, rfl, seqL e2.c.s hpf, vNs_at rfl (powN_get (Nat.le_refl L)), ?_⟩
    refine ⟨_, rfl, _, rfl, _, rfl, G2, .ref p, .ref pu, ws, L, a, b, rfl, e12.c, hv.to e12.g, okw, hu0.to e12.g, ha, hb, hb2, fun G3 H3 e3 => ?_⟩
    have e13 := e12.trans e3
    intro d hd
    have nd : d ≠ PT := e13.c.ne hd
    have e14 := e13.trans (Ext.loc (M := nM) (o := .dT []) e13.c hd)
    have hv3 := hv.to e13.g
    refine ⟨_, rfl, p, _, rfl, .inl (seqL e14.c.s (seqL e13.g hp)), _, rfl, ?_⟩
    rw [List.length_map]
    refine ⟨G3, ws.length, L, rfl, e14.c, hk1, hk2, hL, fun v4 G4 H4 e4 r4 => ?_⟩
    obtain ⟨pc, us2, rfl, hpc, pr2⟩ := r4
    have d4 : H4 d = some (.dT []) := e4.stay0 upd_same nd
    have g4 := e4.none_g (by rw [upd_same]; simp) (e13.c.free hd)
    have e34 := e14.trans e4
    have s4 : Same G1 G4 := (e2.g.trans e3.g).trans e4.g
    have hs4 := pow_le4 (a := ws.sum) (n := L) hs180 hL
    have hsp : 0 < ws.sum ^ L := whole_pos ok
    have hrl := ringL_le (ws := ws) (L := L) (a := a) hb
    have hfl : (ws.sum / gL ws) ^ L ≤ 1049760000 := pow_le4 (Nat.le_trans (Nat.div_le_self _ _) hs180) hL
    have hrb : ringL ws L (a, b) < 2 ^ 60 := by
      have h1 : (ws.sum / gL ws) ^ L * b ≤ 1049760000 * 2 ^ 20 := Nat.mul_le_mul hfl (Nat.le_of_lt hb2)
      omega
    have hFb : ws.sum ^ L * b < 2 ^ 60 := by
      have h1 : ws.sum ^ L * b ≤ 1049760000 * 2 ^ 20 := Nat.mul_le_mul hs4 (Nat.le_of_lt hb2)
      omega
    have hFp : 0 < ws.sum ^ L * b := Nat.mul_pos hsp hb
    have lus2 := plen pr2
    have llc := lc_len hk2 hL
    refine ⟨pc, rfl, ⟨us2, seqL e4.c.s hpc⟩, ?_⟩
    refine wk_list.loop (fun i σ H' => ∃ y8 y9 y10 kv G', σ = [some (.ref p), some (.int L), some (.ref pu), some (.ref pp), some (vN (ws.sum ^ L)), some (vN (ringL ws L (a, b))), some (.ref d), some (vN ((((lcN ws.length L).take i).map fun r => r.getD 0 0 * pA ws L (a, b) r.tail).sum)), y8, y9, y10] ∧ Ext PT nM G H G' H' ∧ Same G4 G' ∧ G' d = none ∧ H' d = some (.dT kv) ∧ kv.length ≤ i ∧ SpOk G' kv (pA ws L (a, b)) (pR ws L (a, b)) ((lcN ws.length L).take i))
      ⟨none, none, none, [], G4, rfl, e34, Same.refl _, g4, d4, Nat.le_refl _, fun r hr => by simp at hr⟩ (fun i σ H' _ ⟨_, _, _, _, G', _, e, sm, _⟩ => seqL e.c.s (seqL sm hpc)) ?_ ?_
    · rintro i v σ H5 H5' hi ⟨y8, y9, y10, kv, G5, rfl, e5, s5, g5, d5, l5, sp5⟩ ⟨rfl, hx⟩
      obtain ⟨r, hr, pr5, rfl, hpr⟩ := pget pr2 hx
      obtain ⟨n, x, y, z, er, hsum, hz, hn⟩ := lc_mem hk2 hL (List.mem_of_getElem? hr)
      subst er
      obtain ⟨p0, l0, u0, q0, v0⟩ := pw_at (j := 0) (c := x) prs hk1 hk2 (by omega) (by omega) (fun h => by cases h)
      obtain ⟨p1, l1, u1, q1, v1⟩ := pw_at (j := 1) (c := y) prs hk1 hk2 (by omega) (by omega) (fun h => by cases h)
      obtain ⟨p2, l2, u2, q2, v2⟩ := pw_at (j := 2) (c := z) prs hk1 hk2 (by omega) (by omega) (fun _ h => hz h)
      have hpow : ∀ j, ws.getD j 1 ≤ 180 := fun j => by
        by_cases h : j < ws.length
        · rw [List.getD_eq_getElem?_getD, List.getElem?_eq_getElem h]
          exact ok.le (List.getElem_mem h)
        · rw [List.getD_eq_getElem?_getD, List.getElem?_eq_none (by omega)]
          decide
      have b0 := pow_le4 (n := x) (hpow 0) (by omega)
      have b1 := pow_le4 (n := y) (hpow 1) (by omega)
      have b2 := pow_le4 (n := z) (hpow 2) (by omega)
      generalize ex0 : (ws.getD 0 1) ^ x = x0 at v0 b0
      generalize ex1 : (ws.getD 1 1) ^ y = x1 at v1 b1
      generalize ex2 : (ws.getD 2 1) ^ z = x2 at v2 b2
      have up : Same G1 H5' := (s4.trans s5).trans e5.c.s
      have hpp5 := seqL up hpp
      have hr5 : SqT K H5' pr5 ([n, x, y, z].map vN) := sq_ofT (e5.c.s _ _ (s5 _ _ hpr))
      have hu5 := sq_ofT (K := K) (e5.c.s _ _ (e5.g _ _ hu))
      refine ⟨_, rfl, pp, _, 0, _, rfl, rfl, hpp5, atI_nat (j := 0) u0, _, rfl, pr5, _, 1, _, rfl, rfl, hr5, atI_nat (j := 1) rfl, p0, _, x, _, rfl, rfl, seqL up q0, vNs_at rfl v0, ?_⟩
      refine ⟨_, rfl, pp, _, 1, _, rfl, rfl, hpp5, atI_nat (j := 1) u1, _, rfl, pr5, _, 2, _, rfl, rfl, hr5, atI_nat (j := 2) rfl, p1, _, y, _, rfl, rfl, seqL up q1, vNs_at rfl v1, _, _, rfl, rfl, .inl ⟨by omega, by omega⟩, ?_⟩
      refine ⟨_, rfl, pp, _, 2, _, rfl, rfl, hpp5, atI_nat (j := 2) u2, _, rfl, pr5, _, 3, _, rfl, rfl, hr5, atI_nat (j := 3) rfl, p2, _, z, _, rfl, rfl, seqL up q2, vNs_at rfl v2, _, _, rfl, rfl, .inr ⟨by omega, by omega⟩, ?_⟩
      refine ⟨_, rfl, _, rfl, pu, _, 1, _, rfl, rfl, hu5, atI_nat (j := 1) rfl, _, _, rfl, rfl, .inr ⟨by omega, by omega⟩, ?_⟩
      refine ⟨_, rfl, pu, _, 0, _, rfl, rfl, hu5, atI_nat (j := 0) rfl, _, rfl, _, _, rfl, rfl, .inl ⟨by omega, by omega⟩, _, _, rfl, ?_⟩
      refine ⟨_, rfl, _, _, rfl, rfl, .inr ⟨by omega, by omega⟩, ?_⟩
      refine ⟨_, rfl, _, rfl, pu, _, 1, _, rfl, rfl, hu5, atI_nat (j := 1) rfl, _, _, rfl, rfl, .inr ⟨by omega, by omega⟩, _, _, rfl, rfl, divI (by rw [natmul]; omega) (by rw [natmul]; omega), ?_⟩
      have hw3 : wt3 ws [x, y, z] = x0 * x1 * x2 := by
        rw [← ex0, ← ex1, ← ex2]
        rfl
      have hARC : (if ((a : Nat) : Int) * ((ws.sum ^ L : Nat) : Int) < (x0 : Int) * (x1 : Int) * (x2 : Int) * (b : Int) then ((a : Nat) : Int) * ((ws.sum ^ L : Nat) : Int) else (x0 : Int) * (x1 : Int) * (x2 : Int) * (b : Int)) * ((ringL ws L (a, b) : Nat) : Int) / (((ws.sum ^ L : Nat) : Int) * (b : Int)) = ((pA ws L (a, b) [x, y, z] : Nat) : Int) := by
        unfold pA
        rw [hw3]
        have hm : (if ((a : Nat) : Int) * ((ws.sum ^ L : Nat) : Int) < (x0 : Int) * (x1 : Int) * (x2 : Int) * (b : Int) then ((a : Nat) : Int) * ((ws.sum ^ L : Nat) : Int) else (x0 : Int) * (x1 : Int) * (x2 : Int) * (b : Int)) = ((min (x0 * x1 * x2 * b) (a * ws.sum ^ L) : Nat) : Int) := by
          rw [natmul, natmul, natmul, natmul]
          split <;> omega
        rw [hm, natmul, natmul, natdiv]
      have hREST : (x0 : Int) * (x1 : Int) * (x2 : Int) * ((ringL ws L (a, b) : Nat) : Int) / ((ws.sum ^ L : Nat) : Int) - ((pA ws L (a, b) [x, y, z] : Nat) : Int) = ((pR ws L (a, b) [x, y, z] : Nat) : Int) := by
        have hle : pA ws L (a, b) [x, y, z] ≤ wt3 ws [x, y, z] * ringL ws L (a, b) / ws.sum ^ L := by
          unfold pA
          have h1 : min (wt3 ws [x, y, z] * b) (a * ws.sum ^ L) * ringL ws L (a, b) ≤ wt3 ws [x, y, z] * ringL ws L (a, b) * b := by
            refine Nat.le_trans (Nat.mul_le_mul_right _ (Nat.min_le_left _ _)) ?_
            rw [Nat.mul_right_comm]
            exact Nat.le_refl _
          refine Nat.le_trans (Nat.div_le_div_right h1) ?_
          rw [Nat.mul_div_mul_right _ _ hb]
          exact Nat.le_refl _
        unfold pR
        rw [hw3] at hle ⊢
        rw [natmul, natmul, natmul, natdiv, Int.ofNat_sub hle]
      refine ⟨_, rfl, _, rfl, _, rfl, _, _, rfl, rfl, .inr ⟨by omega, by omega⟩, _, rfl, _, _, rfl, rfl, divI (by omega) (by omega), _, rfl, _, _, rfl, rfl, leS (by show 2 ≤ 100000; decide), fun t ht => ?_⟩
      have nt : d ≠ t := ne_of_none d5 ht
      have e6 := e5.trans (Ext.new (M := nM) (o := .tup [.int ((if ((a : Nat) : Int) * ((ws.sum ^ L : Nat) : Int) < (x0 : Int) * (x1 : Int) * (x2 : Int) * (b : Int) then ((a : Nat) : Int) * ((ws.sum ^ L : Nat) : Int) else (x0 : Int) * (x1 : Int) * (x2 : Int) * (b : Int)) * ((ringL ws L (a, b) : Nat) : Int) / (((ws.sum ^ L : Nat) : Int) * (b : Int))), .int ((x0 : Int) * (x1 : Int) * (x2 : Int) * ((ringL ws L (a, b) : Nat) : Int) / ((ws.sum ^ L : Nat) : Int) - (if ((a : Nat) : Int) * ((ws.sum ^ L : Nat) : Int) < (x0 : Int) * (x1 : Int) * (x2 : Int) * (b : Int) then ((a : Nat) : Int) * ((ws.sum ^ L : Nat) : Int) else (x0 : Int) * (x1 : Int) * (x2 : Int) * (b : Int)) * ((ringL ws L (a, b) : Nat) : Int) / (((ws.sum ^ L : Nat) : Int) * (b : Int)))]) e5.c ht)
      have ht6 := @upd_same G5 t
      have hrow6 := sq_ofT (K := K) (e6.c.s _ _ (same_upd (e5.c.free ht) _ _ (s5 _ _ hpr)))
      refine ⟨_, rfl, _, rfl, 1, rfl, pr5, [n, x, y, z].map vN, rfl, hrow6, ?_, fun t2 ht2 => ?_⟩
      · show ¬(HT.sIx _ 0 (some ((1 : Nat) : Int)) = 0 ∧ _)
        rw [HT.sIx_nat]
        simp
      have e7 := e6.trans (Ext.loc (M := nM) (o := .tup (cutV ([n, x, y, z].map vN) (some ((1 : Nat) : Int)) none)) e6.c ht2)
      have ne2 : d ≠ t2 := ne_of_none (by rw [upd_ne nt]; exact d5) ht2
      have ht5 := e5.c.free ht
      have d7 : ∀ o1 o2, upd (upd H5' t o1) t2 o2 d = some (.dT kv) := fun _ _ => by rw [upd_ne ne2, upd_ne nt]; exact d5
      refine ⟨d, _, rfl, DPut.t (k := keyT [x, y, z]) (d7 _ _) (by rw [keyT_v]; exact upd_same) (ltS (by omega)), ?_⟩
      have hrow8 : ∀ o1, upd (upd (upd H5' t o1) t2 (.tup (cutV ([n, x, y, z].map vN) (some ((1 : Nat) : Int)) none))) d (.dT (putK kv (keyT [x, y, z]) (.ref t))) pr5 = some (.tup ([n, x, y, z].map vN)) := fun o1 => by
        have h0 : H5' pr5 = some (.tup ([n, x, y, z].map vN)) := e5.c.s _ _ (s5 _ _ hpr)
        have n1 : pr5 ≠ d := ne_of_none (s5 _ _ hpr) g5
        have n2 : pr5 ≠ t := ne_of_none h0 ht
        have n3 : pr5 ≠ t2 := ne_of_none (by rw [upd_ne n2]; exact h0) ht2
        rw [upd_ne n1, upd_ne n3, upd_ne n2]
        exact h0
      refine ⟨_, rfl, _, rfl, pr5, _, 0, _, rfl, rfl, sq_ofT (hrow8 _), atI_nat (j := 0) rfl, _, rfl, _, _, rfl, rfl, .inl ⟨by omega, by omega⟩, ?_⟩
      have htk : (lcN ws.length L).take (i + 1) = (lcN ws.length L).take i ++ [[n, x, y, z]] := take_get hr
      have hacc : V.int ((((((lcN ws.length L).take i).map fun r => r.getD 0 0 * pA ws L (a, b) r.tail).sum : Nat) : Int) + (n : Int) * ((if ((a : Nat) : Int) * ((ws.sum ^ L : Nat) : Int) < (x0 : Int) * (x1 : Int) * (x2 : Int) * (b : Int) then ((a : Nat) : Int) * ((ws.sum ^ L : Nat) : Int) else (x0 : Int) * (x1 : Int) * (x2 : Int) * (b : Int)) * ((ringL ws L (a, b) : Nat) : Int) / (((ws.sum ^ L : Nat) : Int) * (b : Int)))) = vN ((((lcN ws.length L).take (i + 1)).map fun r => r.getD 0 0 * pA ws L (a, b) r.tail).sum) := by
        rw [hARC, natmul, htk, List.map_append, List.sum_append]
        show V.int _ = V.int _
        rw [Int.natCast_add]
        simp
      rw [← hacc]
      have g5t : d ≠ t := nt
      refine ⟨_, _, rfl, rfl, some (V.ref pr5), some (V.int ((x0 : Int) * (x1 : Int) * (x2 : Int))), some (V.int ((if ((a : Nat) : Int) * ((ws.sum ^ L : Nat) : Int) < (x0 : Int) * (x1 : Int) * (x2 : Int) * (b : Int) then ((a : Nat) : Int) * ((ws.sum ^ L : Nat) : Int) else (x0 : Int) * (x1 : Int) * (x2 : Int) * (b : Int)) * ((ringL ws L (a, b) : Nat) : Int) / (((ws.sum ^ L : Nat) : Int) * (b : Int)))), _, _, rfl, e7.mut (.inl (e13.nn hd)) (by rw [upd_ne nt]; exact g5) nd, s5.trans (same_upd ht5), by rw [upd_ne nt]; exact g5, upd_same, ?_, ?_⟩
      · have := length_putK kv (keyT [x, y, z]) (.ref t)
        omega
      · rw [htk]
        intro r hr2
        rw [valV_put]
        by_cases e : r.tail = [x, y, z]
        · rw [if_pos (by rw [e]), e]
          refine ⟨t, rfl, ?_⟩
          rw [upd_same]
          have eo := hREST
          rw [← hARC] at eo
          rw [eo, hARC]
          rfl
        · rw [if_neg (fun q => e (keyT_inj q))]
          rcases List.mem_append.mp hr2 with h | h
          · obtain ⟨t9, h1, h2⟩ := sp5 r h
            exact ⟨t9, h1, same_upd ht5 _ _ h2⟩
          · have := List.mem_singleton.mp h
            subst this
            exact absurd rfl e
    · rintro σ H5 ⟨y8, y9, y10, kv, G5, rfl, e5, s5, g5, d5, l5, sp5⟩
      rw [lus2, List.take_length] at sp5
      rw [lus2, List.take_length]
      have e6 := e5.frz (e13.nn hd) d5 nd
      intro pd hpd
      have npd : pd ≠ PT := e6.c.ne hpd
      have e7 := e6.trans (Ext.loc (M := nM) (o := .dK []) e6.c hpd)
      refine ⟨_, rfl, p, _, rfl, .inl (seqL e7.c.s (seqL e7.g hp)), ?_⟩
      rw [List.length_map]
      refine ⟨_, rfl, _, rfl, _, rfl, _, rfl, upd_same, [(kS "kinds", vN ws.length), (kS "length", vN L), (kS "ring", vN (ringL ws L (a, b))), (kS "spans", .ref d), (kS "arcs", vN _)], rfl, by show 5 ≤ 15; decide, ?_⟩
      rw [upd_upd]
      exact q _ _ _ (e6.trans (Ext.new e6.c hpd)) ⟨pd, d, kv, rfl, upd_same, same_upd (e6.c.free hpd) _ _ upd_same, SpOk.to (fun b o z => same_upd (e6.c.free hpd) _ _ (same_upd g5 _ _ z)) sp5⟩
end
end K43
-- part W30
/-! W30: the law's sums under a prefix. -/
namespace K43
open PySem PySem.Spec PyProof.Rows L2
section
variable {P : Program} {w : World} {K : PySem.W.Frag} {mg : Str → Option Value} {base : Heap} {cS cF cG cT cM cK : Addr} {PT cc : Addr}
theorem dg_kinds {H : Hp} {p d : Addr} {k L R A : Nat} (h : H p = some (.dK (plKV k L R d A))) : DGet H p (V.str "kinds") (some (vN k)) := by
  have := DGet.k (k := kS "kinds") h
  rw [pl_kinds] at this
  exact this
theorem dg_length {H : Hp} {p d : Addr} {k L R A : Nat} (h : H p = some (.dK (plKV k L R d A))) : DGet H p (V.str "length") (some (vN L)) := by
  have := DGet.k (k := kS "length") h
  rw [pl_length] at this
  exact this
theorem dg_ring {H : Hp} {p d : Addr} {k L R A : Nat} (h : H p = some (.dK (plKV k L R d A))) : DGet H p (V.str "ring") (some (vN R)) := by
  have := DGet.k (k := kS "ring") h
  rw [pl_ring] at this
  exact this
theorem dg_spans {H : Hp} {p d : Addr} {k L R A : Nat} (h : H p = some (.dK (plKV k L R d A))) : DGet H p (V.str "spans") (some (.ref d)) := by
  have := DGet.k (k := kS "spans") h
  rw [pl_spans] at this
  exact this
theorem dg_arcs {H : Hp} {p d : Addr} {k L R A : Nat} (h : H p = some (.dK (plKV k L R d A))) : DGet H p (V.str "arcs") (some (vN A)) := by
  have := DGet.k (k := kS "arcs") h
  rw [pl_arcs] at this
  exact this
def und (f : List Nat → Nat) (k left : Nat) (u0 u1 u2 : Nat) : Nat := ((lcN k left).map fun r => r.getD 0 0 * f [u0 + r.getD 1 0, u1 + r.getD 2 0, u2 + r.getD 3 0]).sum
theorem sc_lunder : FnScope ["_law_plan_here", "_law_used", "_law_left", "_law_arcs", "_law_rests", "_law_count", "_law_arc", "_law_rest"] ["_law_plan_here", "_law_used", "_law_left"] (defScope (topS 49)) := ⟨rfl, rfl, rfl, by decide +kernel, rfl, by decide +kernel, by decide +kernel⟩
def spLunder (PT : Addr) (K : PySem.W.Frag) : Sp := fun vs H Q _ => ∃ (G : Hp) (v : V) (pu : Addr) (y : Pl) (u0 u1 u2 left : Nat), vs = [v, .ref pu, .int left] ∧ Cl PT G H ∧ PlAt G v y ∧ H pu = some (.lst [vN u0, vN u1, vN u2]) ∧ pu ≠ PT ∧ 2 ≤ y.k ∧ y.k ≤ 3 ∧ y.L ≤ 4 ∧ u0 + u1 + u2 + left = y.L ∧ (y.k = 2 → u2 = 0) ∧ Ret PT G H Q fun G' r => TN K G' r [und y.f y.k left u0 u1 u2, und y.g y.k left u0 u1 u2]
theorem ok_lunder (T : Txt K mg cS cF cG cT cM cK) : Cal P w K mg base "_law_under" 2 ["_law_plan_here", "_law_used", "_law_left"] (spLunder PT K) := by
  refine T.d_law_under.ok sc_lunder (fun vs H Q E h => ?_) (fun f cdv A outer s H vs Q E hr h => ?_)
  · obtain ⟨G, v, pu, y, u0, u1, u2, left, rfl, _⟩ := h
    rfl
  · obtain ⟨G, v, pu, y, u0, u1, u2, left, rfl, c, hv, hu, nu, hk1, hk2, hL, hsum, hz, q⟩ := h
    obtain ⟨p, d, kv, rfl, hp, hd, hsp⟩ := id hv
    refine ⟨_, (pss_cons (ps_s 3 sc_lunder.nd pe_int)
  (pss_cons (ps_s 4 sc_lunder.nd pe_int)
  (pss_cons (ps_for PassesOwn.never rfl (pi_listK (K := K) (pe_c (ok_lcts (PT := PT) T) (hr.mono (by first | decide | omega)) (pa_cons (pe_dget (hu_of hr) (pv 0) pe_str (fun _ _ => rfl)) (pa_cons (pv 2) pa_nil)))) (pg_n 5 sc_lunder.nd)
  (pss_cons (ps_asg (pe_dget (hu_of hr) (pe_dget (hu_of hr) (pv 0) pe_str (fun _ _ => rfl)) (pe_tup (pa_cons (pe_op op_add (pe_ix (ix_listK (K := K)) (pv 1) pe_int (fun _ _ => rfl)) (pe_ix (ix_tupK (K := K)) (pv 5) pe_int (fun _ _ => rfl))) (pa_cons (pe_op op_add (pe_ix (ix_listK (K := K)) (pv 1) pe_int (fun _ _ => rfl)) (pe_ix (ix_tupK (K := K)) (pv 5) pe_int (fun _ _ => rfl))) (pa_cons (pe_op op_add (pe_ix (ix_listK (K := K)) (pv 1) pe_int (fun _ _ => rfl)) (pe_ix (ix_tupK (K := K)) (pv 5) pe_int (fun _ _ => rfl))) pa_nil)))) (fun _ _ => rfl)) (pg_tupK (K := K) (n := 2) (pgs_cons (pg_n 6 sc_lunder.nd) (pgs_cons (pg_n 7 sc_lunder.nd) pgs_nil))))
  (pss_cons (ps_s 3 sc_lunder.nd (pe_op op_add (pv 3) (pe_op op_mul (pe_ix (ix_tupK (K := K)) (pv 5) pe_int (fun _ _ => rfl)) (pv 6))))
  (pss_one (ps_s 4 sc_lunder.nd (pe_op op_add (pv 4) (pe_op op_mul (pe_ix (ix_tupK (K := K)) (pv 5) pe_int (fun _ _ => rfl)) (pv 7))))))))
  (pss_one (ps_ret (pe_tup (pa_cons (pv 3) (pa_cons (pv 4) pa_nil)))))))), ?_⟩
    refine ⟨_, rfl, p, _, rfl, dg_kinds (c.s _ _ hp), ?_⟩
    refine ⟨_, rfl, G, y.k, left, rfl, c, hk1, hk2, by omega, fun v1 G1 H1 e1 r1 => ?_⟩
    obtain ⟨pc, us, rfl, hpc, pr⟩ := r1
    have lus := plen pr
    refine ⟨pc, rfl, ⟨us, seqL e1.c.s hpc⟩, ?_⟩
    refine wk_list.loop (fun i σ H' => ∃ y5 y6 y7 G', σ = [some (.ref p), some (.ref pu), some (.int left), some (vN (((lcN y.k left).take i).map fun r => r.getD 0 0 * y.f [u0 + r.getD 1 0, u1 + r.getD 2 0, u2 + r.getD 3 0]).sum), some (vN (((lcN y.k left).take i).map fun r => r.getD 0 0 * y.g [u0 + r.getD 1 0, u1 + r.getD 2 0, u2 + r.getD 3 0]).sum), y5, y6, y7] ∧ Ext PT nM G H G' H' ∧ Same G1 G')
      ⟨none, none, none, G1, rfl, e1, Same.refl _⟩ (fun i σ H' _ ⟨_, _, _, G', _, e, sm⟩ => seqL e.c.s (seqL sm hpc)) ?_ ?_
    · rintro i v σ H5 H5' hi ⟨y5, y6, y7, G5, rfl, e5, s5⟩ ⟨rfl, hx⟩
      obtain ⟨r, hr2, pr5, rfl, hpr⟩ := pget pr hx
      obtain ⟨n, x, z1, z2, er, hs2, hz2, hn⟩ := lc_mem hk2 (by omega) (List.mem_of_getElem? hr2)
      subst er
      have hr5 : SqT K H5' pr5 ([n, x, z1, z2].map vN) := sq_ofT (e5.c.s _ _ (s5 _ _ hpr))
      have hp5 := e5.c.s _ _ (e5.g _ _ hp)
      have hd5 := e5.c.s _ _ (e5.g _ _ hd)
      have hu5 : SqL K H5' pu [vN u0, vN u1, vN u2] := sq_ofL (e5.stay0 hu nu)
      obtain ⟨m, hm⟩ := mem_lc (k := y.k) (L := y.L) (x := u0 + x) (y := u1 + z1) (z := u2 + z2) hk1 (by omega) (fun h => by have := hz h; have := hz2 h; omega)
      obtain ⟨t, ht1, ht2⟩ := hsp _ hm
      have ht5 := e5.c.s _ _ (e5.g _ _ ht2)
      refine ⟨_, rfl, p, _, rfl, dg_spans hp5, ?_⟩
      refine ⟨_, rfl, pu, _, 0, _, rfl, rfl, hu5, atI_nat (j := 0) rfl, _, rfl, pr5, _, 1, _, rfl, rfl, hr5, atI_nat (j := 1) rfl, _, _, rfl, rfl, ?_⟩
      refine ⟨_, rfl, pu, _, 1, _, rfl, rfl, hu5, atI_nat (j := 1) rfl, _, rfl, pr5, _, 2, _, rfl, rfl, hr5, atI_nat (j := 2) rfl, _, _, rfl, rfl, ?_⟩
      refine ⟨_, rfl, pu, _, 2, _, rfl, rfl, hu5, atI_nat (j := 2) rfl, _, rfl, pr5, _, 3, _, rfl, rfl, hr5, atI_nat (j := 3) rfl, _, _, rfl, rfl, leS (by show 3 ≤ 100000; decide), fun tk htk => ?_⟩
      have e6 := e5.trans (Ext.loc (M := nM) (o := .tup [V.int ((u0 : Int) + (x : Int)), V.int ((u1 : Int) + (z1 : Int)), V.int ((u2 : Int) + (z2 : Int))]) e5.c htk)
      have hd6 := e6.c.s _ _ (e6.g _ _ hd)
      have htk6 : upd H5' tk (.tup [V.int ((u0 : Int) + (x : Int)), V.int ((u1 : Int) + (z1 : Int)), V.int ((u2 : Int) + (z2 : Int))]) tk = some (.tup ((keyT [u0 + x, u1 + z1, u2 + z2]).map kV)) := by
        rw [keyT_v, upd_same]
        rfl
      have hg := DGet.t (k := keyT [u0 + x, u1 + z1, u2 + z2]) hd6 htk6
      rw [show valV kv (keyT [u0 + x, u1 + z1, u2 + z2]) = some (.ref t) from ht1] at hg
      have hr6 : SqT K _ pr5 ([n, x, z1, z2].map vN) := sq_ofT (e6.c.s _ _ (s5 _ _ hpr))
      refine ⟨d, _, rfl, hg, ?_⟩
      refine ⟨t, [_, _], rfl, sq_ofT (e6.c.s _ _ (e6.g _ _ ht2)), rfl, _, _, rfl, _, _, rfl, rfl, ?_⟩
      refine ⟨_, rfl, _, rfl, pr5, _, 0, _, rfl, rfl, hr6, atI_nat (j := 0) rfl, _, rfl, _, _, rfl, rfl, .inl ⟨by omega, by omega⟩, _, _, rfl, rfl, ?_⟩
      refine ⟨_, rfl, _, rfl, pr5, _, 0, _, rfl, rfl, hr6, atI_nat (j := 0) rfl, _, rfl, _, _, rfl, rfl, .inl ⟨by omega, by omega⟩, _, _, rfl, rfl, ?_⟩
      have htk : (lcN y.k left).take (i + 1) = (lcN y.k left).take i ++ [[n, x, z1, z2]] := take_get hr2
      have hac : ∀ F : List Nat → Nat, V.int ((((((lcN y.k left).take i).map fun r => r.getD 0 0 * F [u0 + r.getD 1 0, u1 + r.getD 2 0, u2 + r.getD 3 0]).sum : Nat) : Int) + (n : Int) * ((F [u0 + x, u1 + z1, u2 + z2] : Nat) : Int)) = vN ((((lcN y.k left).take (i + 1)).map fun r => r.getD 0 0 * F [u0 + r.getD 1 0, u1 + r.getD 2 0, u2 + r.getD 3 0]).sum) := fun F => by
        rw [natmul, htk, List.map_append, List.sum_append]
        show V.int _ = V.int _
        rw [Int.natCast_add]
        simp
      rw [← hac, ← hac]
      exact ⟨some (.ref pr5), some (vN (y.f [u0 + x, u1 + z1, u2 + z2])), some (vN (y.g [u0 + x, u1 + z1, u2 + z2])), G5, rfl, e6, s5⟩
    · rintro σ H5 ⟨y5, y6, y7, G5, rfl, e5, s5⟩
      rw [lus, List.take_length]
      refine ⟨_, rfl, _, rfl, leS (by show 2 ≤ 100000; decide), fun t ht => q _ _ _ (e5.trans (Ext.new e5.c ht)) ⟨t, rfl, upd_same⟩⟩
end
end K43
-- part W31
/-! W31: the law's layout of a text. -/
namespace K43
open PySem PySem.Spec PyProof.Rows L2
section
variable {P : Program} {w : World} {K : PySem.W.Frag} {mg : Str → Option Value} {base : Heap} {cS cF cG cT cM cK : Addr} {PT cc : Addr}
theorem one_set {cs : List Nat} {a : Nat} (h : a < cs.length) : (cs.map vN).set a (V.int (((cs.getD a 0 : Nat) : Int) + 1)) = (oneM cs a).map vN := by
  unfold oneM
  rw [List.set_eq_take_append_cons_drop, if_pos (by rw [List.length_map]; exact h), List.map_append, List.map_cons, List.map_take, List.map_drop]
  rfl
theorem one_at {cs : List Nat} {a : Nat} (h : a < cs.length) : (oneM cs a)[a]? = some (cs.getD a 0 + 1) := by
  unfold oneM
  rw [List.getElem?_append_right (by rw [List.length_take]; omega), List.length_take, Nat.min_eq_left (by omega), Nat.sub_self]
  rfl
theorem one_back {cs : List Nat} {a : Nat} (h : a < cs.length) : ((oneM cs a).map vN).set a (V.int (((cs.getD a 0 + 1 : Nat) : Int) - 1)) = cs.map vN := by
  rw [← one_set h, List.set_set]
  have e : V.int (((cs.getD a 0 + 1 : Nat) : Int) - 1) = vN (cs.getD a 0) := by
    show V.int _ = V.int _
    rw [Int.natCast_add]
    congr 1
    omega
  rw [e]
  have h2 : (cs.map vN)[a]? = some (vN (cs.getD a 0)) := by
    rw [List.getElem?_map, List.getD_eq_getElem?_getD, List.getElem?_eq_getElem h]
    rfl
  obtain ⟨h3, h4⟩ := List.getElem?_eq_some_iff.mp h2
  rw [← h4, List.set_getElem_self]
theorem ixN_n {n j : Nat} (hj : j < n) : ixN n (j : Int) = some j := by
  unfold ixN
  rw [if_pos (by omega), if_pos (by omega), Int.toNat_natCast]
theorem three {cs : List Nat} (h : cs.length = 3) : cs = [cs.getD 0 0, cs.getD 1 0, cs.getD 2 0] := by
  match cs, h with
  | [a, b, c], _ => rfl
def undL (f : List Nat → Nat) (k m : Nat) (c : List Nat) : Nat := und f k m (c.getD 0 0) (c.getD 1 0) (c.getD 2 0)
def layP (f : List Nat → Nat) (k : Nat) : Nat → List Nat → List Nat → Nat
  | m + 1, c, a :: l => sumTo (fun b => undL f k m (oneM c b)) a + layP f k m (oneM c a) l
  | _, _, _ => 0
def LayAt (G : Hp) (r : V) (a0 a1 b0 b1 : Nat) : Prop := ∃ p p1 p2, r = .ref p ∧ G p = some (.tup [.ref p1, .ref p2]) ∧ G p1 = some (.tup [vN a0, vN a1]) ∧ G p2 = some (.tup [vN b0, vN b1])
def layA (y : Pl) (l : List Nat) : Nat := layP y.f y.k y.L [0, 0, 0] l
def layR (y : Pl) (l : List Nat) : Nat := y.A + layP y.g y.k y.L [0, 0, 0] l
theorem sc_llay : FnScope ["_law_plan_here", "_law_text", "_law_arcs", "_law_rests", "_law_used", "_law_place", "_law_letter", "_law_lesser", "_law_more", "_law_own"] ["_law_plan_here", "_law_text"] (defScope (topS 50)) := ⟨rfl, rfl, rfl, by decide +kernel, rfl, by decide +kernel, by decide +kernel⟩
def spLlay (PT : Addr) : Sp := fun vs H Q _ => ∃ (G : Hp) (v : V) (y : Pl) (l : List Nat), vs = [v, .str (tx l)] ∧ Cl PT G H ∧ PlAt G v y ∧ 2 ≤ y.k ∧ y.k ≤ 3 ∧ y.L ≤ 4 ∧ okT y.k y.L l ∧ Ret PT G H Q fun G' r => LayAt G' r (layA y l) (layA y l + y.f (endM [0, 0, 0] l)) (layR y l) (layR y l + y.g (endM [0, 0, 0] l))
theorem ok_llay (T : Txt K mg cS cF cG cT cM cK) : Cal P w K mg base "_law_layout" 3 ["_law_plan_here", "_law_text"] (spLlay PT) := by
  refine T.d_law_layout.ok sc_llay (fun vs H Q E h => ?_) (fun f cdv A outer s H vs Q E hr h => ?_)
  · obtain ⟨G, v, y, l, rfl, _⟩ := h
    rfl
  · obtain ⟨G, v, y, l, rfl, c, hv, hk1, hk2, hL, hl, q⟩ := h
    obtain ⟨p, d, kv, rfl, hp, hd, hsp⟩ := id hv
    refine ⟨_, (pss_cons (ps_s 2 sc_llay.nd pe_int)
  (pss_cons (ps_s 3 sc_llay.nd (pe_dget (hu_of hr) (pv 0) pe_str (fun _ _ => rfl)))
  (pss_cons (ps_s 4 sc_llay.nd (pe_lst (pa_cons pe_int (pa_cons pe_int (pa_cons pe_int pa_nil)))))
  (pss_cons (ps_for PassesOwn.never rfl (pi_range1 rfl T.z_range (pa_cons (pe_callB call_len_str (by rfl) T.z_len (by decide +kernel) (pa_cons (pv 1) pa_nil)) pa_nil)) (pg_n 5 sc_llay.nd)
  (pss_cons (ps_s 6 sc_llay.nd (pe_strindex pe_str (pe_ix ix_str (pv 1) (pv 5) (fun _ _ => rfl))))
  (pss_cons (ps_for PassesOwn.never rfl (pi_range1 rfl T.z_range (pa_cons (pv 6) pa_nil)) (pg_n 7 sc_llay.nd)
  (pss_cons (ps_asg (pe_op op_add (pe_ix (ix_listK (K := K)) (pv 4) (pv 7) (fun _ _ => rfl)) pe_int) (pg_sub (pv 4) (pv 7) set_list))
  (pss_cons (ps_s 8 sc_llay.nd (pe_c (ok_lunder (PT := PT) T) (hr.mono (by first | decide | omega)) (pa_cons (pv 0) (pa_cons (pv 4) (pa_cons (pe_op op_sub (pe_op op_sub (pe_dget (hu_of hr) (pv 0) pe_str (fun _ _ => rfl)) (pv 5)) pe_int) pa_nil)))))
  (pss_cons (ps_asg (pe_op op_sub (pe_ix (ix_listK (K := K)) (pv 4) (pv 7) (fun _ _ => rfl)) pe_int) (pg_sub (pv 4) (pv 7) set_list))
  (pss_cons (ps_s 2 sc_llay.nd (pe_op op_add (pv 2) (pe_ix (ix_tupK (K := K)) (pv 8) pe_int (fun _ _ => rfl))))
  (pss_one (ps_s 3 sc_llay.nd (pe_op op_add (pv 3) (pe_ix (ix_tupK (K := K)) (pv 8) pe_int (fun _ _ => rfl))))))))))
  (pss_one (ps_asg (pe_op op_add (pe_ix (ix_listK (K := K)) (pv 4) (pv 6) (fun _ _ => rfl)) pe_int) (pg_sub (pv 4) (pv 6) set_list))))))
  (pss_cons (ps_s 9 sc_llay.nd (pe_dget (hu_of hr) (pe_dget (hu_of hr) (pv 0) pe_str (fun _ _ => rfl)) (pe_tup (pa_cons (pe_ix (ix_listK (K := K)) (pv 4) pe_int (fun _ _ => rfl)) (pa_cons (pe_ix (ix_listK (K := K)) (pv 4) pe_int (fun _ _ => rfl)) (pa_cons (pe_ix (ix_listK (K := K)) (pv 4) pe_int (fun _ _ => rfl)) pa_nil)))) (fun _ _ => rfl)))
  (pss_one (ps_ret (pe_tup (pa_cons (pe_tup (pa_cons (pv 2) (pa_cons (pe_op op_add (pv 2) (pe_ix (ix_tupK (K := K)) (pv 9) pe_int (fun _ _ => rfl))) pa_nil))) (pa_cons (pe_tup (pa_cons (pv 3) (pa_cons (pe_op op_add (pv 3) (pe_ix (ix_tupK (K := K)) (pv 9) pe_int (fun _ _ => rfl))) pa_nil))) pa_nil)))))))))), ?_⟩
    refine ⟨_, rfl, p, _, rfl, dg_arcs (c.s _ _ hp), ?_⟩
    refine ⟨leS (by show 3 ≤ 100000; decide), fun pu hpu => ?_⟩
    have nu : pu ≠ PT := c.ne hpu
    have e0 := Ext.loc (M := nM) (o := .lst [vN 0, vN 0, vN 0]) c hpu
    have hsz : (tx l).length = l.length := tx_len l
    have hlen : l.length = y.L := hl.1
    refine ⟨_, rfl, _, rfl, leS (by rw [hsz]; omega), _, rfl, by omega, by omega, ?_⟩
    refine wk_range.loop (n := (((tx l).length : Nat) : Int).toNat) (fun i σ H' => ∃ F R y5 y6 y7 y8 y9 cs G', σ = [some (.ref p), some (.str (tx l)), some (vN F), some (vN R), some (.ref pu), y5, y6, y7, y8, y9] ∧ Ext PT nM G H G' H' ∧ G' pu = none ∧ H' pu = some (.lst (cs.map vN)) ∧ cs.length = 3 ∧ cs.sum = i ∧ (y.k = 2 → cs.getD 2 0 = 0) ∧
        endM [0, 0, 0] l = endM cs (l.drop i) ∧ layP y.f y.k y.L [0, 0, 0] l = F + layP y.f y.k (y.L - i) cs (l.drop i) ∧ y.A + layP y.g y.k y.L [0, 0, 0] l = R + layP y.g y.k (y.L - i) cs (l.drop i))
      ⟨0, y.A, none, none, none, none, none, [0, 0, 0], G, rfl, e0, c.free hpu, upd_same, rfl, rfl, fun _ => rfl, rfl, by rw [Nat.zero_add]; rfl, rfl⟩ (fun _ _ _ _ _ => True.intro) ?_ ?_
    · rintro i v σ H2 H2' hi ⟨F, R, y5, y6, y7, y8, y9, cs, G2, rfl, e2, g2, d2, hcl, hcs, hcz, hend, hpf, hpg⟩ ⟨rfl, rfl⟩
      rw [Int.toNat_natCast, hsz, hlen] at hi
      obtain ⟨a, ha⟩ : ∃ a, l[i]? = some a := ⟨_, List.getElem?_eq_getElem (by omega)⟩
      have hal : a < y.k := hl.2 a (List.mem_of_getElem? ha)
      obtain ⟨m, hm⟩ : ∃ m, y.L - i = m + 1 := ⟨y.L - i - 1, by omega⟩
      have hdrop : l.drop i = a :: l.drop (i + 1) := by
        obtain ⟨h1, h2⟩ := List.getElem?_eq_some_iff.mp ha
        rw [List.drop_eq_getElem_cons h1, h2]
      rw [hm, hdrop] at hpf hpg
      rw [hdrop] at hend
      have hat : atI (tx l).cps.toList ((0 : Int) + (i : Nat)) = some (a + 97) := by
        rw [Int.zero_add]
        refine atI_nat ?_
        rw [tx_cps, List.getElem?_map, ha]
        rfl
      refine ⟨⟨_, rfl⟩, _, rfl, _, rfl, tx l, _, a + 97, rfl, rfl, leS (by rw [tx_len]; omega), hat, tx [0, 1, 2], tx [a], a, ?_, rfl, idx_tx a (by omega), ?_⟩
      · show V.str _ = V.str _
        rw [← abc_str]
      refine ⟨_, rfl, _, rfl, by omega, by omega, ?_⟩
      refine wk_range.loop (n := ((a : Nat) : Int).toNat) (fun b σ H' => ∃ y7 y8 G', σ = [some (.ref p), some (.str (tx l)), some (vN (F + sumTo (fun b => undL y.f y.k m (oneM cs b)) b)), some (vN (R + sumTo (fun b => undL y.g y.k m (oneM cs b)) b)), some (.ref pu), some (.int (0 + (i : Nat))), some (vN a), y7, y8, y9] ∧ Ext PT nM G H G' H' ∧ Same G2 G' ∧ G' pu = none ∧ H' pu = some (.lst (cs.map vN)))
        ⟨y7, y8, G2, rfl, e2, Same.refl _, g2, d2⟩ (fun _ _ _ _ _ => True.intro) ?_ ?_
      · rintro b v σ H3 H3' hb ⟨y7, y8, G3, rfl, e3, s3, g3, d3⟩ ⟨rfl, rfl⟩
        rw [Int.toNat_natCast] at hb
        have hbc : b < cs.length := by omega
        have hgb : cs[b]? = some (cs.getD b 0) := by
          rw [List.getD_eq_getElem?_getD, List.getElem?_eq_getElem hbc]
          rfl
        have hix : ixN (cs.map vN).length ((0 : Int) + (b : Nat)) = some b := by
          rw [Int.zero_add]
          exact ixN_n (by rw [List.length_map]; exact hbc)
        have hat2 : ∀ {xs : List V} {x : V}, xs[b]? = some x → atI xs ((0 : Int) + (b : Nat)) = some x := fun h => by
          rw [Int.zero_add]
          exact atI_nat h
        have n0 : (0 : Int) ≤ 0 + (b : Nat) := by omega
        refine ⟨_, rfl, _, rfl, pu, _, _, _, rfl, rfl, sq_ofL d3, hat2 (x := vN (cs.getD b 0)) (by rw [List.getElem?_map, hgb]; rfl), _, _, rfl, rfl, _, rfl, _, rfl, pu, _, _, b, rfl, rfl, d3, hix, ?_⟩
        rw [one_set hbc]
        have e4 := e3.mut (o := .lst ((oneM cs b).map vN)) (.inl hpu) g3 nu
        have ht3 := three (cs := oneM cs b) (by rw [one_len hbc]; exact hcl)
        have hs1 : (oneM cs b).sum = cs.sum + 1 := one_sum hbc
        have hz2 : y.k = 2 → (oneM cs b).getD 2 0 = 0 := fun h => by
          have h0 := hcz h
          rw [three hcl, h0]
          rcases (show b = 0 ∨ b = 1 by omega) with e | e <;> subst e <;> rfl
        have hsum3 : (oneM cs b).getD 0 0 + (oneM cs b).getD 1 0 + (oneM cs b).getD 2 0 + m = y.L := by
          rw [ht3] at hs1
          simp only [List.sum_cons, List.sum_nil] at hs1
          omega
        refine ⟨_, rfl, _, rfl, _, rfl, p, _, rfl, dg_length (e4.c.s _ _ (e4.g _ _ hp)), _, rfl, _, _, rfl, rfl, _, _, rfl, rfl, ?_⟩
        refine ⟨G3, .ref p, pu, y, (oneM cs b).getD 0 0, (oneM cs b).getD 1 0, (oneM cs b).getD 2 0, m, ?_, e4.c, hv.to e4.g, ?_, nu, hk1, hk2, hL, hsum3, hz2, fun v5 G5 H5 e5 r5 => ?_⟩
        · have : ((y.L : Nat) : Int) - (0 + (i : Nat)) - 1 = ((m : Nat) : Int) := by omega
          rw [← this]
          rfl
        · rw [upd_same]
          conv => lhs; rw [ht3]
          rfl
        obtain ⟨pm, rfl, hpm⟩ := r5
        have e45 := e4.trans e5
        have d5 : H5 pu = some (.lst ((oneM cs b).map vN)) := e5.stay0 upd_same nu
        have g5 := e5.none_g (by rw [upd_same]; simp) g3
        refine ⟨_, rfl, _, rfl, pu, _, _, _, rfl, rfl, sq_ofL d5, hat2 (x := vN (cs.getD b 0 + 1)) (by rw [List.getElem?_map, one_at hbc]; rfl), _, _, rfl, rfl, _, rfl, _, rfl, pu, _, _, b, rfl, rfl, d5, ?_, ?_⟩
        · rw [List.length_map, one_len hbc, ← List.length_map (f := vN)]
          exact hix
        rw [one_back hbc]
        have e6 := e45.mut (o := .lst (cs.map vN)) (.inl hpu) g5 nu
        have hpm6 := sq_ofT (K := K) (e6.c.s _ _ hpm)
        refine ⟨_, rfl, _, rfl, pm, _, 0, _, rfl, rfl, hpm6, atI_nat (j := 0) rfl, _, _, rfl, rfl, ?_⟩
        refine ⟨_, rfl, _, rfl, pm, _, 1, _, rfl, rfl, hpm6, atI_nat (j := 1) rfl, _, _, rfl, rfl, ?_⟩
        refine ⟨some (.int (0 + (b : Nat))), some (.ref pm), G5, ?_, e6, s3.trans e5.g, g5, upd_same⟩
        rw [sumTo_succ, sumTo_succ, ← Nat.add_assoc, ← Nat.add_assoc]
        rfl
      · rintro σ H3 ⟨y7, y8, G3, rfl, e3, s3, g3, d3⟩
        rw [Int.toNat_natCast]
        have hac : a < cs.length := by omega
        have hga : cs[a]? = some (cs.getD a 0) := by
          rw [List.getD_eq_getElem?_getD, List.getElem?_eq_getElem hac]
          rfl
        refine ⟨_, rfl, _, rfl, pu, _, _, _, rfl, rfl, sq_ofL d3, vNs_at rfl hga, _, _, rfl, rfl, _, rfl, _, rfl, pu, _, _, a, rfl, rfl, d3, ixN_n (by rw [List.length_map]; exact hac), ?_⟩
        rw [one_set hac]
        have hz2 : y.k = 2 → (oneM cs a).getD 2 0 = 0 := fun h => by
          have h0 := hcz h
          rw [three hcl, h0]
          rcases (show a = 0 ∨ a = 1 by omega) with e | e <;> subst e <;> rfl
        refine ⟨_, _, some (.int (0 + (i : Nat))), some (vN a), y7, y8, y9, oneM cs a, G3, rfl, e3.mut (.inl hpu) g3 nu, g3, upd_same, by rw [one_len hac]; exact hcl, by rw [one_sum hac]; omega, hz2, hend, ?_, ?_⟩
        · rw [show y.L - (i + 1) = m by omega, Nat.add_assoc]
          exact hpf
        · rw [show y.L - (i + 1) = m by omega, Nat.add_assoc]
          exact hpg
    · rintro σ H2 ⟨F, R, y5, y6, y7, y8, y9, cs, G2, rfl, e2, g2, d2, hcl, hcs, hcz, hend, hpf, hpg⟩
      rw [Int.toNat_natCast, hsz, hlen] at hend hpf hpg hcs
      rw [← hlen, List.drop_length] at hend
      rw [Nat.sub_self] at hpf hpg
      have hpf : layA y l = F := hpf
      have hpg : layR y l = R := hpg
      have hend : endM [0, 0, 0] l = cs := hend
      rw [three hcl] at d2
      have hu2 : SqL K H2 pu [vN (cs.getD 0 0), vN (cs.getD 1 0), vN (cs.getD 2 0)] := sq_ofL d2
      have hp2 := e2.c.s _ _ (e2.g _ _ hp)
      refine ⟨_, rfl, p, _, rfl, dg_spans hp2, ?_⟩
      refine ⟨_, rfl, pu, _, 0, _, rfl, rfl, hu2, atI_nat (j := 0) rfl, _, rfl, pu, _, 1, _, rfl, rfl, hu2, atI_nat (j := 1) rfl, _, rfl, pu, _, 2, _, rfl, rfl, hu2, atI_nat (j := 2) rfl, leS (by show 3 ≤ 100000; decide), fun tk htk => ?_⟩
      have e3 := e2.trans (Ext.loc (M := nM) (o := .tup [vN (cs.getD 0 0), vN (cs.getD 1 0), vN (cs.getD 2 0)]) e2.c htk)
      have hd3 := e3.c.s _ _ (e3.g _ _ hd)
      obtain ⟨n, hn⟩ := mem_lc (k := y.k) (L := y.L) (x := cs.getD 0 0) (y := cs.getD 1 0) (z := cs.getD 2 0) hk1 (by
        rw [three hcl] at hcs
        simp only [List.sum_cons, List.sum_nil] at hcs
        omega) hcz
      obtain ⟨t, ht1, ht2⟩ := hsp _ hn
      rw [show [n, cs.getD 0 0, cs.getD 1 0, cs.getD 2 0].tail = cs from (three hcl).symm] at ht1 ht2
      have hg := DGet.t (k := keyT cs) (b := tk) hd3 (by rw [keyT_v, upd_same]; conv => rhs; rw [three hcl]
                                                         rfl)
      rw [ht1] at hg
      have ht3 : SqT K _ t [vN (y.f cs), vN (y.g cs)] := sq_ofT (e3.c.s _ _ (e3.g _ _ ht2))
      refine ⟨d, _, rfl, hg, ?_⟩
      refine ⟨_, rfl, _, rfl, _, rfl, t, _, 0, _, rfl, rfl, ht3, atI_nat (j := 0) rfl, _, _, rfl, rfl, leS (by show 2 ≤ 100000; decide), fun t1 h1 => ?_⟩
      have e4 := e3.trans (Ext.new (M := nM) (o := .tup [vN F, V.int ((F : Int) + ((y.f cs : Nat) : Int))]) e3.c h1)
      have ht4 : SqT K _ t [vN (y.f cs), vN (y.g cs)] := sq_ofT (e4.c.s _ _ (e4.g _ _ ht2))
      refine ⟨_, rfl, _, rfl, _, rfl, t, _, 1, _, rfl, rfl, ht4, atI_nat (j := 1) rfl, _, _, rfl, rfl, leS (by show 2 ≤ 100000; decide), fun t2 h2 => ?_⟩
      have e5 := e4.trans (Ext.new (M := nM) (o := .tup [vN R, V.int ((R : Int) + ((y.g cs : Nat) : Int))]) e4.c h2)
      refine ⟨leS (by show 2 ≤ 100000; decide), fun t3 h3 => ?_⟩
      have e6 := e5.trans (Ext.new (M := nM) (o := .tup [.ref t1, .ref t2]) e5.c h3)
      refine q _ _ _ e6 ⟨t3, t1, t2, rfl, upd_same, ?_, ?_⟩
      · rw [hpf, hend]
        exact same_upd (e5.c.free h3) _ _ (same_upd (e4.c.free h2) _ _ upd_same)
      · rw [hpg, hend]
        exact same_upd (e5.c.free h3) _ _ upd_same
end
end K43
-- part W32
/-! W32: the law's text check and its holds. -/
namespace K43
open PySem PySem.Spec PyProof.Rows L2
section
variable {P : Program} {w : World} {K : PySem.W.Frag} {mg : Str → Option Value} {base : Heap} {cS cF cG cT cM cK : Addr} {PT cc : Addr}
theorem tx_memR {k a : Nat} (h : a < k) : a + 97 ∈ (tx (List.range k)).cps.toList := by
  rw [tx_cps]
  exact List.mem_map.mpr ⟨a, List.mem_range.mpr h, rfl⟩
theorem sc_lft : FnScope ["_law_plan_here", "_law_told", "_law_sign"] ["_law_plan_here", "_law_told"] (defScope (topS 51)) := ⟨rfl, rfl, rfl, by decide +kernel, rfl, by decide +kernel, by decide +kernel⟩
def spLft : Sp := fun vs H Q _ => ∃ (v : V) (y : Pl) (l : List Nat), vs = [v, .str (tx l)] ∧ PlAt H v y ∧ 2 ≤ y.k ∧ y.k ≤ 3 ∧ y.L ≤ 4 ∧ okT y.k y.L l ∧ Q (.bl true) H
theorem ok_lft (T : Txt K mg cS cF cG cT cM cK) : Cal P w K mg base "_law_is_far_text" 1 ["_law_plan_here", "_law_told"] spLft := by
  refine T.d_law_is_far_text.ok sc_lft (fun vs H Q E h => ?_) (fun f cdv A outer s H vs Q E hr h => ?_)
  · obtain ⟨v, y, l, rfl, _⟩ := h
    rfl
  · obtain ⟨v, y, l, rfl, hv, hk1, hk2, hL, hl, q⟩ := h
    obtain ⟨p, d, kv, rfl, hp, hd, hsp⟩ := id hv
    refine ⟨_, (pss_cons (ps_if (PW.pt (pw_or (pt_not (pt_val (pe_callB (call_isiK (K := K)) (by rfl) T.z_isinstance (by decide +kernel) (pa_cons (pv 1) (pa_cons (pe_bltn (v := .ty "str") (u := .type "str") (by rfl) T.z_str (by decide +kernel) rfl) pa_nil))))) (pw_or1 (pt_cmpR op_ne (pe_callB call_len_str (by rfl) T.z_len (by decide +kernel) (pa_cons (pv 1) pa_nil)) (pe_dget (hu_of hr) (pv 0) pe_str (fun _ _ => rfl)) (nomark _))))) (pss_one (ps_ret pe_bl)) pss_nil)
  (pss_cons (ps_for PassesOwn.never rfl (pi_str (pv 1)) (pg_n 2 sc_lft.nd)
  (pss_one (ps_if (pt_cmpR op_notIn_sign (pv 2) (pe_slice sl_str pe_str po_none (po_some (pe_dget (hu_of hr) (pv 0) pe_str (fun _ _ => rfl)))) rfl) (pss_one (ps_ret pe_bl)) pss_nil)))
  (pss_one (ps_ret pe_bl)))), ?_⟩
    have hsz : (tx l).length = l.length := tx_len l
    have hlen := hl.1
    refine ⟨_, rfl, _, _, .type "str", .type "str", true, rfl, .ty _, .base (.str _), rfl, _, rfl, ?_⟩
    refine ⟨_, rfl, _, rfl, leS (by rw [hsz]; omega), _, rfl, p, _, rfl, dg_length hp, rfl, _, rfl, ?_⟩
    rw [show (!decide (V.int (((tx l).length : Nat) : Int) = vN y.L)) = false by rw [hsz, hlen]; simp [vN]]
    refine iteF ?_
    refine ⟨_, rfl, _, rfl, ?_⟩
    refine wk_str.loop (fun i σ H' => ∃ y2, σ = [some (.ref p), some (.str (tx l)), y2] ∧ H' = H) ⟨none, rfl, rfl⟩ (fun _ _ _ _ _ => True.intro) ?_ ?_
    · rintro i v σ H2 H2' hi ⟨y2, rfl, rfl⟩ ⟨rfl, ch, hch, rfl⟩
      obtain ⟨a, ha, rfl⟩ := tx_at hch
      have hal : a < y.k := hl.2 a (List.mem_of_getElem? ha)
      refine ⟨_, rfl, _, rfl, p, _, rfl, dg_kinds hp, _, rfl, _, rfl, by decide, a + 97, _, rfl, rfl, _, rfl, ?_⟩
      have := abc_tx y.k (by omega)
      unfold abcTo at this
      rw [this, decide_eq_true (tx_memR hal)]
      exact ⟨_, rfl, rfl⟩
    · rintro σ H2 ⟨y2, rfl, rfl⟩
      exact q
theorem sc_lhld : FnScope ["_law_plan_here", "_law_told", "_law_number", "_law_arc", "_law_rest"] ["_law_plan_here", "_law_told", "_law_number"] (defScope (topS 52)) := ⟨rfl, rfl, rfl, by decide +kernel, rfl, by decide +kernel, by decide +kernel⟩
def hitP (y : Pl) (l : List Nat) (i : Nat) : Prop := (layA y l ≤ i ∧ i < layA y l + y.f (endM [0, 0, 0] l)) ∨ (layR y l ≤ i ∧ i < layR y l + y.g (endM [0, 0, 0] l))
instance (y : Pl) (l : List Nat) (i : Nat) : Decidable (hitP y l i) := by unfold hitP; exact inferInstance
def spLhld (PT : Addr) : Sp := fun vs H Q _ => ∃ (G : Hp) (v : V) (y : Pl) (l : List Nat) (i : Nat), vs = [v, .str (tx l), .int i] ∧ Cl PT G H ∧ PlAt G v y ∧ 2 ≤ y.k ∧ y.k ≤ 3 ∧ y.L ≤ 4 ∧ okT y.k y.L l ∧ hitP y l i ∧ Ret PT G H Q fun G' r => r = .bl true
theorem ok_lhld (T : Txt K mg cS cF cG cT cM cK) : Cal P w K mg base "_law_holds" 4 ["_law_plan_here", "_law_told", "_law_number"] (spLhld PT) := by
  refine T.d_law_holds.ok sc_lhld (fun vs H Q E h => ?_) (fun f cdv A outer s H vs Q E hr h => ?_)
  · obtain ⟨G, v, y, l, i, rfl, _⟩ := h
    rfl
  · obtain ⟨G, v, y, l, i, rfl, c, hv, hk1, hk2, hL, hl, hit, q⟩ := h
    refine ⟨_, (pss_cons (ps_if (pt_not (pt_val (pe_c (ok_lft T) (hr.mono (by first | decide | omega)) (pa_cons (pv 0) (pa_cons (pv 1) pa_nil))))) (pss_one (ps_ret pe_bl)) pss_nil)
  (pss_cons (ps_asg (pe_c (ok_llay (PT := PT) T) (hr.mono (by first | decide | omega)) (pa_cons (pv 0) (pa_cons (pv 1) pa_nil))) (pg_tupK (K := K) (n := 2) (pgs_cons (pg_n 3 sc_lhld.nd) (pgs_cons (pg_n 4 sc_lhld.nd) pgs_nil))))
  (pss_one (ps_ret (pe_or (pe_chain op_le op_lt (pe_ix (ix_tupK (K := K)) (pv 3) pe_int (fun _ _ => rfl)) (pv 2) (pe_ix (ix_tupK (K := K)) (pv 3) pe_int (fun _ _ => rfl))) (pe_one (pe_chain op_le op_lt (pe_ix (ix_tupK (K := K)) (pv 4) pe_int (fun _ _ => rfl)) (pv 2) (pe_ix (ix_tupK (K := K)) (pv 4) pe_int (fun _ _ => rfl))))))))), ?_⟩
    refine ⟨_, rfl, _, rfl, v, y, l, rfl, PlAt.to c.s hv, hk1, hk2, hL, hl, ?_⟩
    refine ⟨_, rfl, ?_⟩
    refine ⟨_, rfl, _, rfl, G, v, y, l, rfl, c, hv, hk1, hk2, hL, hl, fun v1 G1 H1 e1 r1 => ?_⟩
    obtain ⟨pr, p1, p2, rfl, hpr, hp1, hp2⟩ := r1
    refine ⟨pr, [_, _], rfl, sq_ofT (e1.c.s _ _ hpr), rfl, _, _, rfl, _, _, rfl, rfl, ?_⟩
    have h1 := sq_ofT (K := K) (e1.c.s _ _ hp1)
    have h2 := sq_ofT (K := K) (e1.c.s _ _ hp2)
    refine ⟨_, rfl, p1, _, 0, _, rfl, rfl, h1, atI_nat (j := 0) rfl, _, rfl, _, _, rfl, rfl, _, rfl, ite2 (fun h => ⟨_, rfl, p1, _, 1, _, rfl, rfl, h1, atI_nat (j := 1) rfl, _, _, rfl, rfl, _, rfl, ite2 (fun h3 => q _ _ _ e1 rfl) (fun h3 => ?_)⟩) (fun h => ⟨_, rfl, ?_⟩)⟩
    · have h0 := of_decide_eq_true h
      have hR : layR y l ≤ i ∧ i < layR y l + y.g (endM [0, 0, 0] l) := hit.resolve_left fun z => h3 (decide_eq_true (by have := z.2; omega))
      refine ⟨_, rfl, p2, _, 0, _, rfl, rfl, h2, atI_nat (j := 0) rfl, _, rfl, _, _, rfl, rfl, _, rfl, ite2 (fun h5 => ⟨_, rfl, p2, _, 1, _, rfl, rfl, h2, atI_nat (j := 1) rfl, _, _, rfl, rfl, q _ _ _ e1 ?_⟩) (fun h5 => ?_)⟩
      · show V.bl (decide _) = V.bl true
        rw [decide_eq_true (by have := hR.2; omega)]
      · exact absurd (decide_eq_true (by have := hR.1; omega)) h5
    · have hR : layR y l ≤ i ∧ i < layR y l + y.g (endM [0, 0, 0] l) := hit.resolve_left fun z => h (decide_eq_true (by have := z.1; omega))
      refine iteF ?_
      refine ⟨_, rfl, p2, _, 0, _, rfl, rfl, h2, atI_nat (j := 0) rfl, _, rfl, _, _, rfl, rfl, _, rfl, ite2 (fun h5 => ⟨_, rfl, p2, _, 1, _, rfl, rfl, h2, atI_nat (j := 1) rfl, _, _, rfl, rfl, q _ _ _ e1 ?_⟩) (fun h5 => ?_)⟩
      · show V.bl (decide _) = V.bl true
        rw [decide_eq_true (by have := hR.2; omega)]
      · exact absurd (decide_eq_true (by have := hR.1; omega)) h5
end
end K43
-- part W33
/-! W33: the law's texts. -/
namespace K43
open PySem PySem.Spec PyProof.Rows L2
section
variable {P : Program} {w : World} {K : PySem.W.Frag} {mg : Str → Option Value} {base : Heap} {cS cF cG cT cM cK : Addr} {PT cc : Addr}
def LX (K : PySem.W.Frag) (G : Hp) (v : V) (ls : List (List Nat)) : Prop := ∃ p, v = .ref p ∧ SqL K G p (ls.map fun l => V.str (tx l))
theorem LX.to {G G1 : Hp} {v : V} {ls : List (List Nat)} (s : Same G G1) (h : LX K G v ls) : LX K G1 v ls := by
  obtain ⟨p, e, h⟩ := h
  exact ⟨p, e, seqL s h⟩
theorem sc_ltx : FnScope ["_law_kinds", "_law_length", "_law_texts_here", "_law_step", "_law_longer", "_law_text", "_law_sign"] ["_law_kinds", "_law_length"] (defScope (topS 53)) := ⟨rfl, rfl, rfl, by decide +kernel, rfl, by decide +kernel, by decide +kernel⟩
def spLtx (PT : Addr) (K : PySem.W.Frag) : Sp := fun vs H Q _ => ∃ (G : Hp) (k L : Nat), vs = [.int k, .int L] ∧ Cl PT G H ∧ okS k L ∧ Ret PT G H Q fun G' r => LX K G' r (textsM k L)
theorem ok_ltx (T : Txt K mg cS cF cG cT cM cK) : Cal P w K mg base "_law_texts" 1 ["_law_kinds", "_law_length"] (spLtx PT K) := by
  refine T.d_law_texts.ok sc_ltx (fun vs H Q E h => ?_) (fun f cdv A outer s H vs Q E hr h => ?_)
  · obtain ⟨G, k, L, rfl, _⟩ := h
    rfl
  · obtain ⟨G, k, L, rfl, c, ok, q⟩ := h
    refine ⟨_, (pss_cons (ps_s 2 sc_ltx.nd (pe_lst (pa_cons pe_str pa_nil)))
  (pss_cons (ps_for PassesOwn.never rfl (pi_range1 rfl T.z_range (pa_cons (pv 1) pa_nil)) (pg_n 3 sc_ltx.nd)
  (pss_cons (ps_s 4 sc_ltx.nd (pe_lst pa_nil))
  (pss_cons (ps_for PassesOwn.never rfl (pi_listK (K := K) (pv 2)) (pg_n 5 sc_ltx.nd)
  (pss_one (ps_s 4 sc_ltx.nd (pe_op op_cat (pv 4) (pe_lc (own := [("_law_sign", 6)]) rfl sc_ltx.nd (pi_str (pe_slice sl_str pe_str po_none (po_some (pv 0)))) (blkOk_by (own := [("_law_sign", 6)]) (N := ["_law_kinds", "_law_length", "_law_texts_here", "_law_step", "_law_longer", "_law_text", "_law_sign"]) (sc := defScope (topS 53)) (by decide +kernel)) (fun _ _ _ _ _ => (pg_n 6 sc_ltx.nd)) (fun _ _ _ _ _ => pts_nil) (fun _ _ _ _ _ => (pe_op op_add_str (pv 5) (pv 6))))))))
  (pss_one (ps_s 2 sc_ltx.nd (pv 4))))))
  (pss_one (ps_ret (pv 2))))), ?_⟩
    have hk := ok.2.1
    have hL := ok.2.2.1
    have hle : ∀ i, i ≤ L → (textsM k i).length ≤ 16 := fun i hi => texts_le k (by omega) i (by have := ok.2.2.1; omega) (fun e => by have := ok.2.2.2 e; omega)
    refine ⟨leS (by show 1 ≤ 100000; decide), fun t ht => ?_⟩
    have e0 := Ext.loc (M := nM) (o := .lst [V.str ""]) c ht
    refine ⟨_, rfl, _, rfl, by omega, by omega, ?_⟩
    refine wk_range.loop (n := ((L : Nat) : Int).toNat) (fun i σ H' => ∃ t y3 y4 y5, σ = [some (.int k), some (.int L), some (.ref t), y3, y4, y5, none] ∧ Ext PT nM G H G H' ∧ H t = none ∧ G t = none ∧ t ≠ PT ∧ H' t = some (.lst ((textsM k i).map fun l => V.str (tx l))))
      ⟨t, none, none, none, rfl, e0, ht, c.free ht, c.ne ht, by rw [upd_same, empty_str]; rfl⟩ (fun _ _ _ _ _ => True.intro) ?_ ?_
    · rintro i v σ H1 H1' hi ⟨t, y3, y4, y5, rfl, e1, ht, gt, nt, d1⟩ ⟨rfl, rfl⟩
      rw [Int.toNat_natCast] at hi
      refine ⟨Nat.zero_le _, fun o ho => ?_⟩
      have e2 := e1.trans (Ext.loc (M := nM) (o := .lst []) e1.c ho)
      have oH : H o = none := by
        cases z : H o with
        | none => rfl
        | some u => exact absurd ho (e1.d o (by rw [z]; simp))
      have no : t ≠ o := ne_of_none d1 ho
      refine ⟨_, rfl, t, rfl, ⟨_, sq_ofL (by rw [upd_ne no]; exact d1)⟩, ?_⟩
      refine wk_list.loop (fun j σ H' => ∃ o y5, σ = [some (.int k), some (.int L), some (.ref t), some (.int (0 + (i : Nat))), some (.ref o), y5, none] ∧ Ext PT nM G H G H' ∧ H o = none ∧ G o = none ∧ o ≠ PT ∧ H' t = some (.lst ((textsM k i).map fun l => V.str (tx l))) ∧ H' o = some (.lst ((((textsM k i).take j).flatMap fun l => (List.range k).map fun c => l ++ [c]).map fun l => V.str (tx l))))
        ⟨o, y5, rfl, e2, oH, e1.c.free ho, e1.c.ne ho, by rw [upd_ne no]; exact d1, upd_same⟩ (fun j σ H' _ ⟨_, _, _, _, _, _, _, d, _⟩ => sq_ofL d) ?_ ?_
      · rintro j v σ H2 H2' hj ⟨o, y5, rfl, e2, oH, og, on, d2, do2⟩ ⟨rfl, hx⟩
        obtain ⟨l, hl, rfl⟩ : ∃ l, (textsM k i)[j]? = some l ∧ v = V.str (tx l) := by
          rw [List.getElem?_map] at hx
          cases e : (textsM k i)[j]? with
          | none => rw [e] at hx; cases hx
          | some l => rw [e] at hx; exact ⟨l, rfl, (Option.some.inj hx).symm⟩
        refine ⟨_, rfl, _, rfl, _, rfl, _, rfl, by decide, _, rfl, fun D hD => ?_⟩
        have := abc_tx k (by omega)
        unfold abcTo at this
        rw [this]
        have e3 := e2.trans (Ext.loc (M := nM) (o := .lst []) e2.c hD)
        have hsz : (tx (List.range k)).cps.size = k := by
          have := tx_len (List.range k)
          rw [List.length_range] at this
          exact this
        have n1 : o ≠ D := ne_of_none do2 hD
        have n2 : t ≠ D := ne_of_none d2 hD
        refine wk_str.comp (fun m H' => H' = upd H2' D (.lst (((List.range m).map fun c => l ++ [c]).map fun l => V.str (tx l)))) rfl (fun _ _ _ _ => True.intro) ?_ ?_
        · rintro m y H3 H3' hm rfl ⟨rfl, cc, hcc, rfl⟩
          obtain ⟨j', hj', rfl⟩ := tx_at hcc
          rw [hsz] at hm
          rw [List.getElem?_range hm] at hj'
          obtain rfl : m = j' := Option.some.inj hj'
          refine ⟨rfl, _, rfl, _, rfl, tx l, tx [m], rfl, rfl, ?_, _, upd_same, ?_, ?_⟩
          · rw [tx_len, tx_len]
            exact leS (by have := (mem_texts.mp (List.mem_of_getElem? hl)).1; simp; omega)
          · rw [List.length_map, List.length_map, List.length_range]
            exact ltS (by omega)
          · rw [upd_upd, tx_add, List.range_succ, List.map_append, List.map_append]
            rfl
        · rintro H3 rfl
          rw [hsz]
          have e4 := e2.trans (Ext.loc (M := nM) (o := .lst (((List.range k).map fun c => l ++ [c]).map fun l => V.str (tx l))) e2.c hD)
          refine ⟨o, D, _, _, rfl, rfl, by rw [upd_ne n1]; exact do2, upd_same, ?_, fun o2 ho2 => ?_⟩
          · have hlen2 : ∀ ls : List (List Nat), (ls.flatMap fun l => (List.range k).map fun c => l ++ [c]).length ≤ ls.length * 3 := fun ls => by
              induction ls with
              | nil => exact Nat.zero_le _
              | cons a r ih =>
                rw [List.flatMap_cons, List.length_append, List.length_map, List.length_range, List.length_cons]
                omega
            have h2 := hlen2 ((textsM k i).take j)
            have h3 := hle i (by omega)
            rw [List.length_take] at h2
            rw [List.length_map, List.length_map, List.length_map, List.length_range]
            exact leS (by omega)
          · have n3 : t ≠ o2 := ne_of_none (by rw [upd_ne n2]; exact d2) ho2
            refine ⟨o2, some (.str (tx l)), rfl, e4.trans (Ext.loc (M := nM) e4.c ho2), e4.nn ho2, e4.c.free ho2, e4.c.ne ho2, by rw [upd_ne n3, upd_ne n2]; exact d2, ?_⟩
            rw [upd_same, take_get hl, List.flatMap_append, List.map_append]
            simp
      · rintro σ H2 ⟨o, y5, rfl, e2, oH, og, on, d2, do2⟩
        rw [List.length_map, List.take_length] at do2
        exact ⟨_, rfl, o, some (.int (0 + (i : Nat))), some (.ref o), y5, rfl, e2, oH, og, on, do2⟩
    · rintro σ H1 ⟨t, y3, y4, y5, rfl, e1, ht, gt, nt, d1⟩
      rw [Int.toNat_natCast] at d1
      exact ⟨_, rfl, q _ _ _ (e1.frz ht d1 nt) ⟨t, rfl, sq_ofL upd_same⟩⟩
end
end K43
-- part W34
/-! W34: the law's case. -/
namespace K43
open PySem PySem.Spec PyProof.Rows L2
section
variable {P : Program} {w : World} {K : PySem.W.Frag} {mg : Str → Option Value} {base : Heap} {cS cF cG cT cM cK : Addr} {PT cc : Addr}
def aM (a : Addr) : Addr → Prop := fun b => b = a
/-- what a call that draws hands back -/
def RetA (PT a : Addr) (G H : Hp) (Q : VK) (R : Hp → V → Prop) : Prop := ∀ v G' H' x y z, Ext PT (aM a) G H G' H' → G' a = none → H' a = some (StL x y z) → R G' v → Q v H'
def CaAt (K : PySem.W.Frag) (G : Hp) (v : V) (ws : List Nat) (L : Nat) : Prop := ∃ p pw, v = .ref p ∧ G p = some (.tup [.ref pw, .int L, vN (ringL ws L (1, 1))]) ∧ SqL K G pw (ws.map vN)
theorem ring0 (ws : List Nat) : ringL ws 0 (1, 1) = 1 := by
  unfold ringL
  simp
theorem sum_le60 : ∀ {l : List Nat}, (∀ n ∈ l, n ≤ 60) → l.sum ≤ l.length * 60
  | [], _ => Nat.zero_le _
  | a :: r, h => by
    have h1 := h a List.mem_cons_self
    have h2 := sum_le60 (l := r) fun n hn => h n (List.mem_cons_of_mem _ hn)
    rw [List.sum_cons, List.length_cons]
    omega
theorem sc_lcase : FnScope ["_law_stream_here", "_law_kinds", "_law_step", "_law_weights", "_law_factor", "_law_weight_here", "_law_length", "_law_low"] ["_law_stream_here"] (defScope (topS 54)) := ⟨rfl, rfl, rfl, by decide +kernel, rfl, by decide +kernel, by decide +kernel⟩
def spLcase (PT : Addr) (K : PySem.W.Frag) : Sp := fun vs H Q _ => ∃ (G : Hp) (a : Addr) (x y z : Nat), vs = [.ref a] ∧ Cl PT G H ∧ H a = some (StL x y z) ∧ G a = none ∧ a ≠ PT ∧ RetA PT a G H Q fun G' v => ∃ ws L, CaAt K G' v ws L ∧ okF ws L ∧ ringL ws L (1, 1) ≤ 10000
theorem ok_lcase (T : Txt K mg cS cF cG cT cM cK) : Cal P w K mg base "_law_case" 3 ["_law_stream_here"] (spLcase PT K) := by
  refine T.d_law_case.ok sc_lcase (fun vs H Q E h => ?_) (fun f cdv A outer s H vs Q E hr h => ?_)
  · obtain ⟨G, a, x, y, z, rfl, _⟩ := h
    rfl
  · obtain ⟨G, a, x, y, z, rfl, c, ha, ga, na, q⟩ := h
    refine ⟨_, (pss_cons (ps_s 1 sc_lcase.nd (pe_op op_add pe_int (pe_c (ok_draw T) (hr.mono (by first | decide | omega)) (pa_cons (pv 0) (pa_cons pe_int pa_nil)))))
  (pss_cons (ps_setLc (i := 3) (own := [("_law_step", 2)]) rfl sc_lcase.nd rfl rfl (sw_true rfl rfl rfl (by decide +kernel)) (pi_range1 rfl T.z_range (pa_cons (pv 1) pa_nil)) (blkOk_by (own := [("_law_step", 2)]) (N := ["_law_stream_here", "_law_kinds", "_law_step", "_law_weights", "_law_factor", "_law_weight_here", "_law_length", "_law_low"]) (sc := defScope (topS 54)) (by decide +kernel)) (fun _ _ _ _ _ => (pg_n 2 sc_lcase.nd)) (fun _ _ _ _ _ => pts_nil) (fun _ _ _ _ _ => (pe_op op_add pe_int (pe_c (ok_draw T) (hr.mono (by first | decide | omega)) (pa_cons (pv 0) (pa_cons pe_int pa_nil))))))
  (pss_cons (ps_if (pt_cmpR op_eq (pe_c (ok_draw T) (hr.mono (by first | decide | omega)) (pa_cons (pv 0) (pa_cons pe_int pa_nil))) pe_int (nomark _)) (pss_cons (ps_s 4 sc_lcase.nd (pe_op op_add pe_int (pe_c (ok_draw T) (hr.mono (by first | decide | omega)) (pa_cons (pv 0) (pa_cons pe_int pa_nil)))))
  (pss_one (ps_setLc (i := 3) (own := [("_law_weight_here", 5)]) rfl sc_lcase.nd rfl rfl (sw_true rfl rfl rfl (by decide +kernel)) (pi_listK (K := K) (pv 3)) (blkOk_by (own := [("_law_weight_here", 5)]) (N := ["_law_stream_here", "_law_kinds", "_law_step", "_law_weights", "_law_factor", "_law_weight_here", "_law_length", "_law_low"]) (sc := defScope (topS 54)) (by decide +kernel)) (fun _ _ _ _ _ => (pg_n 5 sc_lcase.nd)) (fun _ _ _ _ _ => pts_nil) (fun _ _ _ _ _ => (pe_op op_mul (pe_op op_add pe_int (pe_op op_mod (pe_callTy call_int1 (by rfl) T.z_int (by decide +kernel) (pa_cons (pv 5) pa_nil)) pe_int)) (pv 4)))))) pss_nil)
  (pss_cons (ps_s 6 sc_lcase.nd (pe_op op_sub (pe_c (ok_draw T) (hr.mono (by first | decide | omega)) (pa_cons (pv 0) (pa_cons (pe_op op_sub pe_int (pv 1)) pa_nil))) (pe_op op_sub (pv 1) pe_int)))
  (pss_cons (ps_s 6 sc_lcase.nd (pe_callB (call_max2 rfl) (by rfl) T.z_max (by decide +kernel) (pa_cons pe_int (pa_cons (pv 6) pa_nil))))
  (pss_cons (ps_s 7 sc_lcase.nd (pe_c (ok_lring (PT := PT) T) (hr.mono (by first | decide | omega)) (pa_cons (pv 3) (pa_cons (pv 6) (pa_cons (pe_tup (pa_cons pe_int (pa_cons pe_int pa_nil))) pa_nil)))))
  (pss_cons (ps_for PassesOwn.never rfl (pi_range1 rfl T.z_range (pa_cons pe_int pa_nil)) (pg_n 2 sc_lcase.nd)
  (pss_one (ps_if (pt_cmpR op_gt (pv 7) pe_int (nomark _)) (pss_cons (ps_s 6 sc_lcase.nd (pe_op op_sub (pv 6) pe_int))
  (pss_one (ps_s 7 sc_lcase.nd (pe_c (ok_lring (PT := PT) T) (hr.mono (by first | decide | omega)) (pa_cons (pv 3) (pa_cons (pv 6) (pa_cons (pe_tup (pa_cons pe_int (pa_cons pe_int pa_nil))) pa_nil))))))) pss_nil)))
  (pss_one (ps_ret (pe_tup (pa_cons (pv 3) (pa_cons (pv 6) (pa_cons (pv 7) pa_nil))))))))))))), ?_⟩
    have e0 : Ext PT (aM a) G H G H := Ext.refl c
    refine ⟨_, rfl, a, 2, x, y, z, rfl, ha, by decide, by decide, fun d2 x y z hd2 => ?_⟩
    have e1 := e0.mut (o := StL x y z) (.inr rfl) ga na
    refine ⟨_, _, rfl, rfl, ?_⟩
    refine ⟨_, rfl, _, rfl, by omega, by omega, fun D hD => ?_⟩
    have nD : D ≠ PT := e1.c.ne hD
    have nDa : a ≠ D := ne_of_none upd_same hD
    have e2 := e1.trans (Ext.loc (M := aM a) (o := .lst []) e1.c hD)
    have hDH : H D = none := e1.nn hD
    refine wk_range.comp (n := ((2 : Int) + (d2 : Nat)).toNat) (fun i H' => ∃ ns x y z, Ext PT (aM a) G H G H' ∧ H' a = some (StL x y z) ∧ H' D = some (.lst (ns.map vN)) ∧ ns.length = i ∧ ∀ n ∈ ns, 1 ≤ n ∧ n ≤ 60)
      ⟨[], x, y, z, e2, by rw [upd_ne nDa, upd_same], upd_same, rfl, fun n hn => by cases hn⟩ (fun _ _ _ _ => True.intro) ?_ ?_
    · rintro i v H2 H2' hi ⟨ns, x, y, z, e2, ha2, hD2, hl, hn⟩ ⟨rfl, rfl⟩
      refine ⟨rfl, _, rfl, a, 60, x, y, z, rfl, ha2, by decide, by decide, fun d x y z hd => ?_⟩
      have e3 := e2.mut (o := StL x y z) (.inr rfl) ga na
      refine ⟨_, _, rfl, rfl, _, by rw [upd_ne (Ne.symm nDa)]; exact hD2, ?_, ns ++ [1 + d], x, y, z, e3.mut (.inl hDH) (e1.c.free hD) nD, by rw [upd_ne nDa, upd_same], ?_, ?_, ?_⟩
      · rw [List.length_map, hl]
        exact ltS (by omega)
      · rw [upd_same, List.map_append]
        have : vN (1 + d) = V.int (1 + ((d : Nat) : Int)) := by
          show V.int _ = V.int _
          rw [Int.natCast_add]
          rfl
        rw [List.map_cons, List.map_nil, this]
      · rw [List.length_append, hl]
        rfl
      · intro n hn2
        rcases List.mem_append.mp hn2 with h | h
        · exact hn n h
        · have := List.mem_singleton.mp h
          omega
    · rintro H2 ⟨ns, x, y, z, e2, ha2, hD2, hl, hn⟩
      rw [show ((2 : Int) + (d2 : Nat)).toNat = 2 + d2 by omega] at hl
      have e3 := e2.frz hDH hD2 nD
      have g3 : (upd G D (.lst (ns.map vN))) a = none := by rw [upd_ne nDa]; exact ga
      refine ⟨_, rfl, a, 2, x, y, z, rfl, ha2, by decide, by decide, fun dz x y z hdz => ?_⟩
      have e4 := e3.mut (o := StL x y z) (.inr rfl) g3 na
      refine ⟨rfl, _, rfl, ite2 (fun h => ?_) (fun h => ?_)⟩
      · refine ⟨_, rfl, a, 15, x, y, z, rfl, upd_same, by decide, by decide, fun f x' y' z' hf => ?_⟩
        have e4b := e4.mut (o := StL x' y' z') (.inr rfl) g3 na
        have ha4 : (upd (upd H2 a (StL x y z)) a (StL x' y' z')) a = some (StL x' y' z') := upd_same
        refine ⟨_, _, rfl, rfl, ?_⟩
        have hD4 : SqL K (upd G D (.lst (ns.map vN))) D (ns.map vN) := sq_ofL upd_same
        refine ⟨_, rfl, D, rfl, ⟨_, seqL e4b.c.s hD4⟩, fun D2 hD2 => ?_⟩
        have nD2 : D2 ≠ PT := e4b.c.ne hD2
        have n2 : a ≠ D2 := ne_of_none ha4 hD2
        have e4c := e4b.trans (Ext.loc (M := aM a) (o := .lst []) e4b.c hD2)
        refine wk_list.comp (fun i H' => Ext PT (aM a) G H (upd G D (.lst (ns.map vN))) H' ∧ H' a = some (StL x' y' z') ∧ H' D2 = some (.lst (((ns.take i).map fun w => (1 + w % 4) * (1 + f)).map vN))) ⟨e4c, by rw [upd_ne n2]; exact ha4, upd_same⟩ (fun i H' _ ⟨e, _⟩ => seqL e.c.s hD4) ?_ ?_
        · rintro i v H5 H5' hi ⟨e5, ha5, hD5⟩ ⟨rfl, hx⟩
          obtain ⟨wv, hw1, rfl⟩ := vNs_of hx
          refine ⟨rfl, _, rfl, .inl ⟨_, rfl, _, _, rfl, rfl, (by show (0 : Int) < 4; decide), ?_⟩⟩
          refine ⟨_, _, rfl, rfl, _, rfl, _, _, rfl, rfl, .inr ⟨by omega, by omega⟩, _, hD5, ?_, e5.mut (.inl (e4b.nn hD2)) (e4b.c.free hD2) nD2, by rw [upd_ne n2]; exact ha5, ?_⟩
          · rw [List.length_map, List.length_map, List.length_take]
            exact ltS (by omega)
          · rw [upd_same, take_get hw1, List.map_append, List.map_append]
            have : vN ((1 + wv % 4) * (1 + f)) = V.int ((1 + ((wv : Nat) : Int) % 4) * (1 + ((f : Nat) : Int))) := by
              show V.int _ = V.int _
              rw [Int.natCast_mul, Int.natCast_add, Int.natCast_add, Int.natCast_emod]
              rfl
            rw [List.map_cons, List.map_nil, List.map_cons, List.map_nil, this]
        · rintro H5 ⟨e5, ha5, hD5⟩
          rw [List.length_map, List.take_length] at hD5
          have e6 := e5.frz (e4b.nn hD2) hD5 nD2
          have ga5 : upd (upd G D (.lst (ns.map vN))) D2 (.lst ((ns.map fun w => (1 + w % 4) * (1 + f)).map vN)) a = none := by rw [upd_ne n2]; exact g3
          have hW : SqL K (upd (upd G D (.lst (ns.map vN))) D2 (.lst ((ns.map fun w => (1 + w % 4) * (1 + f)).map vN))) D2 ((ns.map fun w => (1 + w % 4) * (1 + f)).map vN) := sq_ofL upd_same
          have hlw : (ns.map fun w => (1 + w % 4) * (1 + f)).length = 2 + d2 := by rw [List.length_map]; exact hl
          have hw : ∀ n ∈ (ns.map fun w => (1 + w % 4) * (1 + f)), 1 ≤ n ∧ n ≤ 60 := fun n hn2 => by
            obtain ⟨w0, _, rfl⟩ := List.mem_map.mp hn2
            have h4 : 1 + w0 % 4 ≤ 4 := by omega
            have h5 := Nat.mul_le_mul h4 (show 1 + f ≤ 15 by omega)
            have h6 := Nat.mul_le_mul (show 1 ≤ 1 + w0 % 4 by omega) (show 1 ≤ 1 + f by omega)
            omega
          generalize (ns.map fun w => (1 + w % 4) * (1 + f)) = ws at *
          have e5 := e6
          have ha5 := ha5
          refine ⟨_, rfl, _, rfl, _, _, rfl, rfl, a, 5 - d2, _, _, _, ?_, ha5, by omega, by omega, fun d x y z hd => ?_⟩
          · have : (7 : Int) - (2 + (d2 : Nat)) = ((5 - d2 : Nat) : Int) := by omega
            rw [← this]
            rfl
          have e6 := e5.mut (o := StL x y z) (.inr rfl) ga5 na
          refine ⟨_, rfl, _, _, rfl, rfl, _, _, rfl, rfl, ?_⟩
          refine ⟨_, rfl, _, _, rfl, ?_⟩
          have okf : ∀ L', L' ≤ d - d2 → okF ws L' := fun L' h => ⟨by omega, by omega, by omega, by
            have h1 := sum_le60 (l := ws) fun n hn => (hw n hn).2
            omega, fun n hn => (hw n hn).1, fun e => by omega⟩
          have okw : ∀ L', L' ≤ d - d2 → okW ws L' := fun L' h => by
            have ok := okf L' h
            exact ⟨by have := ok.1; omega, ok.2.1, ok.2.2.1, ok.2.2.2.1, ok.2.2.2.2.1⟩
          refine ⟨_, rfl, _, rfl, leS (by show 2 ≤ 100000; decide), fun pu hpu => ?_⟩
          have npu : a ≠ pu := ne_of_none upd_same hpu
          have e7 := e6.trans (Ext.new (M := aM a) (o := .tup [.int 1, .int 1]) e6.c hpu)
          have hraw : (if ((0 : Int)) < (d : Int) - (2 + (d2 : Nat) - 2) then (d : Int) - (2 + (d2 : Nat) - 2) else 0) = ((d - d2 : Nat) : Int) := by
            split <;> omega
          have g6 : ∀ o, upd (upd (upd G D (.lst (ns.map vN))) D2 (.lst (ws.map vN))) pu o a = none := fun o => by rw [upd_ne npu]; exact ga5
          refine ⟨_, .ref D2, .ref pu, ws, d - d2, 1, 1, ?_, e7.c, ⟨D2, rfl, seqL (same_upd (e6.c.free hpu)) hW⟩, okw _ (Nat.le_refl _), ⟨pu, rfl, upd_same⟩, by decide, by decide, by decide, fun G8 H8 e8 => ?_⟩
          · rw [← hraw]
            rfl
          have e9 := e7.trans (e8.weak (M' := aM a) (fun _ h => h.elim))
          have hW8 := seqL e8.g (seqL (same_upd (e6.c.free hpu)) hW)
          refine ⟨_, rfl, by decide, by decide, ?_⟩
          refine wk_range.loop (n := ((4 : Int)).toNat) (fun i σ H' => ∃ y2 i6 L' G' x y z, σ = [some (.ref a), some (.int (2 + (d2 : Nat))), y2, some (.ref D2), (some (.int (1 + (f : Nat)))), none, some (.int i6), some (vN (ringL ws L' (1, 1)))] ∧ i6 = ((L' : Nat) : Int) ∧ Ext PT (aM a) G H G' H' ∧ Same G8 G' ∧ G' a = none ∧ H' a = some (StL x y z) ∧ L' ≤ d - d2 ∧ (ringL ws L' (1, 1) ≤ 10000 ∨ L' + i ≤ 4))
            ⟨none, _, d - d2, G8, x, y, z, rfl, hraw, e9, Same.refl _, e8.none_g (by rw [upd_ne npu, upd_same]; simp) (g6 _), e8.stay0 (by rw [upd_ne npu, upd_same]) na, Nat.le_refl _, .inr (by omega)⟩ (fun _ _ _ _ _ => True.intro) ?_ ?_
          · rintro i v σ H9 H9' hi ⟨y2, i6, L', G9, x, y, z, rfl, rfl, e9, s9, g9, a9, hL', hc⟩ ⟨rfl, rfl⟩
            refine ⟨_, rfl, _, _, rfl, rfl, _, rfl, ite2 (fun h => ?_) (fun h => ?_)⟩
            · have h10 : 10000 < ringL ws L' (1, 1) := by
                have := of_decide_eq_true h
                omega
              have hLp : 0 < L' := by
                rcases Nat.eq_zero_or_pos L' with e | e
                · subst e
                  rw [ring0] at h10
                  omega
                · exact e
              refine ⟨_, rfl, _, _, rfl, rfl, ?_⟩
              refine ⟨_, rfl, _, rfl, leS (by show 2 ≤ 100000; decide), fun pv hpv => ?_⟩
              have npv : a ≠ pv := ne_of_none a9 hpv
              have e10 := e9.trans (Ext.new (M := aM a) (o := .tup [.int 1, .int 1]) e9.c hpv)
              refine ⟨_, .ref D2, .ref pv, ws, L' - 1, 1, 1, ?_, e10.c, ⟨D2, rfl, seqL (same_upd (e9.c.free hpv)) (seqL s9 hW8)⟩, okw _ (by omega), ⟨pv, rfl, upd_same⟩, by decide, by decide, by decide, fun G11 H11 e11 => ?_⟩
              · rw [show ((L' - 1 : Nat) : Int) = (L' : Int) - 1 by omega]
                rfl
              refine ⟨some (.int (0 + (i : Nat))), (L' : Int) - 1, L' - 1, G11, x, y, z, rfl, by omega, e10.trans (e11.weak (M' := aM a) (fun _ h => h.elim)), s9.trans ((same_upd (e9.c.free hpv)).trans e11.g), e11.none_g (by rw [upd_ne npv, a9]; simp) (by rw [upd_ne npv]; exact g9), e11.stay0 (by rw [upd_ne npv]; exact a9) na, by omega, .inr (by omega)⟩
            · have h10 : ringL ws L' (1, 1) ≤ 10000 := by
                have h3 : ¬ (10000 : Int) < (ringL ws L' (1, 1) : Nat) := fun z => h (decide_eq_true z)
                omega
              exact ⟨some (.int (0 + (i : Nat))), _, L', G9, x, y, z, rfl, rfl, e9, s9, g9, a9, hL', .inl h10⟩
          · rintro σ H9 ⟨y2, i6, L', G9, x, y, z, rfl, rfl, e9, s9, g9, a9, hL', hc⟩
            have h10 : ringL ws L' (1, 1) ≤ 10000 := by
              rcases hc with h | h
              · exact h
              · have : L' = 0 := by
                  have : ((4 : Int)).toNat = 4 := rfl
                  omega
                rw [this, ring0]
                decide
            refine ⟨_, rfl, _, rfl, _, rfl, leS (by show 3 ≤ 100000; decide), fun t ht => ?_⟩
            have nt : a ≠ t := ne_of_none a9 ht
            exact q _ _ _ x y z (e9.trans (Ext.new (M := aM a) e9.c ht)) (by rw [upd_ne nt]; exact g9) (by rw [upd_ne nt]; exact a9) ⟨ws, L', ⟨t, D2, rfl, upd_same, seqL (same_upd (e9.c.free ht)) (seqL s9 hW8)⟩, okf _ hL', h10⟩

      · have e5 := e4
        have ga5 := g3
        have ha5 : (upd H2 a (StL x y z)) a = some (StL x y z) := upd_same
        have hW : SqL K (upd G D (.lst (ns.map vN))) D (ns.map vN) := sq_ofL upd_same
        have hlw := hl
        have hw := hn
        refine ⟨_, rfl, _, rfl, _, _, rfl, rfl, a, 5 - d2, _, _, _, ?_, ha5, by omega, by omega, fun d x y z hd => ?_⟩
        · have : (7 : Int) - (2 + (d2 : Nat)) = ((5 - d2 : Nat) : Int) := by omega
          rw [← this]
          rfl
        have e6 := e5.mut (o := StL x y z) (.inr rfl) ga5 na
        refine ⟨_, rfl, _, _, rfl, rfl, _, _, rfl, rfl, ?_⟩
        refine ⟨_, rfl, _, _, rfl, ?_⟩
        have okf : ∀ L', L' ≤ d - d2 → okF ns L' := fun L' h => ⟨by omega, by omega, by omega, by
          have h1 := sum_le60 (l := ns) fun n hn => (hw n hn).2
          omega, fun n hn => (hw n hn).1, fun e => by omega⟩
        have okw : ∀ L', L' ≤ d - d2 → okW ns L' := fun L' h => by
          have ok := okf L' h
          exact ⟨by have := ok.1; omega, ok.2.1, ok.2.2.1, ok.2.2.2.1, ok.2.2.2.2.1⟩
        refine ⟨_, rfl, _, rfl, leS (by show 2 ≤ 100000; decide), fun pu hpu => ?_⟩
        have npu : a ≠ pu := ne_of_none upd_same hpu
        have e7 := e6.trans (Ext.new (M := aM a) (o := .tup [.int 1, .int 1]) e6.c hpu)
        have hraw : (if ((0 : Int)) < (d : Int) - (2 + (d2 : Nat) - 2) then (d : Int) - (2 + (d2 : Nat) - 2) else 0) = ((d - d2 : Nat) : Int) := by
          split <;> omega
        have g6 : ∀ o, upd (upd G D (.lst (ns.map vN))) pu o a = none := fun o => by rw [upd_ne npu]; exact ga5
        refine ⟨_, .ref D, .ref pu, ns, d - d2, 1, 1, ?_, e7.c, ⟨D, rfl, seqL (same_upd (e6.c.free hpu)) hW⟩, okw _ (Nat.le_refl _), ⟨pu, rfl, upd_same⟩, by decide, by decide, by decide, fun G8 H8 e8 => ?_⟩
        · rw [← hraw]
          rfl
        have e9 := e7.trans (e8.weak (M' := aM a) (fun _ h => h.elim))
        have hW8 := seqL e8.g (seqL (same_upd (e6.c.free hpu)) hW)
        refine ⟨_, rfl, by decide, by decide, ?_⟩
        refine wk_range.loop (n := ((4 : Int)).toNat) (fun i σ H' => ∃ y2 i6 L' G' x y z, σ = [some (.ref a), some (.int (2 + (d2 : Nat))), y2, some (.ref D), none, none, some (.int i6), some (vN (ringL ns L' (1, 1)))] ∧ i6 = ((L' : Nat) : Int) ∧ Ext PT (aM a) G H G' H' ∧ Same G8 G' ∧ G' a = none ∧ H' a = some (StL x y z) ∧ L' ≤ d - d2 ∧ (ringL ns L' (1, 1) ≤ 10000 ∨ L' + i ≤ 4))
          ⟨none, _, d - d2, G8, x, y, z, rfl, hraw, e9, Same.refl _, e8.none_g (by rw [upd_ne npu, upd_same]; simp) (g6 _), e8.stay0 (by rw [upd_ne npu, upd_same]) na, Nat.le_refl _, .inr (by omega)⟩ (fun _ _ _ _ _ => True.intro) ?_ ?_
        · rintro i v σ H9 H9' hi ⟨y2, i6, L', G9, x, y, z, rfl, rfl, e9, s9, g9, a9, hL', hc⟩ ⟨rfl, rfl⟩
          refine ⟨_, rfl, _, _, rfl, rfl, _, rfl, ite2 (fun h => ?_) (fun h => ?_)⟩
          · have h10 : 10000 < ringL ns L' (1, 1) := by
              have := of_decide_eq_true h
              omega
            have hLp : 0 < L' := by
              rcases Nat.eq_zero_or_pos L' with e | e
              · subst e
                rw [ring0] at h10
                omega
              · exact e
            refine ⟨_, rfl, _, _, rfl, rfl, ?_⟩
            refine ⟨_, rfl, _, rfl, leS (by show 2 ≤ 100000; decide), fun pv hpv => ?_⟩
            have npv : a ≠ pv := ne_of_none a9 hpv
            have e10 := e9.trans (Ext.new (M := aM a) (o := .tup [.int 1, .int 1]) e9.c hpv)
            refine ⟨_, .ref D, .ref pv, ns, L' - 1, 1, 1, ?_, e10.c, ⟨D, rfl, seqL (same_upd (e9.c.free hpv)) (seqL s9 hW8)⟩, okw _ (by omega), ⟨pv, rfl, upd_same⟩, by decide, by decide, by decide, fun G11 H11 e11 => ?_⟩
            · rw [show ((L' - 1 : Nat) : Int) = (L' : Int) - 1 by omega]
              rfl
            refine ⟨some (.int (0 + (i : Nat))), (L' : Int) - 1, L' - 1, G11, x, y, z, rfl, by omega, e10.trans (e11.weak (M' := aM a) (fun _ h => h.elim)), s9.trans ((same_upd (e9.c.free hpv)).trans e11.g), e11.none_g (by rw [upd_ne npv, a9]; simp) (by rw [upd_ne npv]; exact g9), e11.stay0 (by rw [upd_ne npv]; exact a9) na, by omega, .inr (by omega)⟩
          · have h10 : ringL ns L' (1, 1) ≤ 10000 := by
              have h3 : ¬ (10000 : Int) < (ringL ns L' (1, 1) : Nat) := fun z => h (decide_eq_true z)
              omega
            exact ⟨some (.int (0 + (i : Nat))), _, L', G9, x, y, z, rfl, rfl, e9, s9, g9, a9, hL', .inl h10⟩
        · rintro σ H9 ⟨y2, i6, L', G9, x, y, z, rfl, rfl, e9, s9, g9, a9, hL', hc⟩
          have h10 : ringL ns L' (1, 1) ≤ 10000 := by
            rcases hc with h | h
            · exact h
            · have : L' = 0 := by
                have : ((4 : Int)).toNat = 4 := rfl
                omega
              rw [this, ring0]
              decide
          refine ⟨_, rfl, _, rfl, _, rfl, leS (by show 3 ≤ 100000; decide), fun t ht => ?_⟩
          have nt : a ≠ t := ne_of_none a9 ht
          exact q _ _ _ x y z (e9.trans (Ext.new (M := aM a) e9.c ht)) (by rw [upd_ne nt]; exact g9) (by rw [upd_ne nt]; exact a9) ⟨ns, L', ⟨t, D, rfl, upd_same, seqL (same_upd (e9.c.free ht)) (seqL s9 hW8)⟩, okf _ hL', h10⟩
end
end K43
-- part W35
/-! W35: the law's level. -/
namespace K43
open PySem PySem.Spec PyProof.Rows L2
section
variable {P : Program} {w : World} {K : PySem.W.Frag} {mg : Str → Option Value} {base : Heap} {cS cF cG cT cM cK : Addr} {PT cc : Addr}
theorem mem_sumL : ∀ {l : List Nat} {n : Nat}, n ∈ l → n ≤ l.sum
  | a :: r, n, h => by
    rw [List.sum_cons]
    rcases List.mem_cons.mp h with e | e
    · omega
    · have := mem_sumL e
      omega
theorem wt_le {ws : List Nat} : ∀ {l : List Nat}, (∀ c ∈ l, c < ws.length) → wtL ws l ≤ ws.sum ^ l.length
  | [], _ => Nat.le_refl _
  | a :: r, h => by
    have h1 := wt_le (l := r) fun c hc => h c (List.mem_cons_of_mem _ hc)
    have h2 : ws.getD a 0 ≤ ws.sum := by
      have ha := h a List.mem_cons_self
      rw [List.getD_eq_getElem?_getD, List.getElem?_eq_getElem ha]
      exact mem_sumL (List.getElem_mem ha)
    show ws.getD a 0 * (r.map fun c => ws.getD c 0).prod ≤ _
    rw [List.length_cons, Nat.pow_succ, Nat.mul_comm (ws.sum ^ r.length)]
    exact Nat.mul_le_mul h2 h1
theorem texts_pos : ∀ k < 4, 2 ≤ k → ∀ L < 5, (k = 3 → L < 3) → 0 < (textsM k L).length := by decide +kernel
def LvAt (K : PySem.W.Frag) (G : Hp) (v : V) (lv : Nat × Nat) : Prop := TN K G v [lv.1, lv.2] ∧ 0 < lv.1 ∧ lv.1 ≤ 10001 ∧ 0 < lv.2 ∧ lv.2 ≤ 10000
theorem sc_llev : FnScope ["_law_stream_here", "_law_weights", "_law_length", "_law_low", "_law_texts_here", "_law_weight_here", "_law_full", "_law_shape", "_law_over", "_law_under_here"] ["_law_stream_here", "_law_weights", "_law_length", "_law_low"] (defScope (topS 55)) := ⟨rfl, rfl, rfl, by decide +kernel, rfl, by decide +kernel, by decide +kernel⟩
def spLlev (PT : Addr) (K : PySem.W.Frag) : Sp := fun vs H Q _ => ∃ (G : Hp) (a : Addr) (v : V) (ws : List Nat) (L lw x y z : Nat), vs = [.ref a, v, .int L, .int lw] ∧ Cl PT G H ∧ LN K G v ws ∧ okF ws L ∧ 0 < lw ∧ lw ≤ 10000 ∧ H a = some (StL x y z) ∧ G a = none ∧ a ≠ PT ∧ RetA PT a G H Q fun G' v => ∃ lv, LvAt K G' v lv
theorem ok_llev (T : Txt K mg cS cF cG cT cM cK) : Cal P w K mg base "_law_level" 2 ["_law_stream_here", "_law_weights", "_law_length", "_law_low"] (spLlev PT K) := by
  refine T.d_law_level.ok sc_llev (fun vs H Q E h => ?_) (fun f cdv A outer s H vs Q E hr h => ?_)
  · obtain ⟨G, a, v, ws, L, lw, x, y, z, rfl, _⟩ := h
    rfl
  · obtain ⟨G, a, v, ws, L, lw, x, y, z, rfl, c, ⟨p, rfl, hp⟩, ok, hlw, hlw2, ha, ga, na, q⟩ := h
    refine ⟨_, (pss_cons (ps_s 4 sc_llev.nd (pe_c (ok_ltx (PT := PT) T) (hr.mono (by first | decide | omega)) (pa_cons (pe_callB (call_len_seqK (K := K)) (by rfl) T.z_len (by decide +kernel) (pa_cons (pv 1) pa_nil)) (pa_cons (pv 2) pa_nil))))
  (pss_cons (ps_s 5 sc_llev.nd (pe_c (ok_lwt T) (hr.mono (by first | decide | omega)) (pa_cons (pv 1) (pa_cons (pe_ix (ix_listK (K := K)) (pv 4) (pe_c (ok_draw T) (hr.mono (by first | decide | omega)) (pa_cons (pv 0) (pa_cons (pe_callB (call_len_seqK (K := K)) (by rfl) T.z_len (by decide +kernel) (pa_cons (pv 4) pa_nil)) pa_nil))) (fun _ _ => rfl)) pa_nil))))
  (pss_cons (ps_s 6 sc_llev.nd (pe_ix (ix_listK (K := K)) (pe_c (ok_lpows (PT := PT) T) (hr.mono (by first | decide | omega)) (pa_cons (pe_callB (cr_sumK (K := K) rfl) (by rfl) T.z_sum (by decide +kernel) (pa_cons (pv 1) pa_nil)) (pa_cons (pv 2) pa_nil))) (pv 2) (fun _ _ => rfl)))
  (pss_cons (ps_s 7 sc_llev.nd (pe_c (ok_draw T) (hr.mono (by first | decide | omega)) (pa_cons (pv 0) (pa_cons pe_int pa_nil))))
  (pss_cons (ps_if (pt_cmpR op_lt (pv 7) pe_int (nomark _)) (pss_cons (ps_s 8 sc_llev.nd (pe_op op_sub (pe_op op_add (pe_op op_fdivW (pe_op op_mul (pv 5) (pv 3)) (pv 6)) (pv 7)) pe_int))
  (pss_one (ps_ret (pe_tup (pa_cons (pe_callB (call_max2 rfl) (by rfl) T.z_max (by decide +kernel) (pa_cons pe_int (pa_cons (pv 8) pa_nil))) (pa_cons (pv 3) pa_nil)))))) pss_nil)
  (pss_cons (ps_if (pt_cmpR op_eq (pv 7) pe_int (nomark _)) (pss_one (ps_ret (pe_tup (pa_cons (pe_op op_add pe_int (pe_c (ok_draw T) (hr.mono (by first | decide | omega)) (pa_cons (pv 0) (pa_cons pe_int pa_nil)))) (pa_cons pe_int pa_nil))))) pss_nil)
  (pss_cons (ps_s 9 sc_llev.nd (pe_op op_add pe_int (pe_c (ok_draw T) (hr.mono (by first | decide | omega)) (pa_cons (pv 0) (pa_cons (pe_callB (call_max2 rfl) (by rfl) T.z_max (by decide +kernel) (pa_cons pe_int (pa_cons (pe_callB (call_min2 rfl) (by rfl) T.z_min (by decide +kernel) (pa_cons (pe_op op_fdivW pe_int (pv 3)) (pa_cons (pe_ix (ix_listK (K := K)) (pe_lst (pa_cons pe_int (pa_cons pe_int pa_nil))) (pe_op op_mod (pe_callTy call_int1 (by rfl) T.z_int (by decide +kernel) (pa_cons (pv 7) pa_nil)) pe_int) (fun _ _ => rfl)) pa_nil))) pa_nil))) pa_nil)))))
  (pss_one (ps_ret (pe_tup (pa_cons (pe_op op_add pe_int (pe_c (ok_draw T) (hr.mono (by first | decide | omega)) (pa_cons (pv 0) (pa_cons (pe_op op_add (pv 9) pe_int) pa_nil)))) (pa_cons (pv 9) pa_nil)))))))))))), ?_⟩
    have hk1 := ok.1
    have hk2 := ok.2.1
    have hL := ok.2.2.1
    have hs := ok.2.2.2.1
    have okS : okS ws.length L := ⟨hk1, hk2, hL, fun e => ok.2.2.2.2.2 e⟩
    have hpos := texts_pos ws.length (by omega) hk1 L (by omega) (fun e => by have := ok.2.2.2.2.2 e; omega)
    have hle := texts_le ws.length (by omega) L (by omega) (fun e => by have := ok.2.2.2.2.2 e; omega)
    refine ⟨_, rfl, p, _, rfl, .inl (seqL c.s hp), ?_⟩
    rw [List.length_map]
    refine ⟨_, rfl, G, ws.length, L, rfl, c, okS, fun v1 G1 H1 e1 r1 => ?_⟩
    obtain ⟨pt, rfl, hpt⟩ := r1
    have a1 := e1.stay0 ha na
    have ga1 := e1.none_g (by rw [ha]; simp) ga
    have hpt1 := seqL e1.c.s hpt
    refine ⟨_, rfl, _, rfl, _, rfl, _, rfl, pt, _, rfl, .inl hpt1, ?_⟩
    rw [List.length_map]
    refine ⟨a, (textsM ws.length L).length, x, y, z, rfl, a1, hpos, by omega, fun d x y z hd => ?_⟩
    have e2 := (e1.weak (M' := aM a) (fun _ h => h.elim)).mut (o := StL x y z) (.inr rfl) ga1 na
    obtain ⟨l, hl⟩ : ∃ l, (textsM ws.length L)[d]? = some l := ⟨_, List.getElem?_eq_getElem hd⟩
    have hlt := mem_texts.mp (List.mem_of_getElem? hl)
    refine ⟨pt, _, d, V.str (tx l), rfl, rfl, seqL e2.c.s hpt, atI_nat (by rw [List.getElem?_map, hl]; rfl), ?_⟩
    have hp2 := seqL e2.c.s (seqL e2.g hp)
    refine ⟨_, ws, l, rfl, ⟨p, rfl, hp2⟩, hk2, hlt.2, fun w hw => by have := ok.le hw; omega, by have := hlt.1; omega, ?_⟩
    have hp2z : SqL K (upd H1 a (StL x y z)) p ((ws.map (fun n : Nat => (n : Int))).map V.int) := by
      rw [vZ]
      exact hp2
    refine ⟨_, rfl, p, _, rfl, hp2z, ?_⟩
    rw [sumZ]
    refine ⟨_, rfl, G1, ws.sum, L, rfl, e2.c, by omega, by omega, fun v3 G3 H3 e3 r3 => ?_⟩
    obtain ⟨pf, rfl, hpf⟩ := r3
    refine ⟨_, rfl, pf, _, L, _, rfl, rfl, seqL e3.c.s hpf, vNs_at rfl (powN_get (Nat.le_refl L)), ?_⟩
    have a3 := e3.stay0 (b := a) upd_same na
    have g3 := e3.none_g (b := a) (by rw [upd_same]; simp) ga1
    have e4 := e2.trans (e3.weak (M' := aM a) (fun _ h => h.elim))
    refine ⟨_, rfl, a, 8, x, y, z, rfl, a3, by decide, by decide, fun sh x y z hsh => ?_⟩
    have e5 := e4.mut (o := StL x y z) (.inr rfl) g3 na
    have hF := pow_le4 (a := ws.sum) (n := L) hs hL
    have hFp : 0 < ws.sum ^ L := whole_pos ok
    have hwl : wtL ws l ≤ ws.sum ^ L := by
      have := wt_le (ws := ws) hlt.2
      rw [hlt.1] at this
      exact this
    have hq : wtL ws l * lw / ws.sum ^ L ≤ lw := by
      refine Nat.le_trans (Nat.div_le_div_right (Nat.mul_le_mul_right _ hwl)) ?_
      rw [Nat.mul_div_cancel_left _ hFp]
      exact Nat.le_refl _
    have ga5 := g3
    have ha5 : (upd H3 a (StL x y z)) a = some (StL x y z) := upd_same
    refine ⟨_, rfl, _, _, rfl, rfl, _, rfl, ite2 (fun h => ?_) (fun h => ?_)⟩
    · refine ⟨_, rfl, _, rfl, _, _, rfl, rfl, .inr ⟨by omega, by omega⟩, _, rfl, _, _, rfl, rfl, divI (by omega) (by omega), ?_⟩
      refine ⟨_, rfl, _, _, rfl, rfl, _, _, rfl, rfl, ?_⟩
      refine ⟨_, rfl, _, _, rfl, _, rfl, leS (by show 2 ≤ 100000; decide), fun t ht => ?_⟩
      have nt : a ≠ t := ne_of_none ha5 ht
      obtain ⟨A, hA, hA1, hA2⟩ : ∃ A : Nat, (if (1 : Int) < ((wtL ws l : Nat) : Int) * (lw : Int) / ((ws.sum ^ L : Nat) : Int) + (sh : Int) - 1 then ((wtL ws l : Nat) : Int) * (lw : Int) / ((ws.sum ^ L : Nat) : Int) + (sh : Int) - 1 else 1) = (A : Int) ∧ 0 < A ∧ A ≤ 10001 := by
        rw [natmul, natdiv]
        have h3 : sh < 3 := by
          have := of_decide_eq_true h
          omega
        refine ⟨max 1 (wtL ws l * lw / ws.sum ^ L + sh - 1), ?_, ?_, ?_⟩
        · split <;> omega
        · omega
        · omega
      refine q _ _ _ x y z (e5.trans (Ext.new (M := aM a) e5.c ht)) (by rw [upd_ne nt]; exact ga5) (by rw [upd_ne nt]; exact ha5) ⟨(A, lw), ⟨t, rfl, ?_⟩, hA1, hA2, hlw, hlw2⟩
      rw [upd_same]
      show _ = some (HO.tup [V.int ((A : Nat) : Int), vN lw])
      rw [← hA]
      rfl
    · refine ⟨_, rfl, rfl, _, rfl, ite2 (fun h => ?_) (fun h => ?_)⟩
      · refine ⟨_, rfl, a, 2, x, y, z, rfl, ha5, by decide, by decide, fun e x y z he => ?_⟩
        have e6 := e5.mut (o := StL x y z) (.inr rfl) ga5 na
        refine ⟨_, _, rfl, rfl, leS (by show 2 ≤ 100000; decide), fun t ht => ?_⟩
        have nt : a ≠ t := ne_of_none upd_same ht
        refine q _ _ _ x y z (e6.trans (Ext.new (M := aM a) e6.c ht)) (by rw [upd_ne nt]; exact ga5) (by rw [upd_ne nt, upd_same]) ⟨(1 + e, 1), ⟨t, rfl, ?_⟩, by show 0 < 1 + e; omega, by show 1 + e ≤ 10001; omega, by show 0 < 1; decide, by show 1 ≤ 10000; decide⟩
        rw [upd_same]
        show _ = some (HO.tup [V.int ((1 + e : Nat) : Int), vN 1])
        rw [show ((1 + e : Nat) : Int) = 1 + (e : Int) by omega]
        rfl
      · refine ⟨_, rfl, _, rfl, _, _, rfl, rfl, divI (by omega) (by omega), leS (by show 2 ≤ 100000; decide), fun o ho => ?_⟩
        have no : a ≠ o := ne_of_none ha5 ho
        have e6 := e5.trans (Ext.loc (M := aM a) (o := .lst [.int 60, .int 10000]) e5.c ho)
        obtain ⟨m, hm, hm1, hm2⟩ : ∃ m : Nat, atI [V.int 60, V.int 10000] ((sh : Int) % 2) = some (vN m) ∧ 1 ≤ m ∧ m ≤ 10000 := by
          rcases (show (sh : Int) % 2 = 0 ∨ (sh : Int) % 2 = 1 by omega) with e | e <;> rw [e]
          · exact ⟨60, rfl, by decide, by decide⟩
          · exact ⟨10000, rfl, by decide, by decide⟩
        refine ⟨_, rfl, .inl ⟨_, rfl, _, _, rfl, rfl, (by show (0 : Int) < 2; decide), o, _, _, _, rfl, rfl, sq_ofL upd_same, hm, ?_⟩⟩
        refine ⟨_, _, rfl, _, _, rfl, ?_⟩
        have e6a : (upd (upd H3 a (StL x y z)) o (.lst [.int 60, .int 10000])) a = some (StL x y z) := by rw [upd_ne no]; exact ha5
        obtain ⟨M, hM, hM1, hM2⟩ : ∃ M : Nat, (if (if (m : Int) < (10000 : Int) / (lw : Int) then (m : Int) else (10000 : Int) / (lw : Int)) > 1 then (if (m : Int) < (10000 : Int) / (lw : Int) then (m : Int) else (10000 : Int) / (lw : Int)) else 1) = (M : Int) ∧ 0 < M ∧ M ≤ 10000 := by
          have h1 : (10000 : Int) / (lw : Int) = ((10000 / lw : Nat) : Int) := rfl
          rw [h1]
          refine ⟨max 1 (min (10000 / lw) m), ?_, ?_, ?_⟩
          · split <;> split at * <;> omega
          · omega
          · omega
        refine ⟨a, M, x, y, z, ?_, e6a, hM1, by omega, fun d x y z hd => ?_⟩
        · rw [← hM]
          rfl
        have e7 := e6.mut (o := StL x y z) (.inr rfl) ga5 na
        refine ⟨_, _, rfl, rfl, _, rfl, _, rfl, _, _, rfl, rfl, a, 1 + d + 1, x, y, z, ?_, upd_same, by omega, by omega, fun d2 x y z hd2 => ?_⟩
        · rw [show ((1 + d + 1 : Nat) : Int) = 1 + (d : Int) + 1 by omega]
          rfl
        have e8 := e7.mut (o := StL x y z) (.inr rfl) ga5 na
        refine ⟨_, _, rfl, rfl, _, rfl, leS (by show 2 ≤ 100000; decide), fun t ht => ?_⟩
        have nt : a ≠ t := ne_of_none upd_same ht
        refine q _ _ _ x y z (e8.trans (Ext.new (M := aM a) e8.c ht)) (by rw [upd_ne nt]; exact ga5) (by rw [upd_ne nt, upd_same]) ⟨(1 + d2, 1 + d), ⟨t, rfl, ?_⟩, by show 0 < 1 + d2; omega, by show 1 + d2 ≤ 10001; omega, by show 0 < 1 + d; omega, by show 1 + d ≤ 10000; omega⟩
        rw [upd_same]
        show _ = some (HO.tup [V.int ((1 + d2 : Nat) : Int), V.int ((1 + d : Nat) : Int)])
        rw [show ((1 + d2 : Nat) : Int) = 1 + (d2 : Int) by omega, show ((1 + d : Nat) : Int) = 1 + (d : Int) by omega]
end
end K43
-- part W36
/-! W36: the law's keys. -/
namespace K43
open PySem PySem.Spec PyProof.Rows L2
section
variable {P : Program} {w : World} {K : PySem.W.Frag} {mg : Str → Option Value} {base : Heap} {cS cF cG cT cM cK : Addr} {PT cc : Addr}
def KeyOk (y : Pl) : Prop := 0 < y.R ∧ y.R < 2 ^ 60 ∧ ∀ l, okT y.k y.L l → 0 < layA y l + y.f (endM [0, 0, 0] l) ∧ layA y l + y.f (endM [0, 0, 0] l) ≤ y.R ∧ 0 < layR y l ∧ layR y l ≤ y.R
theorem sc_lkeys : FnScope ["_law_stream_here", "_law_plan_here", "_law_texts_here", "_law_keys_here", "_law_text", "_law_step"] ["_law_stream_here", "_law_plan_here", "_law_texts_here"] (defScope (topS 56)) := ⟨rfl, rfl, rfl, by decide +kernel, rfl, by decide +kernel, by decide +kernel⟩
def spLkeys (PT : Addr) (K : PySem.W.Frag) : Sp := fun vs H Q _ => ∃ (G : Hp) (a : Addr) (v u : V) (y : Pl) (ls : List (List Nat)) (x y1 z : Nat), vs = [.ref a, v, u] ∧ Cl PT G H ∧ PlAt G v y ∧ 2 ≤ y.k ∧ y.k ≤ 3 ∧ y.L ≤ 4 ∧ LX K G u ls ∧ (∀ l ∈ ls, okT y.k y.L l) ∧ ls.length ≤ 16 ∧ KeyOk y ∧ H a = some (StL x y1 z) ∧ G a = none ∧ a ≠ PT ∧ RetA PT a G H Q fun G' v => ∃ ks : List Nat, LN K G' v ks ∧ ∀ i ∈ ks, i < y.R
theorem ok_lkeys (T : Txt K mg cS cF cG cT cM cK) : Cal P w K mg base "_law_keys" 4 ["_law_stream_here", "_law_plan_here", "_law_texts_here"] (spLkeys PT K) := by
  refine T.d_law_keys.ok sc_lkeys (fun vs H Q E h => ?_) (fun f cdv A outer s H vs Q E hr h => ?_)
  · obtain ⟨G, a, v, u, y, ls, x, y1, z, rfl, _⟩ := h
    rfl
  · obtain ⟨G, a, v, u, y, ls, x, y1, z, rfl, c, hv, hk1, hk2, hL, ⟨pu, rfl, hu⟩, hls, hl16, hK, ha, ga, na, q⟩ := h
    obtain ⟨p, d, kv, rfl, hp, hd, hsp⟩ := id hv
    obtain ⟨hR0, hR1, hKl⟩ := hK
    refine ⟨_, (pss_cons (ps_if (pt_cmpR op_le (pe_dget (hu_of hr) (pv 1) pe_str (fun _ _ => rfl)) pe_int (nomark _)) (pss_one (ps_ret (pe_listRg rfl rfl T.z_list (prg_1 rfl T.z_range (pe_dget (hu_of hr) (pv 1) pe_str (fun _ _ => rfl)))))) pss_nil)
  (pss_cons (ps_s 3 sc_lkeys.nd (pe_lst (pa_cons pe_int (pa_cons (pe_op op_sub (pe_dget (hu_of hr) (pv 1) pe_str (fun _ _ => rfl)) pe_int) pa_nil))))
  (pss_cons (ps_for PassesOwn.never rfl (pi_listK (K := K) (pv 2)) (pg_n 4 sc_lkeys.nd)
  (pss_cons (ps_expr (pe_bm PySem.F.plainAttrs_list PySem.F.slot_list_append PySem.F.type_list_append mt_append (pv 3) (pa_cons (pe_op op_sub (pe_ix (ix_tupK (K := K)) (pe_ix (ix_tupK (K := K)) (pe_c (ok_llay (PT := PT) T) (hr.mono (by first | decide | omega)) (pa_cons (pv 1) (pa_cons (pv 4) pa_nil))) pe_int (fun _ _ => rfl)) pe_int (fun _ _ => rfl)) pe_int) pa_nil)))
  (pss_one (ps_expr (pe_bm PySem.F.plainAttrs_list PySem.F.slot_list_append PySem.F.type_list_append mt_append (pv 3) (pa_cons (pe_op op_sub (pe_ix (ix_tupK (K := K)) (pe_ix (ix_tupK (K := K)) (pe_c (ok_llay (PT := PT) T) (hr.mono (by first | decide | omega)) (pa_cons (pv 1) (pa_cons (pv 4) pa_nil))) pe_int (fun _ _ => rfl)) pe_int (fun _ _ => rfl)) pe_int) pa_nil))))))
  (pss_cons (ps_for PassesOwn.never rfl (pi_range1 rfl T.z_range (pa_cons pe_int pa_nil)) (pg_n 5 sc_lkeys.nd)
  (pss_one (ps_expr (pe_bm PySem.F.plainAttrs_list PySem.F.slot_list_append PySem.F.type_list_append mt_append (pv 3) (pa_cons (pe_c (ok_draw T) (hr.mono (by first | decide | omega)) (pa_cons (pv 0) (pa_cons (pe_dget (hu_of hr) (pv 1) pe_str (fun _ _ => rfl)) pa_nil))) pa_nil)))))
  (pss_one (ps_ret (pv 3))))))), ?_⟩
    have hpH := c.s _ _ hp
    have e0 : Ext PT (aM a) G H G H := Ext.refl c
    refine ⟨_, rfl, p, _, rfl, dg_ring hpH, _, _, rfl, rfl, _, rfl, ite2 (fun h => ?_) (fun h => ?_)⟩
    · refine ⟨_, rfl, p, _, rfl, dg_ring hpH, _, rfl, RgOk.of_le (by omega) (by have := of_decide_eq_true h; omega) (by omega) (by omega), fun t ht => ?_⟩
      have nt : a ≠ t := ne_of_none ha ht
      refine q _ _ _ x y1 z (e0.trans (Ext.new (M := aM a) c ht)) (by rw [upd_ne nt]; exact ga) (by rw [upd_ne nt]; exact ha) ⟨List.range y.R, ⟨t, rfl, sq_ofL ?_⟩, fun i hi => List.mem_range.mp hi⟩
      rw [upd_same]
      unfold rgV
      rw [show ((y.R : Nat) : Int) - 0 = (y.R : Int) by omega, Int.toNat_natCast]
      refine congrArg (fun l => some (HO.lst l)) (List.map_congr_left fun i hi => ?_)
      rw [Int.zero_add]
      rfl
    · refine ⟨_, rfl, p, _, rfl, dg_ring hpH, _, _, rfl, rfl, leS (by show 2 ≤ 100000; decide), fun o ho => ?_⟩
      have no : o ≠ PT := c.ne ho
      have nao : a ≠ o := ne_of_none ha ho
      have e1 := e0.trans (Ext.loc (M := aM a) (o := .lst [vN 0, V.int ((y.R : Int) - 1)]) c ho)
      refine ⟨_, rfl, pu, rfl, ⟨_, seqL e1.c.s hu⟩, ?_⟩
      refine wk_list.loop (fun i σ H' => ∃ y4 y5 ks G', σ = [some (.ref a), some (.ref p), some (.ref pu), some (.ref o), y4, y5] ∧ Ext PT (aM a) G H G' H' ∧ G' a = none ∧ G' o = none ∧ H' a = some (StL x y1 z) ∧ H' o = some (.lst (ks.map vN)) ∧ ks.length = 2 + 2 * i ∧ ∀ i ∈ ks, i < y.R)
        ⟨none, none, [0, y.R - 1], G, rfl, e1, ga, c.free ho, by rw [upd_ne nao]; exact ha, ?_, rfl, ?_⟩ (fun i σ H' _ ⟨_, _, _, G', _, e, _⟩ => seqL e.c.s (seqL e.g hu)) ?_ ?_
      · rw [upd_same]
        show some (HO.lst [vN 0, V.int ((y.R : Int) - 1)]) = some (HO.lst [vN 0, V.int ((y.R - 1 : Nat) : Int)])
        rw [show ((y.R - 1 : Nat) : Int) = (y.R : Int) - 1 by omega]
      · intro i hi
        rcases List.mem_cons.mp hi with h | h
        · omega
        · have := List.mem_singleton.mp h
          omega
      · rintro i v σ H2 H2' hi ⟨y4, y5, ks, G2, rfl, e2, ga2, go2, ha2, ho2, hkl, hks⟩ ⟨rfl, hx⟩
        rw [List.length_map] at hi
        obtain ⟨l, hl, rfl⟩ : ∃ l, ls[i]? = some l ∧ v = V.str (tx l) := by
          rw [List.getElem?_map] at hx
          cases e : ls[i]? with
          | none => rw [e] at hx; cases hx
          | some l => rw [e] at hx; exact ⟨l, rfl, (Option.some.inj hx).symm⟩
        have okl := hls l (List.mem_of_getElem? hl)
        obtain ⟨f1, f2, f3, f4⟩ := hKl l okl
        refine ⟨_, rfl, .inl ⟨rfl, _, sq_ofL ho2⟩, _, rfl, _, rfl, G2, .ref p, y, l, rfl, e2.c, hv.to e2.g, hk1, hk2, hL, okl, fun v3 G3 H3 e3 r3 => ?_⟩
        obtain ⟨pr, p1, p2, rfl, hpr, hp1, hp2⟩ := r3
        have o3 := e3.stay0 ho2 no
        have a3 := e3.stay0 ha2 na
        have go3 := e3.none_g (by rw [ho2]; simp) go2
        have ga3 := e3.none_g (by rw [ha2]; simp) ga2
        have e23 := e2.trans (e3.weak (M' := aM a) (fun _ h => h.elim))
        refine ⟨pr, _, 0, _, rfl, rfl, sq_ofT (e3.c.s _ _ hpr), atI_nat (j := 0) rfl, p1, _, 1, _, rfl, rfl, sq_ofT (e3.c.s _ _ hp1), atI_nat (j := 1) rfl, _, _, rfl, rfl, ?_⟩
        refine ⟨o, _, _, rfl, rfl, o3, ?_, ?_⟩
        · rw [List.length_map, hkl]
          exact ltS (by omega)
        have e4 := e23.mut (o := .lst (ks.map vN ++ [V.int (((layA y l + y.f (endM [0, 0, 0] l) : Nat) : Int) - 1)])) (.inl (e0.nn ho)) go3 no
        have ho4 := @upd_same H3 o (.lst (ks.map vN ++ [V.int (((layA y l + y.f (endM [0, 0, 0] l) : Nat) : Int) - 1)]))
        refine ⟨_, rfl, .inl ⟨rfl, _, sq_ofL ho4⟩, _, rfl, _, rfl, G3, .ref p, y, l, rfl, e4.c, hv.to e4.g, hk1, hk2, hL, okl, fun v5 G5 H5 e5 r5 => ?_⟩
        obtain ⟨pr5, p15, p25, rfl, hpr5, hp15, hp25⟩ := r5
        have o5 := e5.stay0 ho4 no
        have a5 := e5.stay0 (b := a) (by rw [upd_ne nao]; exact a3) na
        have go5 := e5.none_g (b := o) (by rw [ho4]; simp) go3
        have ga5 := e5.none_g (b := a) (by rw [upd_ne nao, a3]; simp) ga3
        have e45 := e4.trans (e5.weak (M' := aM a) (fun _ h => h.elim))
        refine ⟨pr5, _, 1, _, rfl, rfl, sq_ofT (e5.c.s _ _ hpr5), atI_nat (j := 1) rfl, p25, _, 0, _, rfl, rfl, sq_ofT (e5.c.s _ _ hp25), atI_nat (j := 0) rfl, _, _, rfl, rfl, ?_⟩
        refine ⟨o, _, _, rfl, rfl, o5, ?_, ?_⟩
        · rw [List.length_append, List.length_map, hkl]
          exact ltS (by simp; omega)
        refine ⟨some (.str (tx l)), y5, ks ++ [layA y l + y.f (endM [0, 0, 0] l) - 1] ++ [layR y l - 1], G5, rfl, e45.mut (.inl (e0.nn ho)) go5 no, ga5, go5, by rw [upd_ne nao]; exact a5, ?_, ?_, ?_⟩
        · rw [upd_same, List.map_append, List.map_append]
          show _ = some (HO.lst (ks.map vN ++ [V.int ((layA y l + y.f (endM [0, 0, 0] l) - 1 : Nat) : Int)] ++ [V.int ((layR y l - 1 : Nat) : Int)]))
          rw [show ((layA y l + y.f (endM [0, 0, 0] l) - 1 : Nat) : Int) = ((layA y l + y.f (endM [0, 0, 0] l) : Nat) : Int) - 1 by omega, show ((layR y l - 1 : Nat) : Int) = ((layR y l : Nat) : Int) - 1 by omega]
        · rw [List.length_append, List.length_append, hkl]
          simp only [List.length_cons, List.length_nil]
          omega
        · intro j hj
          rcases List.mem_append.mp hj with h | h
          · rcases List.mem_append.mp h with h | h
            · exact hks j h
            · have := List.mem_singleton.mp h
              omega
          · have := List.mem_singleton.mp h
            omega
      · rintro σ H2 ⟨y4, y5, ks, G2, rfl, e2, ga2, go2, ha2, ho2, hkl, hks⟩
        rw [List.length_map] at hkl
        refine ⟨_, rfl, by decide, by decide, ?_⟩
        refine wk_range.loop (n := ((24 : Int)).toNat) (fun i σ H' => ∃ y4 y5 ks x y1 z, σ = [some (.ref a), some (.ref p), some (.ref pu), some (.ref o), y4, y5] ∧ Ext PT (aM a) G H G2 H' ∧ H' a = some (StL x y1 z) ∧ H' o = some (.lst (ks.map vN)) ∧ ks.length ≤ 40 + i ∧ ∀ i ∈ ks, i < y.R)
          ⟨y4, y5, ks, x, y1, z, rfl, e2, ha2, ho2, by omega, hks⟩ (fun _ _ _ _ _ => True.intro) ?_ ?_
        · rintro i v σ H3 H3' hi ⟨y4, y5, ks, x, y1, z, rfl, e3, ha3, ho3, hkl, hks⟩ ⟨rfl, rfl⟩
          have hi : i < 24 := hi
          refine ⟨_, rfl, .inl ⟨rfl, _, sq_ofL ho3⟩, _, rfl, _, rfl, p, _, rfl, dg_ring (e3.c.s _ _ (e3.g _ _ hp)), ?_⟩
          refine ⟨a, y.R, x, y1, z, rfl, ha3, hR0, hR1, fun d x y1 z hd => ?_⟩
          have e4 := e3.mut (o := StL x y1 z) (.inr rfl) ga2 na
          have ho4 : (upd H3' a (StL x y1 z)) o = some (.lst (ks.map vN)) := by rw [upd_ne (Ne.symm nao)]; exact ho3
          refine ⟨o, _, _, rfl, rfl, ho4, ?_, ?_⟩
          · rw [List.length_map]
            exact ltS (by omega)
          refine ⟨y4, some (.int (0 + (i : Nat))), ks ++ [d], x, y1, z, rfl, e4.mut (.inl (e0.nn ho)) go2 no, by rw [upd_ne nao, upd_same], ?_, ?_, ?_⟩
          · rw [upd_same, List.map_append]
            rfl
          · rw [List.length_append]
            simp only [List.length_cons, List.length_nil]
            omega
          · intro j hj
            rcases List.mem_append.mp hj with h | h
            · exact hks j h
            · have := List.mem_singleton.mp h
              omega
        · rintro σ H3 ⟨y4, y5, ks, x, y1, z, rfl, e3, ha3, ho3, hkl, hks⟩
          have nao2 : a ≠ o := nao
          exact ⟨_, rfl, q _ _ _ x y1 z (e3.frz (e0.nn ho) ho3 no) (by rw [upd_ne nao]; exact ga2) ha3 ⟨ks, ⟨o, rfl, sq_ofL upd_same⟩, hks⟩⟩
end
end K43
-- part W37
/-! W37: the law's shares. -/
namespace K43
open PySem PySem.Spec PyProof.Rows L2
section
variable {P : Program} {w : World} {K : PySem.W.Frag} {mg : Str → Option Value} {base : Heap} {cS cF cG cT cM cK : Addr} {PT cc : Addr}
def ShOk (ws : List Nat) (L : Nat) (ps : List (List Nat × Nat)) : Prop := totS ps = ws.sum ^ L ∧ (∀ l, okT ws.length L l → shareM ws L l = low (wtL ws l) (ws.sum ^ L) ∧ nS ps l = wtL ws l ∧ nS (machS ws L) l = wtL ws l) ∧ (∀ l, ¬ okT ws.length L l → nS ps l = 0 ∧ nS (machS ws L) l = 0)
theorem sc_lsf : FnScope ["_law_far", "_law_table", "_law_machine", "_law_weights", "_law_length", "_law_texts_here", "_law_full", "_law_text", "_law_weight_here", "_law_told", "_law_strange"] ["_law_far", "_law_table", "_law_machine", "_law_weights", "_law_length", "_law_texts_here"] (defScope (topS 57)) := ⟨rfl, rfl, rfl, by decide +kernel, rfl, by decide +kernel, by decide +kernel⟩
def spLsf (PT cF cT cM : Addr) (K : PySem.W.Frag) : Sp := fun vs H Q _ => ∃ (G : Hp) (vf vt vm vw vx : V) (ws : List Nat) (L : Nat) (ps : List (List Nat × Nat)), vs = [vf, vt, vm, vw, .int L, vx] ∧ Cl PT G H ∧ okF ws L ∧ FarAt K cF G vf (ws, L) ∧ TaAt cT G vt ps ∧ MaAt cM G vm (ws, L) ∧ LN K G vw ws ∧ LX K G vx (textsM ws.length L) ∧ ShOk ws L ps ∧ Ret PT G H Q fun _ r => r = .bl true
theorem ok_lsf (T : Txt K mg cS cF cG cT cM cK) (D : DmC K cF "counts_of" "Far.counts_of" (inC 23 2) ["self", "text"] cc) (TB : GxR.TabB base mg cc PT) : Cal P w K mg base "_law_shares_fit" 5 ["_law_far", "_law_table", "_law_machine", "_law_weights", "_law_length", "_law_texts_here"] (spLsf PT cF cT cM K) := by
  refine T.d_law_shares_fit.ok sc_lsf (fun vs H Q E h => ?_) (fun f cdv A outer s H vs Q E hr h => ?_)
  · obtain ⟨G, vf, vt, vm, vw, vx, ws, L, ps, rfl, _⟩ := h
    rfl
  · obtain ⟨G, vf, vt, vm, vw, vx, ws, L, ps, rfl, c, ok, hF, hT, hM, ⟨p, rfl, hp⟩, ⟨px, rfl, hx⟩, ⟨so1, so2, so3⟩, q⟩ := h
    obtain ⟨xF, dF, _, _, rfl, hF1, _, _⟩ := id hF
    obtain ⟨xT, dT, _, rfl, hT1, _⟩ := id hT
    obtain ⟨xM, dM, _, _, rfl, hM1, _⟩ := id hM
    refine ⟨_, (pss_cons (ps_s 6 sc_lsf.nd (pe_ix (ix_listK (K := K)) (pe_c (ok_lpows (PT := PT) T) (hr.mono (by first | decide | omega)) (pa_cons (pe_callB (cr_sumK (K := K) rfl) (by rfl) T.z_sum (by decide +kernel) (pa_cons (pv 3) pa_nil)) (pa_cons (pv 4) pa_nil))) (pv 4) (fun _ _ => rfl)))
  (pss_cons (ps_for PassesOwn.never rfl (pi_listK (K := K) (pv 5)) (pg_n 7 sc_lsf.nd)
  (pss_cons (ps_s 8 sc_lsf.nd (pe_c (ok_lwt T) (hr.mono (by first | decide | omega)) (pa_cons (pv 3) (pa_cons (pv 7) pa_nil))))
  (pss_one (ps_for PassesOwn.never rfl (pi_listK (K := K) (pe_lst (pa_cons (pe_m (ok_fsh (PT := PT) T D TB) (hr.mono (by first | decide | omega)) (pv 0) (pa_cons (pv 7) pa_nil)) (pa_cons (pe_m (ok_tsh (PT := PT) T) (hr.mono (by first | decide | omega)) (pv 1) (pa_cons (pv 7) pa_nil)) (pa_cons (pe_m (ok_msh (PT := PT) T) (hr.mono (by first | decide | omega)) (pv 2) (pa_cons (pv 7) pa_nil)) pa_nil))))) (pg_n 9 sc_lsf.nd)
  (pss_one (ps_if (pt_not (pt_val (pe_c (ok_lish (PT := PT) T) (hr.mono (by first | decide | omega)) (pa_cons (pv 9) (pa_cons (pv 8) (pa_cons (pv 6) pa_nil)))))) (pss_one (ps_ret pe_bl)) pss_nil))))))
  (pss_cons (ps_s 10 sc_lsf.nd (pe_op op_add_str (pe_ix (ix_listK (K := K)) (pv 5) (pe_un un_neg pe_int) (fun _ _ => rfl)) pe_str))
  (pss_cons (ps_for PassesOwn.never rfl (pi_listK (K := K) (pe_lst (pa_cons (pe_m (ok_fsh (PT := PT) T D TB) (hr.mono (by first | decide | omega)) (pv 0) (pa_cons (pv 10) pa_nil)) (pa_cons (pe_m (ok_tsh (PT := PT) T) (hr.mono (by first | decide | omega)) (pv 1) (pa_cons (pv 10) pa_nil)) (pa_cons (pe_m (ok_msh (PT := PT) T) (hr.mono (by first | decide | omega)) (pv 2) (pa_cons (pv 10) pa_nil)) pa_nil))))) (pg_n 9 sc_lsf.nd)
  (pss_one (ps_if (pt_not (pt_val (pe_c (ok_lish (PT := PT) T) (hr.mono (by first | decide | omega)) (pa_cons (pv 9) (pa_cons pe_int (pa_cons pe_int pa_nil)))))) (pss_one (ps_ret pe_bl)) pss_nil)))
  (pss_one (ps_ret pe_bl)))))), ?_⟩
    have hk1 := ok.1
    have hk2 := ok.2.1
    have hL := ok.2.2.1
    have hs := ok.2.2.2.1
    have hpos := texts_pos ws.length (by omega) hk1 L (by omega) (fun e => by have := ok.2.2.2.2.2 e; omega)
    have hle := texts_le ws.length (by omega) L (by omega) (fun e => by have := ok.2.2.2.2.2 e; omega)
    have hF4 := pow_le4 (a := ws.sum) (n := L) hs hL
    have hFp : 0 < ws.sum ^ L := whole_pos ok
    have hpz : SqL K H p ((ws.map (fun n : Nat => (n : Int))).map V.int) := by
      rw [vZ]
      exact seqL c.s hp
    refine ⟨_, rfl, p, _, rfl, hpz, ?_⟩
    rw [sumZ]
    refine ⟨_, rfl, G, ws.sum, L, rfl, c, by omega, by omega, fun v1 G1 H1 e1 r1 => ?_⟩
    obtain ⟨pf, rfl, hpf⟩ := r1
    refine ⟨_, rfl, pf, _, L, _, rfl, rfl, seqL e1.c.s hpf, vNs_at rfl (powN_get (Nat.le_refl L)), ?_⟩
    refine ⟨_, rfl, px, rfl, ⟨_, seqL e1.c.s (seqL e1.g hx)⟩, ?_⟩
    refine wk_list.loop (fun i σ H' => ∃ y7 y8 y9 G', σ = [some (.ref xF), some (.ref xT), some (.ref xM), some (.ref p), some (.int L), some (.ref px), some (vN (ws.sum ^ L)), y7, y8, y9, none] ∧ Ext PT nM G H G' H')
      ⟨none, none, none, G1, rfl, e1⟩ (fun i σ H' _ ⟨_, _, _, G', _, e⟩ => seqL e.c.s (seqL e.g hx)) ?_ ?_
    · rintro i v σ H2 H2' hi ⟨y7, y8, y9, G2, rfl, e2⟩ ⟨rfl, hv⟩
      obtain ⟨l, hl, rfl⟩ : ∃ l, (textsM ws.length L)[i]? = some l ∧ v = V.str (tx l) := by
        rw [List.getElem?_map] at hv
        cases e : (textsM ws.length L)[i]? with
        | none => rw [e] at hv; cases hv
        | some l => rw [e] at hv; exact ⟨l, rfl, (Option.some.inj hv).symm⟩
      have hlt := mem_texts.mp (List.mem_of_getElem? hl)
      obtain ⟨sh1, sh2, sh3⟩ := so2 l hlt
      refine ⟨_, rfl, _, rfl, _, ws, l, rfl, ⟨p, rfl, seqL e2.c.s (seqL e2.g hp)⟩, hk2, hlt.2, fun w hw => by have := ok.le hw; omega, by have := hlt.1; omega, ?_⟩
      refine ⟨_, rfl, xF, dF, _, rfl, e2.c.s _ _ (e2.g _ _ hF1), rfl, _, rfl, G2, _, (ws, L), l, rfl, e2.c, FarAt.to e2.g hF, ok, by have := hlt.1; omega, fun v3 G3 H3 e3 r3 => ?_⟩
      refine ⟨_, rfl, xT, dT, _, rfl, e3.c.s _ _ ((e2.trans e3).g _ _ hT1), rfl, _, rfl, G3, _, ps, l, rfl, e3.c, TaAt.to (e2.trans e3).g hT, by rw [so1]; exact hFp, by rw [so1]; omega, fun v4 G4 H4 e4 r4 => ?_⟩
      refine ⟨_, rfl, xM, dM, _, rfl, e4.c.s _ _ (((e2.trans e3).trans e4).g _ _ hM1), rfl, _, rfl, G4, _, (ws, L), l, rfl, e4.c, MaAt.to ((e2.trans e3).trans e4).g hM, ok, fun v5 G5 H5 e5 r5 => ?_⟩
      refine ⟨leS (by show 3 ≤ 100000; decide), fun o ho => ?_⟩
      have no : o ≠ PT := e5.c.ne ho
      have e25 := ((e2.trans e3).trans e4).trans e5
      have e6 := e25.trans (Ext.loc (M := nM) (o := .lst [v3, v4, v5]) e5.c ho)
      refine ⟨_, rfl, ⟨_, sq_ofL upd_same⟩, ?_⟩
      have hall : ∀ (j : Nat) (v : V), [v3, v4, v5][j]? = some v → ShAt cS G5 v (low (wtL ws l) (ws.sum ^ L)) := fun j v h => by
        rcases j with _ | _ | _ | j
        · obtain rfl := Option.some.inj h
          exact ShAt.to (e4.g.trans e5.g) (sh1 ▸ r3)
        · obtain rfl := Option.some.inj h
          rw [sh2, so1] at r4
          exact ShAt.to e5.g r4
        · obtain rfl := Option.some.inj h
          rw [sh3] at r5
          exact r5
        · cases h
      refine wk_list.loop (fun i σ H' => ∃ y9 G', σ = [some (.ref xF), some (.ref xT), some (.ref xM), some (.ref p), some (.int L), some (.ref px), some (vN (ws.sum ^ L)), some (.str (tx l)), some (vN (wtL ws l)), y9, none] ∧ Ext PT nM G H G' H' ∧ Same G5 G' ∧ H' o = some (.lst [v3, v4, v5]))
        ⟨y9, G5, rfl, e6, Same.refl _, upd_same⟩ (fun i σ H' _ ⟨_, _, _, _, _, d⟩ => sq_ofL d) ?_ ?_
      · rintro j v σ H6 H6' hj ⟨y9, G6, rfl, e7, s7, d7⟩ ⟨rfl, hv⟩
        refine ⟨_, rfl, _, rfl, _, rfl, G6, v, wtL ws l, ws.sum ^ L, rfl, e7.c, hFp, by omega, ShAt.to s7 (hall j v hv), fun G8 H8 e8 => ?_⟩
        exact ⟨_, rfl, some v, G8, rfl, e7.trans e8, s7.trans e8.g, e8.stay0 d7 no⟩
      · rintro σ H6 ⟨y9, G6, rfl, e7, s7, d7⟩
        exact ⟨some (.str (tx l)), some (vN (wtL ws l)), y9, G6, rfl, e7⟩
    · rintro σ H2 ⟨y7, y8, y9, G2, rfl, e2⟩
      obtain ⟨l, hl⟩ : ∃ l, (textsM ws.length L)[(textsM ws.length L).length - 1]? = some l := ⟨_, List.getElem?_eq_getElem (by omega)⟩
      have hlt := mem_texts.mp (List.mem_of_getElem? hl)
      have hlx : (l ++ [1]).length = L + 1 := by rw [List.length_append, hlt.1]; rfl
      have hnot : ¬ okT ws.length L (l ++ [1]) := fun z => by have := z.1; omega
      obtain ⟨z1, z2⟩ := so3 _ hnot
      have hat : atI ((textsM ws.length L).map fun l => V.str (tx l)) (-1) = some (V.str (tx l)) := by
        have e : ∃ r, textsM ws.length L = r ++ [l] := by
          have h2 := take_get hl
          rw [show (textsM ws.length L).length - 1 + 1 = (textsM ws.length L).length by omega, List.take_length] at h2
          exact ⟨_, h2⟩
        obtain ⟨r, er⟩ := e
        rw [er, List.map_append]
        exact atI_last _ _
      refine ⟨_, rfl, _, rfl, px, _, -1, _, rfl, rfl, seqL e2.c.s (seqL e2.g hx), hat, tx l, tx [1], rfl, by rw [← b_str], ?_, ?_⟩
      · rw [tx_len, tx_len]
        exact leS (by have := hlt.1; simp; omega)
      rw [tx_add]
      have hFm : shareM ws L (l ++ [1]) = (0, 1) := if_neg hnot
      refine ⟨_, rfl, xF, dF, _, rfl, e2.c.s _ _ (e2.g _ _ hF1), rfl, _, rfl, G2, _, (ws, L), l ++ [1], rfl, e2.c, FarAt.to e2.g hF, ok, by omega, fun v3 G3 H3 e3 r3 => ?_⟩
      refine ⟨_, rfl, xT, dT, _, rfl, e3.c.s _ _ ((e2.trans e3).g _ _ hT1), rfl, _, rfl, G3, _, ps, l ++ [1], rfl, e3.c, TaAt.to (e2.trans e3).g hT, by rw [so1]; exact hFp, by rw [so1]; omega, fun v4 G4 H4 e4 r4 => ?_⟩
      refine ⟨_, rfl, xM, dM, _, rfl, e4.c.s _ _ (((e2.trans e3).trans e4).g _ _ hM1), rfl, _, rfl, G4, _, (ws, L), l ++ [1], rfl, e4.c, MaAt.to ((e2.trans e3).trans e4).g hM, ok, fun v5 G5 H5 e5 r5 => ?_⟩
      refine ⟨leS (by show 3 ≤ 100000; decide), fun o ho => ?_⟩
      have no : o ≠ PT := e5.c.ne ho
      have e25 := ((e2.trans e3).trans e4).trans e5
      have e6 := e25.trans (Ext.loc (M := nM) (o := .lst [v3, v4, v5]) e5.c ho)
      refine ⟨_, rfl, ⟨_, sq_ofL upd_same⟩, ?_⟩
      have h01 : low 0 1 = (0, 1) := low_zero (by decide)
      have hall : ∀ (j : Nat) (v : V), [v3, v4, v5][j]? = some v → ShAt cS G5 v (low 0 1) := fun j v h => by
        rcases j with _ | _ | _ | j
        · obtain rfl := Option.some.inj h
          rw [h01]
          exact ShAt.to (e4.g.trans e5.g) (hFm ▸ r3)
        · obtain rfl := Option.some.inj h
          rw [z1, so1, low_zero hFp] at r4
          rw [h01]
          exact ShAt.to e5.g r4
        · obtain rfl := Option.some.inj h
          rw [z2] at r5
          rw [h01, ← low_zero hFp]
          exact r5
        · cases h
      refine wk_list.loop (fun i σ H' => ∃ y9 G', σ = [some (.ref xF), some (.ref xT), some (.ref xM), some (.ref p), some (.int L), some (.ref px), some (vN (ws.sum ^ L)), y7, y8, y9, some (.str (tx (l ++ [1])))] ∧ Ext PT nM G H G' H' ∧ Same G5 G' ∧ H' o = some (.lst [v3, v4, v5]))
        ⟨y9, G5, rfl, e6, Same.refl _, upd_same⟩ (fun i σ H' _ ⟨_, _, _, _, _, d⟩ => sq_ofL d) ?_ ?_
      · rintro j v σ H6 H6' hj ⟨y9, G6, rfl, e7, s7, d7⟩ ⟨rfl, hv⟩
        refine ⟨_, rfl, G6, v, 0, 1, rfl, e7.c, by decide, by decide, ShAt.to s7 (hall j v hv), fun G8 H8 e8 => ?_⟩
        exact ⟨_, rfl, some v, G8, rfl, e7.trans e8, s7.trans e8.g, e8.stay0 d7 no⟩
      · rintro σ H6 ⟨y9, G6, rfl, e7, s7, d7⟩
        exact q _ _ _ e7 rfl
end
end K43
-- part W38
/-! W38: one key of the law. -/
namespace K43
open PySem PySem.Spec PyProof.Rows L2
section
variable {P : Program} {w : World} {K : PySem.W.Frag} {mg : Str → Option Value} {base : Heap} {cS cF cG cT cM cK : Addr} {PT cc : Addr}
theorem mt_indexK {X : Cx} (hk : X.K = K := by rfl) : MtR X "list.index" (rIndex K) := hk ▸ mt_index
def hitL (y : Pl) (l : List Nat) (i : Nat) : Prop := layA y l ≤ i ∧ i < layA y l + y.f (endM [0, 0, 0] l)
structure FitOk (y : Pl) (m : Mk') (s : Src) (i : Nat) : Prop where
  g1 : i < ringG m
  g2 : i < arcG m + restG m
  g3 : i < ringK s
  t : okT y.k y.L (writeG m i)
  p : hitP y (writeG m i) i
  x : ∃ j, j < s.tx.length ∧ (hitA s i j ∨ hitR s i j)
  u : ∀ l j, s.tx[j]? = some l → (hitA s i j ∨ hitR s i j) → l = writeG m i
  a : ∀ l, okT y.k y.L l → ((okT m.1.1.length m.1.2 l ∧ placeG m l ≤ i ∧ i < endG m l) ↔ hitL y l i)
  h : ∀ l j, s.tx[j]? = some l → (hitA s i j ↔ hitL y l i)
  o : ∀ l, okT y.k y.L l → l ≠ writeG m i → ¬ hitL y l i
theorem first_at {l : List Nat} : ∀ {xs : List (List Nat)}, l ∈ xs → ∃ j : Nat, xs[j]? = some l ∧ ∀ n : Nat, n < j → xs[n]? ≠ some l
  | a :: r, h => by
    by_cases e : a = l
    · exact ⟨0, by rw [e]; rfl, fun n hn => by omega⟩
    · rcases List.mem_cons.mp h with h | h
      · exact absurd h.symm e
      · obtain ⟨j, h1, h2⟩ := first_at h
        refine ⟨j + 1, h1, fun n hn => ?_⟩
        cases n with
        | zero => exact fun z => e (Option.some.inj z)
        | succ n => exact h2 n (by omega)
theorem sc_lkf : FnScope ["_law_plan_here", "_law_marking", "_law_makers", "_law_texts_here", "_law_key", "_law_text", "_law_arc", "_law_told", "_law_other"] ["_law_plan_here", "_law_marking", "_law_makers", "_law_texts_here", "_law_key"] (defScope (topS 58)) := ⟨rfl, rfl, rfl, by decide +kernel, rfl, by decide +kernel, by decide +kernel⟩
def spLkf (PT cF cG cT cK cS : Addr) (K : PySem.W.Frag) : Sp := fun vs H Q _ => ∃ (G : Hp) (vp vg vk vx : V) (y : Pl) (m : Mk') (s : Src) (i : Nat), vs = [vp, vg, vk, vx, .int i] ∧ Cl PT G H ∧ PlAt G vp y ∧ 2 ≤ y.k ∧ y.k ≤ 3 ∧ y.L ≤ 4 ∧ MkAt K cF cG G vg m ∧ MrAt cT cK cS G vk s ∧ okK s ∧ s.k = y.k ∧ s.L = y.L ∧ LX K G vx s.tx ∧ s.tx.length ≤ 16 ∧ FitOk y m s i ∧ Ret PT G H Q fun _ r => r = .bl true
theorem ok_lkf (T : Txt K mg cS cF cG cT cM cK) (D : DmC K cF "counts_of" "Far.counts_of" (inC 23 2) ["self", "text"] cc) (TB : GxR.TabB base mg cc PT) : Cal P w K mg base "_law_key_fits" 5 ["_law_plan_here", "_law_marking", "_law_makers", "_law_texts_here", "_law_key"] (spLkf PT cF cG cT cK cS K) := by
  refine T.d_law_key_fits.ok sc_lkf (fun vs H Q E h => ?_) (fun f cdv A outer s H vs Q E hr h => ?_)
  · obtain ⟨G, vp, vg, vk, vx, y, m, s, i, rfl, _⟩ := h
    rfl
  · obtain ⟨G, vp, vg, vk, vx, y, m, sr, i, rfl, c, hP, hk1, hk2, hL, hM, hR, okk, ek, eL, ⟨px, rfl, hx⟩, hx16, F, q⟩ := h
    obtain ⟨pp, dp, kv, rfl, hp1, hp2, hp3⟩ := id hP
    obtain ⟨pg, dg, _, _, _, rfl, hg1, _⟩ := id hM
    obtain ⟨pk, dk, _, _, _, _, _, _, rfl, hk9, _⟩ := id hR
    refine ⟨_, (pss_cons (ps_s 5 sc_lkf.nd (pe_m (ok_gw (PT := PT) T) (hr.mono (by first | decide | omega)) (pv 1) (pa_cons (pv 4) pa_nil)))
  (pss_cons (ps_if (PW.pt (pw_or (pt_not (pt_val (pe_c (ok_lhld (PT := PT) T) (hr.mono (by first | decide | omega)) (pa_cons (pv 0) (pa_cons (pv 5) (pa_cons (pv 4) pa_nil)))))) (pw_or1 (pt_cmpR op_ne (pe_m (ok_kw (PT := PT) T) (hr.mono (by first | decide | omega)) (pv 2) (pa_cons pe_int (pa_cons (pv 4) pa_nil))) (pv 5) (nomark _))))) (pss_one (ps_ret pe_bl)) pss_nil)
  (pss_cons (ps_s 6 sc_lkf.nd (pe_ix (ix_tupK (K := K)) (pe_c (ok_llay (PT := PT) T) (hr.mono (by first | decide | omega)) (pa_cons (pv 0) (pa_cons (pv 5) pa_nil))) pe_int (fun _ _ => rfl)))
  (pss_cons (ps_s 7 sc_lkf.nd (pe_m (ok_kwho T) (hr.mono (by first | decide | omega)) (pv 2) (pa_cons (pv 4) (pa_cons (pv 5) pa_nil))))
  (pss_cons (ps_if (pt_chain op_le op_lt (pe_ix (ix_tupK (K := K)) (pv 6) pe_int (fun _ _ => rfl)) (pv 4) (pe_ix (ix_tupK (K := K)) (pv 6) pe_int (fun _ _ => rfl))) (pss_one (ps_if (PW.pt (pw_or (pt_cmpR op_isnot_bl (pe_m (ok_acc (PT := PT) T D TB) (hr.mono (by first | decide | omega)) (pv 1) (pa_cons (pv 4) (pa_cons (pv 5) pa_nil))) pe_bl (nomark _)) (pw_or (pt_not (pt_val (pe_c (ok_lisint T) (hr.mono (by first | decide | omega)) (pa_cons (pv 7) pa_nil)))) (pw_or1 (pt_cmpR op_ne (pv 7) pe_int (nomark _)))))) (pss_one (ps_ret pe_bl)) pss_nil)) (pss_one (ps_if (PW.pt (pw_or (pt_cmpR op_isnot_bl (pe_m (ok_acc (PT := PT) T D TB) (hr.mono (by first | decide | omega)) (pv 1) (pa_cons (pv 4) (pa_cons (pv 5) pa_nil))) pe_bl (nomark _)) (pw_or1 (pt_cmpR op_notN (pv 7) pe_non (nomark _))))) (pss_one (ps_ret pe_bl)) pss_nil)))
  (pss_cons (ps_s 8 sc_lkf.nd (pe_ix (ix_listK (K := K)) (pv 3) (pe_op op_mod (pe_callTy call_int1 (by rfl) T.z_int (by decide +kernel) (pa_cons (pe_op op_add (pe_op op_add (pe_bm PySem.F.plainAttrs_list PySem.F.slot_list_index PySem.F.type_list_index (mt_indexK (K := K)) (pv 3) (pa_cons (pv 5) pa_nil)) pe_int) (pv 4)) pa_nil)) (pe_callB (call_len_seqK (K := K)) (by rfl) T.z_len (by decide +kernel) (pa_cons (pv 3) pa_nil))) (fun _ _ => rfl)))
  (pss_cons (ps_if (pt_cmpR op_eq (pv 8) (pv 5) (nomark _)) (pss_one (ps_ret pe_bl)) pss_nil)
  (pss_one (ps_ret (pe_and (pe_cmpR op_is_bl (pe_m (ok_acc (PT := PT) T D TB) (hr.mono (by first | decide | omega)) (pv 1) (pa_cons (pv 4) (pa_cons (pv 8) pa_nil))) pe_bl (nomark _)) (pe_one (pe_cmpR op_isN (pe_m (ok_kwho T) (hr.mono (by first | decide | omega)) (pv 2) (pa_cons (pv 4) (pa_cons (pv 8) pa_nil))) pe_non (nomark _))))))))))))), ?_⟩
    have htx : ∀ l j, sr.tx[j]? = some l → okT y.k y.L l := fun l j h => by
      have := mem_texts.mp (List.mem_of_getElem? h)
      rw [ek, eL] at this
      exact this
    obtain ⟨j0, hj0, hj1⟩ : ∃ j : Nat, sr.tx[j]? = some (writeG m i) ∧ ∀ n : Nat, n < j → sr.tx[n]? ≠ some (writeG m i) := by
      refine first_at (mem_texts.mpr ?_)
      rw [ek, eL]
      exact F.t
    have hwl : (writeG m i).length ≤ 100 := by have := F.t.1; omega
    refine ⟨_, rfl, pg, dg, _, rfl, c.s _ _ hg1, rfl, _, rfl, G, _, m, i, rfl, c, hM, F.g1, F.g2, fun G1 H1 e1 => ?_⟩
    refine ⟨_, rfl, _, rfl, _, rfl, G1, _, y, writeG m i, i, rfl, e1.c, hP.to e1.g, hk1, hk2, hL, F.t, F.p, fun v2 G2 H2 e2 r2 => ?_⟩
    subst r2
    have e12 := e1.trans e2
    refine ⟨_, rfl, ?_⟩
    refine ⟨_, rfl, pk, dk, _, rfl, e2.c.s _ _ (e12.g _ _ hk9), rfl, _, rfl, G2, _, sr, i, rfl, e2.c, hR.to e12.g, okk, F.g3, F.x, fun l j G3 H3 hl hh e3 => ?_⟩
    obtain rfl := F.u l j hl hh
    have e13 := e12.trans e3
    refine ⟨_, rfl, rfl, _, rfl, ?_⟩
    rw [show (!decide (V.str (tx (writeG m i)) = V.str (tx (writeG m i)))) = false by simp]
    refine iteF ?_
    refine ⟨_, rfl, _, rfl, G3, _, y, writeG m i, rfl, e3.c, hP.to e13.g, hk1, hk2, hL, F.t, fun v4 G4 H4 e4 r4 => ?_⟩
    obtain ⟨pr, p1, p2, rfl, hpr, hpa, hpb⟩ := r4
    have e14 := e13.trans e4
    have ha4 := sq_ofT (K := K) (e4.c.s _ _ hpa)
    refine ⟨pr, _, 0, _, rfl, rfl, sq_ofT (e4.c.s _ _ hpr), atI_nat (j := 0) rfl, ?_⟩
    refine ⟨_, rfl, pk, dk, _, rfl, e4.c.s _ _ (e14.g _ _ hk9), rfl, _, rfl, _, rfl, _, sr, i, j0, writeG m i, rfl, hR.to (e14.g.trans e4.c.s), okk, F.g3, hj0, ?_⟩
    have hiff := F.h _ _ hj0
    have hacc := F.a _ F.t
    have hlen0 : 0 < sr.tx.length := by
      obtain ⟨h, _⟩ := List.getElem?_eq_some_iff.mp hj0
      omega
    have hflat : (sr.tx.map fun l => V.str (tx l)).all flatV = true := by
      rw [List.all_eq_true]
      intro v hv
      obtain ⟨l, _, rfl⟩ := List.mem_map.mp hv
      rfl
    by_cases hh2 : hitL y (writeG m i) i
    · rw [if_pos (hiff.mpr hh2)]
      refine ⟨_, rfl, p1, _, 0, _, rfl, rfl, ha4, atI_nat (j := 0) rfl, _, rfl, _, _, rfl, rfl, _, rfl, ?_⟩
      rw [decide_eq_true (by have := hh2.1; omega)]
      refine iteT ⟨_, rfl, p1, _, 1, _, rfl, rfl, ha4, atI_nat (j := 1) rfl, _, _, rfl, rfl, _, rfl, ?_⟩
      rw [decide_eq_true (by have := hh2.2; omega)]
      refine iteT ?_
      refine ⟨_, rfl, pg, dg, _, rfl, e4.c.s _ _ (e14.g _ _ hg1), rfl, _, rfl, _, rfl, G4, _, m, i, writeG m i, rfl, e4.c, hM.to e14.g, F.g1, hwl, fun G5 H5 e5 => ?_⟩
      rw [decide_eq_true (hacc.mpr hh2)]
      refine ⟨_, _, rfl, rfl, _, rfl, ?_⟩
      rw [show (!decide (true = true)) = false from rfl]
      refine iteF ⟨_, rfl, 0, rfl, _, rfl, ?_⟩
      refine ⟨_, rfl, rfl, _, rfl, ?_⟩
      rw [show (!decide (V.int 0 = V.int 0)) = false by simp]
      refine iteF ?_
      have e15 := e14.trans e5
      have hx5 := seqL e5.c.s (seqL e15.g hx)
      refine ⟨_, rfl, _, rfl, .inl ⟨rfl, _, hx5⟩, _, rfl, px, _, _, j0, V.str (tx (writeG m i)), rfl, rfl, hx5, rfl, hflat, by rw [List.getElem?_map, hj0]; rfl, by simp [eqV], fun n z' hn hz => ?_, ?_⟩
      · rw [List.getElem?_map] at hz
        cases e : sr.tx[n]? with
        | none => rw [e] at hz; cases hz
        | some l' =>
          rw [e] at hz
          obtain rfl := Option.some.inj hz
          exact beq_eq_false_iff_ne.mpr fun h => hj1 n hn (by rw [e, tx_inj h])
      obtain ⟨l2, hl2⟩ : ∃ l2, sr.tx[(j0 + 1 + i) % sr.tx.length]? = some l2 := ⟨_, List.getElem?_eq_getElem (Nat.mod_lt _ hlen0)⟩
      have hidx : ((j0 : Nat) : Int) + 1 + (i : Int) = ((j0 + 1 + i : Nat) : Int) := by omega
      have hat : atI (sr.tx.map fun l => V.str (tx l)) ((((j0 : Nat) : Int) + 1 + (i : Int)) % (sr.tx.length : Nat)) = some (V.str (tx l2)) := by
        rw [hidx, ← Int.natCast_emod]
        exact atI_nat (by rw [List.getElem?_map, hl2]; rfl)
      have ok2 := htx _ _ hl2
      have hl2l : l2.length ≤ 100 := by have := ok2.1; omega
      refine ⟨_, _, rfl, rfl, _, rfl, _, _, rfl, rfl, .inl ⟨_, rfl, _, rfl, px, _, rfl, .inl hx5, ?_⟩⟩
      rw [List.length_map]
      refine ⟨_, _, rfl, rfl, by show (0 : Int) < (sr.tx.length : Nat); omega, px, _, _, _, rfl, rfl, hx5, hat, ?_⟩
      refine ⟨_, rfl, _, rfl, rfl, _, rfl, ite2 (fun hq => q _ _ _ e15 rfl) (fun hq => ?_)⟩
      have hne : l2 ≠ writeG m i := fun z => hq (decide_eq_true (by rw [z]))
      have hno := F.o _ ok2 hne
      refine ⟨_, rfl, pg, dg, _, rfl, e5.c.s _ _ (e15.g _ _ hg1), rfl, _, rfl, _, rfl, G5, _, m, i, l2, rfl, e5.c, hM.to e15.g, F.g1, hl2l, fun G6 H6 e6 => ?_⟩
      rw [decide_eq_false (fun z => hno ((F.a _ ok2).mp z))]
      refine ⟨_, _, rfl, rfl, _, rfl, ?_⟩
      rw [show decide (false = false) = true from rfl]
      have e16 := e15.trans e6
      refine iteT ⟨_, rfl, pk, dk, _, rfl, e6.c.s _ _ (e16.g _ _ hk9), rfl, _, rfl, _, rfl, _, sr, i, _, l2, rfl, hR.to (e16.g.trans e6.c.s), okk, F.g3, hl2, ?_⟩
      rw [if_neg (fun z => hno ((F.h _ _ hl2).mp z))]
      exact ⟨rfl, q _ _ _ e16 rfl⟩
    · rw [if_neg (fun z => hh2 (hiff.mp z))]
      refine ⟨_, rfl, p1, _, 0, _, rfl, rfl, ha4, atI_nat (j := 0) rfl, _, rfl, _, _, rfl, rfl, _, rfl, ?_⟩
      by_cases h1 : layA y (writeG m i) ≤ i
      · rw [decide_eq_true (by omega)]
        refine iteT ⟨_, rfl, p1, _, 1, _, rfl, rfl, ha4, atI_nat (j := 1) rfl, _, _, rfl, rfl, _, rfl, ?_⟩
        rw [decide_eq_false (fun z => hh2 ⟨h1, by omega⟩)]
        refine iteF ?_
        refine ⟨_, rfl, pg, dg, _, rfl, e4.c.s _ _ (e14.g _ _ hg1), rfl, _, rfl, _, rfl, G4, _, m, i, writeG m i, rfl, e4.c, hM.to e14.g, F.g1, hwl, fun G5 H5 e5 => ?_⟩
        rw [decide_eq_false (fun z => hh2 (hacc.mp z))]
        refine ⟨_, _, rfl, rfl, _, rfl, ?_⟩
        rw [show (!decide (false = false)) = false from rfl]
        refine iteF ⟨_, rfl, rfl, _, rfl, ?_⟩
        rw [show (!decide (V.non = V.non)) = false by simp]
        refine iteF ?_
        have e15 := e14.trans e5
        have hx5 := seqL e5.c.s (seqL e15.g hx)
        refine ⟨_, rfl, _, rfl, .inl ⟨rfl, _, hx5⟩, _, rfl, px, _, _, j0, V.str (tx (writeG m i)), rfl, rfl, hx5, rfl, hflat, by rw [List.getElem?_map, hj0]; rfl, by simp [eqV], fun n z' hn hz => ?_, ?_⟩
        · rw [List.getElem?_map] at hz
          cases e : sr.tx[n]? with
          | none => rw [e] at hz; cases hz
          | some l' =>
            rw [e] at hz
            obtain rfl := Option.some.inj hz
            exact beq_eq_false_iff_ne.mpr fun h => hj1 n hn (by rw [e, tx_inj h])
        obtain ⟨l2, hl2⟩ : ∃ l2, sr.tx[(j0 + 1 + i) % sr.tx.length]? = some l2 := ⟨_, List.getElem?_eq_getElem (Nat.mod_lt _ hlen0)⟩
        have hidx : ((j0 : Nat) : Int) + 1 + (i : Int) = ((j0 + 1 + i : Nat) : Int) := by omega
        have hat : atI (sr.tx.map fun l => V.str (tx l)) ((((j0 : Nat) : Int) + 1 + (i : Int)) % (sr.tx.length : Nat)) = some (V.str (tx l2)) := by
          rw [hidx, ← Int.natCast_emod]
          exact atI_nat (by rw [List.getElem?_map, hl2]; rfl)
        have ok2 := htx _ _ hl2
        have hl2l : l2.length ≤ 100 := by have := ok2.1; omega
        refine ⟨_, _, rfl, rfl, _, rfl, _, _, rfl, rfl, .inl ⟨_, rfl, _, rfl, px, _, rfl, .inl hx5, ?_⟩⟩
        rw [List.length_map]
        refine ⟨_, _, rfl, rfl, by show (0 : Int) < (sr.tx.length : Nat); omega, px, _, _, _, rfl, rfl, hx5, hat, ?_⟩
        refine ⟨_, rfl, _, rfl, rfl, _, rfl, ite2 (fun hq => q _ _ _ e15 rfl) (fun hq => ?_)⟩
        have hne : l2 ≠ writeG m i := fun z => hq (decide_eq_true (by rw [z]))
        have hno := F.o _ ok2 hne
        refine ⟨_, rfl, pg, dg, _, rfl, e5.c.s _ _ (e15.g _ _ hg1), rfl, _, rfl, _, rfl, G5, _, m, i, l2, rfl, e5.c, hM.to e15.g, F.g1, hl2l, fun G6 H6 e6 => ?_⟩
        rw [decide_eq_false (fun z => hno ((F.a _ ok2).mp z))]
        refine ⟨_, _, rfl, rfl, _, rfl, ?_⟩
        rw [show decide (false = false) = true from rfl]
        have e16 := e15.trans e6
        refine iteT ⟨_, rfl, pk, dk, _, rfl, e6.c.s _ _ (e16.g _ _ hk9), rfl, _, rfl, _, rfl, _, sr, i, _, l2, rfl, hR.to (e16.g.trans e6.c.s), okk, F.g3, hl2, ?_⟩
        rw [if_neg (fun z => hno ((F.h _ _ hl2).mp z))]
        exact ⟨rfl, q _ _ _ e16 rfl⟩
      · rw [decide_eq_false (by omega)]
        refine iteF ⟨_, rfl, ?_⟩
        refine iteF ?_
        refine ⟨_, rfl, pg, dg, _, rfl, e4.c.s _ _ (e14.g _ _ hg1), rfl, _, rfl, _, rfl, G4, _, m, i, writeG m i, rfl, e4.c, hM.to e14.g, F.g1, hwl, fun G5 H5 e5 => ?_⟩
        rw [decide_eq_false (fun z => hh2 (hacc.mp z))]
        refine ⟨_, _, rfl, rfl, _, rfl, ?_⟩
        rw [show (!decide (false = false)) = false from rfl]
        refine iteF ⟨_, rfl, rfl, _, rfl, ?_⟩
        rw [show (!decide (V.non = V.non)) = false by simp]
        refine iteF ?_
        have e15 := e14.trans e5
        have hx5 := seqL e5.c.s (seqL e15.g hx)
        refine ⟨_, rfl, _, rfl, .inl ⟨rfl, _, hx5⟩, _, rfl, px, _, _, j0, V.str (tx (writeG m i)), rfl, rfl, hx5, rfl, hflat, by rw [List.getElem?_map, hj0]; rfl, by simp [eqV], fun n z' hn hz => ?_, ?_⟩
        · rw [List.getElem?_map] at hz
          cases e : sr.tx[n]? with
          | none => rw [e] at hz; cases hz
          | some l' =>
            rw [e] at hz
            obtain rfl := Option.some.inj hz
            exact beq_eq_false_iff_ne.mpr fun h => hj1 n hn (by rw [e, tx_inj h])
        obtain ⟨l2, hl2⟩ : ∃ l2, sr.tx[(j0 + 1 + i) % sr.tx.length]? = some l2 := ⟨_, List.getElem?_eq_getElem (Nat.mod_lt _ hlen0)⟩
        have hidx : ((j0 : Nat) : Int) + 1 + (i : Int) = ((j0 + 1 + i : Nat) : Int) := by omega
        have hat : atI (sr.tx.map fun l => V.str (tx l)) ((((j0 : Nat) : Int) + 1 + (i : Int)) % (sr.tx.length : Nat)) = some (V.str (tx l2)) := by
          rw [hidx, ← Int.natCast_emod]
          exact atI_nat (by rw [List.getElem?_map, hl2]; rfl)
        have ok2 := htx _ _ hl2
        have hl2l : l2.length ≤ 100 := by have := ok2.1; omega
        refine ⟨_, _, rfl, rfl, _, rfl, _, _, rfl, rfl, .inl ⟨_, rfl, _, rfl, px, _, rfl, .inl hx5, ?_⟩⟩
        rw [List.length_map]
        refine ⟨_, _, rfl, rfl, by show (0 : Int) < (sr.tx.length : Nat); omega, px, _, _, _, rfl, rfl, hx5, hat, ?_⟩
        refine ⟨_, rfl, _, rfl, rfl, _, rfl, ite2 (fun hq => q _ _ _ e15 rfl) (fun hq => ?_)⟩
        have hne : l2 ≠ writeG m i := fun z => hq (decide_eq_true (by rw [z]))
        have hno := F.o _ ok2 hne
        refine ⟨_, rfl, pg, dg, _, rfl, e5.c.s _ _ (e15.g _ _ hg1), rfl, _, rfl, _, rfl, G5, _, m, i, l2, rfl, e5.c, hM.to e15.g, F.g1, hl2l, fun G6 H6 e6 => ?_⟩
        rw [decide_eq_false (fun z => hno ((F.a _ ok2).mp z))]
        refine ⟨_, _, rfl, rfl, _, rfl, ?_⟩
        rw [show decide (false = false) = true from rfl]
        have e16 := e15.trans e6
        refine iteT ⟨_, rfl, pk, dk, _, rfl, e6.c.s _ _ (e16.g _ _ hk9), rfl, _, rfl, _, rfl, _, sr, i, _, l2, rfl, hR.to (e16.g.trans e6.c.s), okk, F.g3, hl2, ?_⟩
        rw [if_neg (fun z => hno ((F.h _ _ hl2).mp z))]
        exact ⟨rfl, q _ _ _ e16 rfl⟩
end
end K43
-- part W39
/-! W39: making Makers; the law's whole walk. -/
namespace K43
open PySem PySem.Spec PyProof.Rows L2
section
variable {P : Program} {w : World} {K : PySem.W.Frag} {mg : Str → Option Value} {base : Heap} {cS cF cG cT cM cK : Addr} {PT cc : Addr}
theorem pappL {α β : Type} {R : α → β → Prop} : ∀ {us : List α} {xs : List β} {vs : List α} {ys : List β}, Paired R us xs → Paired R vs ys → Paired R (us ++ vs) (xs ++ ys)
  | _, _, _, _, .nil, h => h
  | _, _, _, _, .cons a b, h => .cons a (pappL b h)
theorem prev {α β : Type} {R : α → β → Prop} : ∀ {us : List α} {xs : List β}, Paired R us xs → Paired R us.reverse xs.reverse
  | _, _, .nil => .nil
  | _, _, .cons a b => by
    rw [List.reverse_cons, List.reverse_cons]
    exact pappL (prev b) (.cons a .nil)
theorem pdrop {α β : Type} {R : α → β → Prop} : ∀ (n : Nat) {us : List α} {xs : List β}, Paired R us xs → Paired R (us.drop n) (xs.drop n)
  | 0, _, _, h => h
  | n + 1, _, _, .nil => .nil
  | n + 1, _, _, .cons a b => pdrop n b
theorem ptake {α β : Type} {R : α → β → Prop} : ∀ (n : Nat) {us : List α} {xs : List β}, Paired R us xs → Paired R (us.take n) (xs.take n)
  | 0, _, _, h => .nil
  | n + 1, _, _, .nil => .nil
  | n + 1, _, _, .cons a b => .cons a (ptake n b)
/-- the pairs, perhaps turned and turned round -/
theorem turn_perm {α : Type} (l : List α) (n : Nat) : (l.drop n ++ l.take n).reverse.Perm l :=
  (List.reverse_perm _).trans (List.perm_append_comm.trans (by rw [List.take_append_drop]))
theorem n_kk (T : Txt K mg cS cF cG cT cM cK) : NCal P w K mg base "Makers" 6 (fun vs H Q _ => ∃ (G : Hp) (v u : V) (y : Src), vs = [v, .int 1, u] ∧ Cl PT G H ∧ TaAt cT G v y.ps ∧ ShAt cS G u y.lv ∧ okK y ∧ Ret PT G H Q fun G' v => MrAt cT cK cS G' v y) := by
  refine ⟨cK, _, _, ok_ki (PT := PT) T, fun vs H Q h x dx nx nd ne => ?_⟩
  obtain ⟨G, v, u, y, rfl, c, hv, hs, ok, q⟩ := h
  exact ⟨G, H, x, dx, v, u, y, rfl, c, nx, nd, ne, rfl, hv, hs, ok, fun G' H' e r => ⟨rfl, q _ _ _ e r⟩⟩
end
end K43
-- part M7
/-! M7: plain laws on the law's ring. -/
namespace K43
open PySem PySem.Spec PyProof.Rows L2
theorem fgcd_dvd : ∀ {ws : List Nat} {a : Nat}, ws.foldl Nat.gcd a ∣ a ∧ ∀ x ∈ ws, ws.foldl Nat.gcd a ∣ x
  | [], a => ⟨Nat.dvd_refl a, fun _ h => by cases h⟩
  | b :: r, a => by
    obtain ⟨h1, h2⟩ := fgcd_dvd (ws := r) (a := Nat.gcd a b)
    refine ⟨Nat.dvd_trans h1 (Nat.gcd_dvd_left a b), fun x hx => ?_⟩
    rcases List.mem_cons.mp hx with e | e
    · rw [e]
      exact Nat.dvd_trans h1 (Nat.gcd_dvd_right a b)
    · exact h2 x e
theorem gL_dvd {ws : List Nat} {x : Nat} (h : x ∈ ws) : gL ws ∣ x := fgcd_dvd.2 x h
theorem dvd_sumL {g : Nat} : ∀ {ws : List Nat}, (∀ x ∈ ws, g ∣ x) → g ∣ ws.sum
  | [], _ => Nat.dvd_zero g
  | a :: r, h => by
    rw [List.sum_cons]
    exact Nat.dvd_add (h a List.mem_cons_self) (dvd_sumL fun x hx => h x (List.mem_cons_of_mem _ hx))
theorem gL_sum {ws : List Nat} : gL ws ∣ ws.sum := dvd_sumL fun x hx => gL_dvd hx
theorem full_pos {ws : List Nat} {L : Nat} (h : 0 < ws.sum) : 0 < (ws.sum / gL ws) ^ L := by
  refine Nat.pow_pos (Nat.div_pos (Nat.le_of_dvd h gL_sum) ?_)
  rcases Nat.eq_zero_or_pos (gL ws) with e | e
  · have h1 := gL_sum (ws := ws)
    rw [e] at h1
    have := Nat.eq_zero_of_zero_dvd h1
    omega
  · exact e
theorem ring_pos {ws : List Nat} {L a b : Nat} (h : 0 < ws.sum) (hb : 0 < b) : 0 < ringL ws L (a, b) := by
  have h1 := full_pos (L := L) h
  unfold ringL
  split
  · exact h1
  · exact Nat.mul_pos h1 (low_pos (low_pos hb))
theorem okF.sum_pos {ws : List Nat} {L : Nat} (h : okF ws L) : 0 < ws.sum := by
  have h1 := h.1
  match ws, h1 with
  | a :: r, _ =>
    have := h.2.2.2.2.1 a List.mem_cons_self
    rw [List.sum_cons]
    omega
end K43
-- part M8
/-! M8: plain laws: divisors, the level, the rings. -/
namespace K43
open PySem PySem.Spec PyProof.Rows L2
/-! ### divisors -/
theorem dvd_gcd_mul {N r a b : Nat} : N ∣ Nat.gcd a b * r ↔ N ∣ a * r ∧ N ∣ b * r := by
  rw [Nat.mul_comm, ← Nat.gcd_mul_left, Nat.dvd_gcd_iff, Nat.mul_comm r, Nat.mul_comm r]
theorem low_dvd_iff {x D r : Nat} (hD : 0 < D) : (low x D).2 ∣ r ↔ D ∣ x * r := by
  have g : 0 < Nat.gcd x D := Nat.gcd_pos_of_pos_right _ hD
  have c := low_cop (a := x) hD
  have e1 : D = (low x D).2 * Nat.gcd x D := low_under.symm
  have e2 : x * r = (low x D).1 * r * Nat.gcd x D := by
    rw [Nat.mul_right_comm, low_over]
  rw [e2]
  constructor
  · rintro ⟨t, rfl⟩
    refine ⟨(low x D).1 * t, ?_⟩
    have : (low x D).1 * ((low x D).2 * t) * Nat.gcd x D = ((low x D).2 * Nat.gcd x D) * ((low x D).1 * t) := by
      simp only [Nat.mul_assoc, Nat.mul_comm, Nat.mul_left_comm]
    rw [this, low_under]
  · intro h
    have h : (low x D).2 * Nat.gcd x D ∣ (low x D).1 * r * Nat.gcd x D := by
      rw [low_under]
      exact h
    exact (Nat.Coprime.symm c).dvd_of_dvd_mul_left ((Nat.mul_dvd_mul_iff_right g).mp h)
theorem mul_low_dvd {F q r : Nat} (hq : 0 < q) : F * (low F q).2 ∣ r ↔ F ∣ r ∧ q ∣ r := by
  have e : F * (low F q).2 = Nat.lcm F q := by
    show F * (q / Nat.gcd F q) = F * q / Nat.gcd F q
    rw [Nat.mul_div_assoc _ (Nat.gcd_dvd_right F q)]
  rw [e, Nat.lcm_dvd_iff]
/-! ### the level by its forms -/
/-- two forms (a over b, p over q) of one level give the same lesser share of W over D -/
def Eqv (D W a b p q : Nat) : Prop := min (W * b) (a * D) * q = min (W * q) (p * D) * b
theorem min_mul (x y z : Nat) : min x y * z = min (x * z) (y * z) := (Nat.mul_min_mul_right x y z).symm
theorem eqv_cross {D W a b p q : Nat} (h : a * q = p * b) : Eqv D W a b p q := by
  unfold Eqv
  rw [min_mul, min_mul, Nat.mul_right_comm W b q, Nat.mul_right_comm a D q, h, Nat.mul_right_comm p b D]
theorem Eqv.symm {D W a b p q : Nat} (h : Eqv D W a b p q) : Eqv D W p q a b := Eq.symm h
theorem Eqv.trans {D W a b p q s t : Nat} (hq : 0 < q) (h1 : Eqv D W a b p q) (h2 : Eqv D W p q s t) : Eqv D W a b s t := by
  unfold Eqv at *
  refine Nat.eq_of_mul_eq_mul_right hq ?_
  rw [Nat.mul_right_comm, h1, Nat.mul_right_comm, h2, Nat.mul_right_comm]
theorem eqv_most {D W p q : Nat} (hW : W ≤ D) : Eqv D W p q (mostOf (p, q)).1 (mostOf (p, q)).2 := by
  unfold mostOf lessF
  split
  · exact rfl
  · rename_i h
    have h : q ≤ p := by
      simp at h
      exact h
    unfold Eqv
    have h1 : W * q ≤ p * D := by
      rw [Nat.mul_comm W q]
      exact Nat.mul_le_mul h hW
    show min (W * q) (p * D) * 1 = min (W * 1) (1 * D) * q
    rw [Nat.min_eq_left h1, Nat.mul_one, Nat.mul_one, Nat.one_mul, Nat.min_eq_left hW]
theorem Eqv.dvd {D W a b p q r : Nat} (hb : 0 < b) (hq : 0 < q) (h : Eqv D W a b p q) : D * b ∣ min (W * b) (a * D) * r ↔ D * q ∣ min (W * q) (p * D) * r := by
  unfold Eqv at h
  rw [← Nat.mul_dvd_mul_iff_right hq, ← Nat.mul_dvd_mul_iff_right (a := D * q) hb, Nat.mul_right_comm (min (W * b) (a * D)), h, Nat.mul_right_comm D q b, Nat.mul_right_comm (min (W * q) (p * D)) b r]
theorem Eqv.val {D W a b p q R A : Nat} (hb : 0 < b) (hq : 0 < q) (h : Eqv D W a b p q) : min (W * b) (a * D) * R = A * (D * b) ↔ min (W * q) (p * D) * R = A * (D * q) := by
  unfold Eqv at h
  constructor
  · intro e
    refine Nat.eq_of_mul_eq_mul_right hb ?_
    rw [Nat.mul_right_comm, ← h, Nat.mul_right_comm, e]
    simp only [Nat.mul_assoc, Nat.mul_comm, Nat.mul_left_comm]
  · intro e
    refine Nat.eq_of_mul_eq_mul_right hq ?_
    rw [Nat.mul_right_comm, h, Nat.mul_right_comm, e]
    simp only [Nat.mul_assoc, Nat.mul_comm, Nat.mul_left_comm]
/-! ### the weights of the texts -/
theorem wtL_nil (ws : List Nat) : wtL ws [] = 1 := rfl
theorem wtL_cons (ws : List Nat) (c : Nat) (l : List Nat) : wtL ws (c :: l) = ws.getD c 0 * wtL ws l := by
  unfold wtL
  rw [List.map_cons, List.prod_cons]
theorem wtL_app (ws : List Nat) : ∀ l m : List Nat, wtL ws (l ++ m) = wtL ws l * wtL ws m
  | [], m => by rw [wtL_nil, Nat.one_mul]; rfl
  | c :: l, m => by rw [List.cons_append, wtL_cons, wtL_cons, wtL_app ws l m, Nat.mul_assoc]
theorem getD_mem {ws : List Nat} {c : Nat} (h : c < ws.length) : ws.getD c 0 ∈ ws := by
  rw [List.getD_eq_getElem?_getD, List.getElem?_eq_getElem h]
  exact List.getElem_mem h
theorem okT_cons {k n c : Nat} {l : List Nat} : okT k (n + 1) (c :: l) ↔ c < k ∧ okT k n l := by
  unfold okT
  constructor
  · rintro ⟨h1, h2⟩
    exact ⟨h2 c List.mem_cons_self, by simpa using h1, fun x hx => h2 x (List.mem_cons_of_mem _ hx)⟩
  · rintro ⟨h1, h2, h3⟩
    refine ⟨by simpa using h2, fun x hx => ?_⟩
    rcases List.mem_cons.mp hx with e | hx
    · rw [e]
      exact h1
    · exact h3 x hx
/-- all sequences: what divides each weight's product divides the divisor's power -/
theorem fold_gcd_dvd {N t : Nat} : ∀ {ws : List Nat} {a : Nat}, N ∣ a * t → (∀ x ∈ ws, N ∣ x * t) → N ∣ ws.foldl Nat.gcd a * t
  | [], a, h, _ => h
  | b :: r, a, h, h2 => fold_gcd_dvd (ws := r) (a := Nat.gcd a b) (dvd_gcd_mul.mpr ⟨h, h2 b List.mem_cons_self⟩) fun x hx => h2 x (List.mem_cons_of_mem _ hx)
theorem gL_mul_dvd {N t : Nat} {ws : List Nat} (h0 : 0 < ws.length) (h : ∀ x ∈ ws, N ∣ x * t) : N ∣ gL ws * t :=
  fold_gcd_dvd (h _ (getD_mem h0)) h
theorem comb_dvd {N : Nat} {ws : List Nat} (h0 : 0 < ws.length) : ∀ {L t : Nat}, (∀ l, okT ws.length L l → N ∣ wtL ws l * t) → N ∣ gL ws ^ L * t
  | 0, t, h => by
    have := h [] ⟨rfl, fun c hc => by cases hc⟩
    rw [wtL_nil] at this
    exact this
  | L + 1, t, h => by
    rw [Nat.pow_succ, Nat.mul_assoc]
    refine comb_dvd h0 (L := L) (t := gL ws * t) fun l hl => ?_
    rw [Nat.mul_left_comm]
    refine gL_mul_dvd h0 fun x hx => ?_
    obtain ⟨c, hc, rfl⟩ := List.getElem_of_mem hx
    have := h (c :: l) (okT_cons.mpr ⟨hc, hl⟩)
    rw [wtL_cons, List.getD_eq_getElem?_getD, List.getElem?_eq_getElem hc, Nat.mul_assoc] at this
    exact this
theorem gL_pow_dvd {ws : List Nat} : ∀ {l : List Nat}, (∀ c ∈ l, c < ws.length) → gL ws ^ l.length ∣ wtL ws l
  | [], _ => Nat.dvd_refl 1
  | c :: l, h => by
    rw [wtL_cons, List.length_cons, Nat.pow_succ, Nat.mul_comm]
    exact Nat.mul_dvd_mul (gL_dvd (getD_mem (h c List.mem_cons_self))) (gL_pow_dvd fun x hx => h x (List.mem_cons_of_mem _ hx))
theorem wtL_max {ws : List Nat} : ∀ {l : List Nat}, (∀ c ∈ l, c < ws.length) → wtL ws l ≤ mxN ws ^ l.length
  | [], _ => Nat.le_refl 1
  | c :: l, h => by
    rw [wtL_cons, List.length_cons, Nat.pow_succ, Nat.mul_comm]
    exact Nat.mul_le_mul (wtL_max fun x hx => h x (List.mem_cons_of_mem _ hx)) (mxN_ge.2 _ (getD_mem (h c List.mem_cons_self)))
theorem wtL_pos {ws : List Nat} (hp : ∀ w ∈ ws, 0 < w) : ∀ {l : List Nat}, (∀ c ∈ l, c < ws.length) → 0 < wtL ws l
  | [], _ => Nat.one_pos
  | c :: l, h => by
    rw [wtL_cons]
    exact Nat.mul_pos (hp _ (getD_mem (h c List.mem_cons_self))) (wtL_pos hp fun x hx => h x (List.mem_cons_of_mem _ hx))
theorem fmax_mem : ∀ {ws : List Nat} {a : Nat}, ws.foldl Nat.max a = a ∨ ws.foldl Nat.max a ∈ ws
  | [], a => .inl rfl
  | b :: r, a => by
    rw [List.foldl_cons]
    rcases fmax_mem (ws := r) (a := Nat.max a b) with e | e
    · rw [e]
      rcases Nat.le_total a b with h | h
      · exact .inr (by rw [show Nat.max a b = b from Nat.max_eq_right h]; exact List.mem_cons_self)
      · exact .inl (Nat.max_eq_left h)
    · exact .inr (List.mem_cons_of_mem _ e)
theorem mx_mem {ws : List Nat} (h0 : 0 < ws.length) (hp : ∀ w ∈ ws, 0 < w) : mxN ws ∈ ws := by
  rcases fmax_mem (ws := ws) (a := 0) with e | e
  · exfalso
    have h1 := (mxN_ge (ws := ws) (a := 0)).2 _ (getD_mem h0)
    have h2 := hp _ (getD_mem h0)
    omega
  · exact e
theorem wtL_rep (ws : List Nat) (c : Nat) : ∀ n, wtL ws (List.replicate n c) = ws.getD c 0 ^ n
  | 0 => rfl
  | n + 1 => by
    rw [List.replicate_succ, wtL_cons, wtL_rep ws c n, Nat.pow_succ, Nat.mul_comm]
theorem okT_rep {k n c : Nat} (h : c < k) : okT k n (List.replicate n c) := ⟨List.length_replicate, fun x hx => by
  rw [List.eq_of_mem_replicate hx]
  exact h⟩
/-! ### what a ring must divide -/
def Good (ws : List Nat) (L p q r : Nat) : Prop := ∀ l, okT ws.length L l → ws.sum ^ L ∣ wtL ws l * r ∧ ws.sum ^ L * q ∣ min (wtL ws l * q) (p * ws.sum ^ L) * r
theorem gL_pos {ws : List Nat} (h : 0 < ws.sum) : 0 < gL ws := by
  rcases Nat.eq_zero_or_pos (gL ws) with e | e
  · have h1 := gL_sum (ws := ws)
    rw [e] at h1
    have := Nat.eq_zero_of_zero_dvd h1
    omega
  · exact e
theorem sum_pow {ws : List Nat} (L : Nat) : ws.sum ^ L = gL ws ^ L * (ws.sum / gL ws) ^ L := by
  rw [← Nat.mul_pow, Nat.mul_div_cancel' gL_sum]
theorem shares_dvd {ws : List Nat} {L r : Nat} (h0 : 0 < ws.length) (hs : 0 < ws.sum) : (∀ l, okT ws.length L l → ws.sum ^ L ∣ wtL ws l * r) ↔ (ws.sum / gL ws) ^ L ∣ r := by
  have hg : 0 < gL ws ^ L := Nat.pow_pos (gL_pos hs)
  constructor
  · intro h
    have := comb_dvd h0 h
    rw [sum_pow L] at this
    exact (Nat.mul_dvd_mul_iff_left hg).mp this
  · intro h l hl
    rw [sum_pow L]
    have h1 := gL_pow_dvd (ws := ws) hl.2
    rw [hl.1] at h1
    exact Nat.mul_dvd_mul h1 h
theorem ringL_dvd {ws : List Nat} {L a b r : Nat} (ok : okF ws L) (hb : 0 < b) : ringL ws L (a, b) ∣ r ↔ Good ws L a b r := by
  have h0 : 0 < ws.length := by have := ok.1; omega
  have hs := ok.sum_pos
  have hg : 0 < gL ws ^ L := Nat.pow_pos (gL_pos hs)
  have hD : 0 < ws.sum ^ L := Nat.pow_pos hs
  have hF : ws.sum ^ L = gL ws ^ L * (ws.sum / gL ws) ^ L := sum_pow L
  have hM : mxN ws ^ L = gL ws ^ L * (mxN ws / gL ws) ^ L := by
    rw [← Nat.mul_pow, Nat.mul_div_cancel' (gL_dvd (mx_mem h0 ok.2.2.2.2.1))]
  have sd := shares_dvd (L := L) (r := r) h0 hs
  unfold ringL
  by_cases c : (mxN ws / gL ws) ^ L * b ≤ a * (ws.sum / gL ws) ^ L
  · rw [if_pos c, ← sd]
    have c2 : mxN ws ^ L * b ≤ a * ws.sum ^ L := by
      rw [hM, hF, Nat.mul_assoc, Nat.mul_left_comm a]
      exact Nat.mul_le_mul_left _ c
    constructor
    · intro h l hl
      have h1 := h l hl
      have h2 := wtL_max (ws := ws) hl.2
      rw [hl.1] at h2
      have h3 : wtL ws l * b ≤ a * ws.sum ^ L := Nat.le_trans (Nat.mul_le_mul_right _ h2) c2
      refine ⟨h1, ?_⟩
      rw [Nat.min_eq_left h3, Nat.mul_right_comm]
      exact Nat.mul_dvd_mul_right h1 b
    · intro h l hl
      exact (h l hl).1
  · rw [if_neg c, mul_low_dvd (low_pos hb), ← sd]
    have c2 : a * ws.sum ^ L < mxN ws ^ L * b := by
      rw [hM, hF, Nat.mul_assoc, Nat.mul_left_comm a]
      exact Nat.mul_lt_mul_of_pos_left (Nat.lt_of_not_le c) hg
    have key : ws.sum ^ L * b ∣ a * ws.sum ^ L * r ↔ (low a b).2 ∣ r := by
      rw [low_dvd_iff hb, Nat.mul_comm a, Nat.mul_assoc]
      exact Nat.mul_dvd_mul_iff_left hD
    constructor
    · rintro ⟨h, hq⟩ l hl
      have h1 := h l hl
      refine ⟨h1, ?_⟩
      rcases Nat.le_total (wtL ws l * b) (a * ws.sum ^ L) with z | z
      · rw [Nat.min_eq_left z, Nat.mul_right_comm]
        exact Nat.mul_dvd_mul_right h1 b
      · rw [Nat.min_eq_right z]
        exact key.mpr hq
    · intro h
      refine ⟨fun l hl => (h l hl).1, ?_⟩
      obtain ⟨j, hj, e⟩ := List.getElem_of_mem (mx_mem h0 ok.2.2.2.2.1)
      have hl := okT_rep (n := L) hj
      have h2 := (h _ hl).2
      rw [wtL_rep, List.getD_eq_getElem?_getD, List.getElem?_eq_getElem hj] at h2
      have h2 : ws.sum ^ L * b ∣ min (ws[j] ^ L * b) (a * ws.sum ^ L) * r := h2
      rw [e, Nat.min_eq_right (Nat.le_of_lt c2)] at h2
      exact key.mp h2
theorem Good.to {ws : List Nat} {L a b p q r : Nat} (hb : 0 < b) (hq : 0 < q) (e : ∀ W, W ≤ ws.sum ^ L → Eqv (ws.sum ^ L) W a b p q) (g : Good ws L a b r) : Good ws L p q r := fun l hl => by
  obtain ⟨h1, h2⟩ := g l hl
  have hw := wt_le (ws := ws) hl.2
  rw [hl.1] at hw
  exact ⟨h1, ((e _ hw).dvd hb hq).mp h2⟩
end K43
-- part M9
/-! M9: plain laws: counts and texts; the three rings are one. -/
namespace K43
open PySem PySem.Spec PyProof.Rows L2
/-! ### the counts of a text -/
theorem endM_nil (c : List Nat) : endM c [] = c := rfl
theorem endM_cons (c : List Nat) (a : Nat) (l : List Nat) : endM c (a :: l) = endM (oneM c a) l := rfl
theorem endM_len : ∀ {l c : List Nat}, (∀ a ∈ l, a < c.length) → (endM c l).length = c.length
  | [], c, _ => rfl
  | a :: l, c, h => by
    have e := one_len (h a List.mem_cons_self)
    rw [endM_cons, endM_len (fun x hx => by rw [e]; exact h x (List.mem_cons_of_mem _ hx)), e]
theorem endM_sum : ∀ {l c : List Nat}, (∀ a ∈ l, a < c.length) → (endM c l).sum = c.sum + l.length
  | [], c, _ => rfl
  | a :: l, c, h => by
    have e := one_len (h a List.mem_cons_self)
    rw [endM_cons, endM_sum (fun x hx => by rw [e]; exact h x (List.mem_cons_of_mem _ hx)), one_sum (h a List.mem_cons_self), List.length_cons]
    omega
theorem wt_cons (w c : Nat) (ws cs : List Nat) : wt (w :: ws) (c :: cs) = w ^ c * wt ws cs := by
  unfold wt
  rw [List.zipWith_cons_cons, List.prod_cons]
theorem wt_one : ∀ {ws c : List Nat} {a : Nat}, c.length = ws.length → a < c.length → wt ws (oneM c a) = wt ws c * ws.getD a 0
  | w :: ws, x :: c, 0, _, _ => by
    rw [one_zero, wt_cons, wt_cons, Nat.pow_succ]
    show w ^ x * w * wt ws c = w ^ x * wt ws c * w
    rw [Nat.mul_right_comm]
  | w :: ws, x :: c, a + 1, h1, h2 => by
    rw [one_succ, wt_cons, wt_cons, wt_one (by simpa using h1) (by simpa using h2), Nat.mul_assoc]
    rfl
  | [], x :: c, a, h1, _ => by simp at h1
  | ws, [], a, _, h2 => by simp at h2
theorem wt_end {ws : List Nat} : ∀ {l c : List Nat}, c.length = ws.length → (∀ a ∈ l, a < ws.length) → wt ws (endM c l) = wt ws c * wtL ws l
  | [], c, _, _ => by rw [endM_nil, wtL_nil, Nat.mul_one]
  | a :: l, c, h1, h2 => by
    have ha := h2 a List.mem_cons_self
    rw [endM_cons, wt_end (by rw [one_len (by omega)]; exact h1) (fun x hx => h2 x (List.mem_cons_of_mem _ hx)), wt_one h1 (by omega), wtL_cons, Nat.mul_assoc]
theorem wt_zer : ∀ ws : List Nat, wt ws (zer ws.length) = 1
  | [] => rfl
  | w :: ws => by
    show wt (w :: ws) (0 :: zer ws.length) = 1
    rw [wt_cons, wt_zer ws]
    rfl
theorem wt_txt {ws l : List Nat} (h : ∀ a ∈ l, a < ws.length) : wt ws (endM (zer ws.length) l) = wtL ws l := by
  rw [wt_end (zer_len _) h, wt_zer, Nat.one_mul]
theorem cov0 : ∀ k < 4, 2 ≤ k → ∀ L < 5, (k = 3 → L < 3) → ((countsM (k - 1) L).all fun c => (textsM k L).any fun l => decide (endM (zer k) l = c)) = true := by decide +kernel
theorem cnt0 : ∀ k < 4, 2 ≤ k → ∀ L < 5, (k = 3 → L < 3) → ((textsM k L).all fun l => decide (cntL k l = endM (zer k) l)) = true := by decide +kernel
theorem cov (k : Nat) (hk : k < 4) (h2 : 2 ≤ k) (L : Nat) (hL : L < 5) (h3 : k = 3 → L < 3) (c : List Nat) (hc : c ∈ countsM (k - 1) L) : ∃ l ∈ textsM k L, endM (zer k) l = c := by
  obtain ⟨l, hl, e⟩ := List.any_eq_true.mp (List.all_eq_true.mp (cov0 k hk h2 L hL h3) c hc)
  exact ⟨l, hl, of_decide_eq_true e⟩
theorem cnt_end (k : Nat) (hk : k < 4) (h2 : 2 ≤ k) (L : Nat) (hL : L < 5) (h3 : k = 3 → L < 3) (l : List Nat) (hl : l ∈ textsM k L) : cntL k l = endM (zer k) l :=
  of_decide_eq_true (List.all_eq_true.mp (cnt0 k hk h2 L hL h3) l hl)
theorem end_in {k L : Nat} {l : List Nat} (hk : 1 ≤ k) (h : okT k L l) : endM (zer k) l ∈ countsM (k - 1) L := by
  have h1 : ∀ a ∈ l, a < (zer k).length := fun a ha => by rw [zer_len]; exact h.2 a ha
  refine mem_counts.mpr ⟨by rw [endM_len h1, zer_len]; omega, ?_⟩
  rw [endM_sum h1, zer_sum, h.1, Nat.zero_add]
section
variable {ws : List Nat} {L : Nat} (ok : okF ws L)
include ok
theorem okF.k4 : ws.length < 4 := by have := ok.2.1; omega
theorem okF.l5 : L < 5 := by have := ok.2.2.1; omega
theorem okF.l3 : ws.length = 3 → L < 3 := fun e => by have := ok.2.2.2.2.2 e; omega
theorem okF.S : okS ws.length L := ⟨ok.1, ok.2.1, ok.2.2.1, ok.2.2.2.2.2⟩
/-- what holds of each text's counts holds of all counts -/
theorem all_counts {C : List Nat → Prop} : (∀ c ∈ countsM (ws.length - 1) L, C c) ↔ ∀ l, okT ws.length L l → C (endM (zer ws.length) l) := by
  constructor
  · intro h l hl
    exact h _ (end_in (by have := ok.1; omega) hl)
  · intro h c hc
    obtain ⟨l, hl, rfl⟩ := cov ws.length ok.k4 ok.1 L ok.l5 ok.l3 c hc
    exact h l (mem_texts.mp hl)
theorem wtL_leD {l : List Nat} (hl : okT ws.length L l) : wtL ws l ≤ ws.sum ^ L := by
  have h := wt_le (ws := ws) hl.2
  rw [hl.1] at h
  exact h
theorem most_good {p q r : Nat} (hq : 0 < q) : Good ws L p q r ↔ Good ws L (mostOf (p, q)).1 (mostOf (p, q)).2 r := by
  have hm : 0 < (mostOf (p, q)).2 := by
    unfold mostOf lessF
    split
    · exact hq
    · decide
  exact ⟨Good.to hq hm fun W hW => eqv_most hW, Good.to hm hq fun W hW => (eqv_most hW).symm⟩
theorem low_good {a b r : Nat} (hb : 0 < b) : Good ws L a b r ↔ Good ws L (low a b).1 (low a b).2 r :=
  ⟨Good.to hb (low_pos hb) fun W _ => eqv_cross low_cross.symm, Good.to (low_pos hb) hb fun W _ => eqv_cross low_cross⟩
end
/-! ### the far marking's ring -/
theorem div_dvd {N c r : Nat} (hc : 0 < c) (h : c ∣ N) : N / c ∣ r ↔ N ∣ c * r := by
  obtain ⟨t, rfl⟩ := h
  rw [Nat.mul_div_cancel_left _ hc, Nat.mul_dvd_mul_iff_left hc]
theorem comL_mul {N r : Nat} : ∀ {l : List Pa} {D : Nat}, N ∣ comL D l * r ↔ N ∣ D * r ∧ ∀ x ∈ l, N ∣ x.2.2.1 * r ∧ N ∣ x.2.2.2 * r
  | [], D => ⟨fun h => ⟨h, fun x hx => by cases hx⟩, fun h => h.1⟩
  | x :: l, D => by
    show N ∣ comL (Nat.gcd (Nat.gcd D x.2.2.1) x.2.2.2) l * r ↔ _
    rw [comL_mul, dvd_gcd_mul, dvd_gcd_mul]
    constructor
    · rintro ⟨⟨⟨h1, h2⟩, h3⟩, h4⟩
      refine ⟨h1, fun y hy => ?_⟩
      rcases List.mem_cons.mp hy with e | hy
      · rw [e]
        exact ⟨h2, h3⟩
      · exact h4 y hy
    · rintro ⟨h1, h2⟩
      have h3 := h2 x List.mem_cons_self
      exact ⟨⟨⟨h1, h3.1⟩, h3.2⟩, fun y hy => h2 y (List.mem_cons_of_mem _ hy)⟩
theorem all_parts {ws : List Nat} {L : Nat} {lv : Nat × Nat} (ok : okF ws L) {C : Nat → Nat → Prop} : (∀ x ∈ partsM ws L lv, C x.2.2.1 x.2.2.2) ↔ ∀ c ∈ countsM (ws.length - 1) L, C (shN ws lv c) (acN ws L lv c) := by
  have e := parts_counts (ws := ws) (n := L) lv (by have := ok.1; omega)
  constructor
  · intro h c hc
    rw [← e] at hc
    obtain ⟨x, hx, rfl⟩ := List.mem_map.mp hc
    have := h x hx
    rw [(parts_val hx).1, (parts_val hx).2] at this
    exact this
  · intro h x hx
    rw [(parts_val hx).1, (parts_val hx).2]
    refine h _ ?_
    rw [← e]
    exact List.mem_map.mpr ⟨x, hx, rfl⟩
theorem ringG_dvd {ws : List Nat} {L r : Nat} {lv : Nat × Nat} (ok : okF ws L) (sl : shSmall lv) : ringG ((ws, L), lv) ∣ r ↔ Good ws L lv.1 lv.2 r := by
  have hm : 0 < (mostOf lv).2 := (most_small sl).2.1
  rw [most_good ok sl.2.1]
  show divN ws L lv / comN ws L lv ∣ r ↔ _
  rw [div_dvd (comN_pos ok sl) comL_dvd.1]
  show divN ws L lv ∣ comL _ _ * r ↔ _
  rw [comL_mul, all_parts ok (C := fun s a => divN ws L lv ∣ s * r ∧ divN ws L lv ∣ a * r), all_counts ok]
  have key : ∀ l, okT ws.length L l → ((divN ws L lv ∣ shN ws lv (endM (zer ws.length) l) * r ∧ divN ws L lv ∣ acN ws L lv (endM (zer ws.length) l) * r) ↔ (ws.sum ^ L ∣ wtL ws l * r ∧ ws.sum ^ L * (mostOf lv).2 ∣ min (wtL ws l * (mostOf lv).2) ((mostOf lv).1 * ws.sum ^ L) * r)) := fun l hl => by
    unfold acN shN divN
    rw [wt_txt hl.2, Nat.mul_right_comm (wtL ws l), Nat.mul_dvd_mul_iff_right hm]
  constructor
  · rintro ⟨_, h⟩ l hl
    exact (key l hl).mp (h l hl)
  · intro h
    exact ⟨Nat.dvd_mul_right _ _, fun l hl => (key l hl).mpr (h l hl)⟩
/-! ### the makers' ring -/
theorem lcmL_dvd_iff {r : Nat} : ∀ {l : List (Nat × Nat)} {x : Nat}, lcmL x l ∣ r ↔ x ∣ r ∧ ∀ s ∈ l, s.2 ∣ r
  | [], x => ⟨fun h => ⟨h, fun s hs => by cases hs⟩, fun h => h.1⟩
  | a :: l, x => by
    show lcmL (Nat.lcm x a.2) l ∣ r ↔ _
    rw [lcmL_dvd_iff, Nat.lcm_dvd_iff]
    constructor
    · rintro ⟨⟨h1, h2⟩, h3⟩
      refine ⟨h1, fun s hs => ?_⟩
      rcases List.mem_cons.mp hs with e | hs
      · rw [e]
        exact h2
      · exact h3 s hs
    · rintro ⟨h1, h2⟩
      exact ⟨⟨h1, h2 a List.mem_cons_self⟩, fun s hs => h2 s (List.mem_cons_of_mem _ hs)⟩
/-- the source y tells the texts' weights by ws -/
structure Srcs (ws : List Nat) (L : Nat) (y : Src) : Prop where
  k : y.k = ws.length
  l : y.L = L
  t : totS y.ps = ws.sum ^ L
  w : ∀ l, okT ws.length L l → nS y.ps l = wtL ws l
theorem Srcs.mem {ws : List Nat} {L : Nat} {y : Src} (s : Srcs ws L y) {l : List Nat} : l ∈ y.tx ↔ okT ws.length L l := by
  unfold Src.tx
  rw [s.k, s.l]
  exact mem_texts
theorem ringK_iff {ws : List Nat} {L r : Nat} {y : Src} (ok : okF ws L) (s : Srcs ws L y) (h : okK y) : ringK y ∣ r ↔ Good ws L y.lv.1 y.lv.2 r := by
  rw [most_good ok h.l.2]
  unfold ringK
  rw [lcmL_dvd_iff]
  have hm := (mostu h).1
  have key : ∀ l, okT ws.length L l → (((shQ y l).2 ∣ r ∧ (arQ y l).2 ∣ r) ↔ (ws.sum ^ L ∣ wtL ws l * r ∧ ws.sum ^ L * (mostOf y.lv).2 ∣ min (wtL ws l * (mostOf y.lv).2) ((mostOf y.lv).1 * ws.sum ^ L) * r)) := fun l hl => by
    rw [arQ_low h, low_dvd_iff (divK_pos h)]
    unfold shQ minN
    rw [low_dvd_iff h.t, s.t, s.w l hl]
  constructor
  · rintro ⟨_, h2⟩ l hl
    exact (key l hl).mp ⟨h2 _ (List.mem_append_left _ (List.mem_map.mpr ⟨l, s.mem.mpr hl, rfl⟩)), h2 _ (List.mem_append_right _ (List.mem_map.mpr ⟨l, s.mem.mpr hl, rfl⟩))⟩
  · intro g
    refine ⟨Nat.one_dvd _, fun x hx => ?_⟩
    rcases List.mem_append.mp hx with hx | hx
    · obtain ⟨l, hl, rfl⟩ := List.mem_map.mp hx
      exact ((key l (s.mem.mp hl)).mpr (g l (s.mem.mp hl))).1
    · obtain ⟨l, hl, rfl⟩ := List.mem_map.mp hx
      exact ((key l (s.mem.mp hl)).mpr (g l (s.mem.mp hl))).2
theorem dvd_ext {a b : Nat} (h : ∀ r, a ∣ r ↔ b ∣ r) : a = b := Nat.dvd_antisymm ((h b).mpr (Nat.dvd_refl b)) ((h a).mp (Nat.dvd_refl a))
/-- one ring -/
theorem ringG_eq {ws : List Nat} {L a b : Nat} (ok : okF ws L) (hb : 0 < b) (sl : shSmall (low a b)) : ringG ((ws, L), low a b) = ringL ws L (a, b) :=
  dvd_ext fun r => by rw [ringG_dvd ok sl, ringL_dvd ok hb, low_good ok hb]
theorem ringK_eq {ws : List Nat} {L a b : Nat} {y : Src} (ok : okF ws L) (hb : 0 < b) (s : Srcs ws L y) (h : okK y) (e : y.lv = low a b) : ringK y = ringL ws L (a, b) :=
  dvd_ext fun r => by rw [ringK_iff ok s h, ringL_dvd ok hb, low_good ok hb, e]
theorem ringL_good {ws : List Nat} {L a b : Nat} (ok : okF ws L) (hb : 0 < b) : Good ws L a b (ringL ws L (a, b)) := (ringL_dvd ok hb).mp (Nat.dvd_refl _)
end K43
-- part M10
/-! M10: plain laws: the numbers of each text's arc and rest; sums over all texts. -/
namespace K43
open PySem PySem.Spec PyProof.Rows L2
/-! ### the numbers of a text -/
def shV (ws : List Nat) (L a b : Nat) (l : List Nat) : Nat := wtL ws l * ringL ws L (a, b) / ws.sum ^ L
def arcV (ws : List Nat) (L a b : Nat) (l : List Nat) : Nat := min (wtL ws l * b) (a * ws.sum ^ L) * ringL ws L (a, b) / (ws.sum ^ L * b)
def resV (ws : List Nat) (L a b : Nat) (l : List Nat) : Nat := shV ws L a b l - arcV ws L a b l
section
variable {ws : List Nat} {L a b : Nat} {l : List Nat} (ok : okF ws L) (hb : 0 < b)
include ok
theorem D_pos : 0 < ws.sum ^ L := Nat.pow_pos ok.sum_pos
include hb
theorem sh_val (hl : okT ws.length L l) : wtL ws l * ringL ws L (a, b) = shV ws L a b l * ws.sum ^ L := (Nat.div_mul_cancel ((ringL_good ok hb l hl).1)).symm
theorem arc_val (hl : okT ws.length L l) : min (wtL ws l * b) (a * ws.sum ^ L) * ringL ws L (a, b) = arcV ws L a b l * (ws.sum ^ L * b) := (Nat.div_mul_cancel ((ringL_good ok hb l hl).2)).symm
theorem arc_le_sh (hl : okT ws.length L l) : arcV ws L a b l ≤ shV ws L a b l := by
  refine Nat.le_of_mul_le_mul_right (c := ws.sum ^ L * b) ?_ (Nat.mul_pos (D_pos ok) hb)
  rw [← arc_val ok hb hl, ← Nat.mul_assoc, ← sh_val ok hb hl, Nat.mul_right_comm]
  exact Nat.mul_le_mul_right _ (Nat.min_le_left _ _)
theorem arc_pos (ha : 0 < a) (hl : okT ws.length L l) : 0 < arcV ws L a b l := by
  have h := arc_val (a := a) ok hb hl
  have h1 : 0 < min (wtL ws l * b) (a * ws.sum ^ L) := Nat.lt_min.mpr ⟨Nat.mul_pos (wtL_pos ok.2.2.2.2.1 hl.2) hb, Nat.mul_pos ha (D_pos ok)⟩
  have h2 := Nat.mul_pos h1 (ring_pos (L := L) (a := a) ok.sum_pos hb)
  rw [h] at h2
  exact Nat.pos_of_mul_pos_right h2
/-- the numbers by any form of the level -/
theorem arc_form {p q A : Nat} (hq : 0 < q) (hl : okT ws.length L l) (e : Eqv (ws.sum ^ L) (wtL ws l) a b p q) (h : min (wtL ws l * q) (p * ws.sum ^ L) * ringL ws L (a, b) = A * (ws.sum ^ L * q)) : A = arcV ws L a b l := by
  have h1 := (e.val hb hq).mpr h
  rw [arc_val ok hb hl] at h1
  exact (Nat.eq_of_mul_eq_mul_right (Nat.mul_pos (D_pos ok) hb) h1).symm
theorem sh_form {A : Nat} (hl : okT ws.length L l) (h : wtL ws l * ringL ws L (a, b) = A * ws.sum ^ L) : A = shV ws L a b l := by
  rw [sh_val ok hb hl] at h
  exact (Nat.eq_of_mul_eq_mul_right (D_pos ok) h).symm
theorem eqv_lowmost {W : Nat} (hW : W ≤ ws.sum ^ L) : Eqv (ws.sum ^ L) W a b (mostOf (low a b)).1 (mostOf (low a b)).2 :=
  Eqv.trans (low_pos hb) (eqv_cross low_cross.symm) (eqv_most (p := (low a b).1) (q := (low a b).2) hW)
end
/-! ### the far marking's tables -/
section
variable {ws : List Nat} {L a b : Nat} {l : List Nat} (ok : okF ws L) (hb : 0 < b) (sl : shSmall (low a b))
include ok hb sl
theorem com_ring : comN ws L (low a b) * ringL ws L (a, b) = ws.sum ^ L * (mostOf (low a b)).2 := by
  have e := ringG_eq ok hb sl
  rw [← e]
  exact Nat.mul_div_cancel' comL_dvd.1
theorem com_dvd (hl : okT ws.length L l) : comN ws L (low a b) ∣ shN ws (low a b) (endM (zer ws.length) l) ∧ comN ws L (low a b) ∣ acN ws L (low a b) (endM (zer ws.length) l) :=
  (all_parts ok (C := fun s a' => comN ws L (low a b) ∣ s ∧ comN ws L (low a b) ∣ a')).mp (comL_dvd.2) _ (end_in (by have := ok.1; omega) hl)
theorem ac_val (hl : okT ws.length L l) : acN ws L (low a b) (endM (zer ws.length) l) * ringL ws L (a, b) = arcV ws L a b l * divN ws L (low a b) := by
  have h := (Eqv.val hb (most_small sl).2.1 (eqv_lowmost ok hb (wtL_leD ok hl))).mp (arc_val (a := a) ok hb hl)
  unfold acN shN divN
  rw [wt_txt hl.2]
  exact h
theorem fA_txt (hl : okT ws.length L l) : fA ws L (low a b) (endM (zer ws.length) l) = arcV ws L a b l := by
  have hc := comN_pos ok sl
  refine Nat.div_eq_of_eq_mul_left hc ?_
  refine Nat.eq_of_mul_eq_mul_right (ring_pos (L := L) (a := a) ok.sum_pos hb) ?_
  rw [ac_val ok hb sl hl, Nat.mul_assoc, com_ring ok hb sl]
  rfl
theorem fS_txt (hl : okT ws.length L l) : shN ws (low a b) (endM (zer ws.length) l) / comN ws L (low a b) = shV ws L a b l := by
  have hc := comN_pos ok sl
  refine Nat.div_eq_of_eq_mul_left hc ?_
  refine Nat.eq_of_mul_eq_mul_right (ring_pos (L := L) (a := a) ok.sum_pos hb) ?_
  unfold shN
  rw [wt_txt hl.2, Nat.mul_assoc (shV ws L a b l), com_ring ok hb sl, Nat.mul_right_comm, sh_val ok hb hl, Nat.mul_assoc]
theorem fR_txt (hl : okT ws.length L l) : fR ws L (low a b) (endM (zer ws.length) l) = resV ws L a b l := by
  have hc := comN_pos ok sl
  unfold fR resV
  rw [← fA_txt ok hb sl hl, ← fS_txt ok hb sl hl]
  unfold fA
  obtain ⟨⟨s, hs⟩, ⟨t, ht⟩⟩ := com_dvd ok hb sl hl
  rw [hs, ht, ← Nat.mul_sub, Nat.mul_div_cancel_left _ hc, Nat.mul_div_cancel_left _ hc, Nat.mul_div_cancel_left _ hc]
end
/-! ### the plan's spans -/
theorem wt3_one {ws c : List Nat} {j : Nat} (h3 : c.length = 3) (hj : j < 3) : wt3 ws (oneM c j) = wt3 ws c * ws.getD j 1 := by
  match c, h3 with
  | [x, y, z], _ =>
    rcases (by omega : j = 0 ∨ j = 1 ∨ j = 2) with e | e | e
    · subst e
      show ws.getD 0 1 ^ (x + 1) * ws.getD 1 1 ^ y * ws.getD 2 1 ^ z = ws.getD 0 1 ^ x * ws.getD 1 1 ^ y * ws.getD 2 1 ^ z * ws.getD 0 1
      rw [Nat.pow_succ]
      simp only [Nat.mul_assoc, Nat.mul_comm, Nat.mul_left_comm]
    · subst e
      show ws.getD 0 1 ^ x * ws.getD 1 1 ^ (y + 1) * ws.getD 2 1 ^ z = ws.getD 0 1 ^ x * ws.getD 1 1 ^ y * ws.getD 2 1 ^ z * ws.getD 1 1
      rw [Nat.pow_succ]
      simp only [Nat.mul_assoc, Nat.mul_comm, Nat.mul_left_comm]
    · subst e
      show ws.getD 0 1 ^ x * ws.getD 1 1 ^ y * ws.getD 2 1 ^ (z + 1) = ws.getD 0 1 ^ x * ws.getD 1 1 ^ y * ws.getD 2 1 ^ z * ws.getD 2 1
      rw [Nat.pow_succ]
      simp only [Nat.mul_assoc, Nat.mul_comm, Nat.mul_left_comm]
theorem wt3_end {ws : List Nat} (hk : ws.length ≤ 3) : ∀ {l c : List Nat}, c.length = 3 → (∀ x ∈ l, x < ws.length) → wt3 ws (endM c l) = wt3 ws c * wtL ws l
  | [], c, _, _ => by rw [endM_nil, wtL_nil, Nat.mul_one]
  | x :: l, c, h1, h2 => by
    have hx := h2 x List.mem_cons_self
    have e : ws.getD x 1 = ws.getD x 0 := by
      rw [List.getD_eq_getElem?_getD, List.getD_eq_getElem?_getD, List.getElem?_eq_getElem hx]
      rfl
    rw [endM_cons, wt3_end hk (by rw [one_len (by omega)]; exact h1) (fun y hy => h2 y (List.mem_cons_of_mem _ hy)), wt3_one h1 (by omega), wtL_cons, e, Nat.mul_assoc]
theorem wt3_txt {ws l : List Nat} (hk : ws.length ≤ 3) (h : ∀ x ∈ l, x < ws.length) : wt3 ws (endM [0, 0, 0] l) = wtL ws l := by
  rw [wt3_end hk rfl h]
  show ws.getD 0 1 ^ 0 * ws.getD 1 1 ^ 0 * ws.getD 2 1 ^ 0 * wtL ws l = _
  simp only [Nat.pow_zero, Nat.one_mul]
theorem pA_txt {ws : List Nat} {L a b : Nat} {l : List Nat} (ok : okF ws L) (hl : okT ws.length L l) : pA ws L (a, b) (endM [0, 0, 0] l) = arcV ws L a b l := by
  unfold pA arcV
  rw [wt3_txt ok.2.1 hl.2]
theorem pR_txt {ws : List Nat} {L a b : Nat} {l : List Nat} (ok : okF ws L) (hl : okT ws.length L l) : pR ws L (a, b) (endM [0, 0, 0] l) = resV ws L a b l := by
  unfold pR resV shV
  rw [wt3_txt ok.2.1 hl.2, pA_txt ok hl]
/-! ### the makers' intervals -/
theorem over_mul {x D R : Nat} (hD : 0 < D) (h : (low x D).2 ∣ R) : (low x D).1 * (R / (low x D).2) * D = x * R := by
  obtain ⟨t, rfl⟩ := h
  have hp := low_pos (a := x) hD
  rw [Nat.mul_div_cancel_left _ hp]
  have h1 := low_cross (a := x) (b := D)
  rw [Nat.mul_right_comm, h1, Nat.mul_assoc]
section
variable {ws : List Nat} {L a b : Nat} {l : List Nat} {y : Src} (ok : okF ws L) (hb : 0 < b) (s : Srcs ws L y) (h : okK y) (e : y.lv = low a b)
include ok hb s h e
theorem szS_txt (hl : okT ws.length L l) : szS y l = shV ws L a b l := by
  refine sh_form ok hb hl ?_
  have h1 := over_mul h.t (sh_in h (s.mem.mpr hl))
  rw [ringK_eq ok hb s h e, s.t, s.w l hl] at h1
  unfold szS
  rw [ringK_eq ok hb s h e]
  unfold shQ
  rw [s.t, s.w l hl]
  exact h1.symm
theorem szA_txt (hl : okT ws.length L l) : szA y l = arcV ws L a b l := by
  have hm := (mostu h).1
  rw [e] at hm
  refine arc_form ok hb hm hl (eqv_lowmost ok hb (wtL_leD ok hl)) ?_
  have h0 := ar_in h (s.mem.mpr hl)
  rw [arQ_low h] at h0
  have h1 := over_mul (divK_pos h) h0
  rw [ringK_eq ok hb s h e] at h1
  unfold szA
  rw [ringK_eq ok hb s h e, arQ_low h]
  unfold minN at h1 ⊢
  rw [s.t, s.w l hl, e] at h1 ⊢
  exact h1.symm
theorem szR_txt (hl : okT ws.length L l) : szR y l = resV ws L a b l := by
  unfold szR resV
  rw [szS_txt ok hb s h e hl, szA_txt ok hb s h e hl]
end
/-! ### sums over all texts -/
theorem sum_flat {α : Type} (g : α → List (List Nat)) (F : List Nat → Nat) : ∀ xs : List α, ((xs.flatMap g).map F).sum = (xs.map fun x => ((g x).map F).sum).sum
  | [] => rfl
  | x :: xs => by
    rw [List.flatMap_cons, List.map_append, List.sum_append, sum_flat g F xs, List.map_cons, List.sum_cons]
theorem textsC (k : Nat) : ∀ m, textsM k (m + 1) = (List.range k).flatMap fun a => (textsM k m).map fun l => a :: l
  | 0 => by
    show ([[]] : List (List Nat)).flatMap (fun l => (List.range k).map fun c => l ++ [c]) = (List.range k).flatMap fun a => [[a]]
    rw [List.flatMap_cons, List.flatMap_nil, List.append_nil]
    induction List.range k with
    | nil => rfl
    | cons x r ih => rw [List.map_cons, List.flatMap_cons, ih]; rfl
  | m + 1 => by
    have ih := textsC k m
    show (textsM k (m + 1)).flatMap (fun l => (List.range k).map fun c => l ++ [c]) = (List.range k).flatMap fun a => (textsM k (m + 1)).map fun l => a :: l
    rw [ih, List.flatMap_assoc]
    refine flatMap_congr' fun a _ => ?_
    rw [List.flatMap_map]
    rw [← ih]
    show (textsM k m).flatMap (fun l => (List.range k).map fun c => a :: l ++ [c]) = ((textsM k m).flatMap fun l => (List.range k).map fun c => l ++ [c]).map fun l => a :: l
    rw [List.map_flatMap]
    refine flatMap_congr' fun l _ => ?_
    rw [List.map_map]
    rfl
theorem tabR_sum (f : List Nat → Nat) (k : Nat) : ∀ (m : Nat) (c : List Nat), tabR f k m c = ((textsM k m).map fun l => f (endM c l)).sum
  | 0, c => by
    show f c = ([[]].map fun l => f (endM c l)).sum
    simp [endM]
  | m + 1, c => by
    rw [textsC, sum_flat]
    show ((List.range k).map fun a => tabR f k m (oneM c a)).sum = _
    congr 1
    refine List.map_congr_left fun a _ => ?_
    rw [tabR_sum f k m, List.map_map]
    rfl
theorem sum_congr {F F' : List Nat → Nat} {T : List (List Nat)} (h : ∀ l ∈ T, F l = F' l) : (T.map F).sum = (T.map F').sum := by
  rw [List.map_congr_left h]
theorem sum_cross {F F' : List Nat → Nat} {R N : Nat} : ∀ {T : List (List Nat)}, (∀ l ∈ T, F l * R = F' l * N) → (T.map F).sum * R = (T.map F').sum * N
  | [], _ => by simp
  | x :: T, h => by
    rw [List.map_cons, List.map_cons, List.sum_cons, List.sum_cons, Nat.add_mul, Nat.add_mul, h x List.mem_cons_self, sum_cross fun l hl => h l (List.mem_cons_of_mem _ hl)]
theorem sum_add (F F' : List Nat → Nat) : ∀ T : List (List Nat), (T.map fun l => F l + F' l).sum = (T.map F).sum + (T.map F').sum
  | [] => rfl
  | x :: T => by
    rw [List.map_cons, List.map_cons, List.map_cons, List.sum_cons, List.sum_cons, List.sum_cons, sum_add F F' T]
    omega
theorem getD_range : ∀ ws : List Nat, ((List.range ws.length).map fun c => ws.getD c 0) = ws := fun ws => by
  apply List.ext_getElem?
  intro i
  rw [List.getElem?_map]
  by_cases h : i < ws.length
  · rw [List.getElem?_range h, List.getElem?_eq_getElem h]
    show some (ws.getD i 0) = _
    rw [List.getD_eq_getElem?_getD, List.getElem?_eq_getElem h]
    rfl
  · rw [List.getElem?_eq_none (by rw [List.length_range]; omega), List.getElem?_eq_none (by omega)]
    rfl
theorem sum_mulL (x : Nat) : ∀ l : List Nat, (l.map fun c => x * c).sum = x * l.sum
  | [] => rfl
  | a :: l => by
    rw [List.map_cons, List.sum_cons, List.sum_cons, sum_mulL x l, Nat.mul_add]
theorem sum_mulR (x : Nat) (F : List Nat → Nat) : ∀ l : List (List Nat), (l.map fun c => F c * x).sum = (l.map F).sum * x
  | [] => by simp
  | a :: l => by
    rw [List.map_cons, List.map_cons, List.sum_cons, List.sum_cons, sum_mulR x F l, Nat.add_mul]
theorem sum_wtL (ws : List Nat) : ∀ L, ((textsM ws.length L).map (wtL ws)).sum = ws.sum ^ L
  | 0 => rfl
  | L + 1 => by
    show (((textsM ws.length L).flatMap fun l => (List.range ws.length).map fun c => l ++ [c]).map (wtL ws)).sum = _
    rw [sum_flat]
    have e : ((textsM ws.length L).map fun x => (((List.range ws.length).map fun c => x ++ [c]).map (wtL ws)).sum) = (textsM ws.length L).map fun x => wtL ws x * ws.sum := by
      refine List.map_congr_left fun x _ => ?_
      rw [List.map_map]
      have e2 : ((List.range ws.length).map ((wtL ws) ∘ fun c => x ++ [c])) = ((List.range ws.length).map fun c => ws.getD c 0).map fun c => wtL ws x * c := by
        rw [List.map_map]
        refine List.map_congr_left fun c _ => ?_
        show wtL ws (x ++ [c]) = wtL ws x * ws.getD c 0
        rw [wtL_app, wtL_cons, wtL_nil, Nat.mul_one]
      rw [e2, sum_mulL, getD_range]
    rw [e, sum_mulR, sum_wtL ws L, Nat.pow_succ]
/-- all shares are the ring -/
theorem sum_shV {ws : List Nat} {L a b : Nat} (ok : okF ws L) (hb : 0 < b) : ((textsM ws.length L).map (shV ws L a b)).sum = ringL ws L (a, b) := by
  have h := sum_cross (T := textsM ws.length L) (F := wtL ws) (F' := shV ws L a b) (R := ringL ws L (a, b)) (N := ws.sum ^ L) fun l hl => sh_val ok hb (mem_texts.mp hl)
  rw [sum_wtL, Nat.mul_comm] at h
  exact (Nat.eq_of_mul_eq_mul_right (D_pos ok) h).symm
theorem sum_parts {ws : List Nat} {L a b : Nat} (ok : okF ws L) (hb : 0 < b) : ((textsM ws.length L).map (arcV ws L a b)).sum + ((textsM ws.length L).map (resV ws L a b)).sum = ringL ws L (a, b) := by
  rw [← sum_shV (a := a) ok hb, ← sum_add]
  refine sum_congr fun l hl => ?_
  have := arc_le_sh (a := a) ok hb (mem_texts.mp hl)
  unfold resV
  omega
end K43
-- part M11
/-! M11: plain laws: the sums by counts are the sums by texts. -/
namespace K43
open PySem PySem.Spec PyProof.Rows L2
theorem und_tab2 (f : List Nat → Nat) (x y z : Nat) : ∀ m < 5, undL f 2 m [x, y, z] = tabR f 2 m [x, y, z] := by
  intro m hm
  rcases (by omega : m = 0 ∨ m = 1 ∨ m = 2 ∨ m = 3 ∨ m = 4) with e | e | e | e | e
  all_goals
    subst e
    simp [undL, und, lcN, lcRow, chV, tabR, oneM, List.range, List.range.loop, Nat.add_assoc]
  all_goals omega
theorem und_tab3 (f : List Nat → Nat) (x y z : Nat) : ∀ m < 3, undL f 3 m [x, y, z] = tabR f 3 m [x, y, z] := by
  intro m hm
  rcases (by omega : m = 0 ∨ m = 1 ∨ m = 2) with e | e | e
  all_goals
    subst e
    simp [undL, und, lcN, lcRow, chV, tabR, oneM, List.range, List.range.loop, Nat.add_assoc]
  all_goals omega
theorem kin_tab2 (h : List Nat → Nat) (p q : List Nat) : ∀ m < 5, ((kindsM [p, q] m).map fun x => x.2.1 * h x.1).sum = tabR h 2 m [0, 0] := by
  intro m hm
  rcases (by omega : m = 0 ∨ m = 1 ∨ m = 2 ∨ m = 3 ∨ m = 4) with e | e | e | e | e
  all_goals
    subst e
    simp [kindsM, chV, tabR, oneM, List.range, List.range.loop, Nat.add_assoc]
  all_goals omega
theorem kin_tab3 (h : List Nat → Nat) (p q r : List Nat) : ∀ m < 3, ((kindsM [p, q, r] m).map fun x => x.2.1 * h x.1).sum = tabR h 3 m [0, 0, 0] := by
  intro m hm
  rcases (by omega : m = 0 ∨ m = 1 ∨ m = 2) with e | e | e
  all_goals
    subst e
    simp [kindsM, chV, tabR, oneM, List.range, List.range.loop, Nat.add_assoc]
  all_goals omega
end K43
-- part M12
/-! M12: plain laws: layouts; what W40 asks for. -/
namespace K43
open PySem PySem.Spec PyProof.Rows L2
theorem und_tab {f : List Nat → Nat} {k m : Nat} {c : List Nat} (h : okS k m) (hc : c.length = 3) : undL f k m c = tabR f k m c := by
  match c, hc with
  | [x, y, z], _ =>
    obtain ⟨h1, h2, h3, h4⟩ := h
    rcases (by omega : k = 2 ∨ k = 3) with e | e
    · subst e
      exact und_tab2 f x y z m (by omega)
    · subst e
      exact und_tab3 f x y z m (by have := h4 rfl; omega)
theorem okS.pred {k m : Nat} (h : okS k (m + 1)) : okS k m := ⟨h.1, h.2.1, by have := h.2.2.1; omega, fun e => by have := h.2.2.2 e; omega⟩
theorem lay_place (f : List Nat → Nat) {k : Nat} : ∀ {m : Nat} {c l : List Nat}, okS k m → c.length = 3 → (∀ a ∈ l, a < k) → layP f k m c l = placeM f k m c l
  | 0, c, l, _, _, _ => by
    unfold layP placeM
    rfl
  | m + 1, c, [], _, _, _ => rfl
  | m + 1, c, a :: l, h, hc, hl => by
    have ha := hl a List.mem_cons_self
    have hk := h.2.1
    show sumTo (fun b => undL f k m (oneM c b)) a + layP f k m (oneM c a) l = sumTo (fun b => tabR f k m (oneM c b)) a + placeM f k m (oneM c a) l
    rw [lay_place f h.pred (by rw [one_len (by omega)]; exact hc) fun x hx => hl x (List.mem_cons_of_mem _ hx)]
    congr 1
    unfold sumTo
    congr 1
    refine List.map_congr_left fun b hb => ?_
    have := List.mem_range.mp hb
    exact und_tab h.pred (by rw [one_len (by omega)]; exact hc)
/-! ### the place of a text -/
theorem range_split {a : Nat} : ∀ {k : Nat}, a < k → ∃ s, List.range k = List.range a ++ a :: s
  | k + 1, h => by
    rw [List.range_succ]
    by_cases e : a = k
    · exact ⟨[], by rw [e]⟩
    · obtain ⟨s, hs⟩ := range_split (a := a) (k := k) (by omega)
      exact ⟨s ++ [k], by rw [hs, List.append_assoc]; rfl⟩
theorem place_split {k : Nat} : ∀ {m : Nat} {l : List Nat}, okT k m l → ∃ p s, textsM k m = p ++ l :: s ∧ ∀ (f : List Nat → Nat) (c : List Nat), placeM f k m c l = (p.map fun t => f (endM c t)).sum
  | 0, l, h => by
    rw [List.eq_nil_of_length_eq_zero h.1]
    exact ⟨[], [], rfl, fun f c => rfl⟩
  | m + 1, [], h => by have := h.1; simp at this
  | m + 1, a :: l, h => by
    obtain ⟨ha, hl⟩ := okT_cons.mp h
    obtain ⟨p, s, e, hp⟩ := place_split hl
    obtain ⟨r, hr⟩ := range_split ha
    refine ⟨((List.range a).flatMap fun b => (textsM k m).map fun t => b :: t) ++ p.map (fun t => a :: t), s.map (fun t => a :: t) ++ (r.flatMap fun b => (textsM k m).map fun t => b :: t), ?_, fun f c => ?_⟩
    · rw [textsC, hr, List.flatMap_append, List.flatMap_cons]
      rw [show (textsM k m).map (fun t => a :: t) = p.map (fun t => a :: t) ++ (a :: l) :: s.map (fun t => a :: t) by rw [e, List.map_append, List.map_cons]]
      simp only [List.append_assoc, List.cons_append]
    · show sumTo (fun b => tabR f k m (oneM c b)) a + placeM f k m (oneM c a) l = _
      rw [List.map_append, List.sum_append, sum_flat, hp f (oneM c a), List.map_map]
      congr 1
      unfold sumTo
      congr 1
      refine List.map_congr_left fun b _ => ?_
      rw [tabR_sum, List.map_map]
      rfl
theorem at_split {T p s : List (List Nat)} {l : List Nat} {j : Nat} (nd : T.Nodup) (e : T = p ++ l :: s) (h : T[j]? = some l) : p = T.take j := by
  have h1 : T[p.length]? = some l := by
    rw [e, List.getElem?_append_right (Nat.le_refl _), Nat.sub_self]
    rfl
  have h2 : p.length < T.length := by
    rw [e]
    simp
  have h3 : p.length = j := (List.getElem?_inj h2 nd).mp (by rw [h1, h])
  rw [← h3, e, List.take_left']
  rfl
theorem place_at {k m j : Nat} {l : List Nat} (nd : (textsM k m).Nodup) (h : (textsM k m)[j]? = some l) (f : List Nat → Nat) (c : List Nat) : placeM f k m c l = (((textsM k m).take j).map fun t => f (endM c t)).sum := by
  obtain ⟨p, s, e, hp⟩ := place_split (mem_texts.mp (List.mem_of_getElem? h))
  rw [hp f c, at_split nd e h]
theorem take_sum {T : List (List Nat)} {j : Nat} {l : List Nat} (F : List Nat → Nat) (h : T[j]? = some l) : ((T.take (j + 1)).map F).sum = ((T.take j).map F).sum + F l := by
  have e : T.take (j + 1) = T.take j ++ [l] := by
    rw [List.take_add_one, h]
    rfl
  rw [e, List.map_append, List.sum_append]
  simp
theorem take_mono {T : List (List Nat)} (F : List Nat → Nat) {i j : Nat} (h : i ≤ j) : ((T.take i).map F).sum ≤ ((T.take j).map F).sum := by
  have e : T.take i = (T.take j).take i := by rw [List.take_take, Nat.min_eq_left h]
  have e2 : ((T.take j).map F).sum = (((T.take j).take i).map F).sum + (((T.take j).drop i).map F).sum := by
    rw [← List.sum_append, ← List.map_append, List.take_append_drop]
  rw [e2, e]
  omega
theorem take_all {T : List (List Nat)} (F : List Nat → Nat) (i : Nat) : ((T.take i).map F).sum ≤ (T.map F).sum := by
  have e2 : (T.map F).sum = ((T.take i).map F).sum + ((T.drop i).map F).sum := by
    rw [← List.sum_append, ← List.map_append, List.take_append_drop]
  omega
theorem hit_one {T : List (List Nat)} (F : List Nat → Nat) {i j x : Nat} (h1 : ((T.take i).map F).sum ≤ x) (h2 : x < ((T.take (i + 1)).map F).sum) (h3 : ((T.take j).map F).sum ≤ x) (h4 : x < ((T.take (j + 1)).map F).sum) : i = j := by
  rcases Nat.lt_trichotomy i j with h | h | h
  · have := take_mono (T := T) F (i := i + 1) (j := j) h
    omega
  · exact h
  · have := take_mono (T := T) F (i := j + 1) (j := i) h
    omega
theorem find_at (g : Nat → Nat) : ∀ {u a x : Nat}, x + sumTo g a < sumTo g (a + u) → (findA g u a x).1 < a + u ∧ (findA g u a x).2 + sumTo g (findA g u a x).1 = x + sumTo g a ∧ (findA g u a x).2 < g (findA g u a x).1
  | 0, a, x, h => by
    rw [Nat.add_zero] at h
    omega
  | u + 1, a, x, h => by
    unfold findA
    have hs := sumTo_succ g a
    by_cases c : g a ≤ x
    · rw [if_pos c]
      have := find_at g (u := u) (a := a + 1) (x := x - g a) (by rw [show a + 1 + u = a + (u + 1) by omega]; omega)
      omega
    · rw [if_neg c]
      exact ⟨by show a < _; omega, rfl, by show x < g a; omega⟩
theorem text_at (f : List Nat → Nat) {k : Nat} : ∀ {m : Nat} {c : List Nat} {x : Nat}, x < tabR f k m c → okT k m (textM f k m c x) ∧ placeM f k m c (textM f k m c x) ≤ x ∧ x < placeM f k m c (textM f k m c x) + f (endM c (textM f k m c x))
  | 0, c, x, h => ⟨⟨rfl, fun a ha => by cases ha⟩, Nat.zero_le _, by
    show x < 0 + f c
    rw [Nat.zero_add]
    exact h⟩
  | m + 1, c, x, h => by
    obtain ⟨h1, h2, h3⟩ := find_at (fun a => tabR f k m (oneM c a)) (u := k) (a := 0) (x := x) (by rw [Nat.zero_add]; exact h)
    obtain ⟨i1, i2, i3⟩ := text_at f (k := k) (m := m) h3
    have e0 : sumTo (fun a => tabR f k m (oneM c a)) 0 = 0 := rfl
    refine ⟨okT_cons.mpr ⟨by omega, i1⟩, ?_⟩
    show sumTo (fun a => tabR f k m (oneM c a)) _ + placeM f k m _ _ ≤ x ∧ x < sumTo (fun a => tabR f k m (oneM c a)) _ + placeM f k m _ _ + f (endM _ (textM f k m _ _))
    omega
/-! ### the worth -/
theorem plan_A {ws : List Nat} {L : Nat} {lv : Nat × Nat} (ok : okF ws L) : (planM ws L lv).A = ((textsM ws.length L).map fun l => pA ws L lv (endM [0, 0, 0] l)).sum := by
  rw [← tabR_sum, ← und_tab ok.S rfl]
  show ((lcN ws.length L).map fun r => r.getD 0 0 * pA ws L lv r.tail).sum = ((lcN ws.length L).map fun r => r.getD 0 0 * pA ws L lv [0 + r.getD 1 0, 0 + r.getD 2 0, 0 + r.getD 3 0]).sum
  congr 1
  refine List.map_congr_left fun r hr => ?_
  obtain ⟨n, x, y, z, rfl, _⟩ := lc_mem ok.2.1 ok.2.2.1 hr
  show _ * pA ws L lv [x, y, z] = _ * pA ws L lv [0 + x, 0 + y, 0 + z]
  rw [Nat.zero_add, Nat.zero_add, Nat.zero_add]
theorem plan_arcs {ws : List Nat} {L a b : Nat} (ok : okF ws L) : (planM ws L (a, b)).A = ((textsM ws.length L).map (arcV ws L a b)).sum := by
  rw [plan_A ok]
  exact sum_congr fun l hl => pA_txt ok (mem_texts.mp hl)
theorem kin_tab {h : List Nat → Nat} {pss : List (List Nat)} {m : Nat} (ok : okS pss.length m) : ((kindsM pss m).map fun x => x.2.1 * h x.1).sum = tabR h pss.length m (zer pss.length) := by
  obtain ⟨h1, h2, h3, h4⟩ := ok
  match pss, h1, h2, h4 with
  | [p, q], _, _, _ => exact kin_tab2 h p q m (by omega)
  | [p, q, r], _, _, h4 => exact kin_tab3 h p q r m (by have := h4 rfl; omega)
theorem worth_sum {ws : List Nat} {L : Nat} {lv : Nat × Nat} (ok : okF ws L) : worthN ws L lv = ((textsM ws.length L).map fun l => acN ws L lv (endM (zer ws.length) l)).sum := by
  rw [← tabR_sum]
  have e := kin_tab (h := acN ws L lv) (pss := ws.map fun w => powN w L) (m := L) (by rw [List.length_map]; exact ok.S)
  rw [List.length_map] at e
  rw [← e]
  unfold worthN
  congr 1
  unfold partsM
  rw [List.map_map]
  refine List.map_congr_left fun x hx => ?_
  have h := (parts_val (ws := ws) (n := L) (lv := lv) (y := paOf (mostOf lv).2 ((mostOf lv).1 * ws.sum ^ L) x) (List.mem_map.mpr ⟨x, hx, rfl⟩)).2
  show x.2.1 * (paOf (mostOf lv).2 ((mostOf lv).1 * ws.sum ^ L) x).2.2.2 = x.2.1 * acN ws L lv x.1
  rw [h]
  rfl
section
variable {ws : List Nat} {L a b : Nat} (ok : okF ws L) (hb : 0 < b)
include ok hb
theorem ringL_pos : 0 < ringL ws L (a, b) := ring_pos ok.sum_pos hb
/-- any sum of lesser shares over one divisor, as the plan's -/
theorem worth_form {p q : Nat} {F : List Nat → Nat} (hq : 0 < q) (e : ∀ W, W ≤ ws.sum ^ L → Eqv (ws.sum ^ L) W a b p q) (hF : ∀ l, okT ws.length L l → F l = min (wtL ws l * q) (p * ws.sum ^ L)) : low ((textsM ws.length L).map F).sum (ws.sum ^ L * q) = low (planM ws L (a, b)).A (planM ws L (a, b)).R := by
  refine low_eq (Nat.mul_pos (D_pos ok) hq) (ringL_pos ok hb) ?_
  rw [plan_arcs ok]
  refine sum_cross fun l hl => ?_
  have hl := mem_texts.mp hl
  rw [hF l hl]
  exact ((e _ (wtL_leD ok hl)).val hb hq).mp (arc_val ok hb hl)
theorem worth_far (sl : shSmall (low a b)) : low (worthN ws L (low a b)) (ws.sum ^ L * (mostOf (low a b)).2) = low (planM ws L (a, b)).A (planM ws L (a, b)).R := by
  rw [worth_sum ok]
  refine worth_form ok hb (most_small sl).2.1 (fun W hW => eqv_lowmost ok hb hW) fun l hl => ?_
  unfold acN shN
  rw [wt_txt hl.2]
theorem worth_plain {f : List Nat → Nat} (hf : ∀ l, okT ws.length L l → f l = wtL ws l) : low (pwN f (ws.sum ^ L) ws.length L (low a b)) (ws.sum ^ L * (low a b).2) = low (planM ws L (a, b)).A (planM ws L (a, b)).R := by
  unfold pwN
  refine worth_form ok hb (low_pos hb) (fun W _ => eqv_cross low_cross.symm) fun l hl => ?_
  unfold minN
  rw [hf l hl]
theorem worth_makers {y : Src} (s : Srcs ws L y) (h : okK y) (e : y.lv = low a b) : low (sumK y) (dvK y) = low (planM ws L (a, b)).A (planM ws L (a, b)).R := by
  unfold sumK dvK Src.tx
  rw [s.k, s.l, s.t, e]
  refine worth_form ok hb (by rw [← e]; exact (mostu h).1) (fun W hW => eqv_lowmost ok hb hW) fun l hl => ?_
  unfold minN
  rw [s.w l hl]
end
/-! ### the keys -/
theorem T_nd {ws : List Nat} {L : Nat} (ok : okF ws L) : (textsM ws.length L).Nodup := texts_nd _ ok.k4 _ ok.l5 ok.l3
theorem idx_of {k L : Nat} {l : List Nat} (h : okT k L l) : ∃ j : Nat, j < (textsM k L).length ∧ (textsM k L)[j]? = some l := by
  obtain ⟨j, hj, e⟩ := List.getElem_of_mem (mem_texts.mpr h)
  exact ⟨j, hj, by rw [List.getElem?_eq_getElem hj, e]⟩
section
variable {ws : List Nat} {L a b : Nat} (ok : okF ws L)
include ok
theorem take_congr {F F' : List Nat → Nat} (h : ∀ l, okT ws.length L l → F l = F' l) (j : Nat) : (((textsM ws.length L).take j).map F).sum = (((textsM ws.length L).take j).map F').sum :=
  sum_congr fun l hl => h l (mem_texts.mp (List.mem_of_mem_take hl))
theorem layA_at {j : Nat} {l : List Nat} (h : (textsM ws.length L)[j]? = some l) : layA (planM ws L (a, b)) l = (((textsM ws.length L).take j).map (arcV ws L a b)).sum := by
  have hl := mem_texts.mp (List.mem_of_getElem? h)
  show layP (pA ws L (a, b)) ws.length L [0, 0, 0] l = _
  rw [lay_place _ ok.S rfl hl.2, place_at (T_nd ok) h]
  exact take_congr ok (fun t ht => pA_txt ok ht) j
theorem layR_at {j : Nat} {l : List Nat} (h : (textsM ws.length L)[j]? = some l) : layR (planM ws L (a, b)) l = ((textsM ws.length L).map (arcV ws L a b)).sum + (((textsM ws.length L).take j).map (resV ws L a b)).sum := by
  have hl := mem_texts.mp (List.mem_of_getElem? h)
  show (planM ws L (a, b)).A + layP (pR ws L (a, b)) ws.length L [0, 0, 0] l = _
  rw [lay_place _ ok.S rfl hl.2, place_at (T_nd ok) h, plan_arcs ok]
  congr 1
  exact take_congr ok (fun t ht => pR_txt ok ht) j
theorem hitL_at {j i : Nat} {l : List Nat} (h : (textsM ws.length L)[j]? = some l) : hitL (planM ws L (a, b)) l i ↔ (((textsM ws.length L).take j).map (arcV ws L a b)).sum ≤ i ∧ i < (((textsM ws.length L).take (j + 1)).map (arcV ws L a b)).sum := by
  have hl := mem_texts.mp (List.mem_of_getElem? h)
  unfold hitL
  rw [layA_at ok h, take_sum _ h, show (planM ws L (a, b)).f (endM [0, 0, 0] l) = arcV ws L a b l from pA_txt ok hl]
theorem key_ok (hb : 0 < b) (ha : 0 < a) (hr : ringL ws L (a, b) < 2 ^ 60) : KeyOk (planM ws L (a, b)) := by
  have hs := sum_parts (a := a) ok hb
  refine ⟨ringL_pos ok hb, hr, fun l hl => ?_⟩
  have hl : okT ws.length L l := hl
  obtain ⟨j, hj, e⟩ := idx_of hl
  have e1 : (planM ws L (a, b)).f (endM [0, 0, 0] l) = arcV ws L a b l := pA_txt ok hl
  have e2 := arc_pos (a := a) ok hb ha hl
  have e3 := take_all (T := textsM ws.length L) (arcV ws L a b) (j + 1)
  have e4 := take_all (T := textsM ws.length L) (resV ws L a b) j
  rw [take_sum _ e] at e3
  rw [layA_at ok e, layR_at ok e, e1]
  show _ ∧ _ ≤ ringL ws L (a, b) ∧ _ ∧ _ ≤ ringL ws L (a, b)
  omega
end
section
variable {ws : List Nat} {L a b : Nat} {y : Src} (ok : okF ws L) (hb : 0 < b) (sl : shSmall (low a b)) (s : Srcs ws L y) (h : okK y) (e : y.lv = low a b)
include ok hb sl
theorem arcG_eq : arcG ((ws, L), low a b) = ((textsM ws.length L).map (arcV ws L a b)).sum := by
  show tabR (fA ws L (low a b)) ws.length L (zer ws.length) = _
  rw [tabR_sum]
  exact sum_congr fun l hl => fA_txt ok hb sl (mem_texts.mp hl)
theorem restG_eq : restG ((ws, L), low a b) = ((textsM ws.length L).map (resV ws L a b)).sum := by
  show tabR (fR ws L (low a b)) ws.length L (zer ws.length) = _
  rw [tabR_sum]
  exact sum_congr fun l hl => fR_txt ok hb sl (mem_texts.mp hl)
theorem placeG_at {j : Nat} {l : List Nat} (h : (textsM ws.length L)[j]? = some l) : placeG ((ws, L), low a b) l = (((textsM ws.length L).take j).map (arcV ws L a b)).sum := by
  show placeM (fA ws L (low a b)) ws.length L (zer ws.length) l = _
  rw [place_at (T_nd ok) h]
  exact take_congr ok (fun t ht => fA_txt ok hb sl ht) j
theorem endG_at {j : Nat} {l : List Nat} (h : (textsM ws.length L)[j]? = some l) : endG ((ws, L), low a b) l = (((textsM ws.length L).take (j + 1)).map (arcV ws L a b)).sum := by
  unfold endG
  rw [placeG_at ok hb sl h, take_sum _ h]
  show _ + fA ws L (low a b) (endM (zer ws.length) l) = _
  rw [fA_txt ok hb sl (mem_texts.mp (List.mem_of_getElem? h))]
/-- what is written under a key lies on the key -/
theorem write_at {i : Nat} (hi : i < ringL ws L (a, b)) : ∃ j : Nat, j < (textsM ws.length L).length ∧ (textsM ws.length L)[j]? = some (writeG ((ws, L), low a b) i) ∧
    (((((textsM ws.length L).take j).map (arcV ws L a b)).sum ≤ i ∧ i < (((textsM ws.length L).take (j + 1)).map (arcV ws L a b)).sum) ∨
     (((textsM ws.length L).map (arcV ws L a b)).sum + (((textsM ws.length L).take j).map (resV ws L a b)).sum ≤ i ∧ i < ((textsM ws.length L).map (arcV ws L a b)).sum + (((textsM ws.length L).take (j + 1)).map (resV ws L a b)).sum)) := by
  have hs := sum_parts (a := a) ok hb
  have hA := arcG_eq ok hb sl
  have hR := restG_eq ok hb sl
  unfold writeG
  by_cases c : i < arcG ((ws, L), low a b)
  · rw [if_pos c]
    obtain ⟨h1, h2, h3⟩ := text_at (fA ws L (low a b)) (k := ws.length) (m := L) (c := zer ws.length) (x := i) c
    obtain ⟨j, hj, ej⟩ := idx_of h1
    refine ⟨j, hj, ej, .inl ?_⟩
    rw [take_sum _ ej, ← placeG_at ok hb sl ej, ← fA_txt ok hb sl h1]
    exact ⟨h2, h3⟩
  · rw [if_neg c]
    obtain ⟨h1, h2, h3⟩ := text_at (fR ws L (low a b)) (k := ws.length) (m := L) (c := zer ws.length) (x := i - arcG ((ws, L), low a b)) (by show _ < restG ((ws, L), low a b); omega)
    obtain ⟨j, hj, ej⟩ := idx_of h1
    refine ⟨j, hj, ej, .inr ?_⟩
    have hp := place_at (T_nd ok) ej (fR ws L (low a b)) (zer ws.length)
    rw [take_congr ok (F' := resV ws L a b) (fun t ht => fR_txt ok hb sl ht) j] at hp
    rw [take_sum _ ej, ← hp, ← fR_txt ok hb sl h1, ← hA]
    show _ + placeM (fR ws L (low a b)) ws.length L (zer ws.length) (textM (fR ws L (low a b)) ws.length L (zer ws.length) (i - arcG ((ws, L), low a b))) ≤ i ∧ _
    omega
include s h e
theorem fit_ok {i : Nat} (hi : i < ringL ws L (a, b)) : FitOk (planM ws L (a, b)) ((ws, L), low a b) y i := by
  have hs := sum_parts (a := a) ok hb
  have hA := arcG_eq ok hb sl
  have hR := restG_eq ok hb sl
  obtain ⟨j0, hj0, e0, hit0⟩ := write_at ok hb sl hi
  have hT : y.tx = textsM ws.length L := by
    unfold Src.tx
    rw [s.k, s.l]
  have okw : okT ws.length L (writeG ((ws, L), low a b) i) := mem_texts.mp (List.mem_of_getElem? e0)
  have hLA : ∀ j, loA y j = (((textsM ws.length L).take j).map (arcV ws L a b)).sum := fun j => by
    unfold loA
    rw [hT]
    exact take_congr ok (fun t ht => szA_txt ok hb s h e ht) j
  have hLR : ∀ j, loR y j = ((textsM ws.length L).map (arcV ws L a b)).sum + (((textsM ws.length L).take j).map (resV ws L a b)).sum := fun j => by
    unfold loR
    rw [hT]
    rw [take_congr ok (F' := resV ws L a b) (fun t ht => szR_txt ok hb s h e ht) j, sum_congr (F' := arcV ws L a b) fun l hl => szA_txt ok hb s h e (mem_texts.mp hl)]
  have one : ∀ j l, (textsM ws.length L)[j]? = some l → (((((textsM ws.length L).take j).map (arcV ws L a b)).sum ≤ i ∧ i < (((textsM ws.length L).take (j + 1)).map (arcV ws L a b)).sum) ∨
     (((textsM ws.length L).map (arcV ws L a b)).sum + (((textsM ws.length L).take j).map (resV ws L a b)).sum ≤ i ∧ i < ((textsM ws.length L).map (arcV ws L a b)).sum + (((textsM ws.length L).take (j + 1)).map (resV ws L a b)).sum)) → l = writeG ((ws, L), low a b) i := fun j l hl hit => by
    have q1 := take_all (T := textsM ws.length L) (arcV ws L a b) (j + 1)
    have q2 := take_all (T := textsM ws.length L) (arcV ws L a b) (j0 + 1)
    have hjj : j = j0 := by
      rcases hit with ⟨x1, x2⟩ | ⟨x1, x2⟩
      · rcases hit0 with ⟨z1, z2⟩ | ⟨z1, z2⟩
        · exact hit_one _ x1 x2 z1 z2
        · omega
      · rcases hit0 with ⟨z1, z2⟩ | ⟨z1, z2⟩
        · omega
        · exact hit_one (T := textsM ws.length L) (resV ws L a b) (i := j) (j := j0) (x := i - ((textsM ws.length L).map (arcV ws L a b)).sum) (by omega) (by omega) (by omega) (by omega)
    rw [hjj, e0] at hl
    exact (Option.some.inj hl).symm
  refine ⟨?_, ?_, ?_, okw, ?_, ?_, ?_, ?_, ?_, ?_⟩
  · rw [ringG_eq ok hb sl]
    exact hi
  · omega
  · rw [ringK_eq ok hb s h e]
    exact hi
  · unfold hitP
    rw [layA_at ok e0, layR_at ok e0, show (planM ws L (a, b)).f (endM [0, 0, 0] (writeG ((ws, L), low a b) i)) = _ from pA_txt ok okw, show (planM ws L (a, b)).g (endM [0, 0, 0] (writeG ((ws, L), low a b) i)) = _ from pR_txt ok okw]
    rw [take_sum _ e0, take_sum _ e0, ← Nat.add_assoc] at hit0
    exact hit0
  · refine ⟨j0, by rw [hT]; exact hj0, ?_⟩
    unfold hitA hitR
    rw [hLA, hLA, hLR, hLR]
    exact hit0
  · intro l j hl hit
    rw [hT] at hl
    unfold hitA hitR at hit
    rw [hLA, hLA, hLR, hLR] at hit
    exact one j l hl hit
  · intro l hl
    obtain ⟨j, hj, ej⟩ := idx_of (show okT ws.length L l from hl)
    rw [hitL_at ok ej, placeG_at ok hb sl ej, endG_at ok hb sl ej]
    exact ⟨fun z => z.2, fun z => ⟨hl, z⟩⟩
  · intro l j hl
    rw [hT] at hl
    unfold hitA
    rw [hLA, hLA, hitL_at ok hl]
  · intro l hl hne hit
    obtain ⟨j, hj, ej⟩ := idx_of (show okT ws.length L l from hl)
    rw [hitL_at ok ej] at hit
    exact hne (one j l ej (.inl hit))
end
end K43
-- part M13
/-! M13: plain laws: the sources. -/
namespace K43
open PySem PySem.Spec PyProof.Rows L2
theorem nS_of {f : List Nat → Nat} {l : List Nat} : ∀ {ps : List (List Nat × Nat)}, (∀ x ∈ ps, x.2 = f x.1) → l ∈ ps.map (·.1) → nS ps l = f l
  | x :: r, h, hl => by
    unfold nS
    rw [List.find?_cons]
    by_cases e : x.1 = l
    · rw [decide_eq_true e]
      show x.2 = f l
      rw [h x List.mem_cons_self, e]
    · rw [decide_eq_false e]
      have hl : l ∈ r.map (·.1) := by
        rw [List.map_cons] at hl
        rcases List.mem_cons.mp hl with z | z
        · exact absurd z.symm e
        · exact z
      exact nS_of (ps := r) (fun y hy => h y (List.mem_cons_of_mem _ hy)) hl
theorem nS_out {l : List Nat} : ∀ {ps : List (List Nat × Nat)}, l ∉ ps.map (·.1) → nS ps l = 0
  | [], _ => rfl
  | x :: r, hl => by
    rw [List.map_cons] at hl
    have e : ¬ x.1 = l := fun z => hl (by rw [z]; exact List.mem_cons_self)
    unfold nS
    rw [List.find?_cons, decide_eq_false e]
    exact nS_out (ps := r) fun z => hl (List.mem_cons_of_mem _ z)
theorem nS_le (l : List Nat) : ∀ ps : List (List Nat × Nat), nS ps l ≤ totS ps
  | [] => Nat.le_refl 0
  | x :: r => by
    have ih := nS_le l r
    unfold totS at ih ⊢
    rw [List.map_cons, List.sum_cons]
    unfold nS
    rw [List.find?_cons]
    by_cases e : x.1 = l
    · rw [decide_eq_true e]
      show x.2 ≤ _
      omega
    · rw [decide_eq_false e]
      have ih : ((r.find? fun x => decide (x.1 = l)).map (·.2)).getD 0 ≤ _ := ih
      show ((r.find? fun x => decide (x.1 = l)).map (·.2)).getD 0 ≤ _
      omega
theorem perm_sum {l m : List Nat} (h : l.Perm m) : l.sum = m.sum := by
  induction h with
  | nil => rfl
  | cons x _ ih => rw [List.sum_cons, List.sum_cons, ih]
  | swap x y l => rw [List.sum_cons, List.sum_cons, List.sum_cons, List.sum_cons]; omega
  | trans _ _ h1 h2 => rw [h1, h2]
theorem mach_wt {ws : List Nat} : ∀ {L : Nat}, ∀ x ∈ machS ws L, x.2 = wtL ws x.1
  | 0, x, h => by
    rw [List.mem_singleton.mp h]
    rfl
  | L + 1, x, h => by
    obtain ⟨y, hy, hx⟩ := List.mem_flatMap.mp h
    obtain ⟨c, hc, rfl⟩ := List.mem_map.mp hx
    show y.2 * ws.getD c 0 = wtL ws (y.1 ++ [c])
    rw [mach_wt y hy, wtL_app, wtL_cons, wtL_nil, Nat.mul_one]
def prsM (ws : List Nat) (L : Nat) : List (List Nat × Nat) := (textsM ws.length L).map fun l => (l, wtL ws l)
section
variable {ws : List Nat} {L : Nat} {ps : List (List Nat × Nat)} (ok : okF ws L) (hp : ps.Perm (prsM ws L))
include hp
theorem ps_wt : ∀ x ∈ ps, x.2 = wtL ws x.1 := fun x hx => by
  obtain ⟨l, _, rfl⟩ := List.mem_map.mp (hp.mem_iff.mp hx)
  rfl
theorem ps_keys : (ps.map (·.1)).Perm (textsM ws.length L) := by
  have h := hp.map (·.1)
  unfold prsM at h
  rw [List.map_map] at h
  have e : (textsM ws.length L).map ((fun x : List Nat × Nat => x.1) ∘ fun l => (l, wtL ws l)) = textsM ws.length L := by
    rw [show ((fun x : List Nat × Nat => x.1) ∘ fun l => (l, wtL ws l)) = id from rfl, List.map_id]
  rw [e] at h
  exact h
theorem ps_tot : totS ps = ws.sum ^ L := by
  have h := perm_sum (hp.map (·.2))
  unfold prsM at h
  rw [List.map_map] at h
  unfold totS
  rw [h, ← sum_wtL]
  rfl
theorem ps_key {l : List Nat} : l ∈ ps.map (·.1) ↔ okT ws.length L l := by
  rw [(ps_keys hp).mem_iff, mem_texts]
theorem ps_len : ps.length = (textsM ws.length L).length := by
  rw [hp.length_eq]
  unfold prsM
  rw [List.length_map]
include ok
theorem ps_nd : (ps.map (·.1)).Nodup := (ps_keys hp).nodup_iff.mpr (T_nd ok)
theorem ps_full : full ps ws.length L := ⟨ok.S, ps_keys hp⟩
theorem ps_pos : ∀ x ∈ ps, 0 < x.2 := fun x hx => by
  rw [ps_wt hp x hx]
  have h : x.1 ∈ ps.map (·.1) := List.mem_map.mpr ⟨x, hx, rfl⟩
  exact wtL_pos ok.2.2.2.2.1 ((ps_key hp).mp h).2
theorem ps_small : ps.length ≤ 16 := by
  rw [ps_len hp]
  exact texts_le _ ok.k4 _ ok.l5 ok.l3
theorem sh_ok : ShOk ws L ps := by
  have hm : ∀ l, l ∈ (machS ws L).map (·.1) ↔ okT ws.length L l := fun l => by rw [mach_keys, mem_texts]
  refine ⟨ps_tot hp, fun l hl => ⟨?_, nS_of (ps_wt hp) ((ps_key hp).mpr hl), nS_of mach_wt ((hm l).mpr hl)⟩, fun l hl => ⟨nS_out fun z => hl ((ps_key hp).mp z), nS_out fun z => hl ((hm l).mp z)⟩⟩
  unfold shareM
  rw [if_pos hl, cnt_end _ ok.k4 ok.1 _ ok.l5 ok.l3 l (mem_texts.mpr hl), wt_txt hl.2]
theorem srcs_ok (q : Nat × Nat) : Srcs ws L ((ps, ws.length, L), q) := ⟨rfl, rfl, ps_tot hp, fun l hl => nS_of (ps_wt hp) ((ps_key hp).mpr hl)⟩
theorem ok_K {a b : Nat} (ha : 0 < a) (ha2 : a ≤ 10001) (hb : 0 < b) (hb2 : b ≤ 10000) : okK ((ps, ws.length, L), low a b) := by
  have h1 := low_le1 (a := a) (b := b)
  have h2 := low_le2 (a := a) (b := b)
  have h3 := D_pos ok
  have h4 := whole_le ok
  have h5 := low_cross (a := a) (b := b)
  have h6 := low_pos (a := a) hb
  refine ⟨ps_full ok hp, ⟨?_, h6, ?_⟩, low_is hb, ?_, ?_, ?_, fun l => nS_le l ps, ?_⟩
  · show (low a b).1 < _
    omega
  · show (low a b).2 < _
    omega
  · show (low a b).2 < _
    omega
  · show 0 < totS ps
    rw [ps_tot hp]
    exact h3
  · show totS ps < _
    rw [ps_tot hp]
    omega
  · show 0 < (low a b).1
    rcases Nat.eq_zero_or_pos (low a b).1 with e | e
    · rw [e, Nat.zero_mul] at h5
      have := Nat.mul_pos ha h6
      omega
    · exact e
end
theorem lv_small {a b : Nat} (ha2 : a ≤ 10001) (hb : 0 < b) (hb2 : b ≤ 10000) : shSmall (low a b) := low_small (by omega) hb (by omega)
theorem ringL_lt {ws : List Nat} {L a b : Nat} (ok : okF ws L) (hb : 0 < b) (hb2 : b ≤ 10000) : ringL ws L (a, b) < 2 ^ 60 := by
  have h1 := ringL_le (ws := ws) (L := L) (a := a) hb
  have h2 : (ws.sum / gL ws) ^ L ≤ ws.sum ^ L := Nat.pow_le_pow_left (Nat.div_le_self _ _) _
  have h3 := whole_le ok
  have h4 : (ws.sum / gL ws) ^ L * b ≤ 1049760000 * 10000 := Nat.mul_le_mul (Nat.le_trans h2 h3) hb2
  omega
end K43
-- part M14
/-! M14: plain laws: bounds of the sums. -/
namespace K43
open PySem PySem.Spec PyProof.Rows L2
theorem mach_tot (ws : List Nat) (L : Nat) : totS (machS ws L) = ws.sum ^ L := by
  rw [← sum_wtL, ← mach_keys]
  unfold totS
  rw [List.map_map]
  congr 1
  exact List.map_congr_left fun x hx => mach_wt x hx
theorem mach_leD (ws : List Nat) (L : Nat) (l : List Nat) : nS (machS ws L) l ≤ ws.sum ^ L := by
  rw [← mach_tot]
  exact nS_le l _
theorem mach_in {ws : List Nat} {L : Nat} {l : List Nat} (h : okT ws.length L l) : nS (machS ws L) l = wtL ws l :=
  nS_of mach_wt (by rw [mach_keys]; exact mem_texts.mpr h)
theorem pw_lt {ws : List Nat} {L : Nat} {f : List Nat → Nat} {q : Nat × Nat} (ok : okF ws L) (hf : ∀ l, f l ≤ ws.sum ^ L) (hq : q.2 ≤ 10000) : pwN f (ws.sum ^ L) ws.length L q < 2 ^ 60 := by
  have h1 := sum_leN (f := minN f (ws.sum ^ L) q) (B := ws.sum ^ L * q.2) (L := textsM ws.length L) fun l _ => Nat.le_trans (Nat.min_le_left _ _) (Nat.mul_le_mul_right _ (hf l))
  have h2 := texts_le _ ok.k4 _ ok.l5 ok.l3
  have h3 : ws.sum ^ L * q.2 ≤ 1049760000 * 10000 := Nat.mul_le_mul (whole_le ok) hq
  have h4 : (textsM ws.length L).length * (ws.sum ^ L * q.2) ≤ 16 * (1049760000 * 10000) := Nat.mul_le_mul h2 h3
  unfold pwN
  omega
theorem low2_le {a b : Nat} (hb : b ≤ 10000) : (low a b).2 ≤ 10000 := Nat.le_trans low_le2 hb
end K43
-- part W40
set_option maxHeartbeats 8000000
/-! W40: the law's whole walk. -/
namespace K43
open PySem PySem.Spec PyProof.Rows L2
section
variable {P : Program} {w : World} {K : PySem.W.Frag} {mg : Str → Option Value} {base : Heap} {cS cF cG cT cM cK : Addr} {PT cc : Addr}
theorem Ext.transA {G H G1 H1 G2 H2 : Hp} {p : Addr} (x : Ext PT nM G H G1 H1) (hp : H p = none) (y : Ext PT (aM p) G1 H1 G2 H2) : Ext PT nM G H G2 H2 :=
  ⟨x.g.trans y.g, y.c, fun b o hb hm h => y.h b o hb (fun z => by
    have e : b = p := z
    rw [e, hp] at h
    cases h) (x.h b o hb hm h), fun b h => y.d b (x.d b h), fun b hb hg => x.f b hb (y.f b (x.d b hb) hg)⟩
/-- what stands through the walk: the clean heap grows from G0, the stream at p stands -/
structure Here (PT : Addr) (G H G0 : Hp) (p : Addr) (o : HO) (G' H' : Hp) : Prop where
  f : Ext PT nM G H G' H'
  s : Same G0 G'
  t : H' p = some o
  g : G' p = none
  n : p ≠ PT
section
variable {G H G0 G1 H1 G2 H2 : Hp} {p b : Addr} {o u : HO}
theorem Here.step (h : Here PT G H G0 p o G1 H1) (e : Ext PT nM G1 H1 G2 H2) : Here PT G H G0 p o G2 H2 :=
  ⟨h.f.trans e, h.s.trans e.g, e.stay0 h.t h.n, e.none_g (by rw [h.t]; simp) h.g, h.n⟩
theorem Here.new (h : Here PT G H G0 p o G1 H1) (hb : H1 b = none) : Here PT G H G0 p o (upd G1 b u) (upd H1 b u) := h.step (Ext.new h.f.c hb)
theorem Here.nn (h : Here PT G H G0 p o G1 H1) (hb : H1 b = none) : H b = none := h.f.nn hb
theorem Here.ne (h : Here PT G H G0 p o G1 H1) (hb : H1 b = none) : p ≠ b := ne_of_none h.t hb
theorem Here.neP (h : Here PT G H G0 p o G1 H1) (hb : H1 b = none) : b ≠ PT := h.f.c.ne hb
theorem Here.free (h : Here PT G H G0 p o G1 H1) (hb : H1 b = none) : G1 b = none := h.f.c.free hb
theorem Here.mut (h : Here PT G H G0 p o G1 H1) (h0 : H b = none) (hg : G1 b = none) (nb : b ≠ PT) (np : p ≠ b) : Here PT G H G0 p o G1 (upd H1 b u) :=
  ⟨h.f.mut (.inl h0) hg nb, h.s, by rw [upd_ne np]; exact h.t, h.g, h.n⟩
theorem Here.frz (h : Here PT G H G0 p o G1 H1) (h0 : H b = none) (h1 : H1 b = some u) (hg : G1 b = none) (nb : b ≠ PT) (np : p ≠ b) : Here PT G H G0 p o (upd G1 b u) H1 :=
  ⟨h.f.frz h0 h1 nb, h.s.trans (same_upd hg), h.t, by rw [upd_ne np]; exact h.g, h.n⟩
theorem Here.loc (h : Here PT G H G0 p o G1 H1) (hb : H1 b = none) : Here PT G H G0 p o G1 (upd H1 b u) := h.step (Ext.loc h.f.c hb)
end
/-- Makers.arcs, told in the clean heap -/
def spArcsG (PT cT cK cS : Addr) : Sp := fun vs H Q _ => ∃ (G : Hp) (v : V) (y : Src), vs = [v] ∧ Cl PT G H ∧ MrAt cT cK cS G v y ∧ ∀ r, ShAt cS G r (low (sumK y) (dvK y)) → Q r H
theorem ok_arcsG (T : Txt K mg cS cF cG cT cM cK) {f : Addr} {fd : FuncData} (F : Fun K "arcs" "Makers.arcs" (inC 36 1) f fd) : FnOk P w K mg base CX0 1 f fd ["self"] (spArcsG PT cT cK cS) := by
  refine F.ok sc_arcs (fun vs H Q E h => ?_) (fun cdv A outer s H vs Q E hr h => ?_)
  · obtain ⟨G, v, y, rfl, _⟩ := h
    rfl
  · obtain ⟨G, v, y, rfl, c, ⟨p, dx, ps, pS, dA, dR, kvA, kvR, rfl, hp, _, hS, _⟩, q⟩ := h
    exact ⟨_, pss_one (ps_ret (pe_fldK (K := K) (pv 0))), _, rfl, p, cK, dx, _, _, rfl, c.s _ _ hp, T.l_cK, T.n_cK_sum, rfl, q _ hS⟩
theorem pe_propG {X : Cx} {k : Nat} {e : Expr} {ta : TE} {pos : Pos} (T : Txt X.K X.mg cS cF cG cT cM cK) (hr : Room k X.A) (he : PE X e ta) (hk : 2 ≤ k := by decide) (hab : attributeBase e "arcs" X.env (eval e X.env) = eval e X.env := by rfl) : PE X (.Attribute e "arcs" pos) (tProp cK (spArcsG PT cT cK cS) [] E0 ta) := by
  obtain ⟨p, g, fd, hp, F, b⟩ := T.p_cK
  exact pe_prop he T.l_cK hp (ok_arcsG T F) (hr.mono hk) b .nil pass0 hab
theorem sc_lwhole : FnScope ["_law_script", "_law_stream_here", "_law_weights", "_law_length", "_law_low", "_law_level_here", "_law_texts_here", "_law_text", "_law_pairs", "_law_turn", "_law_table", "_law_far", "_law_weight_here", "_law_machine", "_law_plan_here", "_law_marking", "_law_makers", "_law_told", "_law_asked", "_law_key"] ["_law_script"] (defScope (topS 59)) := ⟨rfl, rfl, rfl, by decide +kernel, rfl, by decide +kernel, by decide +kernel⟩
theorem st_lwhole (a : Addr) : L2.start ["_law_script", "_law_stream_here", "_law_weights", "_law_length", "_law_low", "_law_level_here", "_law_texts_here", "_law_text", "_law_pairs", "_law_turn", "_law_table", "_law_far", "_law_weight_here", "_law_machine", "_law_plan_here", "_law_marking", "_law_makers", "_law_told", "_law_asked", "_law_key"] [V.ref a] = [some (V.ref a), none, none, none, none, none, none, none, none, none, none, none, none, none, none, none, none, none, none, none] := rfl
def spLwhole (PT : Addr) (K : PySem.W.Frag) : Sp := fun vs H Q _ => ∃ (G : Hp) (a : Addr) (ns : List Int), vs = [.ref a] ∧ Cl PT G H ∧ SqL K G a (ns.map V.int) ∧ ns.length < 2 ^ 40 ∧ ∀ H', Q (.bl true) H'
theorem ok_lwhole (T : Txt K mg cS cF cG cT cM cK) (D : DmC K cF "counts_of" "Far.counts_of" (inC 23 2) ["self", "text"] cc) (TB : GxR.TabB base mg cc PT) : Cal P w K mg base "_law_whole" 8 ["_law_script"] (spLwhole PT K) := by
  refine T.d_law_whole.ok sc_lwhole (fun vs H Q E h => ?_) (fun f cdv A outer s H vs Q E hr h => ?_)
  · obtain ⟨G, a, ns, rfl, _⟩ := h
    rfl
  · obtain ⟨G, a, ns, rfl, c, ha, hns, q⟩ := h
    refine ⟨_, (pss_cons (ps_s 1 sc_lwhole.nd (pe_c (ok_lst T) (hr.mono (by first | decide | omega)) (pa_cons (pv 0) (pa_cons pe_int pa_nil))))
  (pss_cons (ps_asg (pe_c (ok_lcase (PT := PT) T) (hr.mono (by first | decide | omega)) (pa_cons (pv 1) pa_nil)) (pg_tupK (K := K) (n := 3) (pgs_cons (pg_n 2 sc_lwhole.nd) (pgs_cons (pg_n 3 sc_lwhole.nd) (pgs_cons (pg_n 4 sc_lwhole.nd) pgs_nil)))))
  (pss_cons (ps_s 5 sc_lwhole.nd (pe_c (ok_llev (PT := PT) T) (hr.mono (by first | decide | omega)) (pa_cons (pe_c (ok_lst T) (hr.mono (by first | decide | omega)) (pa_cons (pv 0) (pa_cons pe_int pa_nil))) (pa_cons (pv 2) (pa_cons (pv 3) (pa_cons (pv 4) pa_nil))))))
  (pss_cons (ps_s 6 sc_lwhole.nd (pe_c (ok_ltx (PT := PT) T) (hr.mono (by first | decide | omega)) (pa_cons (pe_callB (call_len_seqK (K := K)) (by rfl) T.z_len (by decide +kernel) (pa_cons (pv 2) pa_nil)) (pa_cons (pv 3) pa_nil))))
  (pss_cons (ps_s 1 sc_lwhole.nd (pe_c (ok_lst T) (hr.mono (by first | decide | omega)) (pa_cons (pv 0) (pa_cons pe_int pa_nil))))
  (pss_cons (ps_setLc (i := 8) (own := [("_law_text", 7)]) rfl sc_lwhole.nd rfl rfl (sw_true rfl rfl rfl (by decide +kernel)) (pi_listK (K := K) (pv 6)) (blkOk_by (own := [("_law_text", 7)]) (N := ["_law_script", "_law_stream_here", "_law_weights", "_law_length", "_law_low", "_law_level_here", "_law_texts_here", "_law_text", "_law_pairs", "_law_turn", "_law_table", "_law_far", "_law_weight_here", "_law_machine", "_law_plan_here", "_law_marking", "_law_makers", "_law_told", "_law_asked", "_law_key"]) (sc := defScope (topS 59)) (by decide +kernel)) (fun _ _ _ _ _ => (pg_n 7 sc_lwhole.nd)) (fun _ _ _ _ _ => pts_nil) (fun _ _ _ _ _ => (pe_tup (pa_cons (pv 7) (pa_cons (pe_c (ok_lwt T) (hr.mono (by first | decide | omega)) (pa_cons (pv 2) (pa_cons (pv 7) pa_nil))) pa_nil)))))
  (pss_cons (ps_if (pt_cmpR op_eq (pe_c (ok_draw T) (hr.mono (by first | decide | omega)) (pa_cons (pv 1) (pa_cons pe_int pa_nil))) pe_int (nomark _)) (pss_cons (ps_s 9 sc_lwhole.nd (pe_c (ok_draw T) (hr.mono (by first | decide | omega)) (pa_cons (pv 1) (pa_cons (pe_callB (call_len_seqK (K := K)) (by rfl) T.z_len (by decide +kernel) (pa_cons (pv 8) pa_nil)) pa_nil))))
  (pss_one (ps_s 8 sc_lwhole.nd (pe_listRev rfl rfl T.z_list rfl T.z_reversed (pe_op op_cat (pe_slice (sl_listK (K := K)) (pv 8) (po_some (pv 9)) po_none) (pe_slice (sl_listK (K := K)) (pv 8) po_none (po_some (pv 9)))))))) pss_nil)
  (pss_cons (ps_s 10 sc_lwhole.nd (pe_n (n_ta (PT := PT) T) (hr.mono (by first | decide | omega)) (pa_cons (pv 8) pa_nil)))
  (pss_cons (ps_s 11 sc_lwhole.nd (pe_n (n_far (PT := PT) T) (hr.mono (by first | decide | omega)) (pa_cons (pe_callTy (call_list_ofK (K := K)) (by rfl) T.z_list (by decide +kernel) (pa_cons (pv 2) pa_nil)) (pa_cons (pv 3) pa_nil))))
  (pss_cons (ps_s 13 sc_lwhole.nd (pe_n (n_ma (PT := PT) T) (hr.mono (by first | decide | omega)) (pa_cons (pe_slice sl_str pe_str po_none (po_some (pe_callB (call_len_seqK (K := K)) (by rfl) T.z_len (by decide +kernel) (pa_cons (pv 2) pa_nil)))) (pa_cons pe_int (pa_cons (pe_lst (pa_cons (pe_lc (own := [("_law_weight_here", 12)]) rfl sc_lwhole.nd (pi_listK (K := K) (pv 2)) (blkOk_by (own := [("_law_weight_here", 12)]) (N := ["_law_script", "_law_stream_here", "_law_weights", "_law_length", "_law_low", "_law_level_here", "_law_texts_here", "_law_text", "_law_pairs", "_law_turn", "_law_table", "_law_far", "_law_weight_here", "_law_machine", "_law_plan_here", "_law_marking", "_law_makers", "_law_told", "_law_asked", "_law_key"]) (sc := defScope (topS 59)) (by decide +kernel)) (fun _ _ _ _ _ => (pg_n 12 sc_lwhole.nd)) (fun _ _ _ _ _ => pts_nil) (fun _ _ _ _ _ => (pe_tup (pa_cons (pv 12) (pa_cons pe_int pa_nil))))) pa_nil)) (pa_cons (pv 3) pa_nil))))))
  (pss_cons (ps_s 14 sc_lwhole.nd (pe_c (ok_lplan (PT := PT) T) (hr.mono (by first | decide | omega)) (pa_cons (pv 2) (pa_cons (pv 3) (pa_cons (pv 5) pa_nil)))))
  (pss_cons (ps_s 15 sc_lwhole.nd (pe_n (n_mk (PT := PT) T) (hr.mono (by first | decide | omega)) (pa_cons (pv 11) (pa_cons (pe_n (n_sh (PT := PT) T) (hr.mono (by first | decide | omega)) (pa_cons (pe_ix (ix_tupK (K := K)) (pv 5) pe_int (fun _ _ => rfl)) (pa_cons (pe_ix (ix_tupK (K := K)) (pv 5) pe_int (fun _ _ => rfl)) pa_nil))) pa_nil))))
  (pss_cons (ps_s 16 sc_lwhole.nd (pe_n (n_kk (PT := PT) T) (hr.mono (by first | decide | omega)) (pa_cons (pv 10) (pa_cons pe_int (pa_cons (pe_n (n_sh (PT := PT) T) (hr.mono (by first | decide | omega)) (pa_cons (pe_ix (ix_tupK (K := K)) (pv 5) pe_int (fun _ _ => rfl)) (pa_cons (pe_ix (ix_tupK (K := K)) (pv 5) pe_int (fun _ _ => rfl)) pa_nil))) pa_nil)))))
  (pss_cons (ps_if (pt_not (pt_val (pe_c (ok_lsf (PT := PT) T D TB) (hr.mono (by first | decide | omega)) (pa_cons (pv 11) (pa_cons (pv 10) (pa_cons (pv 13) (pa_cons (pv 2) (pa_cons (pv 3) (pa_cons (pv 6) pa_nil))))))))) (pss_one (ps_ret pe_bl)) pss_nil)
  (pss_cons (ps_for PassesOwn.never rfl (pi_listK (K := K) (pe_lst (pa_cons (pe_fldK (K := K) (pv 15)) (pa_cons (pe_fldK (K := K) (pv 16)) pa_nil)))) (pg_n 17 sc_lwhole.nd)
  (pss_one (ps_if (PW.pt (pw_or (pt_not (pt_val (pe_c (ok_lisint T) (hr.mono (by first | decide | omega)) (pa_cons (pv 17) pa_nil)))) (pw_or1 (pt_cmpR op_ne (pv 17) (pe_dget (hu_of hr) (pv 14) pe_str (fun _ _ => rfl)) (nomark _))))) (pss_one (ps_ret pe_bl)) pss_nil)))
  (pss_cons (ps_s 18 sc_lwhole.nd (pe_n (n_sh (PT := PT) T) (hr.mono (by first | decide | omega)) (pa_cons (pe_ix (ix_tupK (K := K)) (pv 5) pe_int (fun _ _ => rfl)) (pa_cons (pe_ix (ix_tupK (K := K)) (pv 5) pe_int (fun _ _ => rfl)) pa_nil))))
  (pss_cons (ps_for PassesOwn.never rfl (pi_listK (K := K) (pe_lst (pa_cons (pe_m (ok_worth (PT := PT) T) (hr.mono (by first | decide | omega)) (pv 11) (pa_cons (pv 18) pa_nil)) (pa_cons (pe_c (ok_pw (PT := PT) T) (hr.mono (by first | decide | omega)) (pa_cons (pv 10) (pa_cons (pv 18) pa_nil))) (pa_cons (pe_c (ok_pw (PT := PT) T) (hr.mono (by first | decide | omega)) (pa_cons (pv 13) (pa_cons (pv 18) pa_nil))) (pa_cons (pe_propG (PT := PT) T hr (pv 16)) pa_nil)))))) (pg_n 17 sc_lwhole.nd)
  (pss_one (ps_if (pt_not (pt_val (pe_c (ok_lish (PT := PT) T) (hr.mono (by first | decide | omega)) (pa_cons (pv 17) (pa_cons (pe_dget (hu_of hr) (pv 14) pe_str (fun _ _ => rfl)) (pa_cons (pe_dget (hu_of hr) (pv 14) pe_str (fun _ _ => rfl)) pa_nil)))))) (pss_one (ps_ret pe_bl)) pss_nil)))
  (pss_cons (ps_for PassesOwn.never rfl (pi_listK (K := K) (pe_c (ok_lkeys (PT := PT) T) (hr.mono (by first | decide | omega)) (pa_cons (pv 1) (pa_cons (pv 14) (pa_cons (pv 6) pa_nil))))) (pg_n 19 sc_lwhole.nd)
  (pss_one (ps_if (pt_not (pt_val (pe_c (ok_lkf (PT := PT) T D TB) (hr.mono (by first | decide | omega)) (pa_cons (pv 14) (pa_cons (pv 15) (pa_cons (pv 16) (pa_cons (pv 6) (pa_cons (pv 19) pa_nil)))))))) (pss_one (ps_ret pe_bl)) pss_nil)))
  (pss_one (ps_ret pe_bl)))))))))))))))))))), ?_⟩
    have a0 := seqL c.s ha
    rw [st_lwhole]
    refine ⟨_, rfl, a, ns, 0, rfl, a0, hns, by decide, fun x y z p1 hp1 => ?_⟩
    have n1 : p1 ≠ PT := c.ne hp1
    have e1 := Ext.loc (M := nM) (o := StL x y z) c hp1
    refine ⟨_, rfl, G, p1, x, y, z, rfl, e1.c, upd_same, c.free hp1, n1, fun v2 G2 H2 x y z e2 g2 a2 r2 => ?_⟩
    obtain ⟨ws, L, ⟨pc, pw, rfl, hpc, hpw⟩, ok, hlow⟩ := r2
    have e12 := e1.transA hp1 e2
    refine ⟨pc, [_, _, _], rfl, sq_ofT (e12.c.s _ _ hpc), rfl, _, _, rfl, _, _, rfl, _, _, rfl, rfl, ?_⟩
    refine ⟨_, rfl, a, ns, 1, rfl, seqL e12.c.s (seqL e12.g ha), hns, by decide, fun x y z p2 hp2 => ?_⟩
    have n2 : p2 ≠ PT := e12.c.ne hp2
    have hp2H := e12.nn hp2
    have e3 := e12.trans (Ext.loc (M := nM) (o := StL x y z) e12.c hp2)
    have hlw : 0 < ringL ws L (1, 1) := ring_pos ok.sum_pos (by decide)
    refine ⟨_, rfl, _, rfl, _, rfl, G2, p2, .ref pw, ws, L, ringL ws L (1, 1), x, y, z, rfl, e3.c, ⟨pw, rfl, hpw⟩, ok, hlw, hlow, upd_same, e12.c.free hp2, n2, fun v4 G4 H4 x y z e4 g4 a4 r4 => ?_⟩
    obtain ⟨lv, hlv, lv1, lv2, lv3, lv4⟩ := r4
    have e34 := e3.transA hp2H e4
    have s24 : Same G2 G4 := e4.g
    have hk1 := ok.1
    have hk2 := ok.2.1
    have hL := ok.2.2.1
    have okS : okS ws.length L := ⟨hk1, hk2, hL, fun e => ok.2.2.2.2.2 e⟩
    have hpos := texts_pos ws.length (by omega) hk1 L (by omega) (fun e => by have := ok.2.2.2.2.2 e; omega)
    have hle := texts_le ws.length (by omega) L (by omega) (fun e => by have := ok.2.2.2.2.2 e; omega)
    refine ⟨_, rfl, pw, _, rfl, .inl (seqL e34.c.s (seqL s24 hpw)), ?_⟩
    rw [List.length_map]
    refine ⟨_, rfl, G4, ws.length, L, rfl, e34.c, okS, fun v5 G5 H5 e5 r5 => ?_⟩
    obtain ⟨px, rfl, hx⟩ := r5
    have e45 := e34.trans e5
    refine ⟨_, rfl, a, ns, 2, rfl, seqL e45.c.s (seqL e45.g ha), hns, by decide, fun x y z p3 hp3 => ?_⟩
    have n3 : p3 ≠ PT := e45.c.ne hp3
    have hp3H := e45.nn hp3
    have e6 := e45.trans (Ext.loc (M := nM) (o := StL x y z) e45.c hp3)
    have g3 := e45.c.free hp3
    refine ⟨_, rfl, px, rfl, ⟨_, seqL e6.c.s hx⟩, fun D0 hD0 => ?_⟩
    have nD : D0 ≠ PT := e6.c.ne hD0
    have n3D : p3 ≠ D0 := ne_of_none upd_same hD0
    have hD0H := e6.nn hD0
    have e7 := e6.trans (Ext.loc (M := nM) (o := .lst []) e6.c hD0)
    refine wk_list.comp (fun i H' => ∃ us G', Ext PT nM G H G' H' ∧ Same G5 G' ∧ G' D0 = none ∧ G' p3 = none ∧ H' p3 = some (StL x y z) ∧ H' D0 = some (.lst us) ∧ Paired (PrAt K G') us (((textsM ws.length L).take i).map fun l => (l, wtL ws l)))
      ⟨[], G5, e7, Same.refl _, e6.c.free hD0, g3, by rw [upd_ne n3D]; exact upd_same, upd_same, .nil⟩ (fun i H' _ ⟨_, G', e, s, _⟩ => seqL e.c.s (seqL s hx)) ?_ ?_
    · rintro i v H8 H8' hi ⟨us, G8, e8, s8, gD8, gp8, ap8, d8, pr8⟩ ⟨rfl, hv⟩
      obtain ⟨l, hl, rfl⟩ : ∃ l, (textsM ws.length L)[i]? = some l ∧ v = V.str (tx l) := by
        rw [List.getElem?_map] at hv
        cases e : (textsM ws.length L)[i]? with
        | none => rw [e] at hv; cases hv
        | some l => rw [e] at hv; exact ⟨l, rfl, (Option.some.inj hv).symm⟩
      have hlt := mem_texts.mp (List.mem_of_getElem? hl)
      rw [List.length_map] at hi
      have l8 := plen pr8
      rw [List.length_map, List.length_take] at l8
      refine ⟨rfl, _, rfl, _, rfl, _, rfl, _, ws, l, rfl, ⟨pw, rfl, seqL e8.c.s (seqL s8 (seqL e5.g (seqL s24 hpw)))⟩, hk2, hlt.2, fun w hw => by have := ok.le hw; omega, by have := hlt.1; omega, leS (by show 2 ≤ 100000; decide), fun t ht => ?_⟩
      have nt0 : D0 ≠ t := ne_of_none d8 ht
      have nt3 : p3 ≠ t := ne_of_none ap8 ht
      have e9 := e8.trans (Ext.new (M := nM) (o := .tup [.str (tx l), vN (wtL ws l)]) e8.c ht)
      refine ⟨us, by rw [upd_ne nt0]; exact d8, ltS (by omega), us ++ [.ref t], _, e9.mut (.inl hD0H) (by rw [upd_ne nt0]; exact gD8) nD, s8.trans (same_upd (e8.c.free ht)), by rw [upd_ne nt0]; exact gD8, by rw [upd_ne nt3]; exact gp8, by rw [upd_ne n3D, upd_ne nt3]; exact ap8, upd_same, ?_⟩
      rw [take_get hl, List.map_append]
      exact psnoc (pmap pr8 fun a b z => PrAt.to (same_upd (e8.c.free ht)) z) ⟨t, rfl, sq_ofT upd_same⟩
    · rintro H8 ⟨us, G8, e8, s8, gD8, gp8, ap8, d8, pr8⟩
      rw [List.length_map, List.take_length] at pr8
      refine ⟨_, rfl, p3, 2, x, y, z, rfl, ap8, by decide, by decide, fun dz x y z hdz => ?_⟩
      have e9 := e8.mut (o := StL x y z) (.inl hp3H) gp8 n3
      refine ⟨rfl, _, rfl, ite2 (fun h => ?_) (fun h => ?_)⟩
      · have d9 : ∀ o, upd H8 p3 o D0 = some (.lst us) := fun o => by rw [upd_ne (Ne.symm n3D)]; exact d8
        have l8 := plen pr8
        rw [List.length_map] at l8
        refine ⟨_, rfl, _, rfl, D0, _, rfl, .inl (sq_ofL (d9 _)), p3, us.length, x, y, z, rfl, upd_same, by omega, by omega, fun dt x' y' z' hdt => ?_⟩
        rw [upd_upd]
        have e10 := e8.mut (o := StL x' y' z') (.inl hp3H) gp8 n3
        refine ⟨_, rfl, _, rfl, dt, rfl, D0, _, rfl, sq_ofL (d9 _), fun o1 h1 => ?_⟩
        have m1 : D0 ≠ o1 := ne_of_none (d9 _) h1
        have m13 : p3 ≠ o1 := ne_of_none upd_same h1
        have e11 := e10.trans (Ext.loc (M := nM) (o := .lst (cutV us (some (dt : Int)) none)) e10.c h1)
        refine ⟨_, rfl, _, rfl, dt, rfl, D0, _, rfl, sq_ofL (by rw [upd_ne m1]; exact d9 _), fun o2 h2 => ?_⟩
        have m2 : o1 ≠ o2 := ne_of_none upd_same h2
        have m23 : p3 ≠ o2 := ne_of_none (by rw [upd_ne m13]; exact upd_same) h2
        have e12b := e11.trans (Ext.loc (M := nM) (o := .lst (cutV us none (some (dt : Int)))) e11.c h2)
        refine ⟨o1, o2, _, _, rfl, rfl, by rw [upd_ne m2]; exact upd_same, upd_same, ?_, fun o3 h3 => ?_⟩
        · rw [cutTo, cutFrom, List.length_drop, List.length_take]
          exact leS (by omega)
        have m33 : p3 ≠ o3 := ne_of_none (by rw [upd_ne m23, upd_ne m13]; exact upd_same) h3
        have e13 := e12b.trans (Ext.loc (M := nM) (o := .lst (cutV us (some (dt : Int)) none ++ cutV us none (some (dt : Int)))) e12b.c h3)
        refine ⟨o3, _, rfl, sq_ofL upd_same, fun o4 h4 => ?_⟩
        have m43 : p3 ≠ o4 := ne_of_none (by rw [upd_ne m33, upd_ne m23, upd_ne m13]; exact upd_same) h4
        have e14 := e13.trans (Ext.new (M := nM) (o := .lst (cutV us (some (dt : Int)) none ++ cutV us none (some (dt : Int))).reverse) e13.c h4)
        have st14 := show (upd (upd (upd (upd (upd H8 p3 (StL x' y' z')) o1 (.lst (cutV us (some (dt : Int)) none))) o2 (.lst (cutV us none (some (dt : Int))))) o3 (.lst (cutV us (some (dt : Int)) none ++ cutV us none (some (dt : Int))))) o4 (.lst (cutV us (some (dt : Int)) none ++ cutV us none (some (dt : Int))).reverse)) p3 = some (StL x' y' z') by
          rw [upd_ne m43, upd_ne m33, upd_ne m23, upd_ne m13]
          exact upd_same
        have g14 : (upd G8 o4 (.lst (cutV us (some (dt : Int)) none ++ cutV us none (some (dt : Int))).reverse)) p3 = none := by
          rw [upd_ne m43]
          exact gp8
        have s14 : Same G5 (upd G8 o4 (.lst (cutV us (some (dt : Int)) none ++ cutV us none (some (dt : Int))).reverse)) := s8.trans (same_upd (e13.c.free h4))
        obtain ⟨ps, hps0⟩ : ∃ ps, ps = ((((textsM ws.length L).map fun l => (l, wtL ws l)).drop dt) ++ (((textsM ws.length L).map fun l => (l, wtL ws l)).take dt)).reverse := ⟨_, rfl⟩
        have hperm : ps.Perm (prsM ws L) := by rw [hps0]; exact turn_perm _ dt
        have hpD : LR K (PrAt K) (upd G8 o4 (.lst (cutV us (some (dt : Int)) none ++ cutV us none (some (dt : Int))).reverse)) (.ref o4) ps := ⟨o4, _, rfl, sq_ofL upd_same, by
          rw [cutFrom, cutTo, hps0]
          exact pmap (prev (pappL (pdrop dt pr8) (ptake dt pr8))) fun a b z => PrAt.to (same_upd (e13.c.free h4)) z⟩
        obtain ⟨Gp, hGp⟩ : ∃ Gp, Gp = upd G8 o4 (.lst (cutV us (some (dt : Int)) none ++ cutV us none (some (dt : Int))).reverse) := ⟨_, rfl⟩
        rw [← hGp] at hpD g14 s14
        have ep := e14
        rw [← hGp] at ep
        have hh := Here.mk ep s14 st14 g14 n3
        obtain ⟨pu, rfl, hpu⟩ := id hlv
        have hpu0 := sq_ofT (K := K) hpu
        have hx0 : SqL K G5 px ((textsM ws.length L).map fun l => V.str (tx l)) := hx
        have hpw0 : SqL K G2 pw (ws.map vN) := hpw
        have hlv0 : 0 < (low lv.1 lv.2).2 := low_pos lv3
        have sl : shSmall (low lv.1 lv.2) := lv_small lv2 lv3 lv4
        refine ⟨_, rfl, Gp, .ref _, ps, rfl, ep.c, hpD, ps_nd ok hperm, (by have := ps_small ok hperm; omega), ps_pos ok hperm, fun v10 G10 H10 e10 r10 => ?_⟩
        have h10 := hh.step e10
        simp only [List.set_cons_succ, List.set_cons_zero]
        have s25 : Same G2 G5 := s24.trans e5.g
        refine ⟨_, rfl, pw, _, rfl, .inl (seqL h10.f.c.s (seqL (s25.trans h10.s) hpw)), fun o5 h5 => ?_⟩
        have h11 := h10.new (u := .lst (ws.map vN)) h5
        refine ⟨_, rfl, _, .ref o5, ws, L, rfl, h11.f.c, ⟨o5, rfl, sq_ofL upd_same⟩, ok, fun v12 G12 H12 e12 r12 => ?_⟩
        have h12 := h11.step e12
        simp only [List.set_cons_succ, List.set_cons_zero]
        refine ⟨_, rfl, pw, _, rfl, .inl (seqL h12.f.c.s (seqL (s25.trans h12.s) hpw)), _, rfl, _, rfl, by decide, ?_⟩
        refine ⟨_, rfl, pw, rfl, ⟨_, seqL h12.f.c.s (seqL (s25.trans h12.s) hpw)⟩, fun D1 hD1 => ?_⟩
        have h13 := h12.loc (u := .lst []) hD1
        have nD1 := h12.ne hD1
        refine wk_list.comp (fun i H' => ∃ us G', Here PT G H G5 p3 _ G' H' ∧ Same G12 G' ∧ G' D1 = none ∧ H' D1 = some (.lst us) ∧ Paired (PwAt K G') us (ws.take i))
          ⟨[], G12, h13, Same.refl _, h12.free hD1, upd_same, .nil⟩ (fun i H' _ ⟨_, G', e, s, _⟩ => seqL e.f.c.s (seqL (s25.trans e.s) hpw)) ?_ ?_
        · rintro i v H9 H9' hi ⟨us9, G9, h9, s9, gD9, d9, pr9⟩ ⟨rfl, hv⟩
          obtain ⟨w9, hw9, rfl⟩ : ∃ w9, ws[i]? = some w9 ∧ v = vN w9 := by
            rw [List.getElem?_map] at hv
            cases e : ws[i]? with
            | none => rw [e] at hv; cases hv
            | some l => rw [e] at hv; exact ⟨l, rfl, (Option.some.inj hv).symm⟩
          rw [List.length_map] at hi
          have l9 := plen pr9
          rw [List.length_take] at l9
          refine ⟨rfl, _, rfl, leS (by show 2 ≤ 100000; decide), fun t ht => ?_⟩
          have nt0 : D1 ≠ t := ne_of_none d9 ht
          have h9b := h9.new (u := .tup [vN w9, .int 0]) ht
          refine ⟨us9, by rw [upd_ne nt0]; exact d9, ltS (by omega), us9 ++ [.ref t], _, h9b.mut (h12.nn hD1) (by rw [upd_ne nt0]; exact gD9) (h12.neP hD1) nD1, s9.trans (same_upd (h9.free ht)), by rw [upd_ne nt0]; exact gD9, upd_same, ?_⟩
          rw [take_get hw9]
          exact psnoc (pmap pr9 fun a b z => PwAt.to (same_upd (h9.free ht)) z) ⟨t, rfl, sq_ofT upd_same⟩
        · rintro H9 ⟨us9, G9, h9, s9, gD9, d9, pr9⟩
          rw [List.length_map, List.take_length] at pr9
          refine ⟨leS (by show 1 ≤ 100000; decide), fun o6 h6 => ?_⟩
          have h14 := h9.frz (h12.nn hD1) d9 gD9 (h12.neP hD1) nD1
          have m6 : D1 ≠ o6 := ne_of_none d9 h6
          have h15 := h14.new (u := .lst [.ref D1]) h6
          have s12 : Same G12 (upd (upd G9 D1 (.lst us9)) o6 (.lst [.ref D1])) := (s9.trans (same_upd gD9)).trans (same_upd (h14.free h6))
          have hRw : RwAt K (upd (upd G9 D1 (.lst us9)) o6 (.lst [.ref D1])) (.ref o6) ws := ⟨o6, D1, us9, rfl, sq_ofL upd_same, sq_ofL (by rw [upd_ne m6]; exact upd_same), pmap pr9 fun a b z => PwAt.to ((same_upd gD9).trans (same_upd (h14.free h6))) z⟩
          have habc := abc_tx ws.length (by omega)
          unfold abcTo at habc
          refine ⟨_, rfl, _, .ref o6, ws, L, by rw [List.length_map, habc]; rfl, h15.f.c, hRw, ok, fun v13 G13 H13 e13 r13 => ?_⟩
          have h16 := h15.step e13
          simp only [List.set_cons_succ, List.set_cons_zero]
          have sT : Same G12 G13 := s12.trans e13.g
          refine ⟨_, rfl, _, rfl, _, rfl, G13, .ref pw, .ref pu, ws, L, lv.1, lv.2, rfl, h16.f.c, ⟨pw, rfl, seqL (s25.trans h16.s) hpw0⟩, ok, ⟨pu, rfl, (e5.g.trans h16.s) _ _ hpu⟩, by omega, lv3, by omega, fun v14 G14 H14 e14 r14 => ?_⟩
          have h17 := h16.step e14
          simp only [List.set_cons_succ, List.set_cons_zero]
          have hp17 := h17.f.c.s _ _ ((e5.g.trans h17.s) _ _ hpu)
          refine ⟨_, rfl, _, rfl, pu, _, 0, _, rfl, rfl, sq_ofT hp17, atI_nat (j := 0) rfl, _, rfl, pu, _, 1, _, rfl, rfl, sq_ofT hp17, atI_nat (j := 1) rfl, G14, _, _, lv.1, lv.2, rfl, h17.f.c, rfl, rfl, lv3, by omega, fun v15 G15 H15 e15 r15 => ?_⟩
          have h18 := h17.step e15
          refine ⟨G15, v12, v15, (ws, L), low lv.1 lv.2, rfl, h18.f.c, FarAt.to (((sT.trans e14.g).trans e15.g)) r12, ok, r15, sl, by have := low_le2 (a := lv.1) (b := lv.2); omega, fun v16 G16 H16 e16 r16 => ?_⟩
          have h19 := h18.step e16
          simp only [List.set_cons_succ, List.set_cons_zero]
          have hp19 := h19.f.c.s _ _ ((e5.g.trans h19.s) _ _ hpu)
          refine ⟨_, rfl, _, rfl, pu, _, 0, _, rfl, rfl, sq_ofT hp19, atI_nat (j := 0) rfl, _, rfl, pu, _, 1, _, rfl, rfl, sq_ofT hp19, atI_nat (j := 1) rfl, G16, _, _, lv.1, lv.2, rfl, h19.f.c, rfl, rfl, lv3, by omega, fun v17 G17 H17 e17 r17 => ?_⟩
          have h20 := h19.step e17
          have sK : Same G10 G12 := (same_upd (h10.free h5)).trans e12.g
          have sK2 : Same G13 G17 := ((e14.g.trans e15.g).trans e16.g).trans e17.g
          have okk := ok_K ok hperm lv1 lv2 lv3 lv4
          refine ⟨G17, v10, v17, ((ps, ws.length, L), low lv.1 lv.2), rfl, h20.f.c, TaAt.to ((sK.trans sT).trans sK2) r10, r17, okk, fun v18 G18 H18 e18 r18 => ?_⟩
          have h21 := h20.step e18
          simp only [List.set_cons_succ, List.set_cons_zero]
          refine ⟨_, rfl, _, rfl, _, rfl, _, rfl, _, rfl, _, rfl, G18, v12, v10, v13, .ref pw, .ref px, ws, L, ps, rfl, h21.f.c, ok, FarAt.to ((sT.trans sK2).trans e18.g) r12, TaAt.to (((sK.trans sT).trans sK2).trans e18.g) r10, MaAt.to (sK2.trans e18.g) r13, ⟨pw, rfl, seqL (s25.trans h21.s) hpw0⟩, ⟨px, rfl, seqL h21.s hx0⟩, sh_ok ok hperm, fun v19 G19 H19 e19 r19 => ?_⟩
          subst r19
          have h22 := h21.step e19
          refine ⟨_, rfl, iteF ?_⟩
          obtain ⟨pg, dg, _, _, _, rfl, hg1, _⟩ := id r16
          obtain ⟨pk, dk, _, _, _, _, _, _, rfl, hk9, _⟩ := id r18
          obtain ⟨pP, dP, kvP, rfl, hP1, _⟩ := id r14
          have s14a : Same G14 G19 := ((((e15.g.trans e16.g).trans e17.g).trans e18.g).trans e19.g)
          have s16a : Same G16 G19 := ((e17.g.trans e18.g).trans e19.g)
          have s18a : Same G18 G19 := e19.g
          refine ⟨_, rfl, pg, cG, dg, _, _, rfl, h22.f.c.s _ _ (s16a _ _ hg1), T.l_cG, T.n_cG_ring, rfl, ?_⟩
          refine ⟨_, rfl, pk, cK, dk, _, _, rfl, h22.f.c.s _ _ (s18a _ _ hk9), T.l_cK, T.n_cK_ring, rfl, ?_⟩
          refine ⟨leS (by show 2 ≤ 100000; decide), fun o7 h7 => ?_⟩
          have n7 := h22.neP h7
          have h23 := h22.loc (u := .lst [vN (divN ws L (low lv.1 lv.2) / comN ws L (low lv.1 lv.2)), vN (ringK ((ps, ws.length, L), low lv.1 lv.2))]) h7
          obtain ⟨R, hR⟩ : ∃ R, R = ringL ws L (lv.1, lv.2) := ⟨_, rfl⟩
          have hP2 : G14 pP = some (.dK (plKV ws.length L R dP (planM ws L (lv.1, lv.2)).A)) := by rw [hR]; exact hP1
          have srcs := srcs_ok ok hperm (low lv.1 lv.2)
          have hrG : divN ws L (low lv.1 lv.2) / comN ws L (low lv.1 lv.2) = R := by rw [hR]; exact ringG_eq ok lv3 sl
          have hrK : ringK ((ps, ws.length, L), low lv.1 lv.2) = R := by rw [hR]; exact ringK_eq ok lv3 srcs okk rfl
          have hall : ∀ (j : Nat) (v : V), [vN (divN ws L (low lv.1 lv.2) / comN ws L (low lv.1 lv.2)), vN (ringK ((ps, ws.length, L), low lv.1 lv.2))][j]? = some v → v = vN R := fun j v h => by
            rcases j with _ | _ | j
            · rw [← Option.some.inj h, hrG]
            · rw [← Option.some.inj h, hrK]
            · cases h
          refine ⟨_, rfl, ⟨_, sq_ofL upd_same⟩, ?_⟩
          refine wk_list.loop (fun i σ H' => ∃ y7 y8 y9 y12 y17 G', σ = [some (.ref a), some (.ref p3), some (.ref pw), some (.int L), some (vN (ringL ws L (1, 1))), some (.ref pu), some (.ref px), y7, y8, y9, some v10, some v12, y12, some v13, some (.ref pP), some (.ref pg), some (.ref pk), y17, none, none] ∧ Here PT G H G5 p3 _ G' H' ∧ Same G19 G' ∧ H' o7 = some (.lst [vN (divN ws L (low lv.1 lv.2) / comN ws L (low lv.1 lv.2)), vN (ringK ((ps, ws.length, L), low lv.1 lv.2))]))
            ⟨_, _, _, _, _, G19, rfl, h23, Same.refl _, upd_same⟩ (fun i σ H' _ ⟨_, _, _, _, _, _, _, _, _, d⟩ => sq_ofL d) ?_ ?_
          · rintro j v σ H24 H24' hj ⟨y7, y8, y9, y12, y17, G24, rfl, h24, s24', d24⟩ ⟨rfl, hv⟩
            obtain rfl := hall j v hv
            refine ⟨_, rfl, R, rfl, _, rfl, ?_⟩
            refine ⟨_, rfl, _, rfl, pP, _, rfl, dg_ring (h24.f.c.s _ _ ((s14a.trans s24') _ _ hP2)), rfl, _, rfl, ?_⟩
            rw [show (!decide (vN R = vN R)) = false by simp]
            refine iteF ?_
            exact ⟨y7, y8, y9, y12, some (vN R), G24, rfl, h24, s24', d24⟩
          · rintro σ H24 ⟨y7, y8, y9, y12, y17, G24, rfl, h24, s24', d24⟩
            have hp24 := h24.f.c.s _ _ ((e5.g.trans h24.s) _ _ hpu)
            refine ⟨_, rfl, pu, _, 0, _, rfl, rfl, sq_ofT hp24, atI_nat (j := 0) rfl, _, rfl, pu, _, 1, _, rfl, rfl, sq_ofT hp24, atI_nat (j := 1) rfl, G24, _, _, lv.1, lv.2, rfl, h24.f.c, rfl, rfl, lv3, by omega, fun v25 G25 H25 e25 r25 => ?_⟩
            have h25 := h24.step e25
            simp only [List.set_cons_succ, List.set_cons_zero]
            obtain ⟨pF, dF, _, _, rfl, hF1, _, _⟩ := id r12
            have s13a : Same G13 G25 := (((sK2.trans e18.g).trans e19.g).trans s24').trans e25.g
            have sF : Same G12 G25 := sT.trans s13a
            have hq2 := low2_le (a := lv.1) lv4
            have mG : ∀ {G'' : Hp}, Same G25 G'' → ShAt cS G'' v25 (low lv.1 lv.2) := fun s => ShAt.to s r25
            refine ⟨_, rfl, pF, dF, _, rfl, h25.f.c.s _ _ (sF _ _ hF1), rfl, _, rfl, G25, _, v25, (ws, L), low lv.1 lv.2, rfl, h25.f.c, FarAt.to sF r12, ok, r25, sl, fun v26 G26 H26 e26 r26 => ?_⟩
            have h26 := h25.step e26
            refine ⟨_, rfl, _, rfl, .inl ⟨G26, v10, v25, ps, ws.length, L, low lv.1 lv.2, rfl, h26.f.c, TaAt.to ((sK.trans sF).trans e26.g) r10, ps_full ok hperm, mG e26.g, sl, low_is lv3, by omega, okk.t, okk.u, okk.e, by rw [ps_tot hperm]; exact pw_lt ok (fun l => by rw [← ps_tot hperm]; exact nS_le l ps) hq2, fun v27 G27 H27 e27 r27 => ?_⟩⟩
            have h27 := h26.step e27
            refine ⟨_, rfl, _, rfl, .inr ⟨G27, v13, v25, (ws, L), low lv.1 lv.2, rfl, h27.f.c, MaAt.to ((s13a.trans e26.g).trans e27.g) r13, ok, mG (e26.g.trans e27.g), sl, low_is lv3, by omega, mach_leD ws L, pw_lt ok (mach_leD ws L) hq2, fun v28 G28 H28 e28 r28 => ?_⟩⟩
            have h28 := h27.step e28
            have sW : Same G19 G28 := (((s24'.trans e25.g).trans e26.g).trans e27.g).trans e28.g
            refine ⟨_, rfl, pk, dk, _, rfl, h28.f.c.s _ _ ((s18a.trans sW) _ _ hk9), G28, _, _, rfl, h28.f.c, MrAt.to (s18a.trans sW) r18, fun v29 r29 => ?_⟩
            refine ⟨leS (by show 4 ≤ 100000; decide), fun o8 h8 => ?_⟩
            have n8 := h28.neP h8
            have h30 := h28.loc (u := .lst [v26, v27, v28, v29]) h8
            have hfar := worth_far ok lv3 sl
            have hpl1 := worth_plain (f := nS ps) (a := lv.1) ok lv3 fun l hl => nS_of (ps_wt hperm) ((ps_key hperm).mpr hl)
            have hpl2 := worth_plain (f := nS (machS ws L)) (a := lv.1) ok lv3 fun l hl => mach_in hl
            have hmk := worth_makers ok lv3 srcs okk rfl
            have hR2 : (planM ws L (lv.1, lv.2)).R = R := hR.symm
            rw [hR2] at hfar hpl1 hpl2 hmk
            obtain ⟨pA, hpA⟩ : ∃ pA, pA = (planM ws L (lv.1, lv.2)).A := ⟨_, rfl⟩
            rw [← hpA] at hfar hpl1 hpl2 hmk hP2
            rw [ps_tot hperm] at r27
            dsimp only at r26 r27 r28
            rw [hfar] at r26
            rw [hpl1] at r27
            rw [hpl2] at r28
            rw [hmk] at r29
            have hallW : ∀ (j : Nat) (v : V), [v26, v27, v28, v29][j]? = some v → ShAt cS G28 v (low pA R) := fun j v h => by
              rcases j with _ | _ | _ | _ | j
              · rw [← Option.some.inj h]
                exact ShAt.to (e27.g.trans e28.g) r26
              · rw [← Option.some.inj h]
                exact ShAt.to e28.g r27
              · rw [← Option.some.inj h]
                exact r28
              · rw [← Option.some.inj h]
                exact r29
              · cases h
            have hRp : 0 < R := by rw [hR]; exact ringL_pos ok lv3
            have hRl : R < 2 ^ 60 := by rw [hR]; exact ringL_lt ok lv3 lv4
            refine ⟨_, rfl, ⟨_, sq_ofL upd_same⟩, ?_⟩
            refine wk_list.loop (fun i σ H' => ∃ y7 y8 y9 y12 y17 G', σ = [some (.ref a), some (.ref p3), some (.ref pw), some (.int L), some (vN (ringL ws L (1, 1))), some (.ref pu), some (.ref px), y7, y8, y9, some v10, some (.ref pF), y12, some v13, some (.ref pP), some (.ref pg), some (.ref pk), y17, some v25, none] ∧ Here PT G H G5 p3 _ G' H' ∧ Same G28 G' ∧ H' o8 = some (.lst [v26, v27, v28, v29]))
              ⟨_, _, _, _, _, G28, rfl, h30, Same.refl _, upd_same⟩ (fun i σ H' _ ⟨_, _, _, _, _, _, _, _, _, d⟩ => sq_ofL d) ?_ ?_
            · rintro j v σ H31 H31' hj ⟨y7, y8, y9, y12, y17, G31, rfl, h31, s31, d31⟩ ⟨rfl, hv⟩
              have hPd := dg_ring (h31.f.c.s _ _ ((((s14a.trans sW).trans s31)) _ _ hP2))
              have hPa := dg_arcs (h31.f.c.s _ _ ((((s14a.trans sW).trans s31)) _ _ hP2))
              refine ⟨_, rfl, _, rfl, pP, _, rfl, hPa, _, rfl, pP, _, rfl, hPd, G31, v, pA, R, rfl, h31.f.c, hRp, hRl, ShAt.to s31 (hallW j v hv), fun G32 H32 e32 => ?_⟩
              exact ⟨_, rfl, y7, y8, y9, y12, some v, G32, rfl, h31.step e32, s31.trans e32.g, e32.stay0 d31 n8⟩
            · rintro σ H31 ⟨y7, y8, y9, y12, y17, G31, rfl, h31, s31, d31⟩
              have hPl31 : PlAt G31 (.ref pP) (planM ws L (lv.1, lv.2)) := PlAt.to ((s14a.trans sW).trans s31) r14
              have hko := key_ok ok lv3 lv1 (ringL_lt ok lv3 lv4)
              have htl := texts_le _ ok.k4 _ ok.l5 ok.l3
              refine ⟨_, rfl, _, rfl, _, rfl, G31, p3, _, _, planM ws L (lv.1, lv.2), textsM ws.length L, _, _, _, rfl, h31.f.c, hPl31, ok.1, ok.2.1, ok.2.2.1, ⟨px, rfl, seqL h31.s hx0⟩, fun l hl => mem_texts.mp hl, htl, hko, h31.t, h31.g, h31.n, fun v33 G33 H33 x33 y33 z33 e33 g33 t33 r33 => ?_⟩
              obtain ⟨ks, ⟨pks, rfl, hks⟩, hkl⟩ := r33
              have h33 : Here PT G H G5 p3 (StL x33 y33 z33) G33 H33 := ⟨h31.f.transA hp3H e33, h31.s.trans e33.g, t33, g33, n3⟩
              have s33 : Same G31 G33 := e33.g
              refine ⟨_, rfl, ⟨_, seqL h33.f.c.s hks⟩, ?_⟩
              refine wk_list.loop (fun i σ H' => ∃ y7 y8 y9 y12 y17 y19 G', σ = [some (.ref a), some (.ref p3), some (.ref pw), some (.int L), some (vN (ringL ws L (1, 1))), some (.ref pu), some (.ref px), y7, y8, y9, some v10, some (.ref pF), y12, some v13, some (.ref pP), some (.ref pg), some (.ref pk), y17, some v25, y19] ∧ Here PT G H G5 p3 (StL x33 y33 z33) G' H' ∧ Same G33 G')
                ⟨_, _, _, _, _, _, G33, rfl, h33, Same.refl _⟩ (fun i σ H' _ ⟨_, _, _, _, _, _, _, _, h, s⟩ => seqL h.f.c.s (seqL s hks)) ?_ ?_
              · rintro j v σ H34 H34' hj ⟨y7, y8, y9, y12, y17, y19, G34, rfl, h34, s34⟩ ⟨rfl, hv⟩
                obtain ⟨i, hi, rfl⟩ : ∃ i, ks[j]? = some i ∧ v = vN i := by
                  rw [List.getElem?_map] at hv
                  cases e : ks[j]? with
                  | none => rw [e] at hv; cases hv
                  | some l => rw [e] at hv; exact ⟨l, rfl, (Option.some.inj hv).symm⟩
                have hir : i < ringL ws L (lv.1, lv.2) := hkl i (List.mem_of_getElem? hi)
                have sA : Same G19 G34 := ((sW.trans s31).trans s33).trans s34
                refine ⟨_, rfl, _, rfl, _, rfl, _, rfl, _, rfl, G34, .ref pP, .ref pg, .ref pk, .ref px, planM ws L (lv.1, lv.2), ((ws, L), low lv.1 lv.2), ((ps, ws.length, L), low lv.1 lv.2), i, rfl, h34.f.c, PlAt.to (s14a.trans sA) r14, ok.1, ok.2.1, ok.2.2.1, MkAt.to (s16a.trans sA) r16, MrAt.to (s18a.trans sA) r18, okk, rfl, rfl, ⟨px, rfl, seqL h34.s hx0⟩, htl, fit_ok ok lv3 sl srcs okk rfl hir, fun v35 G35 H35 e35 r35 => ?_⟩
                subst r35
                exact ⟨_, rfl, y7, y8, y9, y12, y17, some (vN i), G35, rfl, h34.step e35, s34.trans e35.g⟩
              · rintro σ H34 ⟨y7, y8, y9, y12, y17, y19, G34, rfl, h34, s34⟩
                exact q _
      · have d9 : upd H8 p3 (StL x y z) D0 = some (.lst us) := by rw [upd_ne (Ne.symm n3D)]; exact d8
        have ep0 := e9.frz hD0H d9 nD
        have st14 : upd H8 p3 (StL x y z) p3 = some (StL x y z) := upd_same
        have g14 : (upd G8 D0 (.lst us)) p3 = none := by
          rw [upd_ne n3D]
          exact gp8
        have s14 : Same G5 (upd G8 D0 (.lst us)) := s8.trans (same_upd gD8)
        obtain ⟨ps, hps0⟩ : ∃ ps, ps = (textsM ws.length L).map fun l => (l, wtL ws l) := ⟨_, rfl⟩
        rw [← hps0] at pr8
        have hperm : ps.Perm (prsM ws L) := by rw [hps0]; exact List.Perm.refl _
        have hpD : LR K (PrAt K) (upd G8 D0 (.lst us)) (.ref D0) ps := ⟨D0, us, rfl, sq_ofL upd_same, pmap pr8 fun a b z => PrAt.to (same_upd gD8) z⟩
        obtain ⟨Gp, hGp⟩ : ∃ Gp, Gp = upd G8 D0 (.lst us) := ⟨_, rfl⟩
        rw [← hGp] at hpD g14 s14
        have ep := ep0
        rw [← hGp] at ep
        have hh := Here.mk ep s14 st14 g14 n3
        obtain ⟨pu, rfl, hpu⟩ := id hlv
        have hpu0 := sq_ofT (K := K) hpu
        have hx0 : SqL K G5 px ((textsM ws.length L).map fun l => V.str (tx l)) := hx
        have hpw0 : SqL K G2 pw (ws.map vN) := hpw
        have hlv0 : 0 < (low lv.1 lv.2).2 := low_pos lv3
        have sl : shSmall (low lv.1 lv.2) := lv_small lv2 lv3 lv4
        refine ⟨_, rfl, Gp, .ref _, ps, rfl, ep.c, hpD, ps_nd ok hperm, (by have := ps_small ok hperm; omega), ps_pos ok hperm, fun v10 G10 H10 e10 r10 => ?_⟩
        have h10 := hh.step e10
        simp only [List.set_cons_succ, List.set_cons_zero]
        have s25 : Same G2 G5 := s24.trans e5.g
        refine ⟨_, rfl, pw, _, rfl, .inl (seqL h10.f.c.s (seqL (s25.trans h10.s) hpw)), fun o5 h5 => ?_⟩
        have h11 := h10.new (u := .lst (ws.map vN)) h5
        refine ⟨_, rfl, _, .ref o5, ws, L, rfl, h11.f.c, ⟨o5, rfl, sq_ofL upd_same⟩, ok, fun v12 G12 H12 e12 r12 => ?_⟩
        have h12 := h11.step e12
        simp only [List.set_cons_succ, List.set_cons_zero]
        refine ⟨_, rfl, pw, _, rfl, .inl (seqL h12.f.c.s (seqL (s25.trans h12.s) hpw)), _, rfl, _, rfl, by decide, ?_⟩
        refine ⟨_, rfl, pw, rfl, ⟨_, seqL h12.f.c.s (seqL (s25.trans h12.s) hpw)⟩, fun D1 hD1 => ?_⟩
        have h13 := h12.loc (u := .lst []) hD1
        have nD1 := h12.ne hD1
        refine wk_list.comp (fun i H' => ∃ us G', Here PT G H G5 p3 _ G' H' ∧ Same G12 G' ∧ G' D1 = none ∧ H' D1 = some (.lst us) ∧ Paired (PwAt K G') us (ws.take i))
          ⟨[], G12, h13, Same.refl _, h12.free hD1, upd_same, .nil⟩ (fun i H' _ ⟨_, G', e, s, _⟩ => seqL e.f.c.s (seqL (s25.trans e.s) hpw)) ?_ ?_
        · rintro i v H9 H9' hi ⟨us9, G9, h9, s9, gD9, d9, pr9⟩ ⟨rfl, hv⟩
          obtain ⟨w9, hw9, rfl⟩ : ∃ w9, ws[i]? = some w9 ∧ v = vN w9 := by
            rw [List.getElem?_map] at hv
            cases e : ws[i]? with
            | none => rw [e] at hv; cases hv
            | some l => rw [e] at hv; exact ⟨l, rfl, (Option.some.inj hv).symm⟩
          rw [List.length_map] at hi
          have l9 := plen pr9
          rw [List.length_take] at l9
          refine ⟨rfl, _, rfl, leS (by show 2 ≤ 100000; decide), fun t ht => ?_⟩
          have nt0 : D1 ≠ t := ne_of_none d9 ht
          have h9b := h9.new (u := .tup [vN w9, .int 0]) ht
          refine ⟨us9, by rw [upd_ne nt0]; exact d9, ltS (by omega), us9 ++ [.ref t], _, h9b.mut (h12.nn hD1) (by rw [upd_ne nt0]; exact gD9) (h12.neP hD1) nD1, s9.trans (same_upd (h9.free ht)), by rw [upd_ne nt0]; exact gD9, upd_same, ?_⟩
          rw [take_get hw9]
          exact psnoc (pmap pr9 fun a b z => PwAt.to (same_upd (h9.free ht)) z) ⟨t, rfl, sq_ofT upd_same⟩
        · rintro H9 ⟨us9, G9, h9, s9, gD9, d9, pr9⟩
          rw [List.length_map, List.take_length] at pr9
          refine ⟨leS (by show 1 ≤ 100000; decide), fun o6 h6 => ?_⟩
          have h14 := h9.frz (h12.nn hD1) d9 gD9 (h12.neP hD1) nD1
          have m6 : D1 ≠ o6 := ne_of_none d9 h6
          have h15 := h14.new (u := .lst [.ref D1]) h6
          have s12 : Same G12 (upd (upd G9 D1 (.lst us9)) o6 (.lst [.ref D1])) := (s9.trans (same_upd gD9)).trans (same_upd (h14.free h6))
          have hRw : RwAt K (upd (upd G9 D1 (.lst us9)) o6 (.lst [.ref D1])) (.ref o6) ws := ⟨o6, D1, us9, rfl, sq_ofL upd_same, sq_ofL (by rw [upd_ne m6]; exact upd_same), pmap pr9 fun a b z => PwAt.to ((same_upd gD9).trans (same_upd (h14.free h6))) z⟩
          have habc := abc_tx ws.length (by omega)
          unfold abcTo at habc
          refine ⟨_, rfl, _, .ref o6, ws, L, by rw [List.length_map, habc]; rfl, h15.f.c, hRw, ok, fun v13 G13 H13 e13 r13 => ?_⟩
          have h16 := h15.step e13
          simp only [List.set_cons_succ, List.set_cons_zero]
          have sT : Same G12 G13 := s12.trans e13.g
          refine ⟨_, rfl, _, rfl, _, rfl, G13, .ref pw, .ref pu, ws, L, lv.1, lv.2, rfl, h16.f.c, ⟨pw, rfl, seqL (s25.trans h16.s) hpw0⟩, ok, ⟨pu, rfl, (e5.g.trans h16.s) _ _ hpu⟩, by omega, lv3, by omega, fun v14 G14 H14 e14 r14 => ?_⟩
          have h17 := h16.step e14
          simp only [List.set_cons_succ, List.set_cons_zero]
          have hp17 := h17.f.c.s _ _ ((e5.g.trans h17.s) _ _ hpu)
          refine ⟨_, rfl, _, rfl, pu, _, 0, _, rfl, rfl, sq_ofT hp17, atI_nat (j := 0) rfl, _, rfl, pu, _, 1, _, rfl, rfl, sq_ofT hp17, atI_nat (j := 1) rfl, G14, _, _, lv.1, lv.2, rfl, h17.f.c, rfl, rfl, lv3, by omega, fun v15 G15 H15 e15 r15 => ?_⟩
          have h18 := h17.step e15
          refine ⟨G15, v12, v15, (ws, L), low lv.1 lv.2, rfl, h18.f.c, FarAt.to (((sT.trans e14.g).trans e15.g)) r12, ok, r15, sl, by have := low_le2 (a := lv.1) (b := lv.2); omega, fun v16 G16 H16 e16 r16 => ?_⟩
          have h19 := h18.step e16
          simp only [List.set_cons_succ, List.set_cons_zero]
          have hp19 := h19.f.c.s _ _ ((e5.g.trans h19.s) _ _ hpu)
          refine ⟨_, rfl, _, rfl, pu, _, 0, _, rfl, rfl, sq_ofT hp19, atI_nat (j := 0) rfl, _, rfl, pu, _, 1, _, rfl, rfl, sq_ofT hp19, atI_nat (j := 1) rfl, G16, _, _, lv.1, lv.2, rfl, h19.f.c, rfl, rfl, lv3, by omega, fun v17 G17 H17 e17 r17 => ?_⟩
          have h20 := h19.step e17
          have sK : Same G10 G12 := (same_upd (h10.free h5)).trans e12.g
          have sK2 : Same G13 G17 := ((e14.g.trans e15.g).trans e16.g).trans e17.g
          have okk := ok_K ok hperm lv1 lv2 lv3 lv4
          refine ⟨G17, v10, v17, ((ps, ws.length, L), low lv.1 lv.2), rfl, h20.f.c, TaAt.to ((sK.trans sT).trans sK2) r10, r17, okk, fun v18 G18 H18 e18 r18 => ?_⟩
          have h21 := h20.step e18
          simp only [List.set_cons_succ, List.set_cons_zero]
          refine ⟨_, rfl, _, rfl, _, rfl, _, rfl, _, rfl, _, rfl, G18, v12, v10, v13, .ref pw, .ref px, ws, L, ps, rfl, h21.f.c, ok, FarAt.to ((sT.trans sK2).trans e18.g) r12, TaAt.to (((sK.trans sT).trans sK2).trans e18.g) r10, MaAt.to (sK2.trans e18.g) r13, ⟨pw, rfl, seqL (s25.trans h21.s) hpw0⟩, ⟨px, rfl, seqL h21.s hx0⟩, sh_ok ok hperm, fun v19 G19 H19 e19 r19 => ?_⟩
          subst r19
          have h22 := h21.step e19
          refine ⟨_, rfl, iteF ?_⟩
          obtain ⟨pg, dg, _, _, _, rfl, hg1, _⟩ := id r16
          obtain ⟨pk, dk, _, _, _, _, _, _, rfl, hk9, _⟩ := id r18
          obtain ⟨pP, dP, kvP, rfl, hP1, _⟩ := id r14
          have s14a : Same G14 G19 := ((((e15.g.trans e16.g).trans e17.g).trans e18.g).trans e19.g)
          have s16a : Same G16 G19 := ((e17.g.trans e18.g).trans e19.g)
          have s18a : Same G18 G19 := e19.g
          refine ⟨_, rfl, pg, cG, dg, _, _, rfl, h22.f.c.s _ _ (s16a _ _ hg1), T.l_cG, T.n_cG_ring, rfl, ?_⟩
          refine ⟨_, rfl, pk, cK, dk, _, _, rfl, h22.f.c.s _ _ (s18a _ _ hk9), T.l_cK, T.n_cK_ring, rfl, ?_⟩
          refine ⟨leS (by show 2 ≤ 100000; decide), fun o7 h7 => ?_⟩
          have n7 := h22.neP h7
          have h23 := h22.loc (u := .lst [vN (divN ws L (low lv.1 lv.2) / comN ws L (low lv.1 lv.2)), vN (ringK ((ps, ws.length, L), low lv.1 lv.2))]) h7
          obtain ⟨R, hR⟩ : ∃ R, R = ringL ws L (lv.1, lv.2) := ⟨_, rfl⟩
          have hP2 : G14 pP = some (.dK (plKV ws.length L R dP (planM ws L (lv.1, lv.2)).A)) := by rw [hR]; exact hP1
          have srcs := srcs_ok ok hperm (low lv.1 lv.2)
          have hrG : divN ws L (low lv.1 lv.2) / comN ws L (low lv.1 lv.2) = R := by rw [hR]; exact ringG_eq ok lv3 sl
          have hrK : ringK ((ps, ws.length, L), low lv.1 lv.2) = R := by rw [hR]; exact ringK_eq ok lv3 srcs okk rfl
          have hall : ∀ (j : Nat) (v : V), [vN (divN ws L (low lv.1 lv.2) / comN ws L (low lv.1 lv.2)), vN (ringK ((ps, ws.length, L), low lv.1 lv.2))][j]? = some v → v = vN R := fun j v h => by
            rcases j with _ | _ | j
            · rw [← Option.some.inj h, hrG]
            · rw [← Option.some.inj h, hrK]
            · cases h
          refine ⟨_, rfl, ⟨_, sq_ofL upd_same⟩, ?_⟩
          refine wk_list.loop (fun i σ H' => ∃ y7 y8 y9 y12 y17 G', σ = [some (.ref a), some (.ref p3), some (.ref pw), some (.int L), some (vN (ringL ws L (1, 1))), some (.ref pu), some (.ref px), y7, y8, y9, some v10, some v12, y12, some v13, some (.ref pP), some (.ref pg), some (.ref pk), y17, none, none] ∧ Here PT G H G5 p3 _ G' H' ∧ Same G19 G' ∧ H' o7 = some (.lst [vN (divN ws L (low lv.1 lv.2) / comN ws L (low lv.1 lv.2)), vN (ringK ((ps, ws.length, L), low lv.1 lv.2))]))
            ⟨_, _, _, _, _, G19, rfl, h23, Same.refl _, upd_same⟩ (fun i σ H' _ ⟨_, _, _, _, _, _, _, _, _, d⟩ => sq_ofL d) ?_ ?_
          · rintro j v σ H24 H24' hj ⟨y7, y8, y9, y12, y17, G24, rfl, h24, s24', d24⟩ ⟨rfl, hv⟩
            obtain rfl := hall j v hv
            refine ⟨_, rfl, R, rfl, _, rfl, ?_⟩
            refine ⟨_, rfl, _, rfl, pP, _, rfl, dg_ring (h24.f.c.s _ _ ((s14a.trans s24') _ _ hP2)), rfl, _, rfl, ?_⟩
            rw [show (!decide (vN R = vN R)) = false by simp]
            refine iteF ?_
            exact ⟨y7, y8, y9, y12, some (vN R), G24, rfl, h24, s24', d24⟩
          · rintro σ H24 ⟨y7, y8, y9, y12, y17, G24, rfl, h24, s24', d24⟩
            have hp24 := h24.f.c.s _ _ ((e5.g.trans h24.s) _ _ hpu)
            refine ⟨_, rfl, pu, _, 0, _, rfl, rfl, sq_ofT hp24, atI_nat (j := 0) rfl, _, rfl, pu, _, 1, _, rfl, rfl, sq_ofT hp24, atI_nat (j := 1) rfl, G24, _, _, lv.1, lv.2, rfl, h24.f.c, rfl, rfl, lv3, by omega, fun v25 G25 H25 e25 r25 => ?_⟩
            have h25 := h24.step e25
            simp only [List.set_cons_succ, List.set_cons_zero]
            obtain ⟨pF, dF, _, _, rfl, hF1, _, _⟩ := id r12
            have s13a : Same G13 G25 := (((sK2.trans e18.g).trans e19.g).trans s24').trans e25.g
            have sF : Same G12 G25 := sT.trans s13a
            have hq2 := low2_le (a := lv.1) lv4
            have mG : ∀ {G'' : Hp}, Same G25 G'' → ShAt cS G'' v25 (low lv.1 lv.2) := fun s => ShAt.to s r25
            refine ⟨_, rfl, pF, dF, _, rfl, h25.f.c.s _ _ (sF _ _ hF1), rfl, _, rfl, G25, _, v25, (ws, L), low lv.1 lv.2, rfl, h25.f.c, FarAt.to sF r12, ok, r25, sl, fun v26 G26 H26 e26 r26 => ?_⟩
            have h26 := h25.step e26
            refine ⟨_, rfl, _, rfl, .inl ⟨G26, v10, v25, ps, ws.length, L, low lv.1 lv.2, rfl, h26.f.c, TaAt.to ((sK.trans sF).trans e26.g) r10, ps_full ok hperm, mG e26.g, sl, low_is lv3, by omega, okk.t, okk.u, okk.e, by rw [ps_tot hperm]; exact pw_lt ok (fun l => by rw [← ps_tot hperm]; exact nS_le l ps) hq2, fun v27 G27 H27 e27 r27 => ?_⟩⟩
            have h27 := h26.step e27
            refine ⟨_, rfl, _, rfl, .inr ⟨G27, v13, v25, (ws, L), low lv.1 lv.2, rfl, h27.f.c, MaAt.to ((s13a.trans e26.g).trans e27.g) r13, ok, mG (e26.g.trans e27.g), sl, low_is lv3, by omega, mach_leD ws L, pw_lt ok (mach_leD ws L) hq2, fun v28 G28 H28 e28 r28 => ?_⟩⟩
            have h28 := h27.step e28
            have sW : Same G19 G28 := (((s24'.trans e25.g).trans e26.g).trans e27.g).trans e28.g
            refine ⟨_, rfl, pk, dk, _, rfl, h28.f.c.s _ _ ((s18a.trans sW) _ _ hk9), G28, _, _, rfl, h28.f.c, MrAt.to (s18a.trans sW) r18, fun v29 r29 => ?_⟩
            refine ⟨leS (by show 4 ≤ 100000; decide), fun o8 h8 => ?_⟩
            have n8 := h28.neP h8
            have h30 := h28.loc (u := .lst [v26, v27, v28, v29]) h8
            have hfar := worth_far ok lv3 sl
            have hpl1 := worth_plain (f := nS ps) (a := lv.1) ok lv3 fun l hl => nS_of (ps_wt hperm) ((ps_key hperm).mpr hl)
            have hpl2 := worth_plain (f := nS (machS ws L)) (a := lv.1) ok lv3 fun l hl => mach_in hl
            have hmk := worth_makers ok lv3 srcs okk rfl
            have hR2 : (planM ws L (lv.1, lv.2)).R = R := hR.symm
            rw [hR2] at hfar hpl1 hpl2 hmk
            obtain ⟨pA, hpA⟩ : ∃ pA, pA = (planM ws L (lv.1, lv.2)).A := ⟨_, rfl⟩
            rw [← hpA] at hfar hpl1 hpl2 hmk hP2
            rw [ps_tot hperm] at r27
            dsimp only at r26 r27 r28
            rw [hfar] at r26
            rw [hpl1] at r27
            rw [hpl2] at r28
            rw [hmk] at r29
            have hallW : ∀ (j : Nat) (v : V), [v26, v27, v28, v29][j]? = some v → ShAt cS G28 v (low pA R) := fun j v h => by
              rcases j with _ | _ | _ | _ | j
              · rw [← Option.some.inj h]
                exact ShAt.to (e27.g.trans e28.g) r26
              · rw [← Option.some.inj h]
                exact ShAt.to e28.g r27
              · rw [← Option.some.inj h]
                exact r28
              · rw [← Option.some.inj h]
                exact r29
              · cases h
            have hRp : 0 < R := by rw [hR]; exact ringL_pos ok lv3
            have hRl : R < 2 ^ 60 := by rw [hR]; exact ringL_lt ok lv3 lv4
            refine ⟨_, rfl, ⟨_, sq_ofL upd_same⟩, ?_⟩
            refine wk_list.loop (fun i σ H' => ∃ y7 y8 y9 y12 y17 G', σ = [some (.ref a), some (.ref p3), some (.ref pw), some (.int L), some (vN (ringL ws L (1, 1))), some (.ref pu), some (.ref px), y7, y8, y9, some v10, some (.ref pF), y12, some v13, some (.ref pP), some (.ref pg), some (.ref pk), y17, some v25, none] ∧ Here PT G H G5 p3 _ G' H' ∧ Same G28 G' ∧ H' o8 = some (.lst [v26, v27, v28, v29]))
              ⟨_, _, _, _, _, G28, rfl, h30, Same.refl _, upd_same⟩ (fun i σ H' _ ⟨_, _, _, _, _, _, _, _, _, d⟩ => sq_ofL d) ?_ ?_
            · rintro j v σ H31 H31' hj ⟨y7, y8, y9, y12, y17, G31, rfl, h31, s31, d31⟩ ⟨rfl, hv⟩
              have hPd := dg_ring (h31.f.c.s _ _ ((((s14a.trans sW).trans s31)) _ _ hP2))
              have hPa := dg_arcs (h31.f.c.s _ _ ((((s14a.trans sW).trans s31)) _ _ hP2))
              refine ⟨_, rfl, _, rfl, pP, _, rfl, hPa, _, rfl, pP, _, rfl, hPd, G31, v, pA, R, rfl, h31.f.c, hRp, hRl, ShAt.to s31 (hallW j v hv), fun G32 H32 e32 => ?_⟩
              exact ⟨_, rfl, y7, y8, y9, y12, some v, G32, rfl, h31.step e32, s31.trans e32.g, e32.stay0 d31 n8⟩
            · rintro σ H31 ⟨y7, y8, y9, y12, y17, G31, rfl, h31, s31, d31⟩
              have hPl31 : PlAt G31 (.ref pP) (planM ws L (lv.1, lv.2)) := PlAt.to ((s14a.trans sW).trans s31) r14
              have hko := key_ok ok lv3 lv1 (ringL_lt ok lv3 lv4)
              have htl := texts_le _ ok.k4 _ ok.l5 ok.l3
              refine ⟨_, rfl, _, rfl, _, rfl, G31, p3, _, _, planM ws L (lv.1, lv.2), textsM ws.length L, _, _, _, rfl, h31.f.c, hPl31, ok.1, ok.2.1, ok.2.2.1, ⟨px, rfl, seqL h31.s hx0⟩, fun l hl => mem_texts.mp hl, htl, hko, h31.t, h31.g, h31.n, fun v33 G33 H33 x33 y33 z33 e33 g33 t33 r33 => ?_⟩
              obtain ⟨ks, ⟨pks, rfl, hks⟩, hkl⟩ := r33
              have h33 : Here PT G H G5 p3 (StL x33 y33 z33) G33 H33 := ⟨h31.f.transA hp3H e33, h31.s.trans e33.g, t33, g33, n3⟩
              have s33 : Same G31 G33 := e33.g
              refine ⟨_, rfl, ⟨_, seqL h33.f.c.s hks⟩, ?_⟩
              refine wk_list.loop (fun i σ H' => ∃ y7 y8 y9 y12 y17 y19 G', σ = [some (.ref a), some (.ref p3), some (.ref pw), some (.int L), some (vN (ringL ws L (1, 1))), some (.ref pu), some (.ref px), y7, y8, y9, some v10, some (.ref pF), y12, some v13, some (.ref pP), some (.ref pg), some (.ref pk), y17, some v25, y19] ∧ Here PT G H G5 p3 (StL x33 y33 z33) G' H' ∧ Same G33 G')
                ⟨_, _, _, _, _, _, G33, rfl, h33, Same.refl _⟩ (fun i σ H' _ ⟨_, _, _, _, _, _, _, _, h, s⟩ => seqL h.f.c.s (seqL s hks)) ?_ ?_
              · rintro j v σ H34 H34' hj ⟨y7, y8, y9, y12, y17, y19, G34, rfl, h34, s34⟩ ⟨rfl, hv⟩
                obtain ⟨i, hi, rfl⟩ : ∃ i, ks[j]? = some i ∧ v = vN i := by
                  rw [List.getElem?_map] at hv
                  cases e : ks[j]? with
                  | none => rw [e] at hv; cases hv
                  | some l => rw [e] at hv; exact ⟨l, rfl, (Option.some.inj hv).symm⟩
                have hir : i < ringL ws L (lv.1, lv.2) := hkl i (List.mem_of_getElem? hi)
                have sA : Same G19 G34 := ((sW.trans s31).trans s33).trans s34
                refine ⟨_, rfl, _, rfl, _, rfl, _, rfl, _, rfl, G34, .ref pP, .ref pg, .ref pk, .ref px, planM ws L (lv.1, lv.2), ((ws, L), low lv.1 lv.2), ((ps, ws.length, L), low lv.1 lv.2), i, rfl, h34.f.c, PlAt.to (s14a.trans sA) r14, ok.1, ok.2.1, ok.2.2.1, MkAt.to (s16a.trans sA) r16, MrAt.to (s18a.trans sA) r18, okk, rfl, rfl, ⟨px, rfl, seqL h34.s hx0⟩, htl, fit_ok ok lv3 sl srcs okk rfl hir, fun v35 G35 H35 e35 r35 => ?_⟩
                subst r35
                exact ⟨_, rfl, y7, y8, y9, y12, y17, some (vN i), G35, rfl, h34.step e35, s34.trans e35.g⟩
              · rintro σ H34 ⟨y7, y8, y9, y12, y17, y19, G34, rfl, h34, s34⟩
                exact q _
end
end K43
-- part W41
/-! W41: the law. -/
namespace K43
open PySem PySem.Spec PyProof.Rows L2
section
variable {P : Program} {w : World} {K : PySem.W.Frag} {mg : Str → Option Value} {base : Heap} {cS cF cG cT cM cK : Addr} {PT cc : Addr}
theorem sc_law : FnScope ["_law_script"] ["_law_script"] (defScope (topS 60)) := ⟨rfl, rfl, rfl, by decide +kernel, rfl, by decide +kernel, by decide +kernel⟩
theorem ok_law (T : Txt K mg cS cF cG cT cM cK) (D : DmC K cF "counts_of" "Far.counts_of" (inC 23 2) ["self", "text"] cc) (TB : GxR.TabB base mg cc PT) {f : Addr} {fd : FuncData} (F : Fun K "law" "law" (topS 60) f fd) : FnOk P w K mg base CX0 9 f fd ["_law_script"] (spLwhole PT K) := by
  refine F.ok sc_law (fun vs H Q E h => ?_) (fun cdv A outer s H vs Q E hr h => ?_)
  · obtain ⟨G, a, ns, rfl, _⟩ := h
    rfl
  · obtain ⟨G, a, ns, rfl, c, ha, hns, q⟩ := h
    refine ⟨_, pss_one (ps_try_thru0 (pss_one (ps_ret (pe_c (ok_lwhole T D TB) (hr.mono (by first | decide | omega)) (pa_cons (pv 0) pa_nil))))), ?_⟩
    exact ⟨_, rfl, G, a, ns, rfl, c, ha, hns, q⟩
/-- at the call: all that stands is clean but the table -/
theorem law_start {H : Hp} {a : Addr} {ns : List Int} {Q : VK} {E : XK} (hT : H PT = some (.tbl #[])) (hS : SqL K H a (ns.map V.int)) (hl : ns.length < 2 ^ 40) (q : ∀ H', Q (.bl true) H') : spLwhole PT K [.ref a] H Q E := by
  refine ⟨fun b => if b = PT then none else H b, a, ns, rfl, ⟨fun b o e => ?_, if_pos rfl, #[], hT, ?_⟩, ?_, hl, q⟩
  · by_cases z : b = PT
    · simp [z] at e
    · rw [if_neg z] at e
      exact e
  · first | trivial | decide | exact TriplesOk.nil
  · have key : ∀ {o : HO}, (∀ ps, o ≠ .tbl ps) → H a = some o → (if a = PT then none else H a) = some o := fun ho e => by
      rw [if_neg (fun z => by rw [z, hT] at e; exact ho _ (Option.some.inj e).symm)]
      exact e
    rcases hS with (h | ⟨o, h⟩) | h
    · exact .inl (.inl (key (fun ps z => by cases z) h))
    · exact .inl (.inr ⟨o, key (fun ps z => by cases z) h⟩)
    · exact .inr h
end
end K43
-- part H1
set_option maxHeartbeats 0
/-! H1: the head's data (printed by gen_head.py), the facts of the text from it. -/
namespace K43
open PySem PySem.Spec PyProof.Rows L2
/-! ### the property's getter -/
def prA (K : PySem.W.Frag) : Addr := He.ma K (He.ga K "Makers") "arcs"
def geA (K : PySem.W.Frag) : Addr := match PySem.W.recIn K (prA K) "property" with
  | some (.ref g :: _) => g
  | _ => 0
def fnWa (K : PySem.W.Frag) (a : Addr) : He.FnW := match K.lookup a with
  | some ⟨_, _, .func fd, _⟩ => some (fd.name, fd.qualname, fd.params, fd.body, fd.scope, fd.globals, fd.closure, fd.builtins)
  | _ => none
def valG : He.FnW := some ("arcs", "Makers.arcs", defArgs (inC 36 1), .stmts (defBody (inC 36 1)), defScope (inC 36 1), mainGlobals, [], builtinsNs)
def recB (K : PySem.W.Frag) : Bool := match PySem.W.recIn K (prA K) "property" with
  | some (.ref _ :: _) => true
  | _ => false
def getB (K : PySem.W.Frag) : Bool := match K.lookup (geA K) with
  | some ⟨_, _, .func fd, _⟩ => PySem.W.codeIn K fd.code "Makers.arcs" && He.dflB K fd.defaults []
  | _ => false
def exI (K : PySem.W.Frag) : Bool := He.eqO (PySem.W.findIn K (.ref (He.ga K "Share")) "__class__") (some (some (.builtin "object.__class__"))) && (He.eqO (PySem.W.specialIn K (.builtin "object.__class__") "__get__") (some (some (.builtin "getset_descriptor.__get__"))) &&
  (decide (PySem.W.takesIn K (.builtin "object.__class__") = some true) && (decide (PySem.W.mroIn K (He.ga K "Share") (.type "object") = some true) && decide (PySem.W.kitOne K (.ref (He.ga K "Share")) (.ref (He.ga K "Share")) = some true))))
def exP (K : PySem.W.Frag) : Bool := He.eqO (PySem.W.findIn K (.ref (He.ga K "Makers")) "arcs") (some (some (.ref (prA K)))) && (He.eqO (PySem.W.specialIn K (.ref (prA K)) "__get__") (some (some (.builtin "property.__get__"))) &&
  (decide (PySem.W.takesIn K (.ref (prA K)) = some true) && (recB K && (PySem.W.keepIn K (.ref (geA K)) && getB K))))
def exL (K : PySem.W.Frag) : Bool := exI K && (exP K && PySem.W.selfFirst K (He.ga K "Share"))
def tfL : List He.Defn := [("Far", some "counts_of")]
def dd0 : He.DefD := ⟨("greatest_divisor", none), "greatest_divisor", "greatest_divisor", defArgs (topS 8), defBody (topS 8), defScope (topS 8), [], []⟩
def dd1 : He.DefD := ⟨("least_multiple", none), "least_multiple", "least_multiple", defArgs (topS 9), defBody (topS 9), defScope (topS 9), [], []⟩
def dd2 : He.DefD := ⟨("power", none), "power", "power", defArgs (topS 10), defBody (topS 10), defScope (topS 10), [], []⟩
def dd3 : He.DefD := ⟨("Share", some "__init__"), "__init__", "Share.__init__", defArgs (inC 12 0), defBody (inC 12 0), defScope (inC 12 0), [], []⟩
def dd4 : He.DefD := ⟨("Share", some "__add__"), "__add__", "Share.__add__", defArgs (inC 12 1), defBody (inC 12 1), defScope (inC 12 1), [], []⟩
def dd5 : He.DefD := ⟨("Share", some "by"), "by", "Share.by", defArgs (inC 12 5), defBody (inC 12 5), defScope (inC 12 5), [], []⟩
def dd6 : He.DefD := ⟨("Share", some "is_below"), "is_below", "Share.is_below", defArgs (inC 12 6), defBody (inC 12 6), defScope (inC 12 6), [], []⟩
def dd7 : He.DefD := ⟨("lesser_of", none), "lesser_of", "lesser_of", defArgs (topS 13), defBody (topS 13), defScope (topS 13), [], []⟩
def dd8 : He.DefD := ⟨("at_most_one", none), "at_most_one", "at_most_one", defArgs (topS 14), defBody (topS 14), defScope (topS 14), [], []⟩
def dd9 : He.DefD := ⟨("sum_of", none), "sum_of", "sum_of", defArgs (topS 15), defBody (topS 15), defScope (topS 15), [], []⟩
def dd10 : He.DefD := ⟨("_powers", none), "_powers", "_powers", defArgs (topS 18), defBody (topS 18), defScope (topS 18), [], []⟩
def dd11 : He.DefD := ⟨("_choices", none), "_choices", "_choices", defArgs (topS 19), defBody (topS 19), defScope (topS 19), [], []⟩
def dd12 : He.DefD := ⟨("_kinds", none), "_kinds", "_kinds", defArgs (topS 20), defBody (topS 20), defScope (topS 20), [], []⟩
def dd13 : He.DefD := ⟨("_counts", none), "_counts", "_counts", defArgs (topS 21), defBody (topS 21), defScope (topS 21), [], []⟩
def dd14 : He.DefD := ⟨("_one_more", none), "_one_more", "_one_more", defArgs (topS 22), defBody (topS 22), defScope (topS 22), [], []⟩
def dd15 : He.DefD := ⟨("Far", some "__init__"), "__init__", "Far.__init__", defArgs (inC 23 0), defBody (inC 23 0), defScope (inC 23 0), [], []⟩
def dd16 : He.DefD := ⟨("Far", some "letters"), "letters", "Far.letters", defArgs (inC 23 1), defBody (inC 23 1), defScope (inC 23 1), [], []⟩
def dd17 : He.DefD := ⟨("Far", some "counts_of"), "counts_of", "Far.counts_of", defArgs (inC 23 2), defBody (inC 23 2), defScope (inC 23 2), [], []⟩
def dd18 : He.DefD := ⟨("Far", some "share_of"), "share_of", "Far.share_of", defArgs (inC 23 3), defBody (inC 23 3), defScope (inC 23 3), [], []⟩
def dd19 : He.DefD := ⟨("Far", some "parts_at"), "parts_at", "Far.parts_at", defArgs (inC 23 4), defBody (inC 23 4), defScope (inC 23 4), [], []⟩
def dd20 : He.DefD := ⟨("Far", some "worth_at"), "worth_at", "Far.worth_at", defArgs (inC 23 5), defBody (inC 23 5), defScope (inC 23 5), [], []⟩
def dd21 : He.DefD := ⟨("_table", none), "_table", "_table", defArgs (topS 24), defBody (topS 24), defScope (topS 24), [], []⟩
def dd22 : He.DefD := ⟨("FarMarking", some "__init__"), "__init__", "FarMarking.__init__", defArgs (inC 25 0), defBody (inC 25 0), defScope (inC 25 0), [], []⟩
def dd23 : He.DefD := ⟨("FarMarking", some "write"), "write", "FarMarking.write", defArgs (inC 25 1), defBody (inC 25 1), defScope (inC 25 1), [], []⟩
def dd24 : He.DefD := ⟨("FarMarking", some "accuses"), "accuses", "FarMarking.accuses", defArgs (inC 25 2), defBody (inC 25 2), defScope (inC 25 2), [], []⟩
def dd25 : He.DefD := ⟨("FarMarking", some "_check"), "_check", "FarMarking._check", defArgs (inC 25 5), defBody (inC 25 5), defScope (inC 25 5), [], []⟩
def dd26 : He.DefD := ⟨("FarMarking", some "_text_at"), "_text_at", "FarMarking._text_at", defArgs (inC 25 6), defBody (inC 25 6), defScope (inC 25 6), [], []⟩
def dd27 : He.DefD := ⟨("FarMarking", some "_place_of"), "_place_of", "FarMarking._place_of", defArgs (inC 25 7), defBody (inC 25 7), defScope (inC 25 7), [], []⟩
def dd28 : He.DefD := ⟨("_is_integer", none), "_is_integer", "_is_integer", defArgs (topS 27), defBody (topS 27), defScope (topS 27), [], []⟩
def dd29 : He.DefD := ⟨("Table", some "__init__"), "__init__", "Table.__init__", defArgs (inC 29 0), defBody (inC 29 0), defScope (inC 29 0), [], []⟩
def dd30 : He.DefD := ⟨("Table", some "texts"), "texts", "Table.texts", defArgs (inC 29 1), defBody (inC 29 1), defScope (inC 29 1), [], []⟩
def dd31 : He.DefD := ⟨("Table", some "weight_of"), "weight_of", "Table.weight_of", defArgs (inC 29 2), defBody (inC 29 2), defScope (inC 29 2), [], []⟩
def dd32 : He.DefD := ⟨("Table", some "share_of"), "share_of", "Table.share_of", defArgs (inC 29 3), defBody (inC 29 3), defScope (inC 29 3), [], []⟩
def dd33 : He.DefD := ⟨("Machine", some "__init__"), "__init__", "Machine.__init__", defArgs (inC 30 0), defBody (inC 30 0), defScope (inC 30 0), [], []⟩
def dd34 : He.DefD := ⟨("Machine", some "all_weights"), "all_weights", "Machine.all_weights", defArgs (inC 30 1), defBody (inC 30 1), defScope (inC 30 1), [], []⟩
def dd35 : He.DefD := ⟨("Machine", some "texts"), "texts", "Machine.texts", defArgs (inC 30 2), defBody (inC 30 2), defScope (inC 30 2), [], []⟩
def dd36 : He.DefD := ⟨("Machine", some "weight_of"), "weight_of", "Machine.weight_of", defArgs (inC 30 3), defBody (inC 30 3), defScope (inC 30 3), [], []⟩
def dd37 : He.DefD := ⟨("Machine", some "share_of"), "share_of", "Machine.share_of", defArgs (inC 30 4), defBody (inC 30 4), defScope (inC 30 4), [], []⟩
def dd38 : He.DefD := ⟨("plain_worth", none), "plain_worth", "plain_worth", defArgs (topS 32), defBody (topS 32), defScope (topS 32), [], []⟩
def dd39 : He.DefD := ⟨("_is_below", none), "_is_below", "_is_below", defArgs (topS 35), defBody (topS 35), defScope (topS 35), [], []⟩
def dd40 : He.DefD := ⟨("Makers", some "__init__"), "__init__", "Makers.__init__", defArgs (inC 36 0), defBody (inC 36 0), defScope (inC 36 0), [], []⟩
def dd41 : He.DefD := ⟨("Makers", some "_step"), "_step", "Makers._step", defArgs (inC 36 2), defBody (inC 36 2), defScope (inC 36 2), [], []⟩
def dd42 : He.DefD := ⟨("Makers", some "_point"), "_point", "Makers._point", defArgs (inC 36 3), defBody (inC 36 3), defScope (inC 36 3), [], []⟩
def dd43 : He.DefD := ⟨("Makers", some "write"), "write", "Makers.write", defArgs (inC 36 4), defBody (inC 36 4), defScope (inC 36 4), [], []⟩
def dd44 : He.DefD := ⟨("Makers", some "who"), "who", "Makers.who", defArgs (inC 36 5), defBody (inC 36 5), defScope (inC 36 5), [], []⟩
def dd45 : He.DefD := ⟨("_law_stream", none), "_law_stream", "_law_stream", defArgs (topS 38), defBody (topS 38), defScope (topS 38), [], []⟩
def dd46 : He.DefD := ⟨("_law_draw", none), "_law_draw", "_law_draw", defArgs (topS 39), defBody (topS 39), defScope (topS 39), [], []⟩
def dd47 : He.DefD := ⟨("_law_lowest", none), "_law_lowest", "_law_lowest", defArgs (topS 40), defBody (topS 40), defScope (topS 40), [], []⟩
def dd48 : He.DefD := ⟨("_law_is_whole", none), "_law_is_whole", "_law_is_whole", defArgs (topS 41), defBody (topS 41), defScope (topS 41), [], []⟩
def dd49 : He.DefD := ⟨("_law_is_share", none), "_law_is_share", "_law_is_share", defArgs (topS 42), defBody (topS 42), defScope (topS 42), [], []⟩
def dd50 : He.DefD := ⟨("_law_powers", none), "_law_powers", "_law_powers", defArgs (topS 43), defBody (topS 43), defScope (topS 43), [], []⟩
def dd51 : He.DefD := ⟨("_law_counts", none), "_law_counts", "_law_counts", defArgs (topS 44), defBody (topS 44), defScope (topS 44), [], []⟩
def dd52 : He.DefD := ⟨("_law_all_powers", none), "_law_all_powers", "_law_all_powers", defArgs (topS 45), defBody (topS 45), defScope (topS 45), [], []⟩
def dd53 : He.DefD := ⟨("_law_weight", none), "_law_weight", "_law_weight", defArgs (topS 46), defBody (topS 46), defScope (topS 46), [], []⟩
def dd54 : He.DefD := ⟨("_law_ring", none), "_law_ring", "_law_ring", defArgs (topS 47), defBody (topS 47), defScope (topS 47), [], []⟩
def dd55 : He.DefD := ⟨("_law_plan", none), "_law_plan", "_law_plan", defArgs (topS 48), defBody (topS 48), defScope (topS 48), [], []⟩
def dd56 : He.DefD := ⟨("_law_under", none), "_law_under", "_law_under", defArgs (topS 49), defBody (topS 49), defScope (topS 49), [], []⟩
def dd57 : He.DefD := ⟨("_law_layout", none), "_law_layout", "_law_layout", defArgs (topS 50), defBody (topS 50), defScope (topS 50), [], []⟩
def dd58 : He.DefD := ⟨("_law_is_far_text", none), "_law_is_far_text", "_law_is_far_text", defArgs (topS 51), defBody (topS 51), defScope (topS 51), [], []⟩
def dd59 : He.DefD := ⟨("_law_holds", none), "_law_holds", "_law_holds", defArgs (topS 52), defBody (topS 52), defScope (topS 52), [], []⟩
def dd60 : He.DefD := ⟨("_law_texts", none), "_law_texts", "_law_texts", defArgs (topS 53), defBody (topS 53), defScope (topS 53), [], []⟩
def dd61 : He.DefD := ⟨("_law_case", none), "_law_case", "_law_case", defArgs (topS 54), defBody (topS 54), defScope (topS 54), [], []⟩
def dd62 : He.DefD := ⟨("_law_level", none), "_law_level", "_law_level", defArgs (topS 55), defBody (topS 55), defScope (topS 55), [], []⟩
def dd63 : He.DefD := ⟨("_law_keys", none), "_law_keys", "_law_keys", defArgs (topS 56), defBody (topS 56), defScope (topS 56), [], []⟩
def dd64 : He.DefD := ⟨("_law_shares_fit", none), "_law_shares_fit", "_law_shares_fit", defArgs (topS 57), defBody (topS 57), defScope (topS 57), [], []⟩
def dd65 : He.DefD := ⟨("_law_key_fits", none), "_law_key_fits", "_law_key_fits", defArgs (topS 58), defBody (topS 58), defScope (topS 58), [], []⟩
def dd66 : He.DefD := ⟨("_law_whole", none), "_law_whole", "_law_whole", defArgs (topS 59), defBody (topS 59), defScope (topS 59), [], []⟩
def dd67 : He.DefD := ⟨("law", none), "law", "law", defArgs (topS 60), defBody (topS 60), defScope (topS 60), [], []⟩
def dd68 : He.DefD := ⟨("Share", some "__add__"), "__add__", "Share.__add__", defArgs (inC 12 1), defBody (inC 12 1), defScope (inC 12 1), [], []⟩
def fnL0 : List He.DefD := [dd0, dd1, dd2, dd3, dd4, dd5, dd6, dd7, dd8, dd9, dd10, dd11, dd12, dd13, dd14, dd15, dd16, dd17, dd18, dd19, dd20, dd21, dd22, dd23, dd24, dd25, dd26, dd27, dd28, dd29]
def fnL1 : List He.DefD := [dd30, dd31, dd32, dd33, dd34, dd35, dd36, dd37, dd38, dd39, dd40, dd41, dd42, dd43, dd44, dd45, dd46, dd47, dd48, dd49, dd50, dd51, dd52, dd53, dd54, dd55, dd56, dd57, dd58, dd59]
def fnL2 : List He.DefD := [dd60, dd61, dd62, dd63, dd64, dd65, dd66, dd67, dd68]
def fnL : List He.DefD := fnL0 ++ fnL1 ++ fnL2
def faL0 : List He.Fa := [.glo "greatest_divisor", .glo "least_multiple", .glo "power", .cls "Share", .glo "Share", .mkr "Share", .meth "Share" "__add__", .meth "Share" "by", .meth "Share" "is_below", .noat "Share" "over", .noat "Share" "under", .glo "lesser_of", .glo "at_most_one", .glo "sum_of", .glo "_powers", .glo "_choices", .glo "_kinds", .glo "_counts", .glo "_one_more", .cls "Far", .glo "Far", .mkr "Far", .meth "Far" "letters", .meth "Far" "counts_of", .meth "Far" "share_of", .meth "Far" "parts_at", .meth "Far" "worth_at", .noat "Far" "weights", .noat "Far" "length", .noat "Far" "whole"]
def faL1 : List He.Fa := [.noat "Far" "_powers", .glo "_table", .cls "FarMarking", .glo "FarMarking", .mkr "FarMarking", .meth "FarMarking" "write", .meth "FarMarking" "accuses", .meth "FarMarking" "_check", .meth "FarMarking" "_text_at", .meth "FarMarking" "_place_of", .noat "FarMarking" "far", .noat "FarMarking" "ring", .noat "FarMarking" "_arcs", .noat "FarMarking" "_rests", .noat "FarMarking" "_arced", .glo "_is_integer", .cls "Table", .glo "Table", .mkr "Table", .meth "Table" "texts", .meth "Table" "weight_of", .meth "Table" "share_of", .noat "Table" "weights", .noat "Table" "whole", .cls "Machine", .glo "Machine", .mkr "Machine", .meth "Machine" "all_weights", .meth "Machine" "texts", .meth "Machine" "weight_of"]
def faL2 : List He.Fa := [.meth "Machine" "share_of", .noat "Machine" "alphabet", .noat "Machine" "start", .noat "Machine" "rows", .noat "Machine" "length", .noat "Machine" "unit", .noat "Machine" "whole", .noat "Machine" "weights", .glo "plain_worth", .glo "_is_below", .cls "Makers", .glo "Makers", .mkr "Makers", .meth "Makers" "_step", .meth "Makers" "_point", .meth "Makers" "write", .meth "Makers" "who", .noat "Makers" "source", .noat "Makers" "many", .noat "Makers" "ring", .noat "Makers" "_sum", .noat "Makers" "_arc", .noat "Makers" "_rest", .glo "_law_stream", .glo "_law_draw", .glo "_law_lowest", .glo "_law_is_whole", .glo "_law_is_share", .glo "_law_powers", .glo "_law_counts"]
def faL3 : List He.Fa := [.glo "_law_all_powers", .glo "_law_weight", .glo "_law_ring", .glo "_law_plan", .glo "_law_under", .glo "_law_layout", .glo "_law_is_far_text", .glo "_law_holds", .glo "_law_texts", .glo "_law_case", .glo "_law_level", .glo "_law_keys", .glo "_law_shares_fit", .glo "_law_key_fits", .glo "_law_whole", .glo "law", .free "abs", .free "any", .free "bool", .free "dict", .free "enumerate", .free "int", .free "isinstance", .free "len", .free "list", .free "max", .free "min", .free "range", .free "reversed", .free "sorted"]
def faL4 : List He.Fa := [.free "str", .free "sum", .free "tuple", .free "zip", .str "LETTERS" "abc", .int "MOST" 6, .meth "Share" "__add__"]
def faL : List He.Fa := faL0 ++ faL1 ++ faL2 ++ faL3 ++ faL4
def looseL0 : List Str := ["_wall", "MarkError", "InvalidNumber", "InvalidPair", "InvalidKey", "NoMaker", "greatest_divisor", "least_multiple", "power", "Share", "lesser_of", "at_most_one", "sum_of", "LETTERS", "_powers", "_choices", "_kinds", "_counts", "_one_more", "Far", "_table", "FarMarking", "_is_integer", "_text_at", "Table", "Machine", "plain_worth", "MOST", "_is_below", "Makers"]
def looseL1 : List Str := ["_law_stream", "_law_draw", "_law_lowest", "_law_is_whole", "_law_is_share", "_law_powers", "_law_counts", "_law_all_powers", "_law_weight", "_law_ring", "_law_plan", "_law_under", "_law_layout", "_law_is_far_text", "_law_holds", "_law_texts", "_law_case", "_law_level", "_law_keys", "_law_shares_fit", "_law_key_fits", "_law_whole"]
def looseL : List Str := looseL0 ++ looseL1

/-! ### the Hook: what is looked at, by the addresses that the top's run gives -/
def as0 : List Addr := [3, 31, 51, 70, 89, 108, 197, 301, 374, 437, 489, 563, 30, 50, 69, 88, 107, 196, 300, 373, 436, 488, 562, 525, 117, 124, 131, 208, 215, 222, 229, 236, 243, 248, 255, 310, 385, 392, 498, 505]
def as1 : List Addr := [574, 581, 588, 595, 602, 609, 616, 621, 628, 635, 642, 649, 656, 663, 670, 675, 680, 687, 694, 701, 708, 713, 720, 48, 67, 86, 105, 145, 152, 159, 166, 173, 180, 187, 194, 267, 274, 279, 286, 293]
def as2 : List Addr := [298, 322, 329, 336, 343, 350, 357, 364, 371, 406, 413, 420, 427, 434, 453, 458, 465, 472, 479, 486, 517, 532, 539, 546, 553, 560, 524, 20, 116, 123, 130, 207, 214, 221, 228, 235, 242, 247, 254, 309]
def as3 : List Addr := [384, 391, 497, 504, 573, 580, 587, 594, 601, 608, 615, 620, 627, 634, 641, 648, 655, 662, 669, 674, 679, 686, 693, 700, 707, 712, 719, 47, 66, 85, 104, 144, 151, 158, 165, 172, 179, 186, 193, 266]
def as4 : List Addr := [273, 278, 285, 292, 297, 321, 328, 335, 342, 349, 356, 363, 370, 405, 412, 419, 426, 433, 452, 457, 464, 471, 478, 485, 516, 531, 538, 545, 552, 559, 523]
def asL : List Addr := as0 ++ as1 ++ as2 ++ as3 ++ as4
abbrev AlY : Type := He.AlX × He.FnW
def obsY (g : Addr → Option Obj) : AlY := ((He.obsT faL fnL [] (He.frT g asL), exL (He.frT g asL) && He.tabsB g tfL (He.frT g asL)), fnWa (He.frT g asL) (geA (He.frT g asL)))
theorem saysY_of {w : World} {h : Heap} (e : obsY h.get? = (He.valX fnL [] w, valG)) : He.SaysX faL fnL [] tfL exL w h (He.frT h.get? asL) ∧ fnWa (He.frT h.get? asL) (geA (He.frT h.get? asL)) = valG := by
  have e0 := congrArg (fun z : AlY => z.1) e
  have e1 : He.obsT faL fnL [] (He.frT h.get? asL) = He.valT fnL [] w := congrArg (fun z : He.AlX => z.1) e0
  have e2 : (exL (He.frT h.get? asL) && He.tabsB h.get? tfL (He.frT h.get? asL)) = true := congrArg (fun z : He.AlX => z.2) e0
  obtain ⟨h1, h2⟩ := He.ba e2
  have tab : ∀ p ∈ tfL, PySem.W.codeHdIn (He.frT h.get? asL) (He.cT (He.frT h.get? asL) p).1 (He.cT (He.frT h.get? asL) p).2 = true ∧ ∃ o, h.get? (He.cT (He.frT h.get? asL) p).2 = some o ∧ He.emptyTab o = true := by
    intro p hp
    obtain ⟨h3, h4⟩ := He.ba (List.all_eq_true.mp h2 p hp)
    cases q : h.get? (He.cT (He.frT h.get? asL) p).2 with
    | none => rw [q] at h4; cases h4
    | some o => rw [q] at h4; exact ⟨h3, o, rfl, h4⟩
  refine ⟨⟨e1, h1, fun p hp => (tab p hp).1, fun p hp => ?_, fun p hp => ?_⟩, congrArg (fun z : AlY => z.2) e⟩
  · obtain ⟨_, o, q, z⟩ := tab p hp
    exact He.frT_none q z
  · obtain ⟨_, o, q, z⟩ := tab p hp
    rw [q, He.emptyTab_eq z]
def hookY : PySem.W.Hook where
  α := AlY
  obs := fun s => obsY s.heap.get?
  val := fun w => (He.valX fnL [] w, valG)
  says := fun w h => ∃ K : PySem.W.Frag, K.In h ∧ He.SaysX faL fnL [] tfL exL w h K ∧ fnWa K (geA K) = valG
  of := fun _ _ e => ⟨_, He.frT_in, saysY_of e⟩
  keeps := fun _ _ _ ⟨K, hK, c, z⟩ k => ⟨K, PySem.W.Frag.In.keeps hK k, ⟨c.t, c.more, c.hd, c.out, fun p hp => k _ _ (c.empty p hp)⟩, z⟩
theorem obsY_eq {g : Addr → Option Obj} {s : Shared} (h : ∀ a, g a = s.heap.get? a) : obsY g = hookY.obs s := by
  have e : g = s.heap.get? := funext h
  rw [e]
  rfl
/-! ### the facts of the text -/
section
variable {K : PySem.W.Frag} {w : World} {h : Heap} {mg : Str → Option Value}
theorem fun_ofD {x qual : Str} {st : Stmt} {f : Addr} {fd : FuncData} {kws : List (Str × V)} (F : FunD K x qual (defArgs st) (defBody st) (defScope st) [] kws f fd) : Fun K x qual st f fd := by
  obtain ⟨oc, od, dV, kV, doc, pm, an, cdv, ct, osl, e, l, c, hd, _⟩ := F.ex
  rcases hd with ⟨_, e2⟩ | ⟨e2, _⟩
  · subst e2
    exact ⟨⟨oc, od, kV, doc, pm, an, cdv, ct, osl, e, l, c⟩, F.kp⟩
  · exact absurd rfl e2
theorem fact_at (c : He.SaysX faL fnL [] tfL exL w h K) (i : Nat) {f : He.Fa} (e : faL[i]? = some f) : f.ok K = true := c.t.d.fact i e
theorem def_at (c : He.SaysX faL fnL [] tfL exL w h K) (i : Nat) {d : He.DefD} (e : fnL[i]? = some d) : ∃ fd, FunD K d.name d.qual d.params d.body d.scope (d.dvs K) (d.kws K) (He.fAd K d.at_) fd := c.t.d.def_ i e
abbrev Bnd (x qual : Str) (st : Stmt) (ps : List Str) : Prop := ∀ (kV doc pm : Value) (an : Option Addr) (cdv ct : Value) (us : List Value), us.length = ps.length → bindArgs (PySem.W.fnOf x qual (defArgs st) (defBody st) (defScope st) .none kV doc pm an cdv ct) ⟨us, []⟩ = pure (ps.zip us)
theorem df_of {x : Str} {st : Stmt} {ps : List Str} (X : K.In h) (G : h.Ns mainGlobals mg) (hf : (He.Fa.glo x).ok K = true) (hd : ∃ fd, FunD K x x (defArgs st) (defBody st) (defScope st) [] [] (He.ga K x) fd) (hb : Bnd x x st ps) : Df K mg x st ps := by
  obtain ⟨fd, F⟩ := hd
  exact ⟨⟨_, fd, fun_ofD F, He.glo_ok X G hf, (fun_ofD F).binds hb⟩⟩
theorem dm_of {C x qual : Str} {st : Stmt} {ps : List Str} (hf : (He.Fa.meth C x).ok K = true) (hd : ∃ fd, FunD K x qual (defArgs st) (defBody st) (defScope st) [] [] (He.ma K (He.ga K C) x) fd) (hb : Bnd x qual st ps) : Dm K (He.ga K C) x qual st ps := by
  obtain ⟨fd, F⟩ := hd
  exact ⟨⟨_, fd, fun_ofD F, He.meth_ok hf, (fun_ofD F).binds hb⟩⟩
theorem dk_of {C qual : Str} {st : Stmt} {ps : List Str} (hf : (He.Fa.mkr C).ok K = true) (hd : ∃ fd, FunD K "__init__" qual (defArgs st) (defBody st) (defScope st) [] [] (He.ma K (He.ga K C) "__init__") fd) (hb : Bnd "__init__" qual st ps) : Dk K (He.ga K C) qual st ps := by
  obtain ⟨fd, F⟩ := hd
  exact ⟨⟨_, fd, fun_ofD F, He.mkr_ok hf, (fun_ofD F).binds hb⟩⟩
theorem x_i_cS (c : exL K = true) : PySem.W.findIn K (.ref (He.ga K "Share")) "__class__" = some (some (.builtin "object.__class__")) ∧ PySem.W.specialIn K (.builtin "object.__class__") "__get__" = some (some (.builtin "getset_descriptor.__get__")) ∧ PySem.W.takesIn K (.builtin "object.__class__") = some true ∧ PySem.W.mroIn K (He.ga K "Share") (.type "object") = some true ∧ PySem.W.kitOne K (.ref (He.ga K "Share")) (.ref (He.ga K "Share")) = some true := by
  obtain ⟨c, _⟩ := He.ba c
  obtain ⟨c1, c⟩ := He.ba c
  obtain ⟨c2, c⟩ := He.ba c
  obtain ⟨c3, c⟩ := He.ba c
  obtain ⟨c4, c5⟩ := He.ba c
  exact ⟨He.eqO_ok c1, He.eqO_ok c2, of_decide_eq_true c3, of_decide_eq_true c4, of_decide_eq_true c5⟩
theorem x_p_cK (c : exL K = true) (z : fnWa K (geA K) = valG) : ∃ p g fd, PropOf K (He.ga K "Makers") "arcs" p g ∧ Fun K "arcs" "Makers.arcs" (inC 36 1) g fd ∧ Binds K fd ["self"] [] := by
  obtain ⟨_, c⟩ := He.ba c
  obtain ⟨c, _⟩ := He.ba c
  obtain ⟨c1, c⟩ := He.ba c
  obtain ⟨c2, c⟩ := He.ba c
  obtain ⟨c3, c⟩ := He.ba c
  obtain ⟨c4, c⟩ := He.ba c
  obtain ⟨c5, c6⟩ := He.ba c
  have hr : ∃ rest, PySem.W.recIn K (prA K) "property" = some (.ref (geA K) :: rest) := by
    unfold recB at c4
    unfold geA
    split at c4
    · rename_i g rest e
      exact ⟨rest, by rw [e]⟩
    · cases c4
  have hF : ∃ fd, Fun K "arcs" "Makers.arcs" (inC 36 1) (geA K) fd := by
    unfold getB at c6
    unfold fnWa at z
    split at c6
    · rename_i oc od fd sl q
      rw [q] at z
      obtain ⟨n1, n2, n3, n4, n5, n6, n7, n8, n9, n10, n11, n12, n13, n14, n15⟩ := fd
      have e2 : (some (n1, n2, n3, n4, n5, n6, n7, n15) : He.FnW) = valG := z
      unfold valG at e2
      simp only [Option.some.injEq, Prod.mk.injEq] at e2
      obtain ⟨h1, h2, h3, h4, h5, h6, h7, h8⟩ := e2
      subst h1 h2 h3 h4 h5 h6 h7 h8
      obtain ⟨k1, k2⟩ := He.ba c6
      have k3 : n8 = .none := by
        have k2 : He.dflB K n8 [] = true := k2
        cases n8 with
        | none => rfl
        | _ => exact (Bool.false_ne_true k2).elim
      subst k3
      exact ⟨_, ⟨oc, od, n9, n10, n11, n12, n13, n14, sl, rfl, q, k1⟩, c5⟩
    · cases c6
  obtain ⟨fd, F⟩ := hF
  exact ⟨prA K, geA K, fd, ⟨He.eqO_ok c1, He.eqO_ok c2, of_decide_eq_true c3, hr⟩, F, F.binds fun _ _ _ _ _ _ us hl => match us, hl with | [_], _ => rfl⟩
theorem x_o_cS (c : He.SaysX faL fnL [] tfL exL w h K) : ∃ f fd, Fun K "__add__" "Share.__add__" (inC 12 1) f fd ∧ PySem.W.findIn K (.ref (He.ga K "Share")) (PySem.dunder Operator.Add.info.2) = some (some (.ref f)) ∧ PySem.W.isFn K (.ref f) = true ∧ PySem.W.selfFirst K (He.ga K "Share") = true ∧ Binds K fd ["self", "other"] [] := by
  obtain ⟨fd, F⟩ := def_at c 68 (d := dd68) rfl
  have M := He.meth_ok (fact_at c 126 (f := .meth "Share" "__add__") rfl)
  have F2 : Fun K "__add__" "Share.__add__" (inC 12 1) (He.ma K (He.ga K "Share") "__add__") fd := fun_ofD F
  exact ⟨_, fd, F2, M.at_, M.fn, (He.ba (He.ba c.more).2).2, F2.binds fun _ _ _ _ _ _ us hl => match us, hl with | [_, _], _ => rfl⟩
theorem txt_of (X : K.In h) (G : h.Ns mainGlobals mg) (c : He.SaysX faL fnL [] tfL exL w h K) (z : fnWa K (geA K) = valG) : Txt K mg (He.ga K "Share") (He.ga K "Far") (He.ga K "FarMarking") (He.ga K "Table") (He.ga K "Machine") (He.ga K "Makers") where
  d_greatest_divisor := df_of X G (fact_at c 0 (f := .glo "greatest_divisor") rfl) (def_at c 0 (d := dd0) rfl) (fun _ _ _ _ _ _ us hl => match us, hl with | [_, _], _ => rfl)
  d_least_multiple := df_of X G (fact_at c 1 (f := .glo "least_multiple") rfl) (def_at c 1 (d := dd1) rfl) (fun _ _ _ _ _ _ us hl => match us, hl with | [_, _], _ => rfl)
  d_power := df_of X G (fact_at c 2 (f := .glo "power") rfl) (def_at c 2 (d := dd2) rfl) (fun _ _ _ _ _ _ us hl => match us, hl with | [_, _], _ => rfl)
  l_cS := He.cls_ok (fact_at c 3 (f := .cls "Share") rfl)
  g_cS := He.glo_ok X G (fact_at c 4 (f := .glo "Share") rfl)
  k_cS := dk_of (fact_at c 5 (f := .mkr "Share") rfl) (def_at c 3 (d := dd3) rfl) (fun _ _ _ _ _ _ us hl => match us, hl with | [_, _, _], _ => rfl)
  m_cS_add := dm_of (fact_at c 6 (f := .meth "Share" "__add__") rfl) (def_at c 4 (d := dd4) rfl) (fun _ _ _ _ _ _ us hl => match us, hl with | [_, _], _ => rfl)
  m_cS_by := dm_of (fact_at c 7 (f := .meth "Share" "by") rfl) (def_at c 5 (d := dd5) rfl) (fun _ _ _ _ _ _ us hl => match us, hl with | [_, _], _ => rfl)
  m_cS_is_below := dm_of (fact_at c 8 (f := .meth "Share" "is_below") rfl) (def_at c 6 (d := dd6) rfl) (fun _ _ _ _ _ _ us hl => match us, hl with | [_, _], _ => rfl)
  n_cS_over := He.noat_ok (fact_at c 9 (f := .noat "Share" "over") rfl)
  n_cS_under := He.noat_ok (fact_at c 10 (f := .noat "Share" "under") rfl)
  d_lesser_of := df_of X G (fact_at c 11 (f := .glo "lesser_of") rfl) (def_at c 7 (d := dd7) rfl) (fun _ _ _ _ _ _ us hl => match us, hl with | [_, _], _ => rfl)
  d_at_most_one := df_of X G (fact_at c 12 (f := .glo "at_most_one") rfl) (def_at c 8 (d := dd8) rfl) (fun _ _ _ _ _ _ us hl => match us, hl with | [_], _ => rfl)
  d_sum_of := df_of X G (fact_at c 13 (f := .glo "sum_of") rfl) (def_at c 9 (d := dd9) rfl) (fun _ _ _ _ _ _ us hl => match us, hl with | [_], _ => rfl)
  d_powers := df_of X G (fact_at c 14 (f := .glo "_powers") rfl) (def_at c 10 (d := dd10) rfl) (fun _ _ _ _ _ _ us hl => match us, hl with | [_, _], _ => rfl)
  d_choices := df_of X G (fact_at c 15 (f := .glo "_choices") rfl) (def_at c 11 (d := dd11) rfl) (fun _ _ _ _ _ _ us hl => match us, hl with | [_], _ => rfl)
  d_kinds := df_of X G (fact_at c 16 (f := .glo "_kinds") rfl) (def_at c 12 (d := dd12) rfl) (fun _ _ _ _ _ _ us hl => match us, hl with | [_, _], _ => rfl)
  d_counts := df_of X G (fact_at c 17 (f := .glo "_counts") rfl) (def_at c 13 (d := dd13) rfl) (fun _ _ _ _ _ _ us hl => match us, hl with | [_, _], _ => rfl)
  d_one_more := df_of X G (fact_at c 18 (f := .glo "_one_more") rfl) (def_at c 14 (d := dd14) rfl) (fun _ _ _ _ _ _ us hl => match us, hl with | [_, _], _ => rfl)
  l_cF := He.cls_ok (fact_at c 19 (f := .cls "Far") rfl)
  g_cF := He.glo_ok X G (fact_at c 20 (f := .glo "Far") rfl)
  k_cF := dk_of (fact_at c 21 (f := .mkr "Far") rfl) (def_at c 15 (d := dd15) rfl) (fun _ _ _ _ _ _ us hl => match us, hl with | [_, _, _], _ => rfl)
  m_cF_letters := dm_of (fact_at c 22 (f := .meth "Far" "letters") rfl) (def_at c 16 (d := dd16) rfl) (fun _ _ _ _ _ _ us hl => match us, hl with | [_], _ => rfl)
  m_cF_counts_of := dm_of (fact_at c 23 (f := .meth "Far" "counts_of") rfl) (def_at c 17 (d := dd17) rfl) (fun _ _ _ _ _ _ us hl => match us, hl with | [_, _], _ => rfl)
  m_cF_share_of := dm_of (fact_at c 24 (f := .meth "Far" "share_of") rfl) (def_at c 18 (d := dd18) rfl) (fun _ _ _ _ _ _ us hl => match us, hl with | [_, _], _ => rfl)
  m_cF_parts_at := dm_of (fact_at c 25 (f := .meth "Far" "parts_at") rfl) (def_at c 19 (d := dd19) rfl) (fun _ _ _ _ _ _ us hl => match us, hl with | [_, _], _ => rfl)
  m_cF_worth_at := dm_of (fact_at c 26 (f := .meth "Far" "worth_at") rfl) (def_at c 20 (d := dd20) rfl) (fun _ _ _ _ _ _ us hl => match us, hl with | [_, _], _ => rfl)
  n_cF_weights := He.noat_ok (fact_at c 27 (f := .noat "Far" "weights") rfl)
  n_cF_length := He.noat_ok (fact_at c 28 (f := .noat "Far" "length") rfl)
  n_cF_whole := He.noat_ok (fact_at c 29 (f := .noat "Far" "whole") rfl)
  n_cF_powers := He.noat_ok (fact_at c 30 (f := .noat "Far" "_powers") rfl)
  d_table := df_of X G (fact_at c 31 (f := .glo "_table") rfl) (def_at c 21 (d := dd21) rfl) (fun _ _ _ _ _ _ us hl => match us, hl with | [_, _], _ => rfl)
  l_cG := He.cls_ok (fact_at c 32 (f := .cls "FarMarking") rfl)
  g_cG := He.glo_ok X G (fact_at c 33 (f := .glo "FarMarking") rfl)
  k_cG := dk_of (fact_at c 34 (f := .mkr "FarMarking") rfl) (def_at c 22 (d := dd22) rfl) (fun _ _ _ _ _ _ us hl => match us, hl with | [_, _, _], _ => rfl)
  m_cG_write := dm_of (fact_at c 35 (f := .meth "FarMarking" "write") rfl) (def_at c 23 (d := dd23) rfl) (fun _ _ _ _ _ _ us hl => match us, hl with | [_, _], _ => rfl)
  m_cG_accuses := dm_of (fact_at c 36 (f := .meth "FarMarking" "accuses") rfl) (def_at c 24 (d := dd24) rfl) (fun _ _ _ _ _ _ us hl => match us, hl with | [_, _, _], _ => rfl)
  m_cG_check := dm_of (fact_at c 37 (f := .meth "FarMarking" "_check") rfl) (def_at c 25 (d := dd25) rfl) (fun _ _ _ _ _ _ us hl => match us, hl with | [_, _], _ => rfl)
  m_cG_text_at := dm_of (fact_at c 38 (f := .meth "FarMarking" "_text_at") rfl) (def_at c 26 (d := dd26) rfl) (fun _ _ _ _ _ _ us hl => match us, hl with | [_, _, _], _ => rfl)
  m_cG_place_of := dm_of (fact_at c 39 (f := .meth "FarMarking" "_place_of") rfl) (def_at c 27 (d := dd27) rfl) (fun _ _ _ _ _ _ us hl => match us, hl with | [_, _, _], _ => rfl)
  n_cG_far := He.noat_ok (fact_at c 40 (f := .noat "FarMarking" "far") rfl)
  n_cG_ring := He.noat_ok (fact_at c 41 (f := .noat "FarMarking" "ring") rfl)
  n_cG_arcs := He.noat_ok (fact_at c 42 (f := .noat "FarMarking" "_arcs") rfl)
  n_cG_rests := He.noat_ok (fact_at c 43 (f := .noat "FarMarking" "_rests") rfl)
  n_cG_arced := He.noat_ok (fact_at c 44 (f := .noat "FarMarking" "_arced") rfl)
  d_is_integer := df_of X G (fact_at c 45 (f := .glo "_is_integer") rfl) (def_at c 28 (d := dd28) rfl) (fun _ _ _ _ _ _ us hl => match us, hl with | [_], _ => rfl)
  l_cT := He.cls_ok (fact_at c 46 (f := .cls "Table") rfl)
  g_cT := He.glo_ok X G (fact_at c 47 (f := .glo "Table") rfl)
  k_cT := dk_of (fact_at c 48 (f := .mkr "Table") rfl) (def_at c 29 (d := dd29) rfl) (fun _ _ _ _ _ _ us hl => match us, hl with | [_, _], _ => rfl)
  m_cT_texts := dm_of (fact_at c 49 (f := .meth "Table" "texts") rfl) (def_at c 30 (d := dd30) rfl) (fun _ _ _ _ _ _ us hl => match us, hl with | [_], _ => rfl)
  m_cT_weight_of := dm_of (fact_at c 50 (f := .meth "Table" "weight_of") rfl) (def_at c 31 (d := dd31) rfl) (fun _ _ _ _ _ _ us hl => match us, hl with | [_, _], _ => rfl)
  m_cT_share_of := dm_of (fact_at c 51 (f := .meth "Table" "share_of") rfl) (def_at c 32 (d := dd32) rfl) (fun _ _ _ _ _ _ us hl => match us, hl with | [_, _], _ => rfl)
  n_cT_weights := He.noat_ok (fact_at c 52 (f := .noat "Table" "weights") rfl)
  n_cT_whole := He.noat_ok (fact_at c 53 (f := .noat "Table" "whole") rfl)
  l_cM := He.cls_ok (fact_at c 54 (f := .cls "Machine") rfl)
  g_cM := He.glo_ok X G (fact_at c 55 (f := .glo "Machine") rfl)
  k_cM := dk_of (fact_at c 56 (f := .mkr "Machine") rfl) (def_at c 33 (d := dd33) rfl) (fun _ _ _ _ _ _ us hl => match us, hl with | [_, _, _, _, _], _ => rfl)
  m_cM_all_weights := dm_of (fact_at c 57 (f := .meth "Machine" "all_weights") rfl) (def_at c 34 (d := dd34) rfl) (fun _ _ _ _ _ _ us hl => match us, hl with | [_], _ => rfl)
  m_cM_texts := dm_of (fact_at c 58 (f := .meth "Machine" "texts") rfl) (def_at c 35 (d := dd35) rfl) (fun _ _ _ _ _ _ us hl => match us, hl with | [_], _ => rfl)
  m_cM_weight_of := dm_of (fact_at c 59 (f := .meth "Machine" "weight_of") rfl) (def_at c 36 (d := dd36) rfl) (fun _ _ _ _ _ _ us hl => match us, hl with | [_, _], _ => rfl)
  m_cM_share_of := dm_of (fact_at c 60 (f := .meth "Machine" "share_of") rfl) (def_at c 37 (d := dd37) rfl) (fun _ _ _ _ _ _ us hl => match us, hl with | [_, _], _ => rfl)
  n_cM_alphabet := He.noat_ok (fact_at c 61 (f := .noat "Machine" "alphabet") rfl)
  n_cM_start := He.noat_ok (fact_at c 62 (f := .noat "Machine" "start") rfl)
  n_cM_rows := He.noat_ok (fact_at c 63 (f := .noat "Machine" "rows") rfl)
  n_cM_length := He.noat_ok (fact_at c 64 (f := .noat "Machine" "length") rfl)
  n_cM_unit := He.noat_ok (fact_at c 65 (f := .noat "Machine" "unit") rfl)
  n_cM_whole := He.noat_ok (fact_at c 66 (f := .noat "Machine" "whole") rfl)
  n_cM_weights := He.noat_ok (fact_at c 67 (f := .noat "Machine" "weights") rfl)
  d_plain_worth := df_of X G (fact_at c 68 (f := .glo "plain_worth") rfl) (def_at c 38 (d := dd38) rfl) (fun _ _ _ _ _ _ us hl => match us, hl with | [_, _], _ => rfl)
  d_is_below := df_of X G (fact_at c 69 (f := .glo "_is_below") rfl) (def_at c 39 (d := dd39) rfl) (fun _ _ _ _ _ _ us hl => match us, hl with | [_, _], _ => rfl)
  l_cK := He.cls_ok (fact_at c 70 (f := .cls "Makers") rfl)
  g_cK := He.glo_ok X G (fact_at c 71 (f := .glo "Makers") rfl)
  k_cK := dk_of (fact_at c 72 (f := .mkr "Makers") rfl) (def_at c 40 (d := dd40) rfl) (fun _ _ _ _ _ _ us hl => match us, hl with | [_, _, _, _], _ => rfl)
  m_cK_step := dm_of (fact_at c 73 (f := .meth "Makers" "_step") rfl) (def_at c 41 (d := dd41) rfl) (fun _ _ _ _ _ _ us hl => match us, hl with | [_, _], _ => rfl)
  m_cK_point := dm_of (fact_at c 74 (f := .meth "Makers" "_point") rfl) (def_at c 42 (d := dd42) rfl) (fun _ _ _ _ _ _ us hl => match us, hl with | [_, _, _], _ => rfl)
  m_cK_write := dm_of (fact_at c 75 (f := .meth "Makers" "write") rfl) (def_at c 43 (d := dd43) rfl) (fun _ _ _ _ _ _ us hl => match us, hl with | [_, _, _], _ => rfl)
  m_cK_who := dm_of (fact_at c 76 (f := .meth "Makers" "who") rfl) (def_at c 44 (d := dd44) rfl) (fun _ _ _ _ _ _ us hl => match us, hl with | [_, _, _], _ => rfl)
  n_cK_source := He.noat_ok (fact_at c 77 (f := .noat "Makers" "source") rfl)
  n_cK_many := He.noat_ok (fact_at c 78 (f := .noat "Makers" "many") rfl)
  n_cK_ring := He.noat_ok (fact_at c 79 (f := .noat "Makers" "ring") rfl)
  n_cK_sum := He.noat_ok (fact_at c 80 (f := .noat "Makers" "_sum") rfl)
  n_cK_arc := He.noat_ok (fact_at c 81 (f := .noat "Makers" "_arc") rfl)
  n_cK_rest := He.noat_ok (fact_at c 82 (f := .noat "Makers" "_rest") rfl)
  d_law_stream := df_of X G (fact_at c 83 (f := .glo "_law_stream") rfl) (def_at c 45 (d := dd45) rfl) (fun _ _ _ _ _ _ us hl => match us, hl with | [_, _], _ => rfl)
  d_law_draw := df_of X G (fact_at c 84 (f := .glo "_law_draw") rfl) (def_at c 46 (d := dd46) rfl) (fun _ _ _ _ _ _ us hl => match us, hl with | [_, _], _ => rfl)
  d_law_lowest := df_of X G (fact_at c 85 (f := .glo "_law_lowest") rfl) (def_at c 47 (d := dd47) rfl) (fun _ _ _ _ _ _ us hl => match us, hl with | [_, _], _ => rfl)
  d_law_is_whole := df_of X G (fact_at c 86 (f := .glo "_law_is_whole") rfl) (def_at c 48 (d := dd48) rfl) (fun _ _ _ _ _ _ us hl => match us, hl with | [_], _ => rfl)
  d_law_is_share := df_of X G (fact_at c 87 (f := .glo "_law_is_share") rfl) (def_at c 49 (d := dd49) rfl) (fun _ _ _ _ _ _ us hl => match us, hl with | [_, _, _], _ => rfl)
  d_law_powers := df_of X G (fact_at c 88 (f := .glo "_law_powers") rfl) (def_at c 50 (d := dd50) rfl) (fun _ _ _ _ _ _ us hl => match us, hl with | [_, _], _ => rfl)
  d_law_counts := df_of X G (fact_at c 89 (f := .glo "_law_counts") rfl) (def_at c 51 (d := dd51) rfl) (fun _ _ _ _ _ _ us hl => match us, hl with | [_, _], _ => rfl)
  d_law_all_powers := df_of X G (fact_at c 90 (f := .glo "_law_all_powers") rfl) (def_at c 52 (d := dd52) rfl) (fun _ _ _ _ _ _ us hl => match us, hl with | [_, _], _ => rfl)
  d_law_weight := df_of X G (fact_at c 91 (f := .glo "_law_weight") rfl) (def_at c 53 (d := dd53) rfl) (fun _ _ _ _ _ _ us hl => match us, hl with | [_, _], _ => rfl)
  d_law_ring := df_of X G (fact_at c 92 (f := .glo "_law_ring") rfl) (def_at c 54 (d := dd54) rfl) (fun _ _ _ _ _ _ us hl => match us, hl with | [_, _, _], _ => rfl)
  d_law_plan := df_of X G (fact_at c 93 (f := .glo "_law_plan") rfl) (def_at c 55 (d := dd55) rfl) (fun _ _ _ _ _ _ us hl => match us, hl with | [_, _, _], _ => rfl)
  d_law_under := df_of X G (fact_at c 94 (f := .glo "_law_under") rfl) (def_at c 56 (d := dd56) rfl) (fun _ _ _ _ _ _ us hl => match us, hl with | [_, _, _], _ => rfl)
  d_law_layout := df_of X G (fact_at c 95 (f := .glo "_law_layout") rfl) (def_at c 57 (d := dd57) rfl) (fun _ _ _ _ _ _ us hl => match us, hl with | [_, _], _ => rfl)
  d_law_is_far_text := df_of X G (fact_at c 96 (f := .glo "_law_is_far_text") rfl) (def_at c 58 (d := dd58) rfl) (fun _ _ _ _ _ _ us hl => match us, hl with | [_, _], _ => rfl)
  d_law_holds := df_of X G (fact_at c 97 (f := .glo "_law_holds") rfl) (def_at c 59 (d := dd59) rfl) (fun _ _ _ _ _ _ us hl => match us, hl with | [_, _, _], _ => rfl)
  d_law_texts := df_of X G (fact_at c 98 (f := .glo "_law_texts") rfl) (def_at c 60 (d := dd60) rfl) (fun _ _ _ _ _ _ us hl => match us, hl with | [_, _], _ => rfl)
  d_law_case := df_of X G (fact_at c 99 (f := .glo "_law_case") rfl) (def_at c 61 (d := dd61) rfl) (fun _ _ _ _ _ _ us hl => match us, hl with | [_], _ => rfl)
  d_law_level := df_of X G (fact_at c 100 (f := .glo "_law_level") rfl) (def_at c 62 (d := dd62) rfl) (fun _ _ _ _ _ _ us hl => match us, hl with | [_, _, _, _], _ => rfl)
  d_law_keys := df_of X G (fact_at c 101 (f := .glo "_law_keys") rfl) (def_at c 63 (d := dd63) rfl) (fun _ _ _ _ _ _ us hl => match us, hl with | [_, _, _], _ => rfl)
  d_law_shares_fit := df_of X G (fact_at c 102 (f := .glo "_law_shares_fit") rfl) (def_at c 64 (d := dd64) rfl) (fun _ _ _ _ _ _ us hl => match us, hl with | [_, _, _, _, _, _], _ => rfl)
  d_law_key_fits := df_of X G (fact_at c 103 (f := .glo "_law_key_fits") rfl) (def_at c 65 (d := dd65) rfl) (fun _ _ _ _ _ _ us hl => match us, hl with | [_, _, _, _, _], _ => rfl)
  d_law_whole := df_of X G (fact_at c 104 (f := .glo "_law_whole") rfl) (def_at c 66 (d := dd66) rfl) (fun _ _ _ _ _ _ us hl => match us, hl with | [_], _ => rfl)
  d_law := df_of X G (fact_at c 105 (f := .glo "law") rfl) (def_at c 67 (d := dd67) rfl) (fun _ _ _ _ _ _ us hl => match us, hl with | [_], _ => rfl)
  z_abs := He.free_ok X G (fact_at c 106 (f := .free "abs") rfl)
  z_any := He.free_ok X G (fact_at c 107 (f := .free "any") rfl)
  z_bool := He.free_ok X G (fact_at c 108 (f := .free "bool") rfl)
  z_dict := He.free_ok X G (fact_at c 109 (f := .free "dict") rfl)
  z_enumerate := He.free_ok X G (fact_at c 110 (f := .free "enumerate") rfl)
  z_int := He.free_ok X G (fact_at c 111 (f := .free "int") rfl)
  z_isinstance := He.free_ok X G (fact_at c 112 (f := .free "isinstance") rfl)
  z_len := He.free_ok X G (fact_at c 113 (f := .free "len") rfl)
  z_list := He.free_ok X G (fact_at c 114 (f := .free "list") rfl)
  z_max := He.free_ok X G (fact_at c 115 (f := .free "max") rfl)
  z_min := He.free_ok X G (fact_at c 116 (f := .free "min") rfl)
  z_range := He.free_ok X G (fact_at c 117 (f := .free "range") rfl)
  z_reversed := He.free_ok X G (fact_at c 118 (f := .free "reversed") rfl)
  z_sorted := He.free_ok X G (fact_at c 119 (f := .free "sorted") rfl)
  z_str := He.free_ok X G (fact_at c 120 (f := .free "str") rfl)
  z_sum := He.free_ok X G (fact_at c 121 (f := .free "sum") rfl)
  z_tuple := He.free_ok X G (fact_at c 122 (f := .free "tuple") rfl)
  z_zip := He.free_ok X G (fact_at c 123 (f := .free "zip") rfl)
  z_LETTERS := He.str_ok X G (fact_at c 124 (f := .str "LETTERS" "abc") rfl)
  z_MOST := He.int_ok X G (fact_at c 125 (f := .int "MOST" 6) rfl)
  i_cS := x_i_cS c.more
  p_cK := x_p_cK c.more z
  o_cS := x_o_cS c
theorem cof_of (c : He.SaysX faL fnL [] tfL exL w h K) : DmC K (He.ga K "Far") "counts_of" "Far.counts_of" (inC 23 2) ["self", "text"] (He.codeOf K ("Far", some "counts_of")) := by
  obtain ⟨fd, F⟩ := def_at c 17 (d := dd17) rfl
  have M := He.meth_ok (fact_at c 23 (f := .meth "Far" "counts_of") rfl)
  have F2 : Fun K "counts_of" "Far.counts_of" (inC 23 2) (He.ma K (He.ga K "Far") "counts_of") fd := fun_ofD F
  have b := F2.binds (ps := ["self", "text"]) fun _ _ _ _ _ _ us hl => match us, hl with | [_, _], _ => rfl
  obtain ⟨oc, od, kV, doc, pm, an, cdv, ct, osl, rfl, l, hc⟩ := F2.ex
  obtain ⟨cc, rfl⟩ := He.codeIn_ref hc
  have e := He.codeOf_eq (p := ("Far", some "counts_of")) l rfl
  rw [e]
  exact ⟨⟨_, _, ⟨⟨oc, od, kV, doc, pm, an, ct, osl, rfl, l, hc⟩⟩, M, b⟩⟩
theorem law_at (X : K.In h) (G : h.Ns mainGlobals mg) {fa : Addr} (hmg : mg "law" = some (.ref fa)) (c : He.SaysX faL fnL [] tfL exL w h K) (z : fnWa K (geA K) = valG) : LamX.LawAtS PySem.Challenge.rw_marktruly_k43_whole_far_as_table w K CX0 9 63 "_law_script" mg fa h := by
  have T := txt_of X G c z
  obtain ⟨f, fd, F, g, _⟩ := T.d_law.ex
  obtain rfl : fa = f := by
    rw [hmg] at g
    exact Value.ref.inj (Option.some.inj g)
  have ht : (("Far", some "counts_of") : He.Defn) ∈ tfL := List.mem_singleton.mpr rfl
  have hd : ∀ (s : Shared) (u : Value), BindsTo s fd ⟨[u], []⟩ [("_law_script", u)] := by
    obtain ⟨oc, od, kV, doc, pm, an, cdv, ct, osl, rfl, l, hc⟩ := F.ex
    exact fun s u => .of_eq rfl
  refine ⟨fd, [He.cT K ("Far", some "counts_of")], spLwhole (He.cT K ("Far", some "counts_of")).2 K, fun p hp => ?_, fun p hp => ?_, fun p hp => ?_, hd, fun H a ns hl _ hH hS => ?_, fun base hK hN hT => ?_⟩
  · rw [List.mem_singleton.mp hp]
    exact c.empty _ ht
  · rw [List.mem_singleton.mp hp]
    exact c.out _ ht
  · rw [List.mem_singleton.mp hp]
    exact PySem.W.codeHd_of_K X (c.hd _ ht)
  · exact law_start (hH _ (List.mem_singleton.mpr rfl)) hS (Nat.lt_of_le_of_lt hl (by decide)) fun _ => rfl
  · have tb := hT _ (List.mem_singleton.mpr rfl)
    exact ok_law T (cof_of c) ⟨tb.code, tb.bm, tb.gP⟩ F
end
end K43
-- part H2
set_option maxHeartbeats 0
/-! H2: the head's run; the law's end. -/
namespace K43
open PySem PySem.W PySem.Calls PyProof.Rows
abbrev Rr : OpenRow := OpenLaw.row PySem.Challenge.rw_marktruly_k43_whole_far_as_table
def obL (s : SharedT) : AlY := obsY (HandSHeadRun.getT s)
theorem obL_eq (s : SharedT) : obL s = hookY.obs s.abs := obsY_eq (HandSHeadRun.getT_eq s)
theorem runL (w : World) : HandSHeadRun.RunEq Rr (view Rr.prog [60]) hookY obL 6000 looseL w := by
  intro os
  kernel_rfl
end K43
open PySem PySem.W PySem.Calls PyProof.Rows
theorem PySem.Challenge.cw_marktruly_k43_whole_far_as_table_holds : PySem.Challenge.rw_marktruly_k43_whole_far_as_table.Holds := by
  w_on; o_law
  refine HandSHeadRun.head_any (r := K43.Rr) (q := view K43.Rr.prog [60]) (H := K43.hookY) (ob := K43.obL) (M := 6000) (loose := K43.looseL) (d := HandSHeadRun.topDef K43.Rr.prog 60) (kwd := []) K43.obL_eq
    (by kernel_rfl) (fun s => by kernel_rfl) K43.runL (by kernel_rfl) (by kernel_rfl) (by kernel_rfl) (by rfl) (by first | assumption | decide +kernel) (by decide +kernel) ⟨rfl, rfl, rfl, rfl, rfl, by decide +kernel⟩ ?hw ?hc
  case hw => w_witness2
  case hc =>
    refine LamX.walk_ofTsE (l := PySem.Challenge.rw_marktruly_k43_whole_far_as_table) (n := 63) (k := 9) (x := "_law_script") (CX := fun _ => L2.CX0) rfl (by decide) (by kernel_rfl) ⟨rfl, by decide, by decide⟩ ?F (fun _ _ _ _ _ z => z)
    intro w mg fa h Y G hmg0
    obtain ⟨K, KX, c, z⟩ := Y
    have hmg : mg ("law" : PySem.Str) = some (.ref fa) := by
      have e : (HandSHeadRun.topDef K43.Rr.prog 60).name = ("law" : PySem.Str) := by kernel_rfl
      rw [← e]
      exact hmg0
    exact ⟨K, KX, K43.law_at KX G hmg c z⟩
