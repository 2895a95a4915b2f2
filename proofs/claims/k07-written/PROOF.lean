import PyProof.Rows.All
import Wide.All
import OpenK.AllK
import Wide.FinOn
import HandS.ForMost
import HandS.ForExc
import HandS.IsInst
import HandS.Conv
import HandS.SortInts
import HandS.SetFor
import HandS.More
import HandS.Style
import HandS.Zip
import HandS.Codes
import HandS.ExcIs
import HandS.CallLocal
import HandS.StrMore
import PySem.Challenge.RW_backorder_k07_written
import HandS.Comp
import HandS.SuiteRaise
import HandS.RaiseMore
import HandS.Iter
import HandS.ExcValue
import HandS.Text
import PyProof.Rows.StrCut
import PyProof.Rows.StrSplitJoin
import PyProof.Rows.StrSplitCount
import HandS.ExcBuiltin
set_option Elab.async false
set_option linter.all false
set_option maxRecDepth 100000
set_option maxHeartbeats 4000000
namespace Bo
open PySem PySem.Spec PyProof.Rows L2

/-! ### defs, methods, classes of the text; what they promise -/
/-- a def of the module under its name -/
structure Df (K : PySem.W.Frag) (mg : Str → Option Value) (x : Str) (st : Stmt) (ps : List Str) : Prop where
  ex : ∃ (f : Addr) (fd : FuncData), mg x = some (.ref f) ∧ L2.Fun K x x st f fd ∧ Binds K fd ps []
/-- a method of the class at C -/
structure Dm (K : PySem.W.Frag) (C : Addr) (m qual : Str) (st : Stmt) (ps : List Str) : Prop where
  ex : ∃ (f : Addr) (fd : FuncData), Cls K C ∧ Meth K C m f ∧ L2.Fun K m qual st f fd ∧ Binds K fd ps []
/-- a class with an __init__ -/
structure Dk (K : PySem.W.Frag) (mg : Str → Option Value) (x : Str) (C : Addr) (qual : Str) (st : Stmt) (ps : List Str) : Prop where
  ex : ∃ (f : Addr) (fd : FuncData), mg x = some (.ref C) ∧ L2.Mk K C f ∧ L2.Fun K "__init__" qual st f fd ∧ Binds K fd ps []
section
variable {P : Program} {w : World} {K : PySem.W.Frag} {mg : Str → Option Value} {base : Heap}
structure Cc (P : Program) (w : World) (K : PySem.W.Frag) (mg : Str → Option Value) (base : Heap) (k : Nat) (x : Str) (sp : Sp) : Prop where
  ex : ∃ (f : Addr) (fd : FuncData) (ps : List Str), FnOk P w K mg base L2.CX0 k f fd ps sp ∧ mg x = some (.ref f) ∧ PySem.W.keepIn K (.ref f) = true ∧ Binds K fd ps []
structure Cm (P : Program) (w : World) (K : PySem.W.Frag) (mg : Str → Option Value) (base : Heap) (k : Nat) (C : Addr) (m : Str) (sp : Sp) : Prop where
  ex : ∃ (f : Addr) (fd : FuncData) (ps : List Str), Cls K C ∧ Meth K C m f ∧ FnOk P w K mg base L2.CX0 k f fd ps sp ∧ Binds K fd ps []
structure Ck (P : Program) (w : World) (K : PySem.W.Frag) (mg : Str → Option Value) (base : Heap) (k : Nat) (x : Str) (C : Addr) (sp : Sp) : Prop where
  ex : ∃ (f : Addr) (fd : FuncData) (ps : List Str), L2.Mk K C f ∧ FnOk P w K mg base L2.CX0 k f fd ps sp ∧ mg x = some (.ref C) ∧ Binds K fd ps []
theorem Cc.mk' {x : Str} {st : Stmt} {N ps : List Str} {k : Nat} {sp : Sp} (D : Df K mg x st ps) (S : FnScope N ps (defScope st)) (len : ∀ vs H Q E, sp vs H Q E → vs.length = ps.length)
    (hbody : ∀ (f : Addr) (cdv : Value) (A : Around) (outer : List Env) (s : Shared) (H : Hp) (vs : List V) (Q : VK) (E : XK), Room k (A.deeper (envOfC x (defScope st) s.heap.objs.size f cdv)) → sp vs H Q E →
      ∃ t, PSs (cxOf L2.CX0 P w K mg base N x (defScope st) f cdv A outer s H E).nox (defBody st) t ∧ t { nx := fun _ H' => Q .non H', rt := Q } (start N vs) H) : Cc P w K mg base (k + 1) x sp := by
  obtain ⟨f, fd, h1, F, b⟩ := D.ex
  exact ⟨f, fd, ps, F.ok S len (hbody f), h1, F.kp, b⟩
theorem Cm.mk' {C : Addr} {m qual : Str} {st : Stmt} {N ps : List Str} {k : Nat} {sp : Sp} (D : Dm K C m qual st ps) (S : FnScope N ps (defScope st)) (len : ∀ vs H Q E, sp vs H Q E → vs.length = ps.length)
    (hbody : ∀ (f : Addr) (cdv : Value) (A : Around) (outer : List Env) (s : Shared) (H : Hp) (vs : List V) (Q : VK) (E : XK), Room k (A.deeper (envOfC qual (defScope st) s.heap.objs.size f cdv)) → sp vs H Q E →
      ∃ t, PSs (cxOf L2.CX0 P w K mg base N qual (defScope st) f cdv A outer s H E).nox (defBody st) t ∧ t { nx := fun _ H' => Q .non H', rt := Q } (start N vs) H) : Cm P w K mg base (k + 1) C m sp := by
  obtain ⟨f, fd, c, me, F, b⟩ := D.ex
  exact ⟨f, fd, ps, c, me, F.ok S len (hbody f), b⟩
theorem Ck.mk' {C : Addr} {x qual : Str} {st : Stmt} {N ps : List Str} {k : Nat} {sp : Sp} (D : Dk K mg x C qual st ps) (S : FnScope N ps (defScope st)) (len : ∀ vs H Q E, sp vs H Q E → vs.length = ps.length)
    (hbody : ∀ (f : Addr) (cdv : Value) (A : Around) (outer : List Env) (s : Shared) (H : Hp) (vs : List V) (Q : VK) (E : XK), Room k (A.deeper (envOfC qual (defScope st) s.heap.objs.size f cdv)) → sp vs H Q E →
      ∃ t, PSs (cxOf L2.CX0 P w K mg base N qual (defScope st) f cdv A outer s H E).nox (defBody st) t ∧ t { nx := fun _ H' => Q .non H', rt := Q } (start N vs) H) : Ck P w K mg base (k + 1) x C sp := by
  obtain ⟨f, fd, h1, M, F, b⟩ := D.ex
  exact ⟨f, fd, ps, M, F.ok S len (hbody f), h1, b⟩
end
section
variable {X : Cx} {k : Nat} {C : Addr} {x m : Str} {sp : Sp} {p pos apos : Pos} {e o : Expr} {es : List Expr} {ta : TE} {t : TA}
theorem pe_cc (c : Cc X.prog X.w X.K X.mg X.base k x sp) (hr : Room k X.A) (hg : Gl X x) (ha : PA X (e :: es) t)
    (hdb : (x == ("__debug__" : Str)) = false := by decide) (he : starEach (e :: es) X.env = (false, eval e X.env) :: starEach es X.env := by rfl) (hpl : (backTo pos (starEach es X.env)).any (·.1) = false := by rfl) :
    PE X (.Call (.Name x p) (e :: es) [] pos) (tCall sp [] L2.E0 t) := by
  obtain ⟨f, fd, ps, F, hm, kp, b⟩ := c.ex
  exact pe_call F hr hg hm kp b .nil L2.pass0 ha hdb he hpl
theorem pe_cc0 (c : Cc X.prog X.w X.K X.mg X.base k x sp) (hr : Room k X.A) (hg : Gl X x)
    (hdb : (x == ("__debug__" : Str)) = false := by decide) : PE X (.Call (.Name x p) [] [] pos) (tCall sp [] L2.E0 tNil) := by
  obtain ⟨f, fd, ps, F, hm, kp, b⟩ := c.ex
  exact pe_call0 F hr hg hm kp b .nil L2.pass0 hdb
theorem pe_cm (c : Ck X.prog X.w X.K X.mg X.base k x C sp) (hr : Room (k + 1) X.A) (hg : Gl X x) (ha : PA X (e :: es) t)
    (hdb : (x == ("__debug__" : Str)) = false := by decide) (he : starEach (e :: es) X.env = (false, eval e X.env) :: starEach es X.env := by rfl) (hpl : (backTo pos (starEach es X.env)).any (·.1) = false := by rfl) :
    PE X (.Call (.Name x p) (e :: es) [] pos) (tMake C sp [] L2.E0 t) := by
  obtain ⟨f, fd, ps, M, F, hm, b⟩ := c.ex
  exact pe_make M F hr hg hm b .nil L2.pass0 ha hdb he hpl
theorem pe_ct {pl : Sem Bool} (c : Cm X.prog X.w X.K X.mg X.base k C m sp) (hr : Room k X.A) (he : PE X o ta) (ha : PA X (e :: es) t)
    (hst : starEach (e :: es) X.env = (false, eval e X.env) :: starEach es X.env := by rfl) (hpl : (backTo pos (starEach es X.env)).any (·.1) = false := by rfl)
    (ht : eval (.Call (.Attribute o m apos) (e :: es) [] pos) X.env = (do
      let ov ← eval o X.env
      standAt apos.atName
      let (f, first) ← holding [ov] (getMethod ov m pl)
      callWith pos f first (backTo pos (starEach (e :: es) X.env)) (backToKw pos (keywordEach [] X.env))) := by rfl) :
    PE X (.Call (.Attribute o m apos) (e :: es) [] pos) (tMeth C m sp [] L2.E0 ta t) := by
  obtain ⟨f, fd, ps, hc, hm, F, b⟩ := c.ex
  exact pe_meth (pl := pl) he hc hm F hr b .nil L2.pass0 ha hst hpl ht
end

theorem u1 {k : Nat} {A : Around} (r : Room k A) : A.units + 1 < cLine := by have := r.un; omega
theorem u65 {k : Nat} {A : Around} (r : Room k A) : A.units + 65 < cLine := by have := r.un; omega
/-! ### three comparisons in a chain -/
def tChain3 (r r' r'' : R2) (ta tb tc td : TE) : TE := fun σ H Q => ta σ H fun x H1 => tb σ H1 fun y H2 => r x y H2 fun z H3 => ∃ k, z = .bl k ∧
  (if k = true then tc σ H3 fun w' H4 => r' y w' H4 fun z' H5 => ∃ k', z' = .bl k' ∧ (if k' = true then td σ H5 fun v' H6 => r'' w' v' H6 Q else Q (.bl false) H5) else Q (.bl false) H3)
section
variable {X : Cx} {a b c d : Expr} {ta tb tc td : TE} {pos : Pos}
theorem pe_chain3 {op op' op'' : CmpOp} {r r' r'' : R2} (ho : OpR X (compareOp op) r) (ho' : OpR X (compareOp op') r') (ho'' : OpR X (compareOp op'') r'') (ha : PE X a ta) (hb : PE X b tb) (hc : PE X c tc) (hd : PE X d td)
    (hm : lastMarks [op, op', op''] [b, c, d] = false := by with_unfolding_all rfl) : PE X (.Compare a [op, op', op''] [b, c, d] pos) (tChain3 r r' r'' ta tb tc td) := by
  refine ⟨fun pins s σ H Q I h => ?_⟩
  refine Compare_chain (thn (ha.run pins s σ H _ I h) fun v s1 ⟨x, H1, I1, r1, q1⟩ => chain_link (thn (hb.run pins s1 σ H1 _ I1 q1) fun u s2 ⟨y, H2, I2, r2, q2⟩ =>
    thn (ho pins s2 σ H2 x y v u _ I2 r1 r2 q2) fun d s3 ⟨z, H3, I3, r3, k, e, q3⟩ => ?_)) hm
  subst e
  cases r3
  refine wpAny_truthy_bool ?_
  cases k with
  | false => exact ite_ff ⟨.bl false, H3, I3, rfl, q3⟩
  | true =>
    refine ite_tt (chain_link (thn (hc.run pins s3 σ H3 _ I3 q3) fun w' s4 ⟨z', H4, I4, r4, q4⟩ => thn (ho' pins s4 σ H4 y z' u w' _ I4 r2 r4 q4) fun d' s5 ⟨z2, H5, I5, r5, k2, e2, q5⟩ => ?_))
    subst e2
    cases r5
    refine wpAny_truthy_bool ?_
    cases k2 with
    | false => exact ite_ff ⟨.bl false, H5, I5, rfl, q5⟩
    | true => exact ite_tt (chain_last (thn (hd.run pins s5 σ H5 _ I5 q5) fun w2 s6 ⟨z3, H6, I6, r6, q6⟩ => ho'' pins s6 σ H6 z' z3 w' w2 Q I6 r4 r6 q6))
theorem pt_chain3 {op op' op'' : CmpOp} {r r' r'' : R2} (ho : OpR X (compareOp op) r) (ho' : OpR X (compareOp op') r') (ho'' : OpR X (compareOp op'') r'') (ha : PE X a ta) (hb : PE X b tb) (hc : PE X c tc) (hd : PE X d td)
    (hm : lastMarks [op, op', op''] [b, c, d] = false := by with_unfolding_all rfl) : PT X (.Compare a [op, op', op''] [b, c, d] pos) (tTest (tChain3 r r' r'' ta tb tc td)) := by
  refine ⟨fun pins s σ H Q I h => ?_⟩
  refine isTrue_chain (thn (ha.run pins s σ H _ I h) fun v s1 ⟨x, H1, I1, r1, q1⟩ => test_link (thn (hb.run pins s1 σ H1 _ I1 q1) fun u s2 ⟨y, H2, I2, r2, q2⟩ =>
    thn (ho pins s2 σ H2 x y v u _ I2 r1 r2 q2) fun d s3 ⟨z, H3, I3, r3, k, e, q3⟩ => ?_)) hm
  subst e
  cases r3
  refine wpAny_truthy_bool ?_
  cases k with
  | false =>
    obtain ⟨k', e', q'⟩ := q3
    cases e'
    exact ite_ff ⟨H3, I3, q'⟩
  | true =>
    refine ite_tt (test_link (thn (hc.run pins s3 σ H3 _ I3 q3) fun w' s4 ⟨z', H4, I4, r4, q4⟩ => thn (ho' pins s4 σ H4 y z' u w' _ I4 r2 r4 q4) fun d' s5 ⟨z2, H5, I5, r5, k2, e2, q5⟩ => ?_))
    subst e2
    cases r5
    refine wpAny_truthy_bool ?_
    cases k2 with
    | false =>
      obtain ⟨k', e', q'⟩ := q5
      cases e'
      exact ite_ff ⟨H5, I5, q'⟩
    | true =>
      refine ite_tt (test_last (thn (hd.run pins s5 σ H5 _ I5 q5) fun w2 s6 ⟨z3, H6, I6, r6, q6⟩ => thn (ho'' pins s6 σ H6 z' z3 w' w2 _ I6 r4 r6 q6) fun d2 s7 ⟨z4, H7, I7, r7, k3, e3, q7⟩ => ?_))
      subst e3
      cases r7
      exact wpAny_truthy_bool ⟨H7, I7, q7⟩
end

/-! ### a statement, a word, the rest -/
def tCut (t u : TS) : TS := fun D σ H => ∃ Mid : L2.St → Hp → Prop, t { nx := Mid, rt := D.rt, bk := D.bk, ct := D.ct } σ H ∧ ∀ σ' H', Mid σ' H' → u D σ' H'
theorem pss_cut {X : Cx} {st : Stmt} {rest : List Stmt} {t u : TS} (h1 : PS X st t) (h2 : PSs X rest u) : PSs X (st :: rest) (tCut t u) := by
  refine ⟨fun pins s σ H D I h => ?_⟩
  obtain ⟨Mid, hm, hu⟩ := h
  refine wpAny_execs_cons (thn (h1.run pins s σ H { nx := Mid, rt := D.rt, bk := D.bk, ct := D.ct } I hm) fun f s1 q => ?_)
  cases f with
  | next =>
    obtain ⟨σ', H', I', q⟩ := q
    exact h2.run pins s1 σ' H' D I' (hu σ' H' q)
  | ret v => exact q
  | brk => exact q
  | cont => exact q
theorem c_cut {t u : TS} {D : Ends} {σ : L2.St} {H : Hp} (Mid : L2.St → Hp → Prop) (h1 : t { nx := Mid, rt := D.rt, bk := D.bk, ct := D.ct } σ H) (h2 : ∀ σ' H', Mid σ' H' → u D σ' H') : tCut t u D σ H := ⟨Mid, h1, h2⟩
theorem c_nocut {t u : TS} {D : Ends} {σ : L2.St} {H : Hp} (h : t { nx := u D, rt := D.rt, bk := D.bk, ct := D.ct } σ H) : tCut t u D σ H := ⟨u D, h, fun _ _ z => z⟩

/-! ### len(set(xs)), xs ints of any kind -/
def nodup_len (ns : List Int) : Nat := (PyProof.Rows.firstMet (fun i => ns.getD i 0) ns.length).length
def tLenSetG (K : PySem.W.Frag) (ta : TE) : TE := fun σ H Q => ta σ H fun x H1 => ∃ (l : Addr) (ns : List Int), x = .ref l ∧ SqL K H1 l (ns.map V.int) ∧ ns.length ≤ 4000 ∧ Q (.int (nodup_len ns : Nat)) H1
theorem pe_lenSetG {X : Cx} {a : Expr} {ta : TE} {p p2 q pos : Pos} (hg : Gl X "len") (hm : X.mg "len" = none) (hg2 : Gl X "set") (hm2 : X.mg "set" = none) (ha : PE X a ta) (hc : X.calm = true := by rfl)
    (na : starEach [a] X.env = (false, eval a X.env) :: starEach [] X.env := by rfl) : PE X (.Call (.Name "len" p) [.Call (.Name "set" p2) [a] [] q] [] pos) (tLenSetG X.K ta) := by
  refine ⟨fun pins s σ H Q I h => ?_⟩
  refine Call_ (ld_blt I hg hm boot_len ?_)
  refine PyProof.Rows.callWith_builtin1 (PyProof.Rows.args_cons ?_ rfl) rfl rfl
  refine Call_ (ld_blt I hg2 hm2 boot_set ?_)
  refine PyProof.Rows.callWith_type1 (PyProof.Rows.args_cons (thn (ha.run pins s σ H _ I h) fun v s1 ⟨x, H1, I1, r1, q1⟩ => PyProof.Rows.args_nil ?_) na) na rfl
  obtain ⟨l, ns, rfl, hq, hl, q1⟩ := q1
  cases r1
  obtain ⟨its, r, pl, hz⟩ := I1.list hq
  have hlen : its.toArray.size = ns.length := by rw [List.size_toArray, ← r.length, List.length_map]
  refine call_set_list (I1.ok.hd hc) pl.isList (by simpa using RZ.intsAre_vals r) (by rw [hlen]; unfold scanBound; omega) fun h' tk hS hk => ?_
  refine PyProof.Rows.args_nil ?_
  rw [hlen] at hS
  obtain ⟨o, es, ep, t, ho, hex, hd, _, _, _, hf, hn⟩ := hS
  have I2 : Inv X pins σ H1 { s1 with heap := h', toks := tk } := I1.kept fun b o e => hk b o (Heap.lt_size e) e
  have hle := PyProof.Rows.firstMet_length_le (fun i => ns.getD i 0) ns.length
  exact call_len_set ho hex hd hf (by rw [hn] <;> omega) ⟨.int (nodup_len ns : Nat), H1, I2.tok _, ⟨_, by rw [hn]; rfl⟩, q1⟩
theorem dedup_len : ∀ (l acc : List Int), (l.foldl PyProof.Rows.step_dedup acc).length ≤ acc.length + l.length
  | [], acc => Nat.le_refl _
  | a :: r, acc => by
    rw [List.foldl_cons, List.length_cons]
    refine Nat.le_trans (dedup_len r _) ?_
    unfold PyProof.Rows.step_dedup
    split
    · omega
    · rw [List.length_append]; simp; omega
theorem dedup_eq : ∀ (l acc : List Int), (l.foldl PyProof.Rows.step_dedup acc).length = acc.length + l.length ↔ (l.Nodup ∧ ∀ x ∈ l, x ∉ acc)
  | [], acc => by simp
  | a :: r, acc => by
    rw [List.foldl_cons, List.length_cons, List.nodup_cons]
    have h1 := dedup_len r (PyProof.Rows.step_dedup acc a)
    by_cases hc : a ∈ acc
    · have e : PyProof.Rows.step_dedup acc a = acc := by
        unfold PyProof.Rows.step_dedup
        rw [if_pos]
        exact List.any_eq_true.mpr ⟨a, hc, by simp⟩
      rw [e] at h1 ⊢
      refine ⟨fun h => absurd h (by omega), fun h => absurd hc (h.2 a (by simp))⟩
    · have e : PyProof.Rows.step_dedup acc a = acc ++ [a] := by
        unfold PyProof.Rows.step_dedup
        rw [if_neg]
        intro h
        obtain ⟨y, hy, ey⟩ := List.any_eq_true.mp h
        have ey2 : y = a := eq_of_beq ey
        exact hc (ey2 ▸ hy)
      have ih := dedup_eq r (acc ++ [a])
      rw [e]
      rw [List.length_append] at ih
      constructor
      · intro h
        obtain ⟨n1, n2⟩ := ih.mp (by simp at h ⊢; omega)
        refine ⟨⟨fun hm => n2 a hm (by simp), n1⟩, fun x hx => ?_⟩
        rcases List.mem_cons.mp hx with rfl | hx
        · exact hc
        · intro z; exact n2 x hx (by simp [z])
      · rintro ⟨⟨n0, n1⟩, n2⟩
        have := ih.mpr ⟨n1, fun x hx z => by
          rcases List.mem_append.mp z with z | z
          · exact n2 x (List.mem_cons_of_mem _ hx) z
          · have : x = a := by simpa using z
            subst this; exact n0 hx⟩
        simp at this ⊢; omega
theorem range_getD (ns : List Int) : (List.range ns.length).map (fun i => ns.getD i 0) = ns := by
  apply List.ext_getElem (by simp)
  intro i h1 h2
  simp at h1 h2 ⊢
  rw [List.getElem?_eq_getElem h1]
  rfl
theorem nodup_len_eq (ns : List Int) : nodup_len ns = ns.length ↔ ns.Nodup := by
  unfold nodup_len PyProof.Rows.firstMet
  rw [range_getD]
  have := dedup_eq ns []
  simp at this ⊢
  exact this
end Bo

namespace Bo
open PySem PySem.Spec PyProof.Rows L2

/-! ### heaps: what stands, what is new -/
theorem Same.new {H0 H : Hp} {p : Addr} {o : HO} (s : Same H0 H) (h : H0 p = none) : Same H0 (upd H p o) := fun b u e => by
  rw [upd_ne (ne_of_none e h)]; exact s b u e
theorem Same.up {H H' : Hp} {p : Addr} {o : HO} (s : Same H H') (e : H p = some o) : H' p = some o := s p o e
theorem Same.one {H : Hp} {p : Addr} {o : HO} (h : H p = none) : Same H (upd H p o) := Same.new (Same.refl H) h
theorem lift_ne {H : Hp} {p q : Addr} {o u : HO} (e : H p = some o) (h : p ≠ q) : upd H q u p = some o := by rw [upd_ne h]; exact e
theorem free_up {H : Hp} {p q : Addr} {u : HO} (h : upd H q u p = none) : H p = none := by
  by_cases e : p = q
  · subst e; rw [upd_same] at h; cases h
  · rwa [upd_ne e] at h
theorem SqT.same {K : PySem.W.Frag} {H H' : Hp} {a : Addr} {xs : List V} (e : Same H H') (h : SqT K H a xs) : SqT K H' a xs := by
  rcases h with (h | ⟨o, h⟩) | h
  · exact .inl (.inl (e _ _ h))
  · exact .inl (.inr ⟨o, e _ _ h⟩)
  · exact .inr h

theorem neo {H : Hp} {a b : Addr} {o : HO} (h' : H b = none) (h : H a = some o) : a ≠ b := ne_of_none h h'
theorem same_trans {H H1 H2 : Hp} (b : Same H1 H2) (a : Same H H1) : Same H H2 := a.trans b
theorem same_free {H H' : Hp} {l : Addr} (h : H' l = none) (e : Same H H') : H l = none := e.free h
theorem same_seq {K : PySem.W.Frag} {H H' : Hp} {a : Addr} {xs : List V} (h : SqL K H a xs) (e : Same H H') : SqL K H' a xs := e.seq h
theorem same_sqt {K : PySem.W.Frag} {H H' : Hp} {a : Addr} {xs : List V} (h : SqT K H a xs) (e : Same H H') : SqT K H' a xs := SqT.same e h
/-! ### ints of a list by an int place -/
def gt (ns : List Int) (i : Int) : Int := if 0 ≤ i then ns.getD i.toNat 0 else ns.getD (i + ns.length).toNat 0
theorem gt_nat (ns : List Int) (i : Nat) : gt ns (i : Int) = ns.getD i 0 := by
  unfold gt
  rw [if_pos (by omega)]
  rfl
theorem gt_get {ns : List Int} {i : Nat} {x : Int} (h : ns[i]? = some x) : gt ns (i : Int) = x := by
  rw [gt_nat, List.getD_eq_getElem?_getD, h]; rfl
theorem getD_some {ns : List Int} {i : Nat} (h : i < ns.length) : ns[i]? = some (ns.getD i 0) := by
  rw [List.getD_eq_getElem?_getD, List.getElem?_eq_getElem h]; rfl
theorem gt_some {ns : List Int} {i : Nat} (h : i < ns.length) : ns[i]? = some (gt ns (i : Int)) := by rw [gt_nat]; exact getD_some h
theorem gt_mem {ns : List Int} {i : Int} (h0 : -(ns.length : Int) ≤ i) (h : i < ns.length) : gt ns i ∈ ns := by
  unfold gt
  by_cases c : 0 ≤ i
  · rw [if_pos c]; exact List.mem_of_getElem? (getD_some (by omega))
  · rw [if_neg c]; exact List.mem_of_getElem? (getD_some (by omega))
theorem at_gt {ns : List Int} {i : Int} (h0 : -(ns.length : Int) ≤ i) (h : i < ns.length) : atI (ns.map V.int) i = some (.int (gt ns i)) := by
  unfold atI ixN gt
  rw [List.length_map]
  by_cases c : 0 ≤ i
  · rw [if_pos c, if_pos h, if_pos c]
    show (ns.map V.int)[i.toNat]? = _
    rw [List.getElem?_map, getD_some (by omega)]; rfl
  · rw [if_neg c, if_pos h0, if_neg c]
    show (ns.map V.int)[(i + ns.length).toNat]? = _
    rw [List.getElem?_map, getD_some (by omega)]; rfl
theorem at_map {α : Type} {f : α → V} {xs : List α} {i : Int} {j : Nat} {x : α} (e : i = (j : Int)) (h : xs[j]? = some x) : atI (xs.map f) i = some (f x) := by
  subst e
  refine atI_nat ?_
  rw [List.getElem?_map, h]; rfl
theorem map_get {α : Type} {f : α → V} {xs : List α} {i : Nat} {y : V} (h : (xs.map f)[i]? = some y) : ∃ x, xs[i]? = some x ∧ y = f x := by
  rw [List.getElem?_map] at h
  cases e : xs[i]? with
  | none => rw [e] at h; cases h
  | some x => rw [e] at h; exact ⟨x, rfl, (Option.some.inj h).symm⟩
/-- places stored -/
def st (ns : List Int) (i x : Int) : List Int := ns.set i.toNat x
theorem st_length (ns : List Int) (i x : Int) : (st ns i x).length = ns.length := List.length_set ..

section
variable {K : PySem.W.Frag} {σ : L2.St} {H H' : Hp} {ta tb te tc : TE} {t u : TT} {x y z v : V} {D : Ends} {tu tw tz : TS} {g : TG} {Q : VK} {i j : Int}

/-! ### statements -/
theorem r_seq (h : tu { nx := tw D, rt := D.rt, bk := D.bk, ct := D.ct } σ H) : tSeq tu tw D σ H := h
theorem r_nxD (h : Ends.nx D σ H) : Ends.nx D σ H := h
theorem r_rtD (h : Ends.rt D v H) : Ends.rt D v H := h
theorem r_nx {a : L2.St → Hp → Prop} {b : VK} {c d : L2.St → Hp → Prop} (h : a σ H) : Ends.nx (Ends.mk a b c d) σ H := h
theorem r_rt {a : L2.St → Hp → Prop} {b : VK} {c d : L2.St → Hp → Prop} (h : b v H) : Ends.rt (Ends.mk a b c d) v H := h
theorem r_next (h : D.nx σ H) : tNext D σ H := h
theorem r_asgN {k : Nat} (h : te σ H fun v H1 => D.nx (σ.set k (some v)) H1) : tAsg te (gName k) D σ H := h
theorem r_asg (h : te σ H fun v H1 => g v σ H1 D.nx) : tAsg te g D σ H := h
theorem r_ret (h : te σ H D.rt) : tRet te D σ H := h
theorem r_drop (h : te σ H fun _ H1 => D.nx σ H1) : tDrop te D σ H := h
theorem r_if (h : t σ H fun b H1 => if b = true then tu D σ H1 else tw D σ H1) : tIfS t tu tw D σ H := h
theorem r_set (h : tv σ H fun y H1 => ta σ H1 fun o H2 => tb σ H2 fun i H3 => rSetL o i y H3 fun H4 => D.nx σ H4) : tAsg tv (gSub ta tb rSetL) D σ H := h
def KPar (k l : Nat) (D : Ends) (σ : L2.St) (vs : List V) (H : Hp) : Prop := ∃ v w, vs = [v, w] ∧ D.nx ((σ.set k (some v)).set l (some w)) H
theorem r_par {k l : Nat} {ta : TA} (h : ta σ H fun vs H1 => KPar k l D σ vs H1) : tPar k l ta D σ H := h
theorem k_par {k l : Nat} (h : D.nx ((σ.set k (some x)).set l (some y)) H) : KPar k l D σ [x, y] H := ⟨x, y, rfl, h⟩
theorem r_aug {k : Nat} {a : V} {ti : TIp} (e : σ[k]? = some (some a)) (h : te σ H fun y H1 => ti a y H1 fun z H2 => D.nx (σ.set k (some z)) H2) : tAug k te ti D σ H := ⟨_, e, h⟩
theorem i_ip {f : Int → Int → Int} (q : Q (.int (f i j)) H) : ipI f (.int i) (.int j) H Q := ⟨i, j, rfl, rfl, q⟩
def KFs (K : PySem.W.Frag) (f : Str) (D : Ends) (σ : L2.St) (y x : V) (H : Hp) : Prop := ∃ a C dx fs, x = .ref a ∧ H a = some (.ins C dx fs) ∧ Cls K C ∧ NoAttr K C f ∧ fs.length < 1000 ∧ D.nx σ (upd H a (.ins C dx (putF f y fs)))
theorem r_fld {f : Str} (h : tv σ H fun y H1 => ta σ H1 fun x H2 => KFs K f D σ y x H2) : sFld K ta tv f D σ H := h
theorem k_fld {f : Str} {a C dx : Addr} {fs : List (Str × V)} (h : H a = some (.ins C dx fs)) (c : Cls K C) (n : NoAttr K C f) (z : fs.length < 1000) (q : D.nx σ (upd H a (.ins C dx (putF f y fs)))) : KFs K f D σ y (.ref a) H := ⟨a, C, dx, fs, rfl, h, c, n, z, q⟩
/-! ### expressions -/
theorem e_var {k : Nat} (e : σ[k]? = some (some v)) (q : Q v H) : tVar k σ H Q := ⟨v, e, q⟩
theorem e_c (q : Q v H) : tC v σ H Q := q
theorem e_op {r : R2} (h : ta σ H fun x H1 => tb σ H1 fun y H2 => r x y H2 Q) : tOp r ta tb σ H Q := h
theorem e_un {r : V → Hp → VK → Prop} (h : ta σ H fun x H1 => r x H1 Q) : tUn r ta σ H Q := h
theorem o_I0 {gg : Int → Int → V} (q : Q (gg i j) H) : rI0 gg (.int i) (.int j) H Q := ⟨i, j, rfl, rfl, q⟩
theorem o_I {C : Int → Int → Prop} {gg : Int → Int → V} (c : C i j) (q : Q (gg i j) H) : rI C gg (.int i) (.int j) H Q := ⟨i, j, rfl, rfl, c, q⟩
theorem o_mod (h : 0 < j) (q : Q (.int (i % j)) H) : rI (fun _ j => 0 < j) (fun i j => .int (i % j)) (.int i) (.int j) H Q := ⟨i, j, rfl, rfl, h, q⟩
theorem o_fdiv (h : 0 < j ∧ j < 1073741824) (q : Q (.int (i / j)) H) : rI CDiv (fun i j => .int (i / j)) (.int i) (.int j) H Q := ⟨i, j, rfl, rfl, h, q⟩
theorem o_mulR (h : -10000000000 < j ∧ j < 10000000000) (q : Q (.int (i * j)) H) : rI CMul (fun i j => .int (i * j)) (.int i) (.int j) H Q := ⟨i, j, rfl, rfl, .inr ⟨by omega, by omega⟩, q⟩
theorem o_mulL (h : -10000000000 < i ∧ i < 10000000000) (q : Q (.int (i * j)) H) : rI CMul (fun i j => .int (i * j)) (.int i) (.int j) H Q := ⟨i, j, rfl, rfl, .inl ⟨by omega, by omega⟩, q⟩
theorem o_neg {gg : Int → V} (q : Q (gg i) H) : rU gg (.int i) H Q := ⟨i, rfl, q⟩
theorem o_eqI (q : Q (.bl (decide (i = j))) H) : rEq (.int i) (.int j) H Q := ⟨rfl, by rw [dec_int, Bool.beq_eq_decide_eq]; exact q⟩
theorem o_neI (q : Q (.bl (!decide (i = j))) H) : rNe (.int i) (.int j) H Q := ⟨rfl, by rw [dec_int, Bool.beq_eq_decide_eq]; exact q⟩
theorem o_eqB {a b : Bool} (q : Q (.bl (a == b)) H) : rEq (.bl a) (.bl b) H Q := ⟨rfl, by rw [dec_bl]; exact q⟩
theorem o_neB {a b : Bool} (q : Q (.bl (!(a == b))) H) : rNe (.bl a) (.bl b) H Q := ⟨rfl, by rw [dec_bl]; exact q⟩
theorem o_eqS {a b : Str} (q : Q (.bl (a == b)) H) : rEq (.str a) (.str b) H Q := ⟨rfl, by rw [dec_str]; exact q⟩
theorem o_neS {a b : Str} (q : Q (.bl (!(a == b))) H) : rNe (.str a) (.str b) H Q := ⟨rfl, by rw [dec_str]; exact q⟩
theorem o_ixI {p : Addr} {ns : List Int} (h : SqL K H p (ns.map V.int)) (h0 : -(ns.length : Int) ≤ i ∧ i < ns.length) (q : Q (.int (gt ns i)) H) : rIxL K (.ref p) (.int i) H Q := ⟨p, _, i, _, rfl, rfl, h, at_gt h0.1 h0.2, q⟩
theorem o_ixM {α : Type} {f : α → V} {xs : List α} {p : Addr} {j : Nat} {x : α} (h : SqL K H p (xs.map f)) (e : xs[j]? = some x) (e2 : i = (j : Int)) (q : Q (f x) H) : rIxL K (.ref p) (.int i) H Q := ⟨p, _, i, _, rfl, rfl, h, at_map e2 e, q⟩
theorem o_ixT {xs : List V} {p : Addr} (h : SqT K H p xs) (e : atI xs i = some v) (q : Q v H) : rIxT K (.ref p) (.int i) H Q := ⟨p, _, i, _, rfl, rfl, h, e, q⟩
theorem e_lst {ta : TA} (h : ta σ H fun xs H1 => xs.length ≤ sizeLine ∧ ∀ p, H1 p = none → Q (.ref p) (upd H1 p (.lst xs))) : tLst ta σ H Q := h
theorem e_tup {ta : TA} (h : ta σ H fun xs H1 => xs.length ≤ sizeLine ∧ ∀ p, H1 p = none → Q (.ref p) (upd H1 p (.tup xs))) : tTup ta σ H Q := h
theorem a_nil {R : List V → Hp → Prop} (h : R [] H) : tNil σ H R := h
theorem a_cons {ts : TA} {R : List V → Hp → Prop} (h : ta σ H fun x H1 => ts σ H1 fun xs H2 => R (x :: xs) H2) : tCons ta ts σ H R := h
theorem e_cb {r : List V → Hp → VK → Prop} {ts : TA} (h : ts σ H fun vs H1 => r vs H1 Q) : tCB r ts σ H Q := h
theorem e_call {sp : Sp} {E : XK} {ts : TA} (h : ts σ H fun vs H1 => sp vs H1 Q E) : tCall sp [] E ts σ H Q := by
  have e : (fun (vs : List V) (H1 : Hp) => sp (vs ++ []) H1 Q E) = fun vs H1 => sp vs H1 Q E := by
    funext vs H1; rw [List.append_nil]
  show ts σ H fun vs H1 => sp (vs ++ []) H1 Q E
  rw [e]; exact h
theorem e_make {C : Addr} {sp : Sp} {E : XK} {ts : TA} (h : ts σ H fun vs H1 => ∀ x dx, H1 x = none → H1 dx = none → dx ≠ x → sp (.ref x :: vs) (upd (upd H1 dx (.own x)) x (.ins C dx [])) (fun v H2 => v = .non ∧ Q (.ref x) H2) E) : tMake C sp [] E ts σ H Q := by
  have e : (fun (vs : List V) (H1 : Hp) => ∀ x dx, H1 x = none → H1 dx = none → dx ≠ x → sp (.ref x :: (vs ++ [])) (upd (upd H1 dx (.own x)) x (.ins C dx [])) (fun v H2 => v = .non ∧ Q (.ref x) H2) E) = fun vs H1 => ∀ x dx, H1 x = none → H1 dx = none → dx ≠ x → sp (.ref x :: vs) (upd (upd H1 dx (.own x)) x (.ins C dx [])) (fun v H2 => v = .non ∧ Q (.ref x) H2) E := by
    funext vs H1; rw [List.append_nil]
  show ts σ H fun (vs : List V) (H1 : Hp) => ∀ x dx, H1 x = none → H1 dx = none → dx ≠ x → sp (.ref x :: (vs ++ [])) (upd (upd H1 dx (.own x)) x (.ins C dx [])) (fun v H2 => v = .non ∧ Q (.ref x) H2) E
  rw [e]; exact h
def KM (C : Addr) (m : Str) (sp : Sp) (E : XK) (ts : TA) (σ : L2.St) (Q : VK) (x : V) (H : Hp) : Prop := ∃ a dx fs, x = .ref a ∧ H a = some (.ins C dx fs) ∧ fs.lookup m = none ∧ ts σ H fun vs H2 => sp (x :: vs) H2 Q E
theorem e_meth {C : Addr} {m : Str} {sp : Sp} {E : XK} {ts : TA} (h : ta σ H fun x H1 => KM C m sp E ts σ Q x H1) : tMeth C m sp [] E ta ts σ H Q := by
  have e : ∀ x, (fun (vs : List V) (H2 : Hp) => sp (x :: (vs ++ [])) H2 Q E) = fun vs H2 => sp (x :: vs) H2 Q E := by
    intro x; funext vs H1; rw [List.append_nil]
  show ta σ H fun x H1 => ∃ a dx fs, x = .ref a ∧ H1 a = some (.ins C dx fs) ∧ fs.lookup m = none ∧ ts σ H1 fun vs H2 => sp (x :: (vs ++ [])) H2 Q E
  simp only [e]; exact h
theorem k_meth {C a dx : Addr} {m : Str} {sp : Sp} {E : XK} {ts : TA} {fs : List (Str × V)} (h : H a = some (.ins C dx fs)) (n : fs.lookup m = none) (q : ts σ H fun vs H2 => sp (.ref a :: vs) H2 Q E) : KM C m sp E ts σ Q (.ref a) H := ⟨a, dx, fs, rfl, h, n, q⟩
def KF (K : PySem.W.Frag) (f : Str) (Q : VK) (x : V) (H : Hp) : Prop := ∃ a C dx fs v, x = .ref a ∧ H a = some (.ins C dx fs) ∧ Cls K C ∧ NoAttr K C f ∧ fs.lookup f = some v ∧ Q v H
theorem e_fld {f : Str} (h : ta σ H fun x H1 => KF K f Q x H1) : tFld K ta f σ H Q := h
theorem c_fld {f : Str} {a C dx : Addr} {fs : List (Str × V)} (h : H a = some (.ins C dx fs)) (c : Cls K C) (n : NoAttr K C f) (e : fs.lookup f = some v) (q : Q v H) : KF K f Q (.ref a) H := ⟨a, C, dx, fs, v, rfl, h, c, n, e, q⟩
theorem e_bm {T : String} {r : V → List V → Hp → VK → Prop} {ts : TA} (h : ta σ H fun x H1 => tyV K T x H1 ∧ ts σ H1 fun xs H2 => r x xs H2 Q) : tBM K T r ta ts σ H Q := h
theorem e_bm0 {T : String} {r : V → List V → Hp → VK → Prop} (h : ta σ H fun x H1 => tyV K T x H1 ∧ r x [] H1 Q) : tBM0 K T r ta σ H Q := h
theorem m_ty {p : Addr} {xs : List V} {B : Prop} (h : SqL K H p xs) (q : B) : tyV K "list" (.ref p) H ∧ B := ⟨.inl ⟨rfl, _, h⟩, q⟩
theorem m_app {l : Addr} {xs : List V} (h : H l = some (.lst xs)) (z : xs.length < 1000000) (q : Q .non (upd H l (.lst (xs ++ [v])))) : rAppend (.ref l) [v] H Q := ⟨l, xs, v, rfl, rfl, h, Nat.lt_of_lt_of_le z (by decide), q⟩
theorem m_appM {α : Type} {f : α → V} {l : Addr} {xs : List α} {y : α} (h : H l = some (.lst (xs.map f))) (e : v = f y) (z : xs.length < 1000000) (q : Q .non (upd H l (.lst ((xs ++ [y]).map f)))) : rAppend (.ref l) [v] H Q := by
  refine ⟨l, xs.map f, v, rfl, rfl, h, by rw [List.length_map]; exact Nat.lt_of_lt_of_le z (by decide), ?_⟩
  rw [List.map_append] at q
  rw [e]; exact q
theorem m_setM {α : Type} {f : α → V} {l : Addr} {xs : List α} {y : α} {k : Nat} {R : Hp → Prop} (h : H l = some (.lst (xs.map f))) (e : v = f y) (e2 : i = (k : Int)) (z : k < xs.length) (q : R (upd H l (.lst ((xs.set k y).map f)))) : rSetL (.ref l) (.int i) v H R := by
  refine ⟨l, xs.map f, i, k, rfl, rfl, h, ?_, ?_⟩
  · subst e2
    unfold ixN
    rw [List.length_map, if_pos (by omega), if_pos (by omega)]
    simp
  · rw [List.map_set] at q
    rw [e]; exact q
theorem m_setI {l : Addr} {ns : List Int} {R : Hp → Prop} (h : H l = some (.lst (ns.map V.int))) (z : 0 ≤ i ∧ i < ns.length) (q : R (upd H l (.lst ((st ns i j).map V.int)))) : rSetL (.ref l) (.int i) (.int j) H R :=
  m_setM (k := i.toNat) h rfl (by omega) (by omega) q
def rLen2 (K : PySem.W.Frag) : List V → Hp → VK → Prop := fun xs H Q => ∃ p ys, xs = [.ref p] ∧ (SqL K H p ys ∨ SqT K H p ys) ∧ Q (.int ys.length) H
theorem c_lenM {α : Type} {f : α → V} {p : Addr} {ys : List α} (h : SqL K H p (ys.map f)) (q : Q (.int (ys.length : Nat)) H) : rLen2 K [.ref p] H Q := ⟨p, _, rfl, .inl h, by rw [List.length_map]; exact q⟩
theorem c_lenT {p : Addr} {ys : List V} (h : SqT K H p ys) (q : Q (.int (ys.length : Nat)) H) : rLen2 K [.ref p] H Q := ⟨p, _, rfl, .inr h, q⟩
def rMax2 : List V → Hp → VK → Prop := fun xs H Q => ∃ i j, xs = [.int i, .int j] ∧ Q (.int (if j > i then j else i)) H
def rMin2 : List V → Hp → VK → Prop := fun xs H Q => ∃ i j, xs = [.int i, .int j] ∧ Q (.int (if j < i then j else i)) H
theorem c_max2 (q : Q (.int (max i j)) H) : rMax2 [.int i, .int j] H Q := ⟨i, j, rfl, by
  have e : (if j > i then j else i) = max i j := by split <;> omega
  rw [e]; exact q⟩
theorem c_min2 (q : Q (.int (min i j)) H) : rMin2 [.int i, .int j] H Q := ⟨i, j, rfl, by
  have e : (if j < i then j else i) = min i j := by split <;> omega
  rw [e]; exact q⟩
def rList2 (K : PySem.W.Frag) : List V → Hp → VK → Prop := fun xs H Q => ∃ p ys, xs = [.ref p] ∧ (SqL K H p ys ∨ SqT K H p ys) ∧ ∀ l, H l = none → Q (.ref l) (upd H l (.lst ys))
theorem c_list {p : Addr} {ys : List V} (h : SqL K H p ys) (q : ∀ l, H l = none → Q (.ref l) (upd H l (.lst ys))) : rList2 K [.ref p] H Q := ⟨p, ys, rfl, .inl h, q⟩
theorem c_listT {p : Addr} {ys : List V} (h : SqT K H p ys) (q : ∀ l, H l = none → Q (.ref l) (upd H l (.lst ys))) : rList2 K [.ref p] H Q := ⟨p, ys, rfl, .inr h, q⟩
theorem c_isi {n t : String} {b : Bool} (ty : TyX K H x (.type t)) (e : kitB t n = some b) (q : Q (.bl b) H) : rIsi K [x, .ty n] H Q := ⟨x, .ty n, _, _, b, rfl, .ty n, ty, kit_ty e, q⟩
theorem c_isiI {n : String} {b : Bool} (e : kitB "int" n = some b) (q : Q (.bl b) H) : rIsi K [.int i, .ty n] H Q := c_isi (.base (.int i)) e q
theorem c_isiL {p : Addr} {xs : List V} {n : String} {b : Bool} (h : SqL K H p xs) (e : kitB "list" n = some b) (q : Q (.bl b) H) : rIsi K [.ref p, .ty n] H Q := by
  refine c_isi (t := "list") ?_ e q
  rcases h with (h | ⟨o, h⟩) | ⟨o, its, k, h1, h2, _⟩
  · exact .base (.lst h)
  · exact .base (.frz h)
  · exact .kList h1 h2
theorem c_isiT {p : Addr} {xs : List V} {n : String} {b : Bool} (h : H p = some (.tup xs)) (e : kitB "tuple" n = some b) (q : Q (.bl b) H) : rIsi K [.ref p, .ty n] H Q := c_isi (.base (.tup h)) e q
def gb (bs : List Bool) (i : Int) : Bool := bs.getD i.toNat true
theorem o_ixB {p : Addr} {bs : List Bool} (h : SqL K H p (bs.map V.bl)) (h0 : 0 ≤ i ∧ i < bs.length) (q : Q (.bl (gb bs i)) H) : rIxL K (.ref p) (.int i) H Q := by
  refine o_ixM (j := i.toNat) (x := gb bs i) h ?_ (by omega) q
  unfold gb
  rw [List.getD_eq_getElem?_getD, List.getElem?_eq_getElem (by omega)]; rfl
theorem m_setB {l : Addr} {bs : List Bool} {c : Bool} {R : Hp → Prop} (h : H l = some (.lst (bs.map V.bl))) (z : 0 ≤ i ∧ i < bs.length) (q : R (upd H l (.lst ((bs.set i.toNat c).map V.bl)))) : rSetL (.ref l) (.int i) (.bl c) H R :=
  m_setM (k := i.toNat) h rfl (by omega) (by omega) q
theorem m_appR {l p : Addr} {as : List Addr} (h : H l = some (.lst (as.map V.ref))) (z : as.length < 1000000) (q : Q .non (upd H l (.lst ((as ++ [p]).map V.ref)))) : rAppend (.ref l) [.ref p] H Q := m_appM h rfl z q
theorem e_sl {r : V → Option Int → Option Int → Hp → VK → Prop} {tl th : TO} (h : te σ H fun x H1 => tl σ H1 fun l H2 => th σ H2 fun u H3 => r x l u H3 Q) : tSl r te tl th σ H Q := h
theorem e_nopart {R : Option Int → Hp → Prop} (h : R none H) : tNoPart σ H R := h
theorem e_part {R : Option Int → Hp → Prop} (h : ta σ H fun x H1 => ∃ i, x = .int i ∧ R (some i) H1) : tPart ta σ H R := h
theorem i_ok {R : Int → Prop} (q : R i) : ∃ j, V.int i = .int j ∧ R j := ⟨i, rfl, q⟩
theorem cut_from {α : Type} {f : α → V} {xs : List α} (h : 0 ≤ i) : cutV (xs.map f) (some i) none = (xs.drop i.toNat).map f := by
  obtain ⟨k, rfl⟩ : ∃ k : Nat, i = (k : Int) := ⟨i.toNat, by omega⟩
  unfold cutV
  rw [HT.sIx_nat, HT.sIx_none, List.length_map, Int.toNat_natCast, ← List.map_drop, ← List.map_take]
  congr 1
  by_cases c : k ≤ xs.length
  · rw [Nat.min_eq_left c]; exact List.take_of_length_le (by rw [List.length_drop]; omega)
  · rw [Nat.min_eq_right (by omega), List.drop_eq_nil_of_le (Nat.le_refl _), List.drop_eq_nil_of_le (by omega), List.take_nil]
theorem cut_to {α : Type} {f : α → V} {xs : List α} (h : 0 ≤ i) : cutV (xs.map f) none (some i) = (xs.take i.toNat).map f := by
  obtain ⟨k, rfl⟩ : ∃ k : Nat, i = (k : Int) := ⟨i.toNat, by omega⟩
  unfold cutV
  rw [HT.sIx_nat, HT.sIx_none, List.length_map, Int.toNat_natCast, List.drop_zero, Nat.sub_zero, ← List.map_take]
  congr 1
  by_cases c : k ≤ xs.length
  · rw [Nat.min_eq_left c]
  · rw [Nat.min_eq_right (by omega), List.take_of_length_le (Nat.le_refl _), List.take_of_length_le (by omega)]
theorem o_slFrom {α : Type} {f : α → V} {p : Addr} {xs : List α} (h : SqL K H p (xs.map f)) (z : 0 ≤ i) (q : ∀ l, H l = none → Q (.ref l) (upd H l (.lst ((xs.drop i.toNat).map f)))) : rSlL K (.ref p) (some i) none H Q :=
  ⟨p, _, rfl, h, fun l nl => by rw [cut_from z]; exact q l nl⟩
theorem o_slTo {α : Type} {f : α → V} {p : Addr} {xs : List α} (h : SqL K H p (xs.map f)) (z : 0 ≤ i) (q : ∀ l, H l = none → Q (.ref l) (upd H l (.lst ((xs.take i.toNat).map f)))) : rSlL K (.ref p) none (some i) H Q :=
  ⟨p, _, rfl, h, fun l nl => by rw [cut_to z]; exact q l nl⟩
theorem c_min {p : Addr} {ns : List Int} (h : SqL K H p (ns.map V.int)) (z : 0 < ns.length) (q : ∀ m, m ∈ ns → (∀ y ∈ ns, m ≤ y) → Q (.int m) H) : rMin K [.ref p] H Q := ⟨p, ns, rfl, h, z, q⟩
theorem c_all {p : Addr} {bs : List Bool} (h : SqL K H p (bs.map V.bl)) (q : Q (.bl (bs.all id)) H) : rAll K [.ref p] H Q := ⟨p, bs, rfl, h, q⟩
theorem c_any {p : Addr} {bs : List Bool} (h : SqL K H p (bs.map V.bl)) (q : Q (.bl (bs.any id)) H) : rAny K [.ref p] H Q := ⟨p, bs, rfl, h, q⟩
theorem c_sorted {p : Addr} {ns : List Int} (h : SqL K H p (ns.map V.int)) (q : ∀ ns' l, List.Perm ns' ns → ns'.Pairwise (· ≤ ·) → H l = none → Q (.ref l) (upd H l (.lst (ns'.map V.int)))) : rSortedI K [.ref p] H Q := ⟨p, ns, rfl, h, q⟩
def KLS (K : PySem.W.Frag) (Q : VK) (x : V) (H : Hp) : Prop := ∃ (l : Addr) (ns : List Int), x = .ref l ∧ SqL K H l (ns.map V.int) ∧ ns.length ≤ 4000 ∧ Q (.int (nodup_len ns : Nat)) H
theorem c_lenset {p : Addr} {ns : List Int} (h : SqL K H p (ns.map V.int)) (z : ns.length ≤ 4000) (q : Q (.int (nodup_len ns : Nat)) H) : KLS K Q (.ref p) H := ⟨p, ns, rfl, h, z, q⟩
theorem e_lenset (h : ta σ H fun x H1 => KLS K Q x H1) : tLenSetG K ta σ H Q := h
/-- xs.insert(i, y) -/
def rIns : V → List V → Hp → VK → Prop := fun x vs H Q => ∃ (l : Addr) (xs : List V) (i : Int) (y : V), x = .ref l ∧ vs = [.int i, y] ∧ H l = some (.lst xs) ∧ xs.length < sizeLine ∧ 0 ≤ i ∧ i < 2 ^ 63 ∧ Q .non (upd H l (.lst (xs.take i.toNat ++ [y] ++ xs.drop i.toNat)))
def ins (ns : List Int) (i x : Int) : List Int := ns.take i.toNat ++ [x] ++ ns.drop i.toNat
theorem m_ins {l : Addr} {ns : List Int} (h : H l = some (.lst (ns.map V.int))) (z : ns.length < 1000000) (z2 : 0 ≤ i ∧ i < 2 ^ 63) (q : Q .non (upd H l (.lst ((ins ns i j).map V.int)))) : rIns (.ref l) [.int i, .int j] H Q := by
  refine ⟨l, ns.map V.int, i, .int j, rfl, rfl, h, by rw [List.length_map]; exact Nat.lt_of_lt_of_le z (by decide), z2.1, z2.2, ?_⟩
  unfold ins at q
  rw [List.map_append, List.map_append, List.map_take, List.map_drop] at q
  exact q
theorem find_first : ∀ {ns : List Int} {k : Int}, k ∈ ns → ∃ j, ns[j]? = some k ∧ (∀ m : Nat, m < j → ns[m]? ≠ some k) ∧ ns.eraseIdx j = ns.erase k ∧ ns.idxOf k = j
  | [], k, h => by simp at h
  | a :: r, k, h => by
    by_cases c : a = k
    · subst c
      exact ⟨0, rfl, fun m hm => absurd hm (Nat.not_lt_zero _), by simp, by simp⟩
    · have hr : k ∈ r := by
        rcases List.mem_cons.mp h with e | e
        · exact absurd e.symm c
        · exact e
      obtain ⟨j, h1, h2, h3, h4⟩ := find_first hr
      refine ⟨j + 1, h1, fun m hm => ?_, ?_, ?_⟩
      · cases m with
        | zero => intro z; exact c (Option.some.inj z)
        | succ m => exact h2 m (by omega)
      · rw [List.eraseIdx_cons_succ, h3, List.erase_cons_tail (by simpa using c)]
      · rw [List.idxOf_cons, h4, show (a == k) = false by simpa using c]; rfl
theorem m_rem {l : Addr} {ns : List Int} (h : H l = some (.lst (ns.map V.int))) (hm : i ∈ ns) (q : Q .non (upd H l (.lst ((ns.erase i).map V.int)))) : rRemI (.ref l) [.int i] H Q := by
  obtain ⟨j, h1, h2, h3, _⟩ := find_first hm
  exact ⟨l, ns, i, j, rfl, rfl, h, h1, h2, by rw [h3]; exact q⟩
theorem all_flat (ns : List Int) : (ns.map V.int).all flatV = true := by
  rw [List.all_map]
  exact List.all_eq_true.mpr fun _ _ => rfl
theorem m_idx {l : Addr} {ns : List Int} (h : SqL K H l (ns.map V.int)) (hm : i ∈ ns) (q : Q (.int (ns.idxOf i : Nat)) H) : rIndex K (.ref l) [.int i] H Q := by
  obtain ⟨j, h1, h2, _, h4⟩ := find_first hm
  refine ⟨l, ns.map V.int, .int i, j, .int i, rfl, rfl, h, rfl, all_flat ns, by rw [List.getElem?_map, h1]; rfl, by show (i == i) = true; simp, fun m z' hlt hz => ?_, by rw [← h4]; exact q⟩
  obtain ⟨x, hx, rfl⟩ := map_get hz
  show (x == i) = false
  simp only [beq_eq_false_iff_ne]
  intro e; subst e; exact h2 m hlt hx
theorem inV_ints (ns : List Int) (i : Int) : inV (.int i) (ns.map V.int) = decide (i ∈ ns) := by
  unfold inV
  rw [List.any_map, Bool.eq_iff_iff, List.any_eq_true, decide_eq_true_eq]
  constructor
  · rintro ⟨x, hx, e⟩
    have e' : (x == i) = true := e
    rw [← eq_of_beq e']; exact hx
  · intro h; exact ⟨i, h, by show (i == i) = true; simp⟩
theorem o_in {l : Addr} {ns : List Int} (h : SqL K H l (ns.map V.int)) (q : Q (.bl (decide (i ∈ ns))) H) : rIn K false (.int i) (.ref l) H Q := ⟨l, _, rfl, .inl h, rfl, all_flat ns, by rw [inV_ints]; exact q⟩
theorem o_nin {l : Addr} {ns : List Int} (h : SqL K H l (ns.map V.int)) (q : Q (.bl (!decide (i ∈ ns))) H) : rIn K true (.int i) (.ref l) H Q := ⟨l, _, rfl, .inl h, rfl, all_flat ns, by
  show Q (.bl (!inV (.int i) (ns.map V.int))) H
  rw [inV_ints]; exact q⟩
/-- list(range(n)) -/
def KLR (Q : VK) (x : V) (H : Hp) : Prop := ∃ n, x = .int n ∧ RgOk 0 n ∧ ∀ q, H q = none → Q (.ref q) (upd H q (.lst (rgV 0 n)))
theorem e_listRg1 (h : ta σ H fun x H1 => KLR Q x H1) : tLstRg (tRg1 ta) σ H Q := h
/-- 0, 1, .. below n -/
def upTo (n : Nat) : List Int := (List.range n).map Int.ofNat
theorem upTo_length (n : Nat) : (upTo n).length = n := by unfold upTo; rw [List.length_map, List.length_range]
theorem rgV_upTo (n : Nat) : rgV 0 (n : Int) = (upTo n).map V.int := by
  unfold rgV upTo
  rw [List.map_map]
  have e : ((n : Int) - 0).toNat = n := by omega
  rw [e]
  refine List.map_congr_left fun i _ => ?_
  show V.int (0 + (i : Int)) = V.int (Int.ofNat i)
  rw [Int.zero_add]; rfl
theorem k_listRg {n : Nat} (z : n ≤ 1000000) (q : ∀ p, H p = none → Q (.ref p) (upd H p (.lst ((upTo n).map V.int)))) : KLR Q (.int (n : Nat)) H :=
  ⟨n, rfl, RgOk.of_le (by omega) (by omega) (by omega) (by omega), fun p np => by rw [rgV_upTo]; exact q p np⟩
theorem m_ext {l b : Addr} {α : Type} {f : α → V} {xs zs : List α} (h : H l = some (.lst (xs.map f))) (hb : H b = some (.lst (zs.map f))) (z : xs.length + zs.length < 1000000) (q : Q .non (upd H l (.lst ((xs ++ zs).map f)))) : rExtend (.ref l) [.ref b] H Q := by
  refine ⟨l, b, _, _, rfl, rfl, h, hb, by rw [List.length_map, List.length_map]; exact Nat.le_of_lt (Nat.lt_of_lt_of_le z (by decide)), ?_⟩
  rw [List.map_append] at q; exact q
theorem o_cat {l b : Addr} {α : Type} {f : α → V} {xs zs : List α} (h : H l = some (.lst (xs.map f))) (hb : H b = some (.lst (zs.map f))) (z : xs.length + zs.length < 1000000) (q : ∀ p, H p = none → Q (.ref p) (upd H p (.lst ((xs ++ zs).map f)))) : rCat (.ref l) (.ref b) H Q := by
  refine ⟨l, b, _, _, rfl, rfl, h, hb, by rw [List.length_map, List.length_map]; exact Nat.le_of_lt (Nat.lt_of_lt_of_le z (by decide)), fun p np => ?_⟩
  have := q p np
  rw [List.map_append] at this; exact this
def KRv (K : PySem.W.Frag) (Q : VK) (x : V) (H : Hp) : Prop := ∃ a xs, x = .ref a ∧ SqL K H a xs ∧ ∀ p, H p = none → Q (.ref p) (upd H p (.lst xs.reverse))
theorem e_rev (h : ta σ H fun x H1 => KRv K Q x H1) : tRevL K ta σ H Q := h
theorem c_rev {α : Type} {f : α → V} {p : Addr} {xs : List α} (h : SqL K H p (xs.map f)) (q : ∀ p, H p = none → Q (.ref p) (upd H p (.lst (xs.reverse.map f)))) : KRv K Q (.ref p) H :=
  ⟨p, _, rfl, h, fun p np => by have := q p np; rw [List.map_reverse] at this; exact this⟩
theorem l_new {n : Nat} {B : Prop} (z : n ≤ sizeLine) (q : B) : n ≤ sizeLine ∧ B := ⟨z, q⟩

/-! ### tests -/
variable {R : Bool → Hp → Prop} {b : Bool}
theorem t_test (h : te σ H fun x H1 => ∃ k, x = .bl k ∧ R k H1) : tTest te σ H R := h
theorem t_B (h : te σ H fun x H1 => ∃ k, x = .bl k ∧ R k H1) : tB te σ H R := h
theorem b_ok {R : Bool → Prop} (q : R b) : ∃ k, V.bl b = .bl k ∧ R k := ⟨b, rfl, q⟩
theorem t_and (h : t σ H fun c H1 => if c = true then u σ H1 R else R false H1) : tAnd t u σ H R := h
theorem t_or (h : t σ H fun c H1 => if c = true then R true H1 else u σ H1 R) : tOr t u σ H R := h
theorem t_not (h : t σ H fun c H1 => R (!c) H1) : tNot t σ H R := h
theorem v_and (h : ta σ H fun x H1 => ∃ c, x = .bl c ∧ if c = true then tb σ H1 Q else Q (.bl false) H1) : tAndV ta tb σ H Q := h
theorem v_or (h : ta σ H fun x H1 => ∃ c, x = .bl c ∧ if c = true then Q (.bl true) H1 else tb σ H1 Q) : tOrV ta tb σ H Q := h
theorem v_not (h : ta σ H fun x H1 => ∃ c, x = .bl c ∧ Q (.bl (!c)) H1) : tNotV ta σ H Q := h
theorem e_if (h : t σ H fun c H1 => if c = true then ta σ H1 Q else tb σ H1 Q) : tIf t ta tb σ H Q := h
theorem e_chain {r r' : R2} (h : ta σ H fun x H1 => tb σ H1 fun y H2 => r x y H2 fun z H3 => ∃ k, z = .bl k ∧ (if k = true then tc σ H3 fun w' H4 => r' y w' H4 Q else Q (.bl false) H3)) : tChain r r' ta tb tc σ H Q := h
theorem e_chain3 {r r' r'' : R2} {td : TE} (h : ta σ H fun x H1 => tb σ H1 fun y H2 => r x y H2 fun z H3 => ∃ k, z = .bl k ∧
  (if k = true then tc σ H3 fun w' H4 => r' y w' H4 fun z' H5 => ∃ k', z' = .bl k' ∧ (if k' = true then td σ H5 fun v' H6 => r'' w' v' H6 Q else Q (.bl false) H5) else Q (.bl false) H3)) : tChain3 r r' r'' ta tb tc td σ H Q := h
end
/-! ### the kind of a value -/
def isIntV : V → Bool
  | .int _ => true
  | .bl _ => true
  | _ => false
def isBlV : V → Bool
  | .bl _ => true
  | _ => false
theorem kit_int {K : PySem.W.Frag} {H : Hp} {x : V} {t : String} (h : TyX K H x (.type t)) : kitB t "int" = some (isIntV x) := by
  cases h with
  | base b => cases b <;> first | exact (show kitB _ "int" = some true by decide +kernel) | exact (show kitB _ "int" = some false by decide +kernel)
  | _ => exact (show kitB _ "int" = some false by decide +kernel)
theorem kit_bool {K : PySem.W.Frag} {H : Hp} {x : V} {t : String} (h : TyX K H x (.type t)) : kitB t "bool" = some (isBlV x) := by
  cases h with
  | base b => cases b <;> first | exact (show kitB _ "bool" = some true by decide +kernel) | exact (show kitB _ "bool" = some false by decide +kernel)
  | _ => exact (show kitB _ "bool" = some false by decide +kernel)
/-- whether it is a whole number between two bounds -/
def isNum (x : V) (lo hi : Int) : Bool := match x with
  | .int i => decide (lo ≤ i) && decide (i ≤ hi)
  | _ => false
theorem isNum_int (i lo hi : Int) : isNum (.int i) lo hi = (decide (lo ≤ i) && decide (i ≤ hi)) := rfl
/-- a row: the numbers below its length, each once -/
structure IsRow (ns : List Int) : Prop where
  len : ns.length ≤ 1000
  bd : ∀ x ∈ ns, 0 ≤ x ∧ x < ns.length
  nd : ns.Nodup
theorem IsRow.all_num {ns : List Int} (R : IsRow ns) : (ns.map fun x => isNum (.int x) 0 ((ns.length : Int) - 1)).all id = true := by
  rw [List.all_map]
  refine List.all_eq_true.mpr fun x hx => ?_
  have := R.bd x hx
  show isNum (.int x) 0 ((ns.length : Int) - 1) = true
  rw [isNum_int, decide_eq_true this.1, decide_eq_true (by omega)]; rfl
/-! ### loops -/
def FW (J : It) (g : TG) (tb : TS) (D : Ends) (σ : L2.St) (H : Hp) : Prop := ∃ W : Nat → Nat → L2.St → Hp → Prop, (∃ m, W 0 m σ H) ∧ ∀ i m σ H, W i m σ H →
  (J.stop i H ∧ D.nx σ H) ∨ (J.go i H ∧ ∃ N : L2.St → Hp → Prop, (∀ σ' H', N σ' H' → ∃ m', m' < m ∧ W (i + 1) m' σ' H') ∧ ∀ x H', J.yld i H x H' → g x σ H' fun σ2 H2 => tb { nx := N, rt := D.rt, ct := N, bk := D.nx } σ2 H2)
section
variable {K : PySem.W.Frag} {σ : L2.St} {H : Hp} {D : Ends} {tb : TS} {g : TG} {α : Type} {f : α → V} {a : Addr}
def KL (K : PySem.W.Frag) (g : TG) (tb : TS) (D : Ends) (σ : L2.St) (x : V) (H : Hp) : Prop := ∃ a, x = .ref a ∧ (∃ xs, SqL K H a xs) ∧ FW (Itl K a) g tb D σ H
def KTu (K : PySem.W.Frag) (g : TG) (tb : TS) (D : Ends) (σ : L2.St) (x : V) (H : Hp) : Prop := ∃ a, x = .ref a ∧ (∃ xs, SqT K H a xs) ∧ FW (Itt K a) g tb D σ H
def KE (K : PySem.W.Frag) (g : TG) (tb : TS) (D : Ends) (σ : L2.St) (vs : List V) (H : Hp) : Prop := ∃ a xs, vs = [.ref a] ∧ SqL K H a xs ∧ FW (Ite K a) g tb D σ H
def KR1 (g : TG) (tb : TS) (D : Ends) (σ : L2.St) (vs : List V) (H : Hp) : Prop := ∃ j : Int, vs = [.int j] ∧ -(2 ^ 62) ≤ j ∧ j < 2 ^ 62 ∧ FW (Itr 0 j.toNat) g tb D σ H
def KR2 (g : TG) (tb : TS) (D : Ends) (σ : L2.St) (vs : List V) (H : Hp) : Prop := ∃ i j : Int, vs = [.int i, .int j] ∧ (-(2 ^ 62) ≤ i ∧ i < 2 ^ 62 ∧ -(2 ^ 62) ≤ j ∧ j < 2 ^ 62) ∧ FW (Itr i (j - i).toNat) g tb D σ H
theorem r_forL {tl : TE} (h : tl σ H fun x H1 => KL K g tb D σ x H1) : tFor (iList K tl) g tb D σ H := h
theorem r_forT {tl : TE} (h : tl σ H fun x H1 => KTu K g tb D σ x H1) : tFor (iTup K tl) g tb D σ H := h
theorem r_forE {ta : TA} (h : ta σ H fun vs H1 => KE K g tb D σ vs H1) : tFor (iEnum K ta) g tb D σ H := h
theorem r_forR1 {ta : TA} (h : ta σ H fun vs H1 => KR1 g tb D σ vs H1) : tFor (iRng1 ta) g tb D σ H := h
theorem r_forR2 {ta : TA} (h : ta σ H fun vs H1 => KR2 g tb D σ vs H1) : tFor (iRng2 ta) g tb D σ H := h
/-- a loop over a list -/
theorem k_lst (xs : List α) (Pv : Nat → L2.St → Hp → Prop) (hx : SqL K H a (xs.map f)) (h0 : Pv 0 σ H) (hl : ∀ (i : Nat) (σ : L2.St) (H : Hp), i ≤ xs.length → Pv i σ H → SqL K H a (xs.map f))
    (hs : ∀ (i : Nat) (x : α) (σ : L2.St) (H : Hp), xs[i]? = some x → Pv i σ H → g (f x) σ H fun σ2 H2 => tb { nx := Pv (i + 1), rt := D.rt, ct := Pv (i + 1), bk := D.nx } σ2 H2) (hd : ∀ σ H, Pv xs.length σ H → D.nx σ H) :
    KL K g tb D σ (.ref a) H := by
  refine ⟨a, rfl, ⟨_, hx⟩, for_list (K := K) (a := a) (xs := xs.map f) Pv h0 (fun i σ H hi => hl i σ H (by rw [List.length_map] at hi; exact hi)) (fun i x σ H hx p => ?_) (fun σ H p => hd σ H (by rw [List.length_map] at p; exact p))⟩
  obtain ⟨y, hy, rfl⟩ := map_get hx
  exact hs i y σ H hy p
/-- .. whose target is a name -/
theorem k_lstN {j : Nat} (xs : List α) (Pv : Nat → L2.St → Hp → Prop) (hx : SqL K H a (xs.map f)) (h0 : Pv 0 σ H) (hl : ∀ (i : Nat) (σ : L2.St) (H : Hp), i ≤ xs.length → Pv i σ H → SqL K H a (xs.map f))
    (hs : ∀ (i : Nat) (x : α) (σ : L2.St) (H : Hp), xs[i]? = some x → Pv i σ H → tb { nx := Pv (i + 1), rt := D.rt, ct := Pv (i + 1), bk := D.nx } (σ.set j (some (f x))) H) (hd : ∀ σ H, Pv xs.length σ H → D.nx σ H) :
    KL K (gName j) tb D σ (.ref a) H := k_lst xs Pv hx h0 hl hs hd
/-- .. whose items are tuples: the item's address and what it holds -/
theorem k_lst2 {j1 j2 : Nat} {u v : α → V} {ad : α → Addr} (xs : List α) (Pv : Nat → L2.St → Hp → Prop) (hx : SqL K H a (xs.map fun x => V.ref (ad x))) (h0 : Pv 0 σ H)
    (hl : ∀ (i : Nat) (σ : L2.St) (H : Hp), i ≤ xs.length → Pv i σ H → SqL K H a (xs.map fun x => V.ref (ad x)) ∧ ∀ x ∈ xs, SqT K H (ad x) [u x, v x])
    (hs : ∀ (i : Nat) (x : α) (σ : L2.St) (H : Hp), xs[i]? = some x → Pv i σ H → tb { nx := Pv (i + 1), rt := D.rt, ct := Pv (i + 1), bk := D.nx } ((σ.set j1 (some (u x))).set j2 (some (v x))) H) (hd : ∀ σ H, Pv xs.length σ H → D.nx σ H) :
    KL K (gTup K 2 (gCons (gName j1) (gCons (gName j2) gNil))) tb D σ (.ref a) H := by
  refine k_lst (f := fun x => V.ref (ad x)) xs Pv hx h0 (fun i σ H hi p => (hl i σ H hi p).1) (fun i x σ H hx p => ?_) hd
  have hi : i < xs.length := (List.getElem?_eq_some_iff.mp hx).1
  exact ⟨ad x, _, rfl, (hl i σ H (by omega) p).2 x (List.mem_of_getElem? hx), rfl, _, _, rfl, _, _, rfl, rfl, hs i x σ H hx p⟩
theorem k_tupN {j : Nat} (ys : List V) (Pv : Nat → L2.St → Hp → Prop) (hx : SqT K H a ys) (h0 : Pv 0 σ H) (hl : ∀ (i : Nat) (σ : L2.St) (H : Hp), i ≤ ys.length → Pv i σ H → SqT K H a ys)
    (hs : ∀ (i : Nat) (x : V) (σ : L2.St) (H : Hp), ys[i]? = some x → Pv i σ H → tb { nx := Pv (i + 1), rt := D.rt, ct := Pv (i + 1), bk := D.nx } (σ.set j (some x)) H) (hd : ∀ σ H, Pv ys.length σ H → D.nx σ H) :
    KTu K (gName j) tb D σ (.ref a) H := ⟨a, rfl, ⟨_, hx⟩, for_tup Pv h0 hl hs hd⟩
/-- for i, x in enumerate(list) -/
theorem k_enum {j1 j2 : Nat} (xs : List α) (Pv : Nat → L2.St → Hp → Prop) (hx : SqL K H a (xs.map f)) (h0 : Pv 0 σ H) (hl : ∀ (i : Nat) (σ : L2.St) (H : Hp), i ≤ xs.length → Pv i σ H → SqL K H a (xs.map f))
    (hs : ∀ (i : Nat) (x : α) (σ : L2.St) (H : Hp) (T : Addr), xs[i]? = some x → Pv i σ H → H T = none → tb { nx := Pv (i + 1), rt := D.rt, ct := Pv (i + 1), bk := D.nx } ((σ.set j1 (some (.int (i : Nat)))).set j2 (some (f x))) (upd H T (.tup [.int (i : Nat), f x]))) (hd : ∀ σ H, Pv xs.length σ H → D.nx σ H) :
    KE K (gTup K 2 (gCons (gName j1) (gCons (gName j2) gNil))) tb D σ [.ref a] H := by
  refine ⟨a, _, rfl, hx, fun i m σ H => m = xs.length - i ∧ i ≤ xs.length ∧ Pv i σ H, ⟨xs.length, by simp, Nat.zero_le _, h0⟩, ?_⟩
  rintro i m σ H ⟨rfl, hi, p⟩
  have q := hl i σ H hi p
  by_cases hlt : i < xs.length
  · have hx : xs[i]? = some xs[i] := List.getElem?_eq_getElem hlt
    refine .inr ⟨⟨_, f xs[i], q, by rw [List.getElem?_map, hx]; rfl⟩, Pv (i + 1), fun σ' H' p' => ⟨xs.length - (i + 1), by omega, rfl, hlt, p'⟩, fun x H' y => ?_⟩
    obtain ⟨T, x', rfl, nT, rfl, hy⟩ := y
    have e := hy _ q
    rw [List.getElem?_map, hx] at e
    have e' : f xs[i] = x' := Option.some.inj e
    subst e'
    exact ⟨T, _, rfl, SqT.of upd_same, rfl, _, _, rfl, _, _, rfl, rfl, hs i _ σ H T hx p nT⟩
  · have e : i = xs.length := by omega
    subst e
    exact .inl ⟨⟨_, q, by rw [List.length_map]; exact Nat.le_refl _⟩, hd σ H p⟩
theorem k_rng1 {j : Nat} {n : Int} (Pv : Nat → L2.St → Hp → Prop) (z : 0 ≤ n ∧ n ≤ 1000000) (h0 : Pv 0 σ H)
    (hs : ∀ (i : Nat) (σ : L2.St) (H : Hp), (i : Int) < n → Pv i σ H → tb { nx := Pv (i + 1), rt := D.rt, ct := Pv (i + 1), bk := D.nx } (σ.set j (some (.int (i : Nat)))) H) (hd : ∀ σ H, Pv n.toNat σ H → D.nx σ H) :
    KR1 (gName j) tb D σ [.int n] H := by
  refine ⟨n, rfl, by omega, by omega, for_range (lo := 0) (n := n.toNat) Pv h0 (fun i σ H hi p => ?_) hd⟩
  have e0 : (0 : Int) + (i : Int) = (i : Int) := Int.zero_add _
  show tb _ (σ.set j (some (.int ((0 : Int) + (i : Int))))) H
  rw [e0]
  exact hs i σ H (by omega) p
theorem k_rng2 {j : Nat} {lo n : Int} (Pv : Nat → L2.St → Hp → Prop) (z : 0 ≤ lo ∧ lo ≤ 1000000 ∧ -1 ≤ n ∧ n ≤ 1000000) (h0 : Pv 0 σ H)
    (hs : ∀ (i : Nat) (σ : L2.St) (H : Hp), lo + (i : Int) < n → Pv i σ H → tb { nx := Pv (i + 1), rt := D.rt, ct := Pv (i + 1), bk := D.nx } (σ.set j (some (.int (lo + (i : Nat))))) H) (hd : ∀ σ H, Pv (n - lo).toNat σ H → D.nx σ H) :
    KR2 (gName j) tb D σ [.int lo, .int n] H :=
  ⟨lo, n, rfl, by omega, for_range (lo := lo) (n := (n - lo).toNat) Pv h0 (fun i σ H hi p => hs i σ H (by omega) p) hd⟩
/-- while: a word W by a measure -/
theorem r_while {tc : TT} (W : Nat → L2.St → Hp → Prop) (m0 : Nat) (h0 : W m0 σ H)
    (hs : ∀ m σ' H', W m σ' H' → tc σ' H' fun b H1 => if b = true then ∃ N : L2.St → Hp → Prop, (∀ σ2 H2, N σ2 H2 → ∃ m', m' < m ∧ W m' σ2 H2) ∧ tb { nx := N, rt := D.rt, ct := N, bk := D.nx } σ' H1 else D.nx σ' H1) : tWhile tc tb D σ H :=
  ⟨W, ⟨m0, h0⟩, hs⟩
end
/-! ### comprehensions -/
theorem tYes_ok {σ : L2.St} {H : Hp} {R : Bool → Hp → Prop} (h : R true H) : tYes σ H R := h
def CW (J : It) (g : TG) (tt : TT) (te : TE) (vs : List Nat) (σ : L2.St) (D : Addr) (H1 : Hp) (Qd : Hp → Prop) : Prop := ∃ W : Nat → Nat → Hp → Prop, (∃ m, W 0 m (upd H1 D (.lst []))) ∧ ∀ i m H, W i m H →
  (J.stop i H ∧ Qd H) ∨ (J.go i H ∧ ∃ Nx : Hp → Prop, (∀ H', Nx H' → ∃ m', m' < m ∧ W (i + 1) m' H') ∧ ∀ x H', J.yld i H x H' → g x (wipe σ vs) H' fun σ2 H2 => wipe σ2 vs = wipe σ vs ∧ tt σ2 H2 fun b H3 =>
    if b = true then te σ2 H3 fun y H4 => ∃ acc, H4 D = some (.lst acc) ∧ acc.length < sizeLine ∧ Nx (upd H4 D (.lst (acc ++ [y]))) else Nx H3)
/-- new objects at as, each holding obj of its item -/
def News {α : Type} (H1 H2 : Hp) (obj : α → HO) (as : List Addr) (xs : List α) : Prop := as.length = xs.length ∧ as.Nodup ∧ ∀ (i : Nat) (p : Addr) (x : α), as[i]? = some p → xs[i]? = some x → H1 p = none ∧ H2 p = some (obj x)
section
variable {K : PySem.W.Frag} {σ : L2.St} {H : Hp} {Q : VK} {g : TG} {te : TE} {tt : TT} {α β : Type} {f : α → V} {h : β → V} {a : Addr} {j : Nat} {vs : List Nat}
def KC (K : PySem.W.Frag) (g : TG) (tt : TT) (te : TE) (vs : List Nat) (σ : L2.St) (Q : VK) (x : V) (H : Hp) : Prop := ∃ a, x = .ref a ∧ (∃ xs, SqL K H a xs) ∧ ∀ D, H D = none → CW (Itl K a) g tt te vs σ D H fun H2 => Q (.ref D) H2
def KCR1 (g : TG) (tt : TT) (te : TE) (vs : List Nat) (σ : L2.St) (Q : VK) (us : List V) (H : Hp) : Prop := ∃ j : Int, us = [.int j] ∧ -(2 ^ 62) ≤ j ∧ j < 2 ^ 62 ∧ ∀ D, H D = none → CW (Itr 0 j.toNat) g tt te vs σ D H fun H2 => Q (.ref D) H2
def KCR2 (g : TG) (tt : TT) (te : TE) (vs : List Nat) (σ : L2.St) (Q : VK) (us : List V) (H : Hp) : Prop := ∃ i j : Int, us = [.int i, .int j] ∧ (-(2 ^ 62) ≤ i ∧ i < 2 ^ 62 ∧ -(2 ^ 62) ≤ j ∧ j < 2 ^ 62) ∧ ∀ D, H D = none → CW (Itr i (j - i).toNat) g tt te vs σ D H fun H2 => Q (.ref D) H2
theorem e_lcL {tl : TE} (hh : tl σ H fun x H1 => KC K g tt te vs σ Q x H1) : tLc (iList K tl) g tt te vs σ H Q := hh
theorem e_lcR1 {ta : TA} (hh : ta σ H fun us H1 => KCR1 g tt te vs σ Q us H1) : tLc (iRng1 ta) g tt te vs σ H Q := hh
theorem e_lcR2 {ta : TA} (hh : ta σ H fun us H1 => KCR2 g tt te vs σ Q us H1) : tLc (iRng2 ta) g tt te vs σ H Q := hh
/-- elements that are values, over a list -/
theorem k_lcV {xs : List α} (F : α → β) (hx : SqL K H a (xs.map f)) (z : xs.length < 1000000) (hw : ∀ v : V, wipe ((wipe σ vs).set j (some v)) vs = wipe σ vs)
    (hs : ∀ (i : Nat) (x : α) (H2 : Hp) (R : VK), xs[i]? = some x → Same H H2 → (∀ H3, Same H2 H3 → R (h (F x)) H3) → te ((wipe σ vs).set j (some (f x))) H2 R)
    (hd : ∀ D H2, H D = none → Same H H2 → H2 D = some (.lst ((xs.map F).map h)) → Q (.ref D) H2) : KC K (gName j) tYes te vs σ Q (.ref a) H := by
  refine ⟨a, rfl, ⟨_, hx⟩, fun D nD => ?_⟩
  refine lc_list (xs := xs.map f) (fun i H2 => Same H H2 ∧ H2 D = some (.lst (((xs.take i).map F).map h))) ⟨Same.one nD, upd_same⟩ (fun i H2 _ p => p.1.seq hx) (fun i x H2 hi p => ⟨hw x, ?_⟩) (fun H2 p => ?_)
  · obtain ⟨y, hy, rfl⟩ := map_get hi
    refine tYes_ok (iteT ?_)
    refine hs i y H2 _ hy p.1 fun H4 s4 => ?_
    refine ⟨_, s4 _ _ p.2, ?_, Same.new (p.1.trans s4) nD, ?_⟩
    · rw [List.length_map, List.length_map, List.length_take]
      exact Nat.lt_of_lt_of_le (Nat.lt_of_le_of_lt (Nat.min_le_right _ _) z) (by decide)
    · rw [upd_same, List.take_add_one, hy, List.map_append, List.map_append]; rfl
  · obtain ⟨p1, p2⟩ := p
    rw [List.length_map, List.take_length] at p2
    exact hd D H2 nD p1 p2
/-- .. over a list of lists (as their addresses, xss what stands there) -/
theorem k_lcLf {γ : Type} {as : List Addr} {xss : List γ} (F : γ → β) (hx : SqL K H a (as.map V.ref)) (hl : as.length = xss.length) (z : as.length < 1000000) (hw : ∀ v : V, wipe ((wipe σ vs).set j (some v)) vs = wipe σ vs)
    (hs : ∀ (i : Nat) (p : Addr) (x : γ) (H2 : Hp) (R : VK), as[i]? = some p → xss[i]? = some x → Same H H2 → (∀ H3, Same H2 H3 → R (h (F x)) H3) → te ((wipe σ vs).set j (some (.ref p))) H2 R)
    (hd : ∀ D H2, H D = none → Same H H2 → H2 D = some (.lst ((xss.map F).map h)) → Q (.ref D) H2) : KC K (gName j) tYes te vs σ Q (.ref a) H := by
  have e1 : (as.zip xss).map (fun p => V.ref p.1) = as.map V.ref := by
    have : (as.zip xss).map Prod.fst = as := List.map_fst_zip (by omega)
    conv => rhs; rw [← this, List.map_map]
    rfl
  have e2 : (as.zip xss).map (fun p => F p.2) = xss.map F := by
    have : (as.zip xss).map Prod.snd = xss := List.map_snd_zip (by omega)
    conv => rhs; rw [← this, List.map_map]
    rfl
  refine k_lcV (xs := as.zip xss) (f := fun p => V.ref p.1) (h := h) (fun p => F p.2) (by rw [e1]; exact hx) (by rw [List.length_zip]; omega) hw (fun i x H2 R hi s2 k => ?_) (fun D H2 nD s2 hD => hd D H2 nD s2 (by rw [e2] at hD; exact hD))
  obtain ⟨p, y⟩ := x
  obtain ⟨h1, h2⟩ := List.getElem?_zip_eq_some.mp hi
  exact hs i p y H2 R h1 h2 s2 k
/-- elements that are values, over a range -/
theorem k_lcR1 {n : Int} (F : Nat → β) (z : 0 ≤ n ∧ n < 1000000) (hw : ∀ v : V, wipe ((wipe σ vs).set j (some v)) vs = wipe σ vs)
    (hs : ∀ (i : Nat) (H2 : Hp) (R : VK), (i : Int) < n → Same H H2 → (∀ H3, Same H2 H3 → R (h (F i)) H3) → te ((wipe σ vs).set j (some (.int (i : Nat)))) H2 R)
    (hd : ∀ D H2, H D = none → Same H H2 → H2 D = some (.lst (((List.range n.toNat).map F).map h)) → Q (.ref D) H2) : KCR1 (gName j) tYes te vs σ Q [.int n] H := by
  refine ⟨n, rfl, by omega, by omega, fun D nD => ?_⟩
  refine lc_range (lo := 0) (n := n.toNat) (fun i H2 => Same H H2 ∧ H2 D = some (.lst (((List.range i).map F).map h))) ⟨Same.one nD, upd_same⟩ (fun i H2 hi p => ⟨hw _, ?_⟩) (fun H2 p => hd D H2 nD p.1 p.2)
  have e0 : (0 : Int) + (i : Int) = (i : Int) := Int.zero_add _
  rw [e0]
  refine tYes_ok (iteT ?_)
  refine hs i H2 _ (by omega) p.1 fun H4 s4 => ?_
  refine ⟨_, s4 _ _ p.2, ?_, Same.new (p.1.trans s4) nD, ?_⟩
  · rw [List.length_map, List.length_map, List.length_range]
    exact Nat.lt_of_lt_of_le (show i < 1000000 by omega) (by decide)
  · rw [upd_same, List.range_succ, List.map_append, List.map_append]; rfl
theorem k_lcR2 {lo n : Int} (F : Int → β) (z : 0 ≤ lo ∧ lo ≤ 1000000 ∧ -1 ≤ n ∧ n < 1000000) (hw : ∀ v : V, wipe ((wipe σ vs).set j (some v)) vs = wipe σ vs)
    (hs : ∀ (i : Nat) (H2 : Hp) (R : VK), lo + (i : Int) < n → Same H H2 → (∀ H3, Same H2 H3 → R (h (F (lo + i))) H3) → te ((wipe σ vs).set j (some (.int (lo + (i : Nat))))) H2 R)
    (hd : ∀ D H2, H D = none → Same H H2 → H2 D = some (.lst (((List.range (n - lo).toNat).map fun i : Nat => F (lo + i)).map h)) → Q (.ref D) H2) : KCR2 (gName j) tYes te vs σ Q [.int lo, .int n] H := by
  refine ⟨lo, n, rfl, by omega, fun D nD => ?_⟩
  refine lc_range (lo := lo) (n := (n - lo).toNat) (fun i H2 => Same H H2 ∧ H2 D = some (.lst (((List.range i).map fun i : Nat => F (lo + i)).map h))) ⟨Same.one nD, upd_same⟩ (fun i H2 hi p => ⟨hw _, ?_⟩) (fun H2 p => hd D H2 nD p.1 p.2)
  refine tYes_ok (iteT ?_)
  refine hs i H2 _ (by omega) p.1 fun H4 s4 => ?_
  refine ⟨_, s4 _ _ p.2, ?_, Same.new (p.1.trans s4) nD, ?_⟩
  · rw [List.length_map, List.length_map, List.length_range]
    exact Nat.lt_of_lt_of_le (show i < 1000002 by omega) (by decide)
  · rw [upd_same, List.range_succ, List.map_append, List.map_append]; rfl
/-- elements that are new objects, over a list -/
theorem k_lcN {xs : List α} (obj : α → HO) (hx : SqL K H a (xs.map f)) (z : xs.length < 1000000) (hw : ∀ v : V, wipe ((wipe σ vs).set j (some v)) vs = wipe σ vs)
    (hs : ∀ (i : Nat) (x : α) (H2 : Hp) (R : VK), xs[i]? = some x → Same H H2 → (∀ p H3, H2 p = none → Same H2 H3 → H3 p = some (obj x) → R (.ref p) H3) → te ((wipe σ vs).set j (some (f x))) H2 R)
    (hd : ∀ D as H2, H D = none → Same H H2 → News H H2 obj as xs → D ∉ as → H2 D = some (.lst (as.map V.ref)) → Q (.ref D) H2) : KC K (gName j) tYes te vs σ Q (.ref a) H := by
  refine ⟨a, rfl, ⟨_, hx⟩, fun D nD => ?_⟩
  refine lc_list (xs := xs.map f) (fun i H2 => Same H H2 ∧ ∃ as, News H H2 obj as (xs.take i) ∧ D ∉ as ∧ H2 D = some (.lst (as.map V.ref)))
    ⟨Same.one nD, [], ⟨rfl, List.nodup_nil, fun i p x h => by simp at h⟩, by simp, upd_same⟩ (fun i H2 _ p => p.1.seq hx) (fun i x H2 hi p => ⟨hw x, ?_⟩) (fun H2 p => ?_)
  · obtain ⟨y, hy, rfl⟩ := map_get hi
    obtain ⟨p1, as, ⟨n1, n2, n3⟩, p3, p4⟩ := p
    have hil : i < xs.length := (List.getElem?_eq_some_iff.mp hy).1
    have hl : as.length = i := by rw [n1, List.length_take]; omega
    refine tYes_ok (iteT ?_)
    refine hs i y H2 _ hy p1 fun p H4 np s4 hp => ?_
    have pD : p ≠ D := (ne_of_none p4 np).symm
    have pas : p ∉ as := fun hm => by
      obtain ⟨k, hk⟩ := List.mem_iff_getElem?.mp hm
      have hkl : k < as.length := (List.getElem?_eq_some_iff.mp hk).1
      obtain ⟨x, hx'⟩ : ∃ x, (xs.take i)[k]? = some x := ⟨_, List.getElem?_eq_getElem (by rw [← n1]; exact hkl)⟩
      have := (n3 k p x hk hx').2
      rw [np] at this; cases this
    refine ⟨_, s4 _ _ p4, ?_, Same.new (p1.trans s4) nD, as ++ [p], ⟨?_, ?_, ?_⟩, ?_, ?_⟩
    · rw [List.length_map, hl]
      exact Nat.lt_of_lt_of_le (show i < 1000000 by omega) (by decide)
    · rw [List.length_append, n1, List.take_add_one, hy, List.length_append]; rfl
    · exact List.nodup_append.mpr ⟨n2, by simp, fun x hx y hy => by
        have : y = p := by simpa using hy
        subst this
        exact fun e => pas (e ▸ hx)⟩
    · intro k q x hk hx'
      rw [List.take_add_one, hy] at hx'
      by_cases hki : k < i
      · rw [List.getElem?_append_left (by omega)] at hk
        rw [List.getElem?_append_left (by rw [List.length_take]; omega)] at hx'
        obtain ⟨m1, m2⟩ := n3 k q x hk hx'
        have qD : q ≠ D := fun e => p3 (e ▸ List.mem_of_getElem? hk)
        exact ⟨m1, by rw [upd_ne qD]; exact s4 _ _ m2⟩
      · rw [List.getElem?_append_right (by omega), hl] at hk
        rw [List.getElem?_append_right (by rw [List.length_take]; omega), List.length_take] at hx'
        have e0 : k - i = 0 := by
          cases hz : k - i with
          | zero => rfl
          | succ m => rw [hz] at hk; simp at hk
        have e1 : k - min i xs.length = 0 := by omega
        rw [e0] at hk; rw [e1] at hx'
        have h1 : p = q := Option.some.inj hk
        have h2 : y = x := Option.some.inj hx'
        subst h1 h2
        exact ⟨p1.free np, by rw [upd_ne pD]; exact hp⟩
    · intro hm
      rcases List.mem_append.mp hm with hm | hm
      · exact p3 hm
      · exact pD (by simpa using hm : D = p).symm
    · rw [upd_same, List.map_append]; rfl
  · obtain ⟨p1, as, n, p3, p4⟩ := p
    rw [List.length_map, List.take_length] at n
    exact hd D as H2 nD p1 n p3 p4
end
section
variable {K : PySem.W.Frag} {σ : L2.St} {H : Hp} {Q : VK} {te : TE} {a : Addr} {j : Nat} {vs : List Nat}
/-- .. over a list of lists (as their addresses, xss what stands there) -/
theorem k_lcNf {γ : Type} {as : List Addr} {xss : List γ} (obj : γ → HO) (hx : SqL K H a (as.map V.ref)) (hl : as.length = xss.length) (z : as.length < 1000000) (hw : ∀ v : V, wipe ((wipe σ vs).set j (some v)) vs = wipe σ vs)
    (hs : ∀ (i : Nat) (p : Addr) (x : γ) (H2 : Hp) (R : VK), as[i]? = some p → xss[i]? = some x → Same H H2 → (∀ q H3, H2 q = none → Same H2 H3 → H3 q = some (obj x) → R (.ref q) H3) → te ((wipe σ vs).set j (some (.ref p))) H2 R)
    (hd : ∀ D bs H2, H D = none → Same H H2 → News H H2 obj bs xss → D ∉ bs → H2 D = some (.lst (bs.map V.ref)) → Q (.ref D) H2) : KC K (gName j) tYes te vs σ Q (.ref a) H := by
  have e1 : (as.zip xss).map (fun p => V.ref p.1) = as.map V.ref := by
    have : (as.zip xss).map Prod.fst = as := List.map_fst_zip (by omega)
    conv => rhs; rw [← this, List.map_map]
    rfl
  refine k_lcN (xs := as.zip xss) (f := fun p => V.ref p.1) (fun p => obj p.2) (by rw [e1]; exact hx) (by rw [List.length_zip]; omega) hw (fun i x H2 R hi s2 k => ?_) (fun D bs H2 nD s2 n hn hD => hd D bs H2 nD s2 ⟨by rw [n.1, List.length_zip]; omega, n.2.1, fun i q x hq hx => ?_⟩ hn hD)
  · obtain ⟨p, y⟩ := x
    obtain ⟨h1, h2⟩ := List.getElem?_zip_eq_some.mp hi
    exact hs i p y H2 R h1 h2 s2 k
  · have hi : i < as.length := by rw [hl]; exact (List.getElem?_eq_some_iff.mp hx).1
    exact n.2.2 i q (as[i], x) hq (List.getElem?_zip_eq_some.mpr ⟨List.getElem?_eq_getElem hi, hx⟩)
end
section
variable {α : Type} {H1 H2 H3 : Hp} {obj : α → HO} {as : List Addr} {xs : List α}
theorem News.nil : News H1 H2 obj [] [] := ⟨rfl, List.nodup_nil, fun i p x h => by simp at h⟩
theorem News.len (n : News H1 H2 obj as xs) : as.length = xs.length := n.1
theorem News.get (n : News H1 H2 obj as xs) {i : Nat} {x : α} (h : xs[i]? = some x) : ∃ p, as[i]? = some p ∧ H1 p = none ∧ H2 p = some (obj x) := by
  have hi : i < as.length := by rw [n.1]; exact (List.getElem?_eq_some_iff.mp h).1
  exact ⟨as[i], List.getElem?_eq_getElem hi, n.2.2 i _ x (List.getElem?_eq_getElem hi) h⟩
theorem News.mem (n : News H1 H2 obj as xs) {p : Addr} (h : p ∈ as) : ∃ x ∈ xs, H1 p = none ∧ H2 p = some (obj x) := by
  obtain ⟨i, hi⟩ := List.mem_iff_getElem?.mp h
  have hl : i < xs.length := by rw [← n.1]; exact (List.getElem?_eq_some_iff.mp hi).1
  exact ⟨xs[i], List.getElem_mem hl, n.2.2 i p _ hi (List.getElem?_eq_getElem hl)⟩
theorem News.same (n : News H1 H2 obj as xs) (s : Same H2 H3) : News H1 H3 obj as xs := ⟨n.1, n.2.1, fun i p x h h' => ⟨(n.2.2 i p x h h').1, s _ _ (n.2.2 i p x h h').2⟩⟩
theorem News.back (n : News H1 H2 obj as xs) {H0 : Hp} (s : Same H0 H1) : News H0 H2 obj as xs := ⟨n.1, n.2.1, fun i p x h h' => ⟨s.free (n.2.2 i p x h h').1, (n.2.2 i p x h h').2⟩⟩
theorem News.mut (n : News H1 H2 obj as xs) {p : Addr} {o : HO} (h : p ∉ as) : News H1 (upd H2 p o) obj as xs := ⟨n.1, n.2.1, fun i q x hq hx => ⟨(n.2.2 i q x hq hx).1, by
  rw [upd_ne (fun e => h (by rw [← e]; exact List.mem_of_getElem? hq))]; exact (n.2.2 i q x hq hx).2⟩⟩
theorem News.notin (n : News H1 H2 obj as xs) {p : Addr} (h : H2 p = none) : p ∉ as := fun hm => by
  obtain ⟨x, _, _, e⟩ := n.mem hm
  rw [h] at e; cases e
theorem News.notin1 (n : News H1 H2 obj as xs) {p : Addr} {o : HO} (h : H1 p = some o) : p ∉ as := fun hm => by
  obtain ⟨x, _, e, _⟩ := n.mem hm
  rw [h] at e; cases e
theorem News.snoc (n : News H1 H2 obj as xs) {p : Addr} {x : α} (h : p ∉ as) (h1 : H1 p = none) (h2 : H2 p = some (obj x)) : News H1 H2 obj (as ++ [p]) (xs ++ [x]) := by
  refine ⟨by rw [List.length_append, List.length_append, n.1]; rfl, List.nodup_append.mpr ⟨n.2.1, by simp, fun a ha b hb => ?_⟩, fun i q y hq hy => ?_⟩
  · have : b = p := by simpa using hb
    subst this
    exact fun e => h (e ▸ ha)
  · by_cases hi : i < as.length
    · rw [List.getElem?_append_left hi] at hq
      rw [List.getElem?_append_left (by rw [← n.1]; exact hi)] at hy
      exact n.2.2 i q y hq hy
    · rw [List.getElem?_append_right (by omega)] at hq
      rw [List.getElem?_append_right (by rw [← n.1]; omega), ← n.1] at hy
      have e0 : i - as.length = 0 := by
        cases hz : i - as.length with
        | zero => rfl
        | succ m => rw [hz] at hq; simp at hq
      rw [e0] at hq hy
      have e1 : p = q := Option.some.inj hq
      have e2 : x = y := Option.some.inj hy
      subst e1 e2
      exact ⟨h1, h2⟩
theorem News.reverse (n : News H1 H2 obj as xs) : News H1 H2 obj as.reverse xs.reverse := by
  refine ⟨by rw [List.length_reverse, List.length_reverse, n.1], (List.reverse_perm as).nodup_iff.mpr n.2.1, fun i p x hp hx => ?_⟩
  have hi : i < as.length := by have := (List.getElem?_eq_some_iff.mp hp).1; rwa [List.length_reverse] at this
  rw [List.getElem?_reverse hi] at hp
  rw [List.getElem?_reverse (by rw [← n.1]; exact hi), ← n.1] at hx
  exact n.2.2 _ p x hp hx
theorem nm_snoc {p q : Addr} (h : p ∉ as) (ne : p ≠ q) : p ∉ as ++ [q] := fun hm => by
  rcases List.mem_append.mp hm with hm | hm
  · exact h hm
  · exact ne (by simpa using hm)
end
/-- a pair of ints as an object -/
abbrev oP (p : Int × Int) : HO := .tup [.int p.1, .int p.2]
/-- pairs that stand at their places -/
def Tf (H : Hp) (ts : List Addr) (ps : List (Int × Int)) : Prop := ts.length = ps.length ∧ ∀ (i : Nat) (t : Addr) (p : Int × Int), ts[i]? = some t → ps[i]? = some p → H t = some (oP p)
theorem Tf.same {H H' : Hp} {ts : List Addr} {ps : List (Int × Int)} (h : Tf H ts ps) (s : Same H H') : Tf H' ts ps := ⟨h.1, fun i t p a b => s _ _ (h.2 i t p a b)⟩
theorem Tf.of {H0 H : Hp} {ts : List Addr} {ps : List (Int × Int)} (n : News H0 H oP ts ps) : Tf H ts ps := ⟨n.1, fun i t p a b => (n.2.2 i t p a b).2⟩
section
variable {K : PySem.W.Frag} {σ : L2.St} {H : Hp} {D : Ends} {tb : TS} {a : Addr} {ts : List Addr} {ps : List (Int × Int)}
/-- for x, y in a list of pairs -/
theorem k_lstP {j1 j2 : Nat} (Pv : Nat → L2.St → Hp → Prop) (hx : SqL K H a (ts.map V.ref)) (hl : ts.length = ps.length) (h0 : Pv 0 σ H)
    (hk : ∀ (i : Nat) (σ : L2.St) (H : Hp), i ≤ ts.length → Pv i σ H → SqL K H a (ts.map V.ref) ∧ Tf H ts ps)
    (hs : ∀ (i : Nat) (p : Int × Int) (σ : L2.St) (H : Hp), ps[i]? = some p → Pv i σ H → tb { nx := Pv (i + 1), rt := D.rt, ct := Pv (i + 1), bk := D.nx } ((σ.set j1 (some (.int p.1))).set j2 (some (.int p.2))) H) (hd : ∀ σ H, Pv ps.length σ H → D.nx σ H) :
    KL K (gTup K 2 (gCons (gName j1) (gCons (gName j2) gNil))) tb D σ (.ref a) H := by
  refine k_lst (f := V.ref) ts Pv hx h0 (fun i σ H hi p => (hk i σ H hi p).1) (fun i t σ H ht p => ?_) (fun σ H p => hd σ H (by rw [← hl]; exact p))
  have hi : i < ts.length := (List.getElem?_eq_some_iff.mp ht).1
  have hp : ps[i]? = some ps[i] := List.getElem?_eq_getElem (by omega)
  exact ⟨t, _, rfl, SqT.of ((hk i σ H (by omega) p).2.2 i t _ ht hp), rfl, _, _, rfl, _, _, rfl, rfl, hs i _ σ H hp p⟩
end
/-- a list of ints as an object -/
abbrev oL (r : List Int) : HO := .lst (r.map V.int)
/-! ### ifs -/
theorem ite_nT {A B : Prop} (h : B) : if (!true) = true then A else B := iteF h
theorem ite_nF {A B : Prop} (h : A) : if (!false) = true then A else B := iteT h
theorem ite_bl {b : Bool} {A B : Prop} (h1 : b = true → A) (h2 : b = false → B) : if b = true then A else B := by
  cases b with
  | true => exact iteT (h1 rfl)
  | false => exact iteF (h2 rfl)
theorem ite_y {b : Bool} {A B : Prop} (h : b = true) (a : A) : if b = true then A else B := by subst h; exact iteT a
theorem ite_n {b : Bool} {A B : Prop} (h : b = false) (a : B) : if b = true then A else B := by subst h; exact iteF a
theorem ite_dec {c : Prop} [Decidable c] {A B : Prop} (h1 : c → A) (h2 : ¬ c → B) : if decide c = true then A else B := by
  by_cases h : c
  · rw [if_pos (decide_eq_true h)]; exact h1 h
  · rw [if_neg (by rw [decide_eq_false h]; exact Bool.false_ne_true)]; exact h2 h
theorem ite_ndec {c : Prop} [Decidable c] {A B : Prop} (h1 : ¬ c → A) (h2 : c → B) : if (!decide c) = true then A else B := by
  by_cases h : c
  · rw [if_neg (by rw [decide_eq_true h]; exact Bool.false_ne_true)]; exact h2 h
  · rw [if_pos (by rw [decide_eq_false h]; rfl)]; exact h1 h
theorem ite_decY {c : Prop} [Decidable c] {A B : Prop} (h : c) (a : A) : if decide c = true then A else B := ite_dec (fun _ => a) (fun n => absurd h n)
theorem ite_decN {c : Prop} [Decidable c] {A B : Prop} (h : ¬ c) (a : B) : if decide c = true then A else B := ite_dec (fun n => absurd n h) (fun _ => a)
theorem ite_ndecY {c : Prop} [Decidable c] {A B : Prop} (h : ¬ c) (a : A) : if (!decide c) = true then A else B := ite_ndec (fun _ => a) (fun n => absurd n h)
theorem ite_ndecN {c : Prop} [Decidable c] {A B : Prop} (h : c) (a : B) : if (!decide c) = true then A else B := ite_ndec (fun n => absurd h n) (fun _ => a)
/-! ### dicts whose keys are ints -/
section
variable {σ : L2.St} {H : Hp} {D : Ends} {Q : VK} {td ty tv : TE} {a : Addr} {kvs : List (Key × V)} {i : Int} {v : V}
def KDP (D : Ends) (σ : L2.St) (v x y : V) (H : Hp) : Prop := ∃ a H4, x = .ref a ∧ DPut H a y v H4 ∧ D.nx σ H4
theorem r_dput (h : tv σ H fun v H1 => td σ H1 fun x H2 => ty σ H2 fun y H3 => KDP D σ v x y H3) : sDPut td ty tv D σ H := h
theorem k_dput (h : H a = some (.dK kvs)) (z : kvs.length < 1000000) (q : D.nx σ (upd H a (.dK (putK kvs (.inl i) v)))) : KDP D σ v (.ref a) (.int i) H := ⟨a, _, rfl, DPut.k (k := .inl i) h (Nat.lt_of_lt_of_le z (by decide)), q⟩
def KDG (Q : VK) (x y : V) (H : Hp) : Prop := ∃ a v, x = .ref a ∧ DGet H a y (some v) ∧ Q v H
theorem e_dget (h : td σ H fun x H1 => ty σ H1 fun y H2 => KDG Q x y H2) : tDGet td ty σ H Q := h
theorem k_dget (h : H a = some (.dK kvs)) (e : valV kvs (.inl i) = some v) (q : Q v H) : KDG Q (.ref a) (.int i) H := ⟨a, v, rfl, by have := DGet.k (k := .inl i) h; rw [e] at this; exact this, q⟩
def KDN (Q : VK) (y x : V) (H : Hp) : Prop := ∃ a o, x = .ref a ∧ DGet H a y o ∧ Q (.bl (!o.isSome)) H
theorem e_dnin (h : ty σ H fun y H1 => td σ H1 fun x H2 => KDN Q y x H2) : tDNotIn ty td σ H Q := h
theorem k_dnin (h : H a = some (.dK kvs)) (q : Q (.bl (!(valV kvs (.inl i)).isSome)) H) : KDN Q (.int i) (.ref a) H := ⟨a, _, rfl, DGet.k (k := .inl i) h, q⟩
theorem e_dnew (h : ∀ p, H p = none → Q (.ref p) (upd H p (.dK []))) : tDNewK σ H Q := h
end
end Bo

namespace Bo
open PySem PySem.Spec PyProof.Rows L2
def topS (i : Nat) : Stmt := PySem.Challenge.pw_backorder_k07_written.main.body.getD i (.Pass ⟨0, 0, 0, 0⟩)
abbrev s_is_number : Stmt := topS 9
abbrev N_is_number : List Str := ["thing", "low", "high"]
theorem sc_is_number : FnScope N_is_number ["thing", "low", "high"] (defScope s_is_number) := ⟨rfl, rfl, rfl, by decide +kernel, rfl, by decide +kernel, by decide +kernel⟩
abbrev s_check_row : Stmt := topS 10
abbrev N_check_row : List Str := ["row", "thing"]
theorem sc_check_row : FnScope N_check_row ["row"] (defScope s_check_row) := ⟨rfl, rfl, rfl, by decide +kernel, rfl, by decide +kernel, by decide +kernel⟩
abbrev s_written : Stmt := topS 13
abbrev N_written : List Str := ["row", "thing"]
theorem sc_written : FnScope N_written ["row"] (defScope s_written) := ⟨rfl, rfl, rfl, by decide +kernel, rfl, by decide +kernel, by decide +kernel⟩
abbrev s_number_in : Stmt := topS 14
abbrev N_number_in : List Str := ["word"]
theorem sc_number_in : FnScope N_number_in ["word"] (defScope s_number_in) := ⟨rfl, rfl, rfl, by decide +kernel, rfl, by decide +kernel, by decide +kernel⟩
abbrev s_read : Stmt := topS 15
abbrev N_read : List Str := ["text", "row", "word"]
theorem sc_read : FnScope N_read ["text"] (defScope s_read) := ⟨rfl, rfl, rfl, by decide +kernel, rfl, by decide +kernel, by decide +kernel⟩
abbrev s__law_cell_at : Stmt := topS 17
abbrev N__law_cell_at : List Str := ["_law_script", "_law_k"]
theorem sc__law_cell_at : FnScope N__law_cell_at ["_law_script", "_law_k"] (defScope s__law_cell_at) := ⟨rfl, rfl, rfl, by decide +kernel, rfl, by decide +kernel, by decide +kernel⟩
abbrev s__law_draw : Stmt := topS 18
abbrev N__law_draw : List Str := ["_law_cell", "_law_k", "_law_many", "_law_primes"]
theorem sc__law_draw : FnScope N__law_draw ["_law_cell", "_law_k", "_law_many"] (defScope s__law_draw) := ⟨rfl, rfl, rfl, by decide +kernel, rfl, by decide +kernel, by decide +kernel⟩
abbrev s__law_row : Stmt := topS 19
abbrev N__law_row : List Str := ["_law_script", "_law_kind", "_law_row_here", "_law_k", "_law_away"]
theorem sc__law_row : FnScope N__law_row ["_law_script"] (defScope s__law_row) := ⟨rfl, rfl, rfl, by decide +kernel, rfl, by decide +kernel, by decide +kernel⟩
abbrev s__law_number : Stmt := topS 22
abbrev N__law_number : List Str := ["_law_text"]
theorem sc__law_number : FnScope N__law_number ["_law_text"] (defScope s__law_number) := ⟨rfl, rfl, rfl, by decide +kernel, rfl, by decide +kernel, by decide +kernel⟩
abbrev s__law_in : Stmt := topS 23
abbrev N__law_in : List Str := ["_law_text", "_law_found", "_law_word"]
theorem sc__law_in : FnScope N__law_in ["_law_text"] (defScope s__law_in) := ⟨rfl, rfl, rfl, by decide +kernel, rfl, by decide +kernel, by decide +kernel⟩
abbrev s__law_refused : Stmt := topS 24
abbrev N__law_refused : List Str := ["_law_text", "error", "_law_others"]
theorem sc__law_refused : FnScope N__law_refused ["_law_text"] (defScope s__law_refused) := ⟨rfl, rfl, rfl, by decide +kernel, rfl, by decide +kernel, by decide +kernel⟩
abbrev s__law_right : Stmt := topS 25
abbrev N__law_right : List Str := ["_law_text", "_law_due", "_law_found"]
theorem sc__law_right : FnScope N__law_right ["_law_text"] (defScope s__law_right) := ⟨rfl, rfl, rfl, by decide +kernel, rfl, by decide +kernel, by decide +kernel⟩
abbrev s__law_few : Stmt := topS 26
abbrev N__law_few : List Str := ["_law_some"]
theorem sc__law_few : FnScope N__law_few [] (defScope s__law_few) := ⟨rfl, rfl, rfl, by decide +kernel, rfl, by decide +kernel, by decide +kernel⟩
abbrev s_law : Stmt := topS 27
abbrev N_law : List Str := ["_law_script", "_law_row_here", "_law_text", "_law_handed", "_law_cell", "_law_k", "_law_at", "_law_sign", "_law_thing", "_law_other"]
theorem sc_law : FnScope N_law ["_law_script"] (defScope s_law) := ⟨rfl, rfl, rfl, by decide +kernel, rfl, by decide +kernel, by decide +kernel⟩
structure Top (K : PySem.W.Frag) (mg : Str → Option Value) (C_Exchanged C_Fronted C_Ended C_Put C_Answer C_OrderError C_BadRow C_BadNumber C_BadRings C_Unlike C_BadText : Addr) : Prop where
  d_is_number : Df K mg "is_number" s_is_number ["thing", "low", "high"]
  d_check_row : Df K mg "check_row" s_check_row ["row"]
  d_written : Df K mg "written" s_written ["row"]
  d_number_in : Df K mg "number_in" s_number_in ["word"]
  d_read : Df K mg "read" s_read ["text"]
  d__law_cell_at : Df K mg "_law_cell_at" s__law_cell_at ["_law_script", "_law_k"]
  d__law_draw : Df K mg "_law_draw" s__law_draw ["_law_cell", "_law_k", "_law_many"]
  d__law_row : Df K mg "_law_row" s__law_row ["_law_script"]
  d__law_number : Df K mg "_law_number" s__law_number ["_law_text"]
  d__law_in : Df K mg "_law_in" s__law_in ["_law_text"]
  d__law_refused : Df K mg "_law_refused" s__law_refused ["_law_text"]
  d__law_right : Df K mg "_law_right" s__law_right ["_law_text"]
  d__law_few : Df K mg "_law_few" s__law_few []
  d_law : Df K mg "law" s_law ["_law_script"]
  b_ValueError : mg "ValueError" = none
  b_all : mg "all" = none
  b_any : mg "any" = none
  b_bool : mg "bool" = none
  b_int : mg "int" = none
  b_isinstance : mg "isinstance" = none
  b_len : mg "len" = none
  b_list : mg "list" = none
  b_max : mg "max" = none
  b_min : mg "min" = none
  b_range : mg "range" = none
  b_set : mg "set" = none
  b_sorted : mg "sorted" = none
  b_str : mg "str" = none
  g_MOST : ∃ t, mg "MOST" = some (.int 1000000 t)
  g_FIGURES : ∃ t, mg "FIGURES" = some (.str "0123456789" t)
  c_OrderError : mg "OrderError" = some (.ref C_OrderError)
  c_BadRow : mg "BadRow" = some (.ref C_BadRow)
  c_BadNumber : mg "BadNumber" = some (.ref C_BadNumber)
  c_BadRings : mg "BadRings" = some (.ref C_BadRings)
  c_Unlike : mg "Unlike" = some (.ref C_Unlike)
  c_BadText : mg "BadText" = some (.ref C_BadText)
  x_BadRow : PySem.W.excIn K C_BadRow [.type "ValueError", .type "Exception", .type "BaseException", .type "object"] "ValueError.__new__" = true
  k_BadRow : PySem.W.keepIn K (.ref C_BadRow) = true
  sb_BadRow : PySem.W.subIn K (.ref C_BadRow) (.type "BaseException") = some true
  st_BadRow : PySem.W.typeIn K (.ref C_BadRow) = some (.type "type")
  ec_BadRow : ExcC K C_BadRow
  em_BadRow : PySem.W.exmOne K (.ref C_BadRow) (.ref C_OrderError) = some true
  kq_BadRow_BadRow : PySem.W.kitOne K (.ref C_BadRow) (.ref C_BadRow) = some true
  kq_BadRow_BadNumber : PySem.W.kitOne K (.ref C_BadRow) (.ref C_BadNumber) = some false
  kq_BadRow_BadRings : PySem.W.kitOne K (.ref C_BadRow) (.ref C_BadRings) = some false
  kq_BadRow_Unlike : PySem.W.kitOne K (.ref C_BadRow) (.ref C_Unlike) = some false
  kq_BadRow_BadText : PySem.W.kitOne K (.ref C_BadRow) (.ref C_BadText) = some false
  kv_BadRow : PySem.W.kitOne K (.ref C_BadRow) (.type "ValueError") = some true
  x_BadText : PySem.W.excIn K C_BadText [.type "ValueError", .type "Exception", .type "BaseException", .type "object"] "ValueError.__new__" = true
  k_BadText : PySem.W.keepIn K (.ref C_BadText) = true
  sb_BadText : PySem.W.subIn K (.ref C_BadText) (.type "BaseException") = some true
  st_BadText : PySem.W.typeIn K (.ref C_BadText) = some (.type "type")
  ec_BadText : ExcC K C_BadText
  em_BadText : PySem.W.exmOne K (.ref C_BadText) (.ref C_OrderError) = some true
  kq_BadText_BadRow : PySem.W.kitOne K (.ref C_BadText) (.ref C_BadRow) = some false
  kq_BadText_BadNumber : PySem.W.kitOne K (.ref C_BadText) (.ref C_BadNumber) = some false
  kq_BadText_BadRings : PySem.W.kitOne K (.ref C_BadText) (.ref C_BadRings) = some false
  kq_BadText_Unlike : PySem.W.kitOne K (.ref C_BadText) (.ref C_Unlike) = some false
  kq_BadText_BadText : PySem.W.kitOne K (.ref C_BadText) (.ref C_BadText) = some true
  kv_BadText : PySem.W.kitOne K (.ref C_BadText) (.type "ValueError") = some true
  er_BadRow : PySem.W.exmOne K (.ref C_BadRow) (.ref C_BadRow) = some true
end Bo

/-! == of data -/
namespace Bo
open PySem PySem.Spec PyProof.Rows L2
/-- a kind of data: told apart by ==, of a depth -/
structure Emb {α : Type} [DecidableEq α] (f : α → PyData) (k : Nat) : Prop where
  eq : ∀ x y, PyData.eqv (f x) (f y) = decide (x = y)
  lay : ∀ x, (f x).canLay0 = true
  dep : ∀ x, (f x).depth ≤ k
def dI (i : Int) : PyData := .int i
def dB (b : Bool) : PyData := .bool b
def dS (s : Str) : PyData := .str s
def dL {α : Type} (f : α → PyData) (xs : List α) : PyData := .list (xs.map f)
def dP {α β : Type} (f : α → PyData) (g : β → PyData) (p : α × β) : PyData := .tuple [f p.1, g p.2]
theorem emb_I : Emb dI 0 := ⟨fun x y => by
  show PyData.eqv (.int x) (.int y) = _
  rw [PyData.eqv, Bool.eq_iff_iff]; simp, fun x => by show PyData.canLay0 (.int x) = true; simp [PyData.canLay0], fun x => by show PyData.depth (.int x) ≤ 0; simp [PyData.depth]⟩
theorem emb_B : Emb dB 0 := ⟨fun x y => by
  show PyData.eqv (.bool x) (.bool y) = _
  rw [PyData.eqv, Bool.eq_iff_iff]; simp, fun x => by show PyData.canLay0 (.bool x) = true; simp [PyData.canLay0], fun x => by show PyData.depth (.bool x) ≤ 0; simp [PyData.depth]⟩
section
variable {α β : Type} [DecidableEq α] [DecidableEq β] {f : α → PyData} {g : β → PyData} {k l : Nat}
theorem eqvAll_map (E : Emb f k) : ∀ xs ys : List α, PyData.eqvAll (xs.map f) (ys.map f) = decide (xs = ys)
  | [], [] => by rw [Bool.eq_iff_iff]; simp [PyData.eqvAll]
  | [], y :: ys => by rw [Bool.eq_iff_iff]; simp [PyData.eqvAll]
  | x :: xs, [] => by rw [Bool.eq_iff_iff]; simp [PyData.eqvAll]
  | x :: xs, y :: ys => by
    have ih := eqvAll_map E xs ys
    rw [List.map_cons, List.map_cons, PyData.eqvAll, ih, E.eq, Bool.eq_iff_iff]
    simp
theorem layAll_map (E : Emb f k) : ∀ xs : List α, PyData.canLayAll0 (xs.map f) = true
  | [] => by simp [PyData.canLayAll0]
  | x :: xs => by
    rw [List.map_cons]
    simp only [PyData.canLayAll0, E.lay, layAll_map E xs, Bool.and_self]
theorem depAll_map (E : Emb f k) : ∀ xs : List α, PyData.depthAll (xs.map f) ≤ k
  | [] => by simp [PyData.depthAll]
  | x :: xs => by
    rw [List.map_cons]
    have h1 := E.dep x
    have h2 := depAll_map E xs
    simp only [PyData.depthAll]
    omega
theorem emb_L (E : Emb f k) : Emb (dL f) (k + 1) := ⟨fun x y => by
  show PyData.eqv (.list _) (.list _) = _
  rw [PyData.eqv]; exact eqvAll_map E x y, fun x => by
  show PyData.canLay0 (.list _) = true
  rw [PyData.canLay0]; exact layAll_map E x, fun x => by
  show PyData.depth (.list _) ≤ _
  rw [PyData.depth]
  have := depAll_map E x
  omega⟩
theorem emb_P (E : Emb f k) (F : Emb g l) : Emb (dP f g) (max k l + 1) := ⟨fun x y => by
  show PyData.eqv (.tuple _) (.tuple _) = _
  rw [PyData.eqv, PyData.eqvAll, PyData.eqvAll, PyData.eqvAll, E.eq, F.eq, Bool.eq_iff_iff]
  obtain ⟨a, b⟩ := x
  obtain ⟨c, d⟩ := y
  simp, fun x => by
  show PyData.canLay0 (.tuple _) = true
  rw [PyData.canLay0, PyData.canLayAll0, PyData.canLayAll0, PyData.canLayAll0, E.lay, F.lay]; rfl, fun x => by
  show PyData.depth (.tuple _) ≤ _
  have h1 := E.dep x.1
  have h2 := F.dep x.2
  rw [PyData.depth, PyData.depthAll, PyData.depthAll, PyData.depthAll]
  omega⟩
variable {K : PySem.W.Frag} {H : Hp} {x y : V} {Q : VK} {a b : α}
theorem Emb.shaped (E : Emb f k) (hk : k ≤ 60) (a : α) : SeqAt.shaped (f a) = true := by
  unfold SeqAt.shaped
  rw [E.lay, Bool.true_and]
  have := E.dep a
  exact decide_eq_true (by omega)
theorem o_eqD (E : Emb f k) (hk : k ≤ 60) (h1 : Dp K H x (f a)) (h2 : Dp K H y (f b)) (q : Q (.bl (decide (a = b))) H) : rEqD K x y H Q :=
  ⟨_, _, h1, h2, E.shaped hk a, E.shaped hk b, by rw [E.eq]; exact q⟩
theorem o_neD (E : Emb f k) (hk : k ≤ 60) (h1 : Dp K H x (f a)) (h2 : Dp K H y (f b)) (q : Q (.bl (!decide (a = b))) H) : rNeD K x y H Q :=
  ⟨_, _, h1, h2, E.shaped hk a, E.shaped hk b, by rw [E.eq]; exact q⟩
end
section
variable {K : PySem.W.Frag} {H : Hp} {Q : VK}
theorem dpAll_ints : ∀ ns : List Int, DpAll K H (ns.map V.int) (ns.map dI)
  | [] => .nil
  | n :: r => .cons (.int n) (dpAll_ints r)
theorem dpAll_bls : ∀ ns : List Bool, DpAll K H (ns.map V.bl) (ns.map dB)
  | [] => .nil
  | n :: r => .cons (.bl n) (dpAll_bls r)
theorem dp_ints {p : Addr} {ns : List Int} (h : SqL K H p (ns.map V.int)) : Dp K H (.ref p) (dL dI ns) := .lst h (dpAll_ints ns)
theorem dp_bls {p : Addr} {ns : List Bool} (h : SqL K H p (ns.map V.bl)) : Dp K H (.ref p) (dL dB ns) := .lst h (dpAll_bls ns)
theorem dpAll_of {α : Type} {f : α → PyData} : ∀ {vs : List V} {xs : List α}, vs.length = xs.length → (∀ (i : Nat) (v : V) (x : α), vs[i]? = some v → xs[i]? = some x → Dp K H v (f x)) → DpAll K H vs (xs.map f)
  | [], [], _, _ => .nil
  | v :: vs, x :: xs, hl, h => .cons (h 0 v x rfl rfl) (dpAll_of (by simpa using hl) fun i v x hv hx => h (i + 1) v x (by simpa using hv) (by simpa using hx))
  | [], _ :: _, hl, _ => by simp at hl
  | _ :: _, [], hl, _ => by simp at hl
theorem dp_lists {p : Addr} {as : List Addr} {xss : List (List Int)} (h : SqL K H p (as.map V.ref)) (hl : as.length = xss.length) (hh : ∀ (i : Nat) (a : Addr) (x : List Int), as[i]? = some a → xss[i]? = some x → SqL K H a (x.map V.int)) : Dp K H (.ref p) (dL (dL dI) xss) :=
  .lst h (dpAll_of (by rw [List.length_map]; exact hl) fun i v x hv hx => by
    obtain ⟨a, ha, rfl⟩ := map_get hv
    exact dp_ints (hh i a x ha hx))
theorem dp_news {H0 : Hp} {p : Addr} {as : List Addr} {xss : List (List Int)} (h : SqL K H p (as.map V.ref)) (n : News H0 H oL as xss) : Dp K H (.ref p) (dL (dL dI) xss) :=
  dp_lists h n.len fun i a x ha hx => SqL.of (n.2.2 i a x ha hx).2
/-- == of two lists of ints -/
theorem o_eqL {p q : Addr} {ns ms : List Int} (h1 : SqL K H p (ns.map V.int)) (h2 : SqL K H q (ms.map V.int)) (k : Q (.bl (decide (ns = ms))) H) : rEqD K (.ref p) (.ref q) H Q := o_eqD (emb_L emb_I) (by decide) (dp_ints h1) (dp_ints h2) k
theorem o_neL {p q : Addr} {ns ms : List Int} (h1 : SqL K H p (ns.map V.int)) (h2 : SqL K H q (ms.map V.int)) (k : Q (.bl (!decide (ns = ms))) H) : rNeD K (.ref p) (.ref q) H Q := o_neD (emb_L emb_I) (by decide) (dp_ints h1) (dp_ints h2) k
theorem o_eqBs {p q : Addr} {ns ms : List Bool} (h1 : SqL K H p (ns.map V.bl)) (h2 : SqL K H q (ms.map V.bl)) (k : Q (.bl (decide (ns = ms))) H) : rEqD K (.ref p) (.ref q) H Q := o_eqD (emb_L emb_B) (by decide) (dp_bls h1) (dp_bls h2) k
theorem o_eqLL {p q : Addr} {as bs : List Addr} {H0 H1 : Hp} {xs ys : List (List Int)} (h1 : SqL K H p (as.map V.ref)) (h2 : SqL K H q (bs.map V.ref)) (n1 : News H0 H oL as xs) (n2 : News H1 H oL bs ys) (k : Q (.bl (decide (xs = ys))) H) : rEqD K (.ref p) (.ref q) H Q :=
  o_eqD (emb_L (emb_L emb_I)) (by decide) (dp_news h1 n1) (dp_news h2 n2) k
theorem o_neLL {p q : Addr} {as bs : List Addr} {H0 H1 : Hp} {xs ys : List (List Int)} (h1 : SqL K H p (as.map V.ref)) (h2 : SqL K H q (bs.map V.ref)) (n1 : News H0 H oL as xs) (n2 : News H1 H oL bs ys) (k : Q (.bl (!decide (xs = ys))) H) : rNeD K (.ref p) (.ref q) H Q :=
  o_neD (emb_L (emb_L emb_I)) (by decide) (dp_news h1 n1) (dp_news h2 n2) k
end
/-! ### what sorted gives, against 0, 1, .. -/
theorem upTo_get {n i : Nat} (h : i < n) : (upTo n)[i]? = some (i : Int) := by
  unfold upTo
  rw [List.getElem?_map, List.getElem?_range h]; rfl
theorem mem_upTo {n : Nat} {x : Int} : x ∈ upTo n ↔ 0 ≤ x ∧ x < n := by
  unfold upTo
  rw [List.mem_map]
  constructor
  · rintro ⟨i, hi, rfl⟩
    have := List.mem_range.mp hi
    show (0 : Int) ≤ (i : Int) ∧ (i : Int) < n
    omega
  · rintro ⟨h0, h1⟩
    exact ⟨x.toNat, List.mem_range.mpr (by omega), by show ((x.toNat : Nat) : Int) = x; omega⟩
theorem upTo_nodup (n : Nat) : (upTo n).Nodup := by
  unfold upTo
  refine List.Pairwise.map _ (fun a b h => ?_) List.nodup_range
  show (a : Int) ≠ (b : Int)
  omega
theorem upTo_succ (n : Nat) : upTo (n + 1) = upTo n ++ [(n : Int)] := by
  unfold upTo
  rw [List.range_succ, List.map_append]; rfl
theorem upTo_sorted (n : Nat) : (upTo n).Pairwise (· ≤ ·) := by
  unfold upTo
  refine List.Pairwise.map (R := (· < ·)) _ (fun a b h => ?_) List.pairwise_lt_range
  show (a : Int) ≤ (b : Int)
  omega
theorem sorted_unique : ∀ {l m : List Int}, l.Perm m → l.Pairwise (· ≤ ·) → m.Pairwise (· ≤ ·) → l = m
  | [], m, h, _, _ => (List.nil_perm.mp h).symm
  | a :: l, m, h, hl, hm => by
    cases m with
    | nil => exact absurd h.length_eq (by simp)
    | cons b m =>
      have hab : a ≤ b := by
        have : b ∈ a :: l := h.mem_iff.mpr (by simp)
        rcases List.mem_cons.mp this with e | e
        · omega
        · exact (List.pairwise_cons.mp hl).1 b e
      have hba : b ≤ a := by
        have : a ∈ b :: m := h.mem_iff.mp (by simp)
        rcases List.mem_cons.mp this with e | e
        · omega
        · exact (List.pairwise_cons.mp hm).1 a e
      have e : a = b := by omega
      subst e
      rw [sorted_unique (List.Perm.cons_inv h) (List.pairwise_cons.mp hl).2 (List.pairwise_cons.mp hm).2]
/-- sorted(things) == list(range(n)) -/
def isAll (things : List Int) (n : Nat) : Bool := decide (things.Perm (upTo n))
theorem sorted_isAll {things ns : List Int} {n : Nat} (p : ns.Perm things) (s : ns.Pairwise (· ≤ ·)) : decide (ns = upTo n) = isAll things n := by
  unfold isAll
  rw [Bool.eq_iff_iff, decide_eq_true_eq, decide_eq_true_eq]
  constructor
  · rintro rfl; exact p.symm
  · intro h; exact sorted_unique (p.trans h) s (upTo_sorted n)
end Bo

/-! what rings.py and rows.py compute, as plain functions -/
namespace Bo
open PySem L2
/-- from t on, as long as t isn't met -/
def ringFrom (row : List Int) : Nat → List Bool → Int → List Int → List Bool × List Int
  | 0, met, _, ring => (met, ring)
  | n + 1, met, t, ring => if gb met t = true then (met, ring) else ringFrom row n (met.set t.toNat true) (gt row t) (ring ++ [t])
def ringAt (row : List Int) (met : List Bool) (t : Int) (ring : List Int) : List Bool × List Int := ringFrom row (met.count false) met t ring
theorem count_set : ∀ {met : List Bool} {k : Nat}, met[k]? = some false → (met.set k true).count false + 1 = met.count false
  | [], k, h => by simp at h
  | b :: r, 0, h => by
    have e : b = false := by simpa using h
    subst e
    simp
  | b :: r, k + 1, h => by
    have ih := count_set (met := r) (k := k) (by simpa using h)
    cases b <;> simp <;> omega
theorem gb_get {met : List Bool} {t : Int} (h0 : 0 ≤ t ∧ t < met.length) : met[t.toNat]? = some (gb met t) := by
  unfold gb
  rw [List.getD_eq_getElem?_getD, List.getElem?_eq_getElem (by omega)]; rfl
theorem ringAt_met {row : List Int} {met : List Bool} {t : Int} {ring : List Int} (h : gb met t = true) : ringAt row met t ring = (met, ring) := by
  unfold ringAt
  cases met.count false with
  | zero => rfl
  | succ n => unfold ringFrom; rw [if_pos h]
theorem ringAt_next {row : List Int} {met : List Bool} {t : Int} {ring : List Int} (h : gb met t = false) (h0 : 0 ≤ t ∧ t < met.length) :
    ringAt row met t ring = ringAt row (met.set t.toNat true) (gt row t) (ring ++ [t]) := by
  have hg := gb_get h0
  rw [h] at hg
  have hc := count_set hg
  unfold ringAt
  rw [← hc]
  conv => lhs; unfold ringFrom
  rw [if_neg (by rw [h]; exact Bool.false_ne_true)]
def ringsAux (row : List Int) : Nat → List Bool × List (List Int)
  | 0 => (row.map fun _ => false, [])
  | i + 1 => ((ringAt row (ringsAux row i).1 (i : Int) []).1, if (ringAt row (ringsAux row i).1 (i : Int) []).2 = [] then (ringsAux row i).2 else (ringsAux row i).2 ++ [(ringAt row (ringsAux row i).1 (i : Int) []).2])
/-- the rings of a row, as rings_of makes them -/
def ringsOf (row : List Int) : List (List Int) := (ringsAux row row.length).2
theorem ringFrom_length (row : List Int) : ∀ (n : Nat) (met : List Bool) (t : Int) (ring : List Int), (ringFrom row n met t ring).1.length = met.length
  | 0, met, t, ring => rfl
  | n + 1, met, t, ring => by
    unfold ringFrom
    split
    · rfl
    · rw [ringFrom_length row n, List.length_set]
theorem ringsAux_length (row : List Int) : ∀ i, (ringsAux row i).1.length = row.length
  | 0 => by simp [ringsAux]
  | i + 1 => by
    show (ringAt row (ringsAux row i).1 (i : Int) []).1.length = row.length
    unfold ringAt
    rw [ringFrom_length, ringsAux_length row i]
theorem ringsAux_count (row : List Int) : ∀ i, (ringsAux row i).2.length ≤ i
  | 0 => Nat.le_refl _
  | i + 1 => by
    have ih := ringsAux_count row i
    show (if _ then (ringsAux row i).2 else (ringsAux row i).2 ++ [_]).length ≤ i + 1
    split
    · omega
    · rw [List.length_append]; simp; exact ih
def primesL : List Int := [1000003, 1000033, 1000037, 1000039, 1000081, 1000099, 1000117, 1000121, 1000133, 1000151, 1000159, 1000171, 1000183, 1000187, 1000193, 1000199]
theorem primes_at (k : Int) : ∃ p, 0 < p ∧ atI (primesL.map V.int) (k % 16) = some (.int p) := by
  have h0 : 0 ≤ k % 16 := Int.emod_nonneg _ (by decide)
  have h1 : k % 16 < 16 := Int.emod_lt_of_pos _ (by decide)
  refine ⟨gt primesL (k % 16), ?_, at_gt (by show -(16 : Int) ≤ _; omega) (by show _ < (16 : Int); omega)⟩
  have hm := gt_mem (ns := primesL) (i := k % 16) (by show -(16 : Int) ≤ _; omega) (by show _ < (16 : Int); omega)
  have ha : ∀ x ∈ primesL, 0 < x := by decide
  exact ha _ hm
theorem ins_row {ns : List Int} {i : Nat} {k : Int} (hl : ns.length = i) (hb : ∀ x ∈ ns, 0 ≤ x ∧ x < i) (hn : ns.Nodup) : (ins ns k (i : Int)).length = i + 1 ∧ (∀ x ∈ ins ns k (i : Int), 0 ≤ x ∧ x < ((i + 1 : Nat) : Int)) ∧ (ins ns k (i : Int)).Nodup := by
  have hp : (ins ns k (i : Int)).Perm ((i : Int) :: ns) := by
    unfold ins
    rw [List.append_assoc, List.singleton_append]
    refine List.perm_middle.trans ?_
    rw [List.take_append_drop]
  refine ⟨by rw [hp.length_eq, List.length_cons, hl], fun x hx => ?_, hp.nodup_iff.mpr (List.nodup_cons.mpr ⟨fun h => ?_, hn⟩)⟩
  · rcases List.mem_cons.mp (hp.mem_iff.mp hx) with e | e
    · omega
    · have := hb x e; omega
  · have := hb _ h; omega
/-- lists that stand at their places -/
def Lf (H : Hp) (as : List Addr) (xss : List (List Int)) : Prop := as.length = xss.length ∧ ∀ (i : Nat) (p : Addr) (x : List Int), as[i]? = some p → xss[i]? = some x → H p = some (oL x)
theorem Lf.same {H H' : Hp} {as : List Addr} {xss : List (List Int)} (h : Lf H as xss) (s : Same H H') : Lf H' as xss := ⟨h.1, fun i p x a b => s _ _ (h.2 i p x a b)⟩
theorem Lf.of {H0 H : Hp} {as : List Addr} {xss : List (List Int)} (n : News H0 H oL as xss) : Lf H as xss := ⟨n.1, fun i p x a b => (n.2.2 i p x a b).2⟩
/-! ### rings told -/
def isRing (ring : List Int) (many : Int) : Bool := !ring.isEmpty && ring.all fun x => isNum (.int x) 0 (many - 1)
def setRing (ring : List Int) : Nat → List Int → List Int
  | 0, f => f
  | k + 1, f => st (setRing ring k f) (gt ring ((k : Int) - 1)) (gt ring (k : Int))
theorem setRing_length (ring : List Int) : ∀ k f, (setRing ring k f).length = f.length
  | 0, f => rfl
  | k + 1, f => by
    show (st _ _ _).length = _
    rw [st_length, setRing_length ring k]
def rowOf (many : Nat) (told : List (List Int)) : List Int := told.foldl (fun f r => setRing r r.length f) (upTo many)
theorem foldl_take {α β : Type} {g : β → α → β} {b : β} {xs : List α} {i : Nat} {x : α} (h : xs[i]? = some x) : (xs.take (i + 1)).foldl g b = g ((xs.take i).foldl g b) x := by
  rw [List.take_add_one, h, List.foldl_append]; rfl
theorem rowOf_len (told : List (List Int)) : ∀ f : List Int, (told.foldl (fun f r => setRing r r.length f) f).length = f.length := by
  induction told with
  | nil => intro f; rfl
  | cons r t ih => intro f; rw [List.foldl_cons, ih, setRing_length]
theorem flatten_take {α : Type} {xs : List (List α)} {i : Nat} {x : List α} (h : xs[i]? = some x) : (xs.take (i + 1)).flatten = (xs.take i).flatten ++ x := by
  rw [List.take_add_one, h, List.flatten_append]; simp
theorem flatten_take_le {α : Type} (xs : List (List α)) (i : Nat) : (xs.take i).flatten.length ≤ xs.flatten.length := by
  conv => rhs; rw [← List.take_append_drop i xs, List.flatten_append, List.length_append]
  omega
/-- a ring of a row -/
def okRing (row ring : List Int) : Bool := (!ring.isEmpty && ring.all fun x => decide (0 ≤ x) && decide (x < row.length)) && (List.range ring.length).all fun k => decide (gt row (gt ring ((k : Int) - 1)) = gt ring (k : Int))
def ringed (row : List Int) (told : List (List Int)) : Bool := told.all (okRing row) && isAll told.flatten row.length
theorem any_not {α : Type} (P : α → Bool) (l : List α) : (l.map fun x => !P x).any id = !(l.all P) := by
  induction l with
  | nil => rfl
  | cons x r ih => rw [List.map_cons, List.any_cons, List.all_cons, ih]; cases P x <;> rfl
end Bo

namespace Bo
open PySem PySem.Spec PyProof.Rows L2
/-! ### steps of a reading: each a row of its own -/
local macro_rules | `(tactic| walk_at "ne") => `(tactic| first
  | assumption
  | (apply Ne.symm; assumption)
  | (apply neo; assumption; walk_at "hp")
  | (apply Ne.symm; apply neo; assumption; walk_at "hp"))
local macro_rules | `(tactic| walk_at "hp") => `(tactic| first
  | assumption
  | exact upd_same
  | (apply lift_ne; walk_at "hp"; walk_at "ne")
  | (apply Same.up; assumption; walk_at "hp"))
local macro_rules | `(tactic| walk_at "same") => `(tactic| first
  | assumption
  | exact Same.refl _
  | (apply Same.new; walk_at "same"; walk_at "fr")
  | (apply same_trans; assumption; walk_at "same"))
local macro_rules | `(tactic| walk_at "fr") => `(tactic| first
  | assumption
  | (apply same_free; assumption; walk_at "same"))
local macro_rules | `(tactic| walk_at "sq") => `(tactic| first
  | assumption
  | (apply SqL.of; walk_at "hp")
  | (apply same_seq; assumption; walk_at "same"))
local macro_rules | `(tactic| walk_at "sqt") => `(tactic| first
  | assumption
  | (apply SqT.of; walk_at "hp")
  | (apply same_sqt; assumption; walk_at "same"))
local macro_rules | `(tactic| walk_at "nw") => `(tactic| first
  | assumption
  | (apply News.mut; walk_at "nw"; (first | assumption | (refine News.notin (by assumption) ?_; assumption)))
  | (apply News.same; walk_at "nw"; walk_at "same"))
/-! one step -/
local macro_rules | `(tactic| walk_at "go1") => `(tactic| first
  | with_reducible refine r_seq ?_
  | with_reducible refine r_asgN ?_
  | with_reducible refine r_set ?_
  | with_reducible refine r_ret ?_
  | with_reducible refine r_drop ?_
  | with_reducible refine r_if ?_
  | with_reducible refine r_next ?_
  | ((with_reducible apply r_nxD); with_reducible refine r_nx ?_)
  | ((with_reducible apply r_rtD); with_reducible refine r_rt ?_)
  | with_reducible refine r_par ?_
  | with_reducible refine k_par ?_
  | with_reducible refine r_fld ?_
  | ((with_reducible apply r_aug); exact rfl)
  | with_reducible refine i_ip ?_
  | ((with_reducible apply e_var); exact rfl)
  | with_reducible refine e_c ?_
  | with_reducible refine e_op ?_
  | with_reducible refine e_un ?_
  | with_reducible refine o_I0 ?_
  | with_reducible refine o_neg ?_
  | with_reducible refine o_eqI ?_
  | with_reducible refine o_neI ?_
  | with_reducible refine o_eqB ?_
  | with_reducible refine o_neB ?_
  | with_reducible refine o_eqS ?_
  | with_reducible refine o_neS ?_
  | with_reducible refine a_nil ?_
  | with_reducible refine a_cons ?_
  | with_reducible refine e_cb ?_
  | with_reducible refine e_call ?_
  | with_reducible refine e_make ?_
  | with_reducible refine e_meth ?_
  | with_reducible refine e_fld ?_
  | with_reducible refine e_lst ?_
  | with_reducible refine e_tup ?_
  | with_reducible refine e_bm ?_
  | with_reducible refine e_bm0 ?_
  | with_reducible refine e_rev ?_
  | with_reducible refine e_sl ?_
  | with_reducible refine e_nopart ?_
  | with_reducible refine e_part ?_
  | with_reducible refine i_ok ?_
  | with_reducible refine e_lenset ?_
  | with_reducible refine e_listRg1 ?_
  | with_reducible refine t_test ?_
  | with_reducible refine t_B ?_
  | with_reducible refine b_ok ?_
  | with_reducible refine t_and ?_
  | with_reducible refine t_or ?_
  | with_reducible refine t_not ?_
  | with_reducible refine v_and ?_
  | with_reducible refine v_or ?_
  | with_reducible refine v_not ?_
  | with_reducible refine e_if ?_
  | with_reducible refine e_chain ?_
  | with_reducible refine e_chain3 ?_
  | with_reducible refine iteT ?_
  | with_reducible refine iteF ?_
  | with_reducible refine ite_nT ?_
  | with_reducible refine ite_nF ?_
  | with_reducible refine r_forL ?_
  | with_reducible refine r_forT ?_
  | with_reducible refine r_forE ?_
  | with_reducible refine r_forR1 ?_
  | with_reducible refine r_forR2 ?_
  | with_reducible refine e_lcL ?_
  | with_reducible refine e_lcR1 ?_
  | with_reducible refine e_lcR2 ?_
  | with_reducible refine r_dput ?_
  | with_reducible refine e_dget ?_
  | with_reducible refine e_dnin ?_
  | with_reducible refine c_max2 ?_
  | with_reducible refine c_min2 ?_
  | ((with_reducible apply c_isiI); (first | exact (show kitB "int" _ = some true by decide +kernel) | exact (show kitB "int" _ = some false by decide +kernel)))
  | ((with_reducible apply m_ty); walk_at "sq"))
local macro_rules | `(tactic| walk_at "go2") => `(tactic| first
  | ((with_reducible apply o_ixI); walk_at "sq"; omega)
  | ((with_reducible refine o_mod ?_ ?_); omega)
  | ((with_reducible refine o_fdiv ?_ ?_); omega)
  | ((with_reducible refine o_mulR ?_ ?_); omega)
  | ((with_reducible refine o_mulL ?_ ?_); omega)
  | ((with_reducible apply c_lenM); walk_at "sq")
  | ((with_reducible apply c_all); walk_at "sq")
  | ((with_reducible apply c_any); walk_at "sq")
  | ((with_reducible apply o_in); walk_at "sq")
  | ((with_reducible apply o_nin); walk_at "sq")
  | ((with_reducible apply o_ixB); walk_at "sq"; omega)
  | ((with_reducible apply m_setB); walk_at "hp"; omega)
  | ((with_reducible apply m_appR); walk_at "hp"; omega)
  | ((with_reducible apply m_ins); walk_at "hp"; omega; omega)
  | ((with_reducible apply m_appM); walk_at "hp"; exact rfl; omega)
  | ((with_reducible apply m_setI); walk_at "hp"; omega))
local macro_rules | `(tactic| walk_at "d") => `(tactic| try dsimp only)
local macro_rules | `(tactic| walk_at "k") => `(tactic| try dsimp only [cxOf, Cx.nox, Cx.blk])
local macro_rules | `(tactic| walk_at "go") => `(tactic| repeat (first | walk_at "go1" | walk_at "go2"))

section
variable {P : Program} {w : World} {K : PySem.W.Frag} {mg : Str → Option Value} {base : Heap} {C_Exchanged C_Fronted C_Ended C_Put C_Answer C_OrderError C_BadRow C_BadNumber C_BadRings C_Unlike C_BadText : Addr} (T : Top K mg C_Exchanged C_Fronted C_Ended C_Put C_Answer C_OrderError C_BadRow C_BadNumber C_BadRings C_Unlike C_BadText)
include T
def sp_is_number (K : PySem.W.Frag) : Sp := fun vs H Q _ => ∃ (x : V) (lo hi : Int) (t : String), vs = [x, .int lo, .int hi] ∧ TyX K H x (.type t) ∧ Q (.bl (isNum x lo hi)) H
theorem ok_is_number : Cc P w K mg base 1 "is_number" (sp_is_number K) := by
  refine Cc.mk' T.d_is_number sc_is_number ?_ ?_
  · rintro vs H Q E ⟨x, lo, hi, t, rfl, _⟩; rfl
  · rintro f cdv A outer s H vs Q E hr ⟨x, lo, hi, t, rfl, ty, q⟩
    refine ⟨_, (pss_one (ps_ret (pe_and (pe_callB (r := rIsi K) call_isi (by rfl) T.b_isinstance PyProof.Rows.boot_isinstance (pa_cons (pv 0) (pa_cons (pe_bltn (v := .ty "int") (by rfl) T.b_int PyProof.Rows.boot_int rfl) pa_nil))) (pe_and (pe_not (pe_callB (r := rIsi K) call_isi (by rfl) T.b_isinstance PyProof.Rows.boot_isinstance (pa_cons (pv 0) (pa_cons (pe_bltn (v := .ty "bool") (by rfl) T.b_bool PyProof.Rows.boot_bool rfl) pa_nil)))) (pe_one (pe_chain op_le op_le (pv 1) (pv 0) (pv 2))))))), ?_⟩
    walk_at "k"
    walk_at "go"
    refine c_isi ty (kit_int ty) ?_
    walk_at "go"
    refine ite_bl (fun h1 => ?_) (fun h1 => ?_)
    · walk_at "go"
      refine c_isi ty (kit_bool ty) ?_
      walk_at "go"
      refine ite_bl (fun h2 => ?_) (fun h2 => ?_)
      · obtain ⟨i, rfl⟩ : ∃ i, x = .int i := by
          cases x <;> simp [isIntV, isBlV] at h1 h2 ⊢
        walk_at "go"
        rw [isNum_int] at q
        refine ite_dec (fun h3 => ?_) (fun h3 => ?_)
        · walk_at "go"
          rw [decide_eq_true h3, Bool.true_and] at q
          exact q
        · walk_at "go"
          rw [decide_eq_false h3, Bool.false_and] at q
          exact q
      · walk_at "go"
        have e : isNum x lo hi = false := by
          cases x <;> simp [isIntV, isBlV, isNum] at h1 h2 ⊢
        rw [e] at q; exact q
    · walk_at "go"
      have e : isNum x lo hi = false := by
        cases x <;> simp [isIntV, isNum] at h1 ⊢
      rw [e] at q; exact q
def sp_check_row (K : PySem.W.Frag) : Sp := fun vs H Q _ => ∃ (a : Addr) (ns : List Int), vs = [.ref a] ∧ SqL K H a (ns.map V.int) ∧ IsRow ns ∧ ∀ H', Same H H' → Q .non H'
theorem ok_check_row : Cc P w K mg base 2 "check_row" (sp_check_row K) := by
  have c_is_number := ok_is_number (P := P) (w := w) (base := base) T
  obtain ⟨tM, g_MOST⟩ := T.g_MOST
  refine Cc.mk' T.d_check_row sc_check_row ?_ ?_
  · rintro vs H Q E ⟨a, ns, rfl, _⟩; rfl
  · rintro f cdv A outer s H vs Q E hr ⟨a, ns, rfl, hS, R, q⟩
    have hl := R.len
    refine ⟨_, (pss_cons (ps_if (PW.pt (pw_or (pt_not (pt_val (pe_callB (r := rIsi K) call_isi (by rfl) T.b_isinstance PyProof.Rows.boot_isinstance (pa_cons (pv 0) (pa_cons (pe_bltn (v := .ty "list") (by rfl) T.b_list PyProof.Rows.boot_list rfl) pa_nil))))) (pw_or (pt_cmpR op_gt (pe_callB (r := rLen2 K) call_len_seq (by rfl) T.b_len PySem.boot_len (pa_cons (pv 0) pa_nil)) (pe_glob (v := .int 1000000) (by rfl) g_MOST ⟨_, rfl⟩) (nomark _)) (pw_or1 (pt_not (pt_val (pe_callB (r := rAll K) (cr_all rfl) (by rfl) T.b_all PyProof.Rows.boot_all (pa_cons (pe_lc (own := [("thing", 1)]) (g := gName 1) (tt := tYes) rfl sc_check_row.nd (pi_list (pv 0)) (blkOk_by (own := [("thing", 1)]) (N := N_check_row) (sc := defScope s_check_row) (by decide +kernel)) (fun _ _ _ _ _ => (pg_name (i := 1) sc_check_row.nd rfl (Or.inl rfl))) (fun _ _ _ _ _ => pts_nil) (fun _ _ _ _ _ => (pe_cc c_is_number (hr.mono (by decide)) (by rfl) (pa_cons (pv 1) (pa_cons pe_int (pa_cons (pe_op op_sub (pe_callB (r := rLen2 K) call_len_seq (by rfl) T.b_len PySem.boot_len (pa_cons (pv 0) pa_nil)) pe_int) pa_nil)))))) pa_nil)))))))) pss_never pss_nil)
      (pss_one (ps_if (pt_cmpR op_ne (pe_lenSetG (by rfl) T.b_len (by rfl) T.b_set (pv 0)) (pe_callB (r := rLen2 K) call_len_seq (by rfl) T.b_len PySem.boot_len (pa_cons (pv 0) pa_nil)) (nomark _)) pss_never pss_nil))), ?_⟩
    walk_at "k"
    walk_at "go"
    refine c_isiL hS (show kitB "list" "list" = some true by decide +kernel) ?_
    walk_at "go"
    refine ite_decN (by omega) ?_
    walk_at "go"
    refine k_lcV (xs := ns) (f := V.int) (h := V.bl) (fun x => isNum (.int x) 0 ((ns.length : Int) - 1)) (by walk_at "sq") (by omega) (fun _ => rfl) ?_ ?_
    · intro i x H2 R' hx s2 k2
      walk_at "go"
      refine ⟨.int x, 0, _, "int", rfl, .base (.int x), ?_⟩
      exact k2 H2 (Same.refl _)
    · intro D H2 nD s2 hD
      walk_at "go"
      rw [R.all_num]
      walk_at "go"
      refine c_lenset (by walk_at "sq") (by omega) ?_
      walk_at "go"
      rw [(nodup_len_eq ns).mpr R.nd]
      refine ite_ndecN rfl ?_
      walk_at "go"
      exact q _ s2
end
end Bo

/-! a list comprehension whose element may raise -/
namespace Bo
open PySem PySem.Spec PyProof.Rows L2
theorem note_eq {e : Value} {e1 e2 : Env} (h : e1.frame = e2.frame) : noteFrame e e1 = noteFrame e e2 := by
  unfold noteFrame PySem.frameOf
  rw [h]
/-- how the block leaves by an exception: its names go, then it is passed on -/
def OutOf (M : Model) (A : Around) (E : Value → Shared → Prop) (ce : Env) (u : Value) (s' : Shared) : Prop :=
  ∃ m, s'.heap.Ns ce.locals m ∧ ∀ h', Heap.SameBut ce.locals s'.heap h' → wpAny M A (passOn "comprehension.variables-let-go" u ce : Sem Value) (fun _ _ => False) E { s' with heap := h' }
def BlkEnd (M : Model) (A : Around) (E : Value → Shared → Prop) (use : Option (Value → Sem Unit)) (Q : Value → Shared → Prop) (acc : Value) (ce : Env) (r : Result) (s' : Shared) : Prop :=
  match r with
  | .ok _ => compPost M A E use Q acc ce.locals (.ok .next) s'
  | .error u => OutOf M A E ce u s'
section
variable {M : Model} {A : Around} {E : Value → Shared → Prop} {s : Shared} {env : Env}
/-- a comprehension, its block's environment told to what comes behind -/
theorem comp_told {e : Expr} {scope : Scope} {pos : Pos} {newAcc first : Sem Value} {g : Comprehension} {gs : List Comprehension} {cl : List (Str × Addr)} {use : Option (Value → Sem Unit)} {Q : Value → Shared → Prop}
    (c1 : clausesOf e = g :: gs) (c2 : ∀ x, foldedSetIterable g.iter env x = pure x) (c3 : closureFor scope env = pure cl) (c4 : scope.kind = .function)
    (c5 : ∀ x ∈ scope.names, x.2 = .local → scope.names.lookup x.1 = some .local)
    (h : wpAny M A first (fun x s1 => wpAny M A (pyIter x) (fun it s2 => wpAny M A newAcc (fun acc s3 => wpAny M A (newFunctionEnv scope env.globals cl [] env.qual none .none (some env))
      (fun ce s4 => codeAny M A (.compStart e 0 it acc { ce with scope := relabel scope env }) (BlkEnd M A E use Q acc { ce with scope := relabel scope env }) s4) E s3) E s2) E s1) E s) :
    wpAny M A (comprehension e scope env pos newAcc false first use) Q E s := by
  have same : ∀ {B : Type} {t : Sem B} {P P' : B → Shared → Prop} {z : Shared}, wpAny M A t P E z → (∀ b z', P b z' → P' b z') → wpAny M A t P' E z := fun w k => wpAny_mono w k fun _ _ y => y
  unfold comprehension
  rw [c3, c1]
  refine wpAny_bind (same h fun x s1 h1 => ?_)
  refine wpAny_bind (wpAny_standAt (wpAny_bind (wpAny_of_eq (c2 x) (wpAny_bind (wpAny_holding (same h1 fun it s2 h2 => ?_))))))
  refine wpAny_standIf (wpAny_bind (same h2 fun acc s3 h3 => ?_))
  refine wpAny_bind (wpAny_pure (wpAny_bind (same h3 fun ce s4 h4 => ?_)))
  dsimp only
  have seen : ∀ x ∈ (scope.names.filter fun x => (x.2 == .local || x.2 == .cell) && x.1 != (".0" : Str)).reverse, x.2 = .local → Env.kindOf { ce with scope := relabel scope env } x.1 = some .local :=
    fun x hx hl => lookup_relabel_local (c5 x (List.mem_filter.mp (List.mem_reverse.mp hx)).1 hl)
  have seen2 : ∀ x ∈ (scope.names.filter fun x => (x.2 == .local || x.2 == .cell) && x.1 != (".0" : Str)).reverse.drop 1 ++ (scope.names.filter fun x => (x.2 == .local || x.2 == .cell) && x.1 != (".0" : Str)).reverse.take 1,
      x.2 = .local → Env.kindOf { ce with scope := relabel scope env } x.1 = some .local := fun x hx hl =>
    (List.mem_append.mp hx).elim (fun z => seen x (List.mem_of_mem_drop z) hl) (fun z => seen x (List.mem_of_mem_take z) hl)
  refine wpAny_holding (wpAny_bind (wpAny_attempt (wpAny_holding (wpAny_run (codeAny_mono h4 fun r s5 hr => ?_)))))
  cases r with
  | error u =>
    obtain ⟨m, hn, out⟩ := hr
    refine wpAny_bind (wpAny_holding (wpAny_comp_letGo (cenv := { ce with scope := relabel scope env }) c4 _ s5 m seen hn fun h' m' _ sb => ?_))
    exact wpAny_mono (out h' sb) (fun _ _ z => z.elim) fun _ _ y => y
  | ok f =>
    cases use with
    | none =>
      obtain ⟨m, hn, k⟩ := hr
      exact wpAny_bind (wpAny_holding (wpAny_comp_letGo (cenv := { ce with scope := relabel scope env }) c4 _ s5 m seen hn fun h' m' _ sb => wpAny_pure (k h' sb)))
    | some u =>
      refine wpAny_bind (wpAny_rule (wpAny_bind (wpAny_holding (same hr fun _ s6 h6 => ?_))))
      obtain ⟨m, hn, k⟩ := h6
      exact wpAny_bind (wpAny_comp_letGo (cenv := { ce with scope := relabel scope env }) c4 _ s6 m seen2 hn fun h' m' _ sb => wpAny_pure (k h' sb))
end
theorem frames_but {B B' h h' : Heap} {C : Addr} (kp : ∀ b, b ≠ C → h'.get? b = h.get? b) (bs : ∀ b, B.get? b = none → B'.get? b = none) : ∀ {l : List Env}, C ∉ frs l → h.FunFrames B l → h'.FunFrames B' l
  | [], _, _ => trivial
  | env :: l, nC, ff => by
    obtain ⟨hk, ⟨L, o, hf, hB, ho, hd⟩, hr⟩ := ff
    have mL : L ∈ frs (env :: l) := List.mem_filterMap.mpr ⟨env, List.mem_cons_self, hf⟩
    refine ⟨hk, ⟨L, o, hf, bs L hB, (kp L fun z => nC (z ▸ mL)).trans ho, hd⟩, frames_but kp bs (fun z => nC ?_) hr⟩
    obtain ⟨e, he, q⟩ := List.mem_filterMap.mp z
    exact List.mem_filterMap.mpr ⟨e, List.mem_cons_of_mem _ he, q⟩
theorem up_comp {h1 h2 h3 h4 G : Heap} {C : Addr} (g : ∀ b o, G.get? b = some o → h1.get? b = some o ∧ b ≠ C) (a : h1.UpToSlots h2) (k : ∀ b, b ≠ C → h3.get? b = h2.get? b) (c : h3.UpToSlots h4) : G.UpToSlots h4 := fun b o e hnf => by
  obtain ⟨e1, nb⟩ := g b o e
  obtain ⟨sl, e2⟩ := a b o e1 hnf
  exact c b { o with slots := sl } ((k b nb).trans e2) hnf
section
variable {X : Cx} {pins0 pins : List (Addr × Obj)} {σ0 σ : L2.St} {H3 H : Hp} {s3 s s' : Shared} {scope : Scope} {ce : Env} {fp : List Addr} {xe : Value → Shared → Prop} {W : WX} {E0 : XK}
/-- what a call of the block lets out leaves the block, then it is in the def's air -/
theorem blk_out (hs : X.stack = X.env :: X.outer) (hf : X.env.frame = some X.env.locals) (cF : ce.frame = X.env.frame) (I0 : Inv X pins0 σ0 H3 s3) (fC : s3.heap.objs.size ≤ ce.locals) (f3 : ∀ b ∈ fp, FpOk X pins0 H3 b)
    (tk : L2N.Takes X W) (I : Inv ((X.blk s3 H3 scope ce fp).wish xe) pins σ H s) (hW : ∀ cls d H', E0 cls d H' → W cls d σ0 H') {u : Value} (c : L2N.CX X.prog X.w X.stack H s E0 u s') :
    notedBy (model X.prog X.w) X.A ce (OutOf (model X.prog X.w) X.A X.xe ce) u s' := by
  have hfr : X.A.frames = some (X.env :: X.outer) := by rw [I0.ok.frames, hs]
  have I7 : Inv X pins0 σ0 H s := I0.call' (ch := fp) I.os I.base I.hok I.bare fun b hb => ⟨(f3 b hb).2.2.2.1, (f3 b hb).2.1, (f3 b hb).2.2.2.2.1, (f3 b hb).2.2.2.2.2⟩
  have nC : H ce.locals = none := I.free
  obtain ⟨m, hn0, _⟩ := I.loc
  have hn : s.heap.Ns ce.locals m := hn0
  have cOk : FpOk X pins0 H ce.locals := I0.fpOk fC nC
  generalize hC : ce.locals = C at nC hn cOk
  obtain ⟨oC, es, ep, hoC, rC⟩ := hn
  have dC : ∀ vs, oC.data ≠ .fields vs := fun vs z => by
    have q := rC.1
    first
      | (rw [z] at q; cases q)
      | (have q2 := rC.2.1; rw [z] at q2; cases q2)
  have nfr : C ∉ frs X.stack := fun hm => (List.mem_cons.mp (I7.stkSub C hm)).elim cOk.2.1 cOk.2.2.1
  obtain ⟨a, B, H', cls, d, rfl, fl, hok, ub, na, os, ag, hE⟩ := c
  have st : B.StaysIn s'.heap := fl.1
  have BC : B.get? C = some oC := ub.keep C oC hoC nC nfr
  have nC' : H' C = none := ub.free C oC hoC nC
  show wpAny _ _ (noteFrame (.ref a) ce) _ _ s'
  rw [note_eq cF]
  refine PXN.looks_onZ L2N.Zn.steady hfr hf (hs ▸ fl) fun h2 held up2 => ?_
  have held2 : HandSPX.HeldZ B X.stack a (L2N.Zn cls d) X.env.locals h2 := by rw [hs]; exact held
  obtain ⟨st2, nBa, ff2, tr2⟩ := held2
  have gC2 : h2.get? C = some oC := st2 C oC BC
  refine ⟨m, by rw [hC]; exact ⟨oC, es, ep, gC2, rC⟩, fun h3 sb => ?_⟩
  rw [hC] at sb
  have kp : ∀ b, b ≠ C → h3.get? b = h2.get? b := sb.2
  -- the ground, without the block's names
  obtain ⟨B', b1, b2⟩ := restrict B fun b => decide (b ≠ C)
  have bB : ∀ b o, B'.get? b = some o → B.get? b = some o ∧ b ≠ C := fun b o e => by
    by_cases z : b = C
    · rw [b2 b (by simp [z])] at e; cases e
    · rw [b1 b (by simp [z])] at e; exact ⟨e, z⟩
  have bn : ∀ b, B.get? b = none → B'.get? b = none := fun b e => by
    cases q : B'.get? b with
    | none => rfl
    | some o => rw [(bB b o q).1] at e; cases e
  have held3 : HandSPX.HeldZ B' X.stack a (L2N.Zn cls d) X.env.locals h3 := by
    refine ⟨fun b o e => ?_, bn a nBa, frames_but kp bn nfr ff2, ?_⟩
    · obtain ⟨e1, z⟩ := bB b o e
      exact (kp b z).trans (st2 b o e1)
    · obtain ⟨oe, vs, Tb, oT, ts, he, hz, hd, h1, hnT, hTe, hT, hdT, q3⟩ := tr2
      have aC : a ≠ C := fun z => by
        rw [z, gC2] at he
        cases he
        exact dC vs hd
      have tC : Tb ≠ C := fun z => by
        rw [z, gC2] at hT
        cases hT
        exact dC ts hdT
      exact ⟨oe, vs, Tb, oT, ts, (kp a aC).trans he, hz, hd, h1, bn Tb hnT, hTe, (kp Tb tC).trans hT, hdT, q3⟩
  -- the state without the exception
  obtain ⟨G, g1, g2⟩ := restrict s'.heap fun b => ((B.get? b).isSome || decide (b ∈ frs X.stack)) && decide (b ≠ C)
  have gB : ∀ b o, b ≠ C → B.get? b = some o → G.get? b = some o := fun b o z e => by
    rw [g1 b (by simp [e, z])]; exact st b o e
  have gF : ∀ b, b ∈ frs X.stack → G.get? b = s'.heap.get? b := fun b hb => g1 b (by simp [hb]; exact fun z => nfr (z ▸ hb))
  have og : ∀ b o, G.get? b = some o → s'.heap.get? b = some o ∧ ((B.get? b).isSome = true ∨ b ∈ frs X.stack) ∧ b ≠ C := fun b o e => by
    cases q : (((B.get? b).isSome || decide (b ∈ frs X.stack)) && decide (b ≠ C)) with
    | false => rw [g2 b q] at e; cases e
    | true =>
      rw [g1 b q] at e
      simp only [Bool.and_eq_true, Bool.or_eq_true, decide_eq_true_eq] at q
      exact ⟨e, q.1, q.2⟩
  have hokG : HOk X.prog X.w H' G := fun b o e => (hok b o e).stay (fun b' v hb q => gB b' v (fun z => by
    rcases hb with hb | hb
    · rw [← hb, z, nC'] at e; cases e
    · rw [z, nC'] at hb; cases hb) q) (fun _ q => q) fun _ _ q => q
  have J : Inv X pins0 σ0 H' { s with heap := G, gens := s'.gens, drawn := s'.drawn, toks := s'.toks } := by
    refine I7.call (ch := [C]) ⟨fun b o e n hb hc => gB b o (fun z => hc (by simp [z])) (ub.keep b o e n hb), fun b o e n hb hc => ?_, fun b o e n _ => ub.free b o e n, fun b o e hc => ?_, ub.tups, ub.frzs, ub.tbls⟩ hokG ag fun b hb => ?_
    · obtain ⟨sl, q⟩ := ub.slot b o e hb
      exact ⟨sl, by rw [gF b hb]; exact q⟩
    · by_cases hb : b ∈ frs X.stack
      · obtain ⟨sl, q⟩ := ub.slot b o e hb
        exact ⟨_, by rw [gF b hb]; exact q⟩
      · obtain ⟨o', q⟩ := ub.there b o e hb
        exact ⟨o', gB b o' (fun z => hc (by simp [z])) q⟩
    · have z : b = C := by simpa using hb
      rw [z]
      exact ⟨cOk.2.2.2.1, cOk.2.1, cOk.2.2.2.2.1, cOk.2.2.2.2.2⟩
  obtain ⟨oe, vs, Tb, oT, ts, he, hz, hd, h1, hr⟩ := held3.2.2.2
  unfold PySem.passOn
  refine wpAny_bind (wpAny_field he hd h1 ?_)
  rw [if_neg (show ¬ ((Value.ref Tb == Value.none) = true) from by simp)]
  have fin : wpAny (model X.prog X.w) X.A (setFlight (.ref a) ce.frame) (fun _ s4 => wpAny (model X.prog X.w) X.A (throw (.ref a) : Sem Value) (fun _ _ => False) X.xe s4) X.xe { s' with heap := h3 } := by
    rw [cF, hf]
    refine HandSPX.setFlight_onZ held3 fun h4 held4 up4 => wpAny_throw (tk _ _ ?_)
    refine ⟨a, B', _, pins0, σ0, H', cls, d, rfl, J, fun b o e hb => ?_, up_comp (fun b o e => ⟨(og b o e).1, (og b o e).2.2⟩) up2 kp up4, .inr (.inr held4), na, os, ag, hW _ _ _ hE⟩
    obtain ⟨e1, hB | hB, z⟩ := og b o e
    · obtain ⟨o', q⟩ := Option.isSome_iff_exists.mp hB
      have r := st b o' q
      rw [e1] at r; cases r
      rw [b1 b (by simp [z])]; exact q
    · exact absurd hB hb
  first
    | exact wpAny_bind (wpAny_pure (wpAny_bind fin))
    | exact wpAny_bind fin
end
end Bo

namespace Bo
open PySem PySem.Spec PyProof.Rows L2
/-- the context of a block whose exceptions are wished for -/
abbrev blkX (X : Cx) (s : Shared) (H : Hp) (scope : Scope) (ce : Env) (fp : List Addr) (xe : Value → Shared → Prop) : Cx := (X.blk s H scope ce fp).wish xe
section
variable {X : Cx}
theorem lc_coreX {pins : List (Addr × Obj)} {s : Shared} {σ : L2.St} {H : Hp} {Q : VK} {elt tg iter : Expr} {scope : Scope} {own : List (Str × Nat)} {pos pos' : Pos} {wi : TI} {g : TG} {te : TE} {use : Option (Value → Sem Unit)} {Qf : Value → Shared → Prop} {E0 : XK}
    (hc : X.calm = true) (hN : X.N.Nodup) (hst : X.stack = X.env :: X.outer) (hfr : X.env.frame = some X.env.locals) (tk : L2N.Takes X fun cls d _ H => E0 cls d H) (I : Inv X pins σ H s) (hi : PI X tg iter wi) (ok : BlkOk X.N X.env.scope scope own)
    (hg : ∀ (s : Shared) (H : Hp) (C : Addr) (cl : List (Str × Addr)) (fp : List Addr) (xe : Value → Shared → Prop), PG (blkX X s H scope (compEnvC scope cl C X.env) fp xe) tg g)
    (he : ∀ (s : Shared) (H : Hp) (C : Addr) (cl : List (Str × Addr)) (fp : List Addr) (xe : Value → Shared → Prop), (∀ σ, PassesAt (L2N.CX X.prog X.w) (blkX X s H scope (compEnvC scope cl C X.env) fp xe) σ E0) → PE (blkX X s H scope (compEnvC scope cl C X.env) fp xe) elt te)
    (hs : ∀ x, foldedSetIterable iter X.env x = pure x) (h : tLc wi g tYes te (own.map (·.2)) σ H Q)
    (hRR : ∀ D C s' m H', Inv X pins σ H' s' → Q (.ref D) H' → s'.heap.Ns C m → FpOk X pins H' C → compPost (model X.prog X.w) X.A X.xe use Qf (.ref D) C (.ok .next) s') :
    wpAny (model X.prog X.w) X.A (comprehension (.ListComp elt [⟨tg, iter, [], 0⟩] scope pos) scope X.env pos' (newList []) false (eval iter X.env) use) Qf X.xe s := by
  have fr : ∀ y ∈ scope.names, y.2 = .free → ∃ c, X.env.cells.lookup y.1 = some c := fun y hy e => (ok.free y hy e).elim (fun k => I.ok.has _ (.inl k)) fun k => I.ok.has _ (.inr k)
  refine comp_told (use := use) rfl hs (closure_ok fr) ok.kind (fun y hy e => by rw [ok.uniq y hy, e]) (thn (hi.run pins s σ H _ I h) fun xv s1 hx => thn hx fun itv s2 h2 => ?_)
  obtain ⟨it, fp, tn, J, H2, e, I2, T, st2, f2, q⟩ := h2
  subst e
  refine wpAny_newObj_type (newEnv_comp ?_) (by show 0 ≤ sizeLine; decide)
  generalize hD : s2.heap.objs.size = D
  obtain ⟨W, ⟨m0, w0⟩, turn⟩ := q D (I2.hok.fresh (Nat.le_of_eq hD))
  generalize hs3 : ({ s2 with heap := s2.heap.push { cls := .type "list", data := .seq ([] : List Value).toArray } } : Shared) = s3
  have h3 : s3.heap = s2.heap.push { cls := .type "list", data := .seq ([] : List Value).toArray } := by rw [← hs3]
  have I3 : Inv X pins σ (upd H2 D (.lst [])) s3 := by
    rw [← hs3]
    refine I2.laid (t' := s2.toks) (fun b o e => Heap.get?_push_of_some _ e) (Nat.le_of_eq hD) ⟨Nat.zero_le _, [], 0, .nil, ?_⟩
    rw [← hD]
    exact Heap.get?_push_size _ rfl
  have f3 : ∀ b ∈ fp, FpOk X pins (upd H2 D (.lst [])) b ∧ b < s3.heap.objs.size := fun b hb => by
    obtain ⟨o, e, _⟩ := T.obj _ _ st2 b hb
    have hlt := Heap.lt_size e
    refine ⟨⟨?_, (f2 b hb).2⟩, by rw [h3, Heap.size_push]; exact Nat.lt_succ_of_lt hlt⟩
    rw [upd_ne (by rw [← hD]; exact Nat.ne_of_lt hlt)]
    exact (f2 b hb).1
  have st3 : tn 0 s3.heap := T.keep _ _ _ st2 fun b _ o e => by rw [h3]; exact Heap.get?_push_of_some _ e
  have I4 := block_start I3 ok hN f3
  have pg := fun xe => hg s3 (upd H2 D (.lst [])) s3.heap.objs.size (cellsFrom (s3.heap.objs.size + 1) scope.names (cloFrom X.env.cells scope.names [])) fp xe
  have pe := fun xe => he s3 (upd H2 D (.lst [])) s3.heap.objs.size (cellsFrom (s3.heap.objs.size + 1) scope.names (cloFrom X.env.cells scope.names [])) fp xe
  show codeAny _ _ (.compStart (.ListComp elt [⟨tg, iter, [], 0⟩] scope pos) 0 (.ref it) (.ref D) (compEnvC scope (cellsFrom (s3.heap.objs.size + 1) scope.names (cloFrom X.env.cells scope.names [])) s3.heap.objs.size X.env))
    (BlkEnd (model X.prog X.w) X.A X.xe use Qf (.ref D) (compEnvC scope (cellsFrom (s3.heap.objs.size + 1) scope.names (cloFrom X.env.cells scope.names [])) s3.heap.objs.size X.env)) { s3 with heap := pushCells (s3.heap.push { cls := .type "dict", data := .dict #[] }) scope.names }
  have nfp : ∀ b ∈ fp, (upd H2 D (.lst [])) b = none := fun b hb => (f3 b hb).1.1
  generalize hce : compEnvC scope (cellsFrom (s3.heap.objs.size + 1) scope.names (cloFrom X.env.cells scope.names [])) s3.heap.objs.size X.env = ce at I4 pg pe ⊢
  have cL : ce.locals = s3.heap.objs.size := by subst hce; rfl
  have cF : ce.frame = X.env.frame := by subst hce; rfl
  generalize hH3 : upd H2 D (.lst []) = H3 at I3 I4 pg pe w0 nfp f3
  generalize hs4 : ({ s3 with heap := pushCells (s3.heap.push { cls := .type "dict", data := .dict #[] }) scope.names } : Shared) = s4 at I4 ⊢
  have st4 : tn 0 s4.heap := T.keep _ _ _ st3 fun b _ o e => by rw [← hs4]; exact pushCells_keeps _ _ _ _ (Heap.get?_push_of_some _ e)
  -- the wish of the block
  obtain ⟨xb, hxb⟩ : ∃ xb : Value → Shared → Prop, xb = notedBy (model X.prog X.w) X.A ce (OutOf (model X.prog X.w) X.A X.xe ce) := ⟨_, rfl⟩
  have pas : ∀ σ', PassesAt (L2N.CX X.prog X.w) (blkX X s3 H3 scope ce fp xb) σ' E0 := fun σ' pins' H' s' e s'' I' c => by
    rw [show (blkX X s3 H3 scope ce fp xb).xe = xb from rfl, hxb]
    exact blk_out (W := fun cls d _ H => E0 cls d H) hst hfr cF I3 (Nat.le_of_eq cL.symm) (fun b hb => (f3 b hb).1) tk I' (fun _ _ _ z => z) c
  have pgX := pg xb
  have peX := pe xb pas
  have I4X : Inv (blkX X s3 H3 scope ce fp xb) [] (wipe σ (own.map (·.2))) H3 s4 := I4.wish xb
  have stat : ∀ {σ' : L2.St} {H' : Hp} {s' : Shared}, Inv (blkX X s3 H3 scope ce fp xb) [] σ' H' s' → (∀ b ∈ fp, H' b = none) → ∀ b ∈ fp, FpOk (blkX X s3 H3 scope ce fp xb) [] H' b := fun {σ' H' s'} I' hn b hb =>
    ⟨hn b hb, (I'.ok.exf b hb).1, I'.ok.exfs b hb, .inl hb, fun x c e => (I'.ok.exf b hb).2 x c e, fun p hp => absurd (show p ∈ ([] : List (Addr × Obj)) ++ [] from hp) (by simp)⟩
  have loop : codeAny (model X.prog X.w) X.A (.compLoop (.ListComp elt [⟨tg, iter, [], 0⟩] scope pos) 0 (.ref it) (.ref D) ce) (BlkEnd (model X.prog X.w) X.A X.xe use Qf (.ref D) ce) s4 := by
    refine compLoop_any (fun n s' => ∃ i H', Inv (blkX X s3 H3 scope ce fp xb) [] (wipe σ (own.map (·.2))) H' s' ∧ tn i s'.heap ∧ (∀ b ∈ fp, H' b = none) ∧ W i n H') ?_ m0 ⟨0, H3, I4X, st4, nfp, w0⟩
    rintro n s5 ⟨i, H5, I5, st5, n5, w5⟩
    have ex : (notedBy (model X.prog X.w) X.A ce fun e s' => BlkEnd (model X.prog X.w) X.A X.xe use Qf (.ref D) ce (.error e) s') = xb := hxb.symm
    rw [ex]
    rcases turn i n H5 w5 with ⟨stop, qq⟩ | ⟨go, Nx, hNx, step⟩
    · refine thn (T.done (blkX X s3 H3 scope ce fp xb) rfl rfl rfl hc i [] s5 _ H5 xb I5 (stat I5 n5) st5 stop) fun r s6 ⟨hr, I6⟩ => ?_
      subst hr
      have I7 : Inv X pins σ H5 s6 := I3.call' (ch := fp) I6.os I6.base I6.hok I6.bare fun b hb => ⟨(f3 b hb).1.2.2.2.1, (f3 b hb).1.2.1, (f3 b hb).1.2.2.2.2.1, (f3 b hb).1.2.2.2.2.2⟩
      have nC : H5 ce.locals = none := I6.free
      obtain ⟨m, hn, _⟩ := I6.loc
      have hn : s6.heap.Ns ce.locals m := hn
      show compPost _ _ _ _ _ _ ce.locals _ _
      rw [cL] at nC hn ⊢
      exact hRR D s3.heap.objs.size s6 m H5 I7 qq hn (I3.fpOk (Nat.le_refl _) nC)
    · refine thn (T.item (blkX X s3 H3 scope ce fp xb) rfl rfl rfl hc i [] s5 _ H5 xb I5 (stat I5 n5) st5 go) fun r s6 ⟨u, hr, h6⟩ => ?_
      subst hr
      refine thn h6 fun _ s7 ⟨x, H7, I7, r7, y7, st7, n7⟩ => ?_
      have I7' := I7.pinned (stat I7 n7) (T.obj _ _ st7)
      refine thn (pgX.run _ s7 _ H7 x u _ I7' r7 (step x H7 y7)) fun _ s8 ⟨σ8, H8, I8, hw8, q8⟩ => ?_
      refine wpAny_tests_nil ?_
      have q9 : te σ8 H8 fun y H4 => ∃ acc, H4 D = some (.lst acc) ∧ acc.length < sizeLine ∧ Nx (upd H4 D (.lst (acc ++ [y]))) := by
        have z : (if true = true then te σ8 H8 fun y H4 => ∃ acc, H4 D = some (.lst acc) ∧ acc.length < sizeLine ∧ Nx (upd H4 D (.lst (acc ++ [y]))) else Nx H8) := q8
        rw [if_pos rfl] at z; exact z
      rw [if_pos rfl]
      refine thn (peX.run _ s8 σ8 H8 _ I8 q9) fun z s10 ⟨yv, H10, I10, r10, acc, hD10, hz10, nx⟩ => ?_
      refine app_ok (X := blkX X s3 H3 scope ce fp xb) I10 hD10 hz10 r10 fun s11 I11 => ?_
      obtain ⟨m', hm, w'⟩ := hNx _ nx
      have pin' : ∀ b ∈ fp, ∀ o, s7.heap.get? b = some o → s11.heap.get? b = some o ∧ (upd H10 D (.lst (acc ++ [yv]))) b = none := fun b hb o e =>
        let z := I11.pin (b, o) (List.mem_append_right _ (List.mem_append_right _ (mem_pinsAt hb e)))
        ⟨z.1, z.2.1⟩
      have hl : (wipe σ (own.map (·.2))).length = σ8.length := by rw [← hw8, wipe_length]
      refine ⟨m', hm, i + 1, _, (I11.unpinned (pins := [])).weak hl (fun j v e => ?_), T.keep _ _ _ st7 fun b hb o e => (pin' b hb o e).1, fun b hb => ?_, w'⟩
      · rw [← hw8] at e
        exact (wipe_some e).1
      · obtain ⟨o, e, _⟩ := T.obj _ _ st7 b hb
        exact (pin' b hb o e).2
  exact codeAny_compStart_list loop (T.self X.A 0 _ _ _ st4 loop)
/-- name = [..], the element may raise -/
theorem ps_setLcX {i : Nat} {y : Str} {py : Pos} {elt tg iter : Expr} {scope : Scope} {own : List (Str × Nat)} {pos spos : Pos} {wi : TI} {g : TG} {te : TE} {E0 : XK} (hc : X.calm = true) (hN : X.N.Nodup) (hst : X.stack = X.env :: X.outer) (hfr : X.env.frame = some X.env.locals)
    (tk : L2N.Takes X fun cls d _ H => E0 cls d H) (hy : X.N[i]? = some y) (hyl : X.env.scope.names.lookup y = some .local)
    (hsw : swapsWith (.ListComp elt [⟨tg, iter, [], 0⟩] scope pos) (some (.Name y py)) spos.line X.env = pure true) (hi : PI X tg iter wi) (ok : BlkOk X.N X.env.scope scope own)
    (hg : ∀ (s : Shared) (H : Hp) (C : Addr) (cl : List (Str × Addr)) (fp : List Addr) (xe : Value → Shared → Prop), PG (blkX X s H scope (compEnvC scope cl C X.env) fp xe) tg g)
    (he : ∀ (s : Shared) (H : Hp) (C : Addr) (cl : List (Str × Addr)) (fp : List Addr) (xe : Value → Shared → Prop), (∀ σ, PassesAt (L2N.CX X.prog X.w) (blkX X s H scope (compEnvC scope cl C X.env) fp xe) σ E0) → PE (blkX X s H scope (compEnvC scope cl C X.env) fp xe) elt te)
    (hs : ∀ x, foldedSetIterable iter X.env x = pure x := by intro _; rfl) :
    PS X (.Assign [.Name y py] (.ListComp elt [⟨tg, iter, [], 0⟩] scope pos) spos) (tAsg (tLc wi g tYes te (own.map (·.2))) (gName i)) := by
  refine ⟨fun pins s σ H D I h => ?_⟩
  rw [exec_Assign_Name_used _ _ _ _ hsw]
  refine wpAny_bind (wpAny_standAt (wpAny_bind ?_))
  show wpAny _ X.A (do let _ ← comprehension (.ListComp elt [⟨tg, iter, [], 0⟩] scope pos) scope X.env (firstIterPos [⟨tg, iter, [], 0⟩] pos) (newList []) false (eval iter X.env) (some (assign (.Name y py) X.env))) _ _ s
  have h : tLc wi g tYes te (own.map (·.2)) σ H (fun x H1 => gName i x σ H1 D.nx) := h
  refine wpAny_bind (thn (lc_coreX (Qf := fun _ s' => SP X pins D .next s') hc hN hst hfr tk I hi ok hg he hs h fun L C s' m H' I' q hn f => ?_) fun _ s' hq => wpAny_pure (wpAny_pure hq))
  show wpAny _ _ (assign (.Name y py) X.env (.ref L)) _ _ _
  refine wpAny_assign_Name (store_ok2 (v := V.ref L) I' hN hy (.inl hyl) rfl (fun s2 I2 ⟨a, sb, ha⟩ => ?_) (.inr hyl))
  obtain ⟨f0, f1, f2, f3, f4, f5⟩ := f
  have haC : C ≠ a := by
    rcases ha with z | z
    · rw [z]; exact f1
    · exact fun e => f4 y a z e.symm
  refine ⟨m, hn.sameBut sb haC, fun h3 sb3 => ?_⟩
  exact ⟨_, H', I2.turned (t' := s2.toks) (fun b o hb e => (sb3.2 b hb).trans e) f0 f1 f3 f4 f5, q⟩
end
end Bo

/-! defs that raise (an exception whose context is None), a caught exception handed to a def -/
namespace Bo
open PySem PySem.Spec PyProof.Rows L2
section
variable {P : Program} {w : World} {K : PySem.W.Frag} {mg : Str → Option Value} {base : Heap}
/-- a def of the module that may let exceptions out, as CXp tells -/
structure Cq (CXp : CXT) (P : Program) (w : World) (K : PySem.W.Frag) (mg : Str → Option Value) (base : Heap) (k : Nat) (x : Str) (sp : Sp) : Prop where
  ex : ∃ (f : Addr) (fd : FuncData) (ps : List Str), FnOk P w K mg base CXp k f fd ps sp ∧ mg x = some (.ref f) ∧ PySem.W.keepIn K (.ref f) = true ∧ Binds K fd ps []
abbrev CqN (P : Program) (w : World) (K : PySem.W.Frag) (mg : Str → Option Value) (base : Heap) (k : Nat) (x : Str) (sp : Sp) : Prop := Cq (L2N.CX P w) P w K mg base k x sp
theorem okN {x qual : Str} {st : Stmt} {f : Addr} {fd : FuncData} {N ps : List Str} {k : Nat} {sp : Sp} (F : L2.Fun K x qual st f fd) (S : FnScope N ps (defScope st)) (len : ∀ vs H Q E, sp vs H Q E → vs.length = ps.length)
    (body : ∀ (cdv : Value) (A : Around) (outer : List Env) (s : Shared) (H : Hp) (vs : List V) (Q : VK) (E : XK), Room k (A.deeper (envOfC qual (defScope st) s.heap.objs.size f cdv)) →
      L2N.Takes (cxOf (L2N.CX P w) P w K mg base N qual (defScope st) f cdv A outer s H E) (fun cls d _ H => E cls d H) → sp vs H Q E →
      ∃ t, PSs (cxOf (L2N.CX P w) P w K mg base N qual (defScope st) f cdv A outer s H E) (defBody st) t ∧ t { nx := fun _ H' => Q .non H', rt := Q } (start N vs) H) : FnOk P w K mg base (L2N.CX P w) (k + 1) f fd ps sp := by
  obtain ⟨oc, od, kV, doc, pm, an, cdv, ct, osl, rfl, lk, hcd⟩ := F.ex
  exact fn_of lk hcd S len fun A outer s H vs Q E hr h => body cdv A outer s H vs Q E hr (L2N.takes_of rfl rfl rfl rfl) h
theorem Cq.mkN {x : Str} {st : Stmt} {N ps : List Str} {k : Nat} {sp : Sp} (D : Df K mg x st ps) (S : FnScope N ps (defScope st)) (len : ∀ vs H Q E, sp vs H Q E → vs.length = ps.length)
    (body : ∀ (f : Addr) (cdv : Value) (A : Around) (outer : List Env) (s : Shared) (H : Hp) (vs : List V) (Q : VK) (E : XK), Room k (A.deeper (envOfC x (defScope st) s.heap.objs.size f cdv)) →
      L2N.Takes (cxOf (L2N.CX P w) P w K mg base N x (defScope st) f cdv A outer s H E) (fun cls d _ H => E cls d H) → sp vs H Q E →
      ∃ t, PSs (cxOf (L2N.CX P w) P w K mg base N x (defScope st) f cdv A outer s H E) (defBody st) t ∧ t { nx := fun _ H' => Q .non H', rt := Q } (start N vs) H) : CqN P w K mg base (k + 1) x sp := by
  obtain ⟨f, fd, h1, F, b⟩ := D.ex
  exact ⟨f, fd, ps, okN F S len (body f), h1, F.kp, b⟩
/-- a promise: it raises -/
def spR (pre : List V → Hp → Addr → Prop) : Sp := fun vs H _ E => ∃ D, pre vs H D ∧ ∀ H', Same H H' → E (.ref D) none H'
/-- the def at f raises where pre holds -/
structure HeldR (P : Program) (w : World) (K : PySem.W.Frag) (mg : Str → Option Value) (base : Heap) (k : Nat) (f : Addr) (pre : List V → Hp → Addr → Prop) : Prop where
  ex : ∃ (fd : FuncData) (ps : List Str), FnOk P w K mg base (L2N.CX P w) k f fd ps (spR pre) ∧ PySem.W.keepIn K (.ref f) = true ∧ Binds K fd ps []
theorem Cq.held {x : Str} {k : Nat} {pre : List V → Hp → Addr → Prop} (c : CqN P w K mg base k x (spR pre)) : ∃ f, mg x = some (.ref f) ∧ HeldR P w K mg base k f pre := by
  obtain ⟨f, fd, ps, F, hm, kp, b⟩ := c.ex
  exact ⟨f, hm, fd, ps, F, kp, b⟩
end
section
variable {X : Cx} {k i : Nat} {x : Str} {sp : Sp} {E : L2.St → XK} {p pos : Pos} {e : Expr} {es : List Expr} {t : TA}
theorem pe_cqS (c : CqN X.prog X.w X.K X.mg X.base k x sp) (hr : Room k X.A) (hg : Gl X x) (hx : ∀ σ, PassesAt (L2N.CX X.prog X.w) X σ (E σ)) (ha : PA X (e :: es) t)
    (hdb : (x == ("__debug__" : Str)) = false := by decide) (he : starEach (e :: es) X.env = (false, eval e X.env) :: starEach es X.env := by rfl) (hpl : (backTo pos (starEach es X.env)).any (·.1) = false := by rfl) :
    PE X (.Call (.Name x p) (e :: es) [] pos) (tCallS sp E t) := by
  obtain ⟨f, fd, ps, F, hm, kp, b⟩ := c.ex
  exact pe_callS F hr hg hm kp b hx ha hdb he hpl
theorem e_callS {σ : L2.St} {H : Hp} {Q : VK} (h : t σ H fun vs H1 => sp vs H1 Q (E σ)) : tCallS sp E t σ H Q := h
/-- a call of what a slot holds -/
def tCallR (i : Nat) (P : Program) (w : World) (K : PySem.W.Frag) (mg : Str → Option Value) (base : Heap) (k : Nat) (E : L2.St → XK) (t : TA) : TE := fun σ H _ => ∃ f pre, σ[i]? = some (some (.ref f)) ∧ HeldR P w K mg base k f pre ∧ t σ H fun vs H1 => ∃ D, pre vs H1 D ∧ ∀ H', Same H1 H' → E σ (.ref D) none H'
theorem pe_callR (hr : Room k X.A) (hN : X.N[i]? = some x) (hv : Vis X.env.scope x) (hx : ∀ σ, PassesAt (L2N.CX X.prog X.w) X σ (E σ)) (ha : PA X (e :: es) t)
    (hdb : (x == ("__debug__" : Str)) = false := by decide) (hcd : (x == ("__classdict__" : Str)) = false := by decide)
    (he : starEach (e :: es) X.env = (false, eval e X.env) :: starEach es X.env := by rfl) (hpl : (backTo pos (starEach es X.env)).any (·.1) = false := by rfl) :
    PE X (.Call (.Name x p) (e :: es) [] pos) (tCallR i X.prog X.w X.K X.mg X.base k E t) := by
  refine ⟨fun pins s σ H Q I h => ?_⟩
  obtain ⟨f, pre, hs, B, ht⟩ := h
  obtain ⟨fd, ps, F, kp, b⟩ := B.ex
  refine wpAny_Call_Name_kw (thn ((pe_var (pos := p) hN hv hdb hcd).run pins s σ H (fun v H1 => v = .ref f ∧ H1 = H) I ⟨.ref f, hs, rfl, rfl⟩) fun u s1 ⟨v, H1, I1, r1, q1⟩ => ?_)
  obtain ⟨rfl, rfl⟩ := q1
  cases r1
  refine PySem.W.callWith_K (h₀ := X.base) I.ok.mod.kin kp (thn (ha.run pos pins s1 σ _ _ I1 ht) fun us s2 ⟨vs, H2, I2, r, q⟩ => ⟨I2.kIn, ?_⟩) he hpl
  exact run_fnS F hr b (hx σ) I2 r q
/-- isinstance of the exception that stands at a -/
theorem call_isP {a D : Addr} {oe : Obj} (C : ExcC X.K D) (hz : Zc (.ref D) none oe) (hf : ∃ vs, oe.data = .fields vs) (hm : (a, oe) ∈ X.pn) : CallR X (.builtin "isinstance") (rIsE X.K D a) := by
  intro pins s σ H xs us Q I r h
  obtain ⟨c, cv, b, rfl, hcv, e, q⟩ := h
  cases r with
  | cons rx rr => cases rr with
    | cons rt rr =>
      cases rr
      cases rx
      have ec := hcv _ rt
      subst ec
      have hget := (I.pin (a, oe) (List.mem_append_left _ hm)).1
      obtain ⟨vs, hv⟩ := hf
      have J : PySem.W.InstAt s.heap a oe D none := by
        obtain ⟨oc, od, oda, osl⟩ := oe
        obtain ⟨h1, h2⟩ := hz
        dsimp only at h1 h2 hv
        subst h1 h2 hv
        exact ⟨hget, rfl, rfl, trivial⟩
      exact PySem.W.kia_one (PySem.W.handS_kitx_exc C.hg C.hk C.hs C.hd C.ha C.hn C.ht C.hm) I.kIn J e (fun z => nomatch z) fun tk => ⟨.bl b, H, I.kept (t' := tk) fun _ _ z => z, rfl, q⟩
end
theorem takesN0 {X : Cx} : L2N.Takes X (fun _ _ _ _ => False) := fun _ _ x => by
  obtain ⟨_, _, _, _, _, _, _, _, _, _, _, _, _, _, _, _, z⟩ := x
  exact z.elim
/-! ### a def that is called within an except suite, the exception handed on: sp by its address, class, dict -/
structure FnP (P : Program) (w : World) (K : PySem.W.Frag) (mg : Str → Option Value) (base : Heap) (k : Nat) (f : Addr) (fd : FuncData) (ps : List Str) (sp : Addr → Value → Option Addr → Sp) : Prop where
  len : ∀ a cls d vs H Q E, sp a cls d vs H Q E → vs.length = ps.length
  run : ∀ (A : Around) (outer : List Env) (s : Shared) (H : Hp) (args : Args) (us : List Value) (vs : List V) (Q : VK) (E : XK) (p : Addr × Obj) (cls : Value) (d : Option Addr), L2H.RoomH k A → L2H.Hot1 A p → L2N.Zn cls d p.2 → L2H.PinOk outer H s p →
    Env0 P w K mg base A outer s H → BindsTo s fd args (ps.zip us) → Vals vs us → sp p.1 cls d vs H Q E → codeAny (model P w) A (.call (.ref f) args) (CR L2.CX0 outer P w H s Q E) s
section
variable {P : Program} {w : World} {K : PySem.W.Frag} {mg : Str → Option Value} {base : Heap}
theorem fnP_of {x qual : Str} {st : Stmt} {f : Addr} {fd : FuncData} {N ps : List Str} {k : Nat} {sp : Addr → Value → Option Addr → Sp} (F : L2.Fun K x qual st f fd) (S : FnScope N ps (defScope st)) (len : ∀ a cls d vs H Q E, sp a cls d vs H Q E → vs.length = ps.length)
    (body : ∀ (cdv : Value) (A : Around) (outer : List Env) (s : Shared) (H : Hp) (vs : List V) (Q : VK) (E : XK) (p : Addr × Obj) (cls : Value) (d : Option Addr), L2H.Hot1 A p → L2N.Zn cls d p.2 → sp p.1 cls d vs H Q E →
      ∃ t, PSs (L2H.cxH L2.CX0 P w K mg base N qual (defScope st) f cdv A outer s H E p).nox (defBody st) t ∧ t { nx := fun _ H' => Q .non H', rt := Q } (L2.start N vs) H) : FnP P w K mg base (k + 1) f fd ps sp := by
  obtain ⟨oc, od, kV, doc, pm, an, cdv, ct, osl, rfl, lk, hcd⟩ := F.ex
  refine ⟨len, fun A outer s H args us vs Q E p cls d hr hot hz hpin e0 hb r hsp => ?_⟩
  have hl := len _ _ _ _ _ _ _ hsp
  have KX : K.In s.heap := e0.mod.kin.keeps fun b o e => (e0.bs b o e).1
  have lim : s.heap.NoLimit := e0.mod.nolimit.keeps fun b o e => (e0.bs b o e).1
  have kinds : ∀ y ∈ ps.zip us, (defScope st).names.lookup y.1 = some .local ∨ ((defScope st).names.lookup y.1 = some .cell ∧ ((cellsFrom (s.heap.objs.size + 1) (defScope st).names []).lookup y.1).isSome = true) := fun y hy =>
    (S.par y.1 (List.of_mem_zip (a := y.1) (b := y.2) hy).1).elim .inl fun q => .inr ⟨q, PySem.W.cellsFrom_some _ _ _ (.inl q)⟩
  refine codeAny_call_function hr.depth (KX _ _ lk) rfl S.co S.gen rfl (PySem.W.codeRec_of KX hcd) (hb _ _ _ _ ?_)
  refine wpAny_newFunctionEnv_cells S.kind kinds fun env he s1 z => ?_
  subst he
  refine ⟨lim.keeps z.toInCall.keep, codeAny_func ?_⟩
  obtain ⟨t, ht, hq⟩ := body cdv A outer s H vs Q E p cls d hot hz hsp
  have I := L2H.inv_startH (CX := L2.CX0) (E := E) (qual := qual) (f := f) (cd := cdv) S hpin e0 hl r z
  refine wpAny_mono (ht.nox.run [] s1 (L2.start N vs) H _ I hq) (fun fl s' hs => ?_) fun e s' hs => hs
  cases fl with
  | ret u =>
    obtain ⟨v, σ', H', J, rv, q⟩ := hs
    exact ⟨v, H', J.os, J.bare, J.base, J.hok, rv, q⟩
  | next =>
    obtain ⟨σ', H', J, q⟩ := hs
    exact ⟨V.non, H', J.os, J.bare, J.base, J.hok, rfl, q⟩
  | brk => obtain ⟨_, _, _, q⟩ := hs; exact q.elim
  | cont => obtain ⟨_, _, _, q⟩ := hs; exact q.elim
structure CcP (P : Program) (w : World) (K : PySem.W.Frag) (mg : Str → Option Value) (base : Heap) (k : Nat) (x : Str) (sp : Addr → Value → Option Addr → Sp) : Prop where
  ex : ∃ (f : Addr) (fd : FuncData) (ps : List Str), FnP P w K mg base k f fd ps sp ∧ mg x = some (.ref f) ∧ PySem.W.keepIn K (.ref f) = true ∧ Binds K fd ps []
theorem CcP.mk' {x : Str} {st : Stmt} {N ps : List Str} {k : Nat} {sp : Addr → Value → Option Addr → Sp} (D : Df K mg x st ps) (S : FnScope N ps (defScope st)) (len : ∀ a cls d vs H Q E, sp a cls d vs H Q E → vs.length = ps.length)
    (body : ∀ (f : Addr) (cdv : Value) (A : Around) (outer : List Env) (s : Shared) (H : Hp) (vs : List V) (Q : VK) (E : XK) (p : Addr × Obj) (cls : Value) (d : Option Addr), L2H.Hot1 A p → L2N.Zn cls d p.2 → sp p.1 cls d vs H Q E →
      ∃ t, PSs (L2H.cxH L2.CX0 P w K mg base N x (defScope st) f cdv A outer s H E p).nox (defBody st) t ∧ t { nx := fun _ H' => Q .non H', rt := Q } (L2.start N vs) H) : CcP P w K mg base (k + 1) x sp := by
  obtain ⟨f, fd, h1, F, b⟩ := D.ex
  exact ⟨f, fd, ps, fnP_of F S len (body f), h1, F.kp, b⟩
end
section
variable {X : Cx} {k : Nat} {x : Str} {sp : Addr → Value → Option Addr → Sp} {a : Addr} {oe : Obj} {cls : Value} {d : Option Addr} {pn : List (Addr × Obj)} {p pos : Pos} {e : Expr} {es : List Expr} {t : TA}
/-- such a call, within the suite -/
theorem pe_callP (c : CcP X.prog X.w X.K X.mg X.base k x sp) (hr : Room k X.A) (hz : L2N.Zn cls d oe) (hf : ∃ vs, oe.data = .fields vs) (hg : Gl (X.suite a ((a, oe) :: pn)) x) (ha : PA (X.suite a ((a, oe) :: pn)) (e :: es) t)
    (hdb : (x == ("__debug__" : Str)) = false := by decide) (he : starEach (e :: es) X.env = (false, eval e X.env) :: starEach es X.env := by rfl) (hpl : (backTo pos (starEach es X.env)).any (·.1) = false := by rfl) :
    PE (X.suite a ((a, oe) :: pn)) (.Call (.Name x p) (e :: es) [] pos) (tCall (sp a cls d) [] L2.E0 t) := by
  obtain ⟨f, fd, ps, F, hm, kp, b⟩ := c.ex
  obtain ⟨vs0, hv0⟩ := hf
  refine ⟨fun pins s σ H Q I h => ?_⟩
  refine wpAny_Call_Name_kw (ld_glob I hg hm ?_ hdb)
  refine PySem.W.callWith_K (h₀ := X.base) I.ok.mod.kin kp (thn (ha.run pos pins s σ H _ I h) fun us s1 ⟨vs, H1, I1, r, q⟩ => ⟨I1.kIn, ?_⟩) he hpl
  have q : sp a cls d (vs ++ []) H1 Q L2.E0 := q
  rw [List.append_nil] at q
  have hl : us.length = ps.length := by rw [← r.length]; exact F.len _ _ _ _ _ _ _ q
  have bd := b s1 us I1.kIn (by rw [List.append_nil]; exact hl)
  rw [List.append_nil] at bd
  have P1 := I1.pin (a, oe) (List.mem_append_left _ List.mem_cons_self)
  have hpin : L2H.PinOk X.stack H1 s1 (a, oe) := ⟨P1.1, P1.2.1, fun hm => (List.mem_cons.mp (I1.stkSub a hm)).elim P1.2.2.1 P1.2.2.2.1, P1.2.2.2.2⟩
  have hot : L2H.Hot1 (X.suite a ((a, oe) :: pn)).A (a, oe) := ⟨rfl, vs0, hv0, hz.2.2 vs0 hv0⟩
  refine wpAny_call (codeAny_mono (F.run _ X.stack s1 H1 ⟨us, []⟩ us vs Q L2.E0 (a, oe) cls d ⟨hr.dp, hr.un⟩ hot hz hpin I1.env0 bd r q) fun r s' hq => ?_)
  cases r with
  | error e => exact False.elim hq
  | ok fl =>
    cases fl with
    | ret u => exact I1.after hq
    | next => exact False.elim hq
    | brk => exact False.elim hq
    | cont => exact False.elim hq
end
end Bo

/-! exceptions whose context is None or one whose context is None -/
namespace Bo
open PySem PySem.Spec PyProof.Rows L2
/-- what is kept of the exception's object: its class, its dict, its context -/
def Zx (c cls : Value) (d : Option Addr) : Obj → Prop := fun o => o.cls = cls ∧ o.dict = d ∧ ∀ vs : Array Value, o.data = .fields vs → vs[2]? = some c
theorem ctx_stays {c v : Value} {o : Obj} (h : ∀ vs : Array Value, o.data = .fields vs → vs[2]? = some c) : ∀ vs : Array Value, (o.mapFields (·.setIfInBounds 1 v)).data = .fields vs → vs[2]? = some c := by
  intro vs e
  obtain ⟨k, d, dt, sl⟩ := o
  cases dt with
  | fields v0 =>
    have e2 : v0.setIfInBounds 1 v = vs := Data.fields.inj e
    rw [← e2, Array.getElem?_setIfInBounds_ne (by decide)]
    exact h v0 rfl
  | _ => first | exact Data.noConfusion e | cases e
theorem Zx.steady {c cls : Value} {d : Option Addr} : PXN.Steady1 (Zx c cls d) := fun _ _ h => ⟨(Obj.cls_mapFields ..).trans h.1, (HandSPX.dict_mapFields ..).trans h.2.1, ctx_stays h.2.2⟩
theorem Zx.zc {c cls : Value} {d : Option Addr} {o : Obj} (h : Zx c cls d o) : Zc cls d o := ⟨h.1, h.2.1⟩
/-- an exception that was handled, its context None -/
def XO (a : Addr) : HO := .ext fun h => ∃ (o : Obj) (vs : Array Value), h.get? a = some o ∧ o.data = .fields vs ∧ vs[2]? = some .none
def CtxOk (c : Value) (H : Hp) : Prop := c = .none ∨ ∃ x, c = .ref x ∧ H x = some (XO x)
theorem CtxOk.same {c : Value} {H H' : Hp} (s : Same H H') (k : CtxOk c H) : CtxOk c H' := k.elim .inl fun ⟨x, e, q⟩ => .inr ⟨x, e, s _ _ q⟩
/-- the context of what u is -/
def CtxAt (c u : Value) (h : Heap) : Prop := ∃ (a : Addr) (oe : Obj) (vs : Array Value), u = .ref a ∧ h.get? a = some oe ∧ oe.data = .fields vs ∧ vs[2]? = some c
section
variable {B h : Heap} {l : List Env} {a L : Addr} {c cls : Value} {d : Option Addr}
theorem CtxAt.up (k : CtxAt c (.ref a) h) : ∀ oe, h.get? a = some oe → Zc cls d oe → Zx c cls d oe := fun oe e z => by
  obtain ⟨a', o', vs', q, g, hd', hc⟩ := k
  cases q
  rw [g] at e
  cases e
  exact ⟨z.1, z.2, fun vs q => by rw [hd'] at q; cases q; exact hc⟩
theorem sky_ctx (k : CtxAt c (.ref a) h) (x : Sky B l a (Zc cls d) L h) : Sky B l a (Zx c cls d) L h := by
  rcases x with ⟨p1, p2, p3, oe, vs, he, hz, hd, h1⟩ | ⟨p1, p2, p3, oe, vs, T, oT, ts, he, hz, r⟩ | ⟨p1, p2, p3, oe, vs, T, oT, ts, he, hz, r⟩
  · exact .inl ⟨p1, p2, p3, oe, vs, he, k.up oe he hz, hd, h1⟩
  · exact .inr (.inl ⟨p1, p2, p3, oe, vs, T, oT, ts, he, k.up oe he hz, r⟩)
  · exact .inr (.inr ⟨p1, p2, p3, oe, vs, T, oT, ts, he, k.up oe he hz, r⟩)
theorem fly_zc (x : HandSPX.FlyingZ B l a (Zx c cls d) h) : HandSPX.FlyingZ B l a (Zc cls d) h := L2H.flyingZ_imp (fun _ z => z.zc) x
theorem fly_ctx (x : HandSPX.FlyingZ B l a (Zx c cls d) h) : CtxAt c (.ref a) h := by
  obtain ⟨oe, vs, e, z, q⟩ := x.there
  exact ⟨a, oe, vs, rfl, e, q, z.2.2 vs q⟩
theorem sky_n (x : Sky B l a (L2N.Zn cls d) L h) : Sky B l a (Zc cls d) L h ∧ CtxAt .none (.ref a) h := by
  rcases x with ⟨p1, p2, p3, oe, vs, he, hz, hd, h1⟩ | ⟨p1, p2, p3, oe, vs, T, oT, ts, he, hz, hd, r⟩ | ⟨p1, p2, p3, oe, vs, T, oT, ts, he, hz, hd, r⟩
  · exact ⟨.inl ⟨p1, p2, p3, oe, vs, he, hz.zc, hd, h1⟩, a, oe, vs, rfl, he, hd, hz.2.2 vs hd⟩
  · exact ⟨.inr (.inl ⟨p1, p2, p3, oe, vs, T, oT, ts, he, hz.zc, hd, r⟩), a, oe, vs, rfl, he, hd, hz.2.2 vs hd⟩
  · exact ⟨.inr (.inr ⟨p1, p2, p3, oe, vs, T, oT, ts, he, hz.zc, hd, r⟩), a, oe, vs, rfl, he, hd, hz.2.2 vs hd⟩
end
/-- such an exception in the air of X -/
def XC (X : Cx) (W : WX) (u : Value) (s' : Shared) : Prop := ∃ c, CtxAt c u s'.heap ∧ L2.XE X (fun cls d σ H => CtxOk c H ∧ W cls d σ H) u s'
def TakesC (X : Cx) (W : WX) : Prop := ∀ u s', XC X W u s' → X.xe u s'
/-- behind a call that let one out -/
def CXc (P : Program) (w : World) (outer : List Env) (H : Hp) (s : Shared) (E : XK) (u : Value) (s' : Shared) : Prop := ∃ c, CtxAt c u s'.heap ∧ L2.CX P w outer H s (fun cls d H' => CtxOk c H' ∧ E cls d H') u s'
section
variable {X : Cx} {pins : List (Addr × Obj)} {σ : L2.St} {H : Hp} {s s' : Shared} {W : WX} {E : XK}
theorem TakesC.n (tk : TakesC X W) : L2N.Takes X W := fun u s' ⟨a, B, sI, pins, σ, H, cls, d, e, I, nb, up, sky, na, os, ag, w⟩ => by
  obtain ⟨k1, k2⟩ := sky_n sky
  exact tk u s' ⟨.none, e ▸ k2, a, B, sI, pins, σ, H, cls, d, e, I, nb, up, k1, na, os, ag, .inl rfl, w⟩
theorem passC {W : WX} (tk : TakesC X W) (σ : L2.St) : PassesAt (CXc X.prog X.w) X σ (WE W σ) := fun _ _ _ e s' I ⟨c, k, x⟩ => tk e s' ⟨c, k, L2.XE.of_call I (fun _ _ _ h => h) x⟩
theorem XC.leave (hs : X.stack = X.env :: X.outer) (hf : X.env.frame = some X.env.locals) (hex : X.ex = []) {E₁ : Value → Shared → Prop} (hW : ∀ cls d σ H, W cls d σ H → E cls d H) {u : Value} (x : XC X W u s') :
    wpAny (model X.prog X.w) X.A (leaving X.env u) (fun _ s2 => CXc X.prog X.w X.outer X.H_0 X.s_0 E u s2) E₁ s' := by
  obtain ⟨c, k, a, B, sI, pins, σ, H, cls, d, rfl, I, nb, up, sky0, na, os, ag, cw, w⟩ := x
  have sky := sky_ctx k sky0
  have hfr : X.A.frames = some (X.env :: X.outer) := by rw [I.ok.frames, hs]
  have nx : ∀ b, b ∉ X.ex := fun b hb => by rw [hex] at hb; cases hb
  have nst : ∀ b o, X.s_0.heap.get? b = some o → b ∉ X.fs → b ∉ frs X.stack := fun b o e hb hm => by
    refine (List.mem_cons.mp (I.stkSub b hm)).elim (fun z => ?_) hb
    have h1 := Heap.lt_size e
    have h2 := I.ok.above
    rw [z] at h1
    exact Nat.lt_irrefl _ (Nat.lt_of_lt_of_le h1 h2)
  have fin : ∀ h2, HandSPX.FlyingZ B X.outer a (Zx c cls d) h2 → s'.heap.UpToSlots h2 → CXc X.prog X.w X.outer X.H_0 X.s_0 E (.ref a) { s' with heap := h2 } := fun h2 fl up2 => by
    have ub : UB (frs X.outer) X.H_0 H X.s_0.heap B h2 := by
      refine ⟨fun b o e n hb => nb b o (I.base.keep b o e n hb (nx b)) (nst b o e hb), fun b o e hb => ?_, fun b o e n => I.base.free b o e n (nx b), fun b o e hb => ?_, I.base.tups, I.base.frzs, I.base.tbls⟩
      · obtain ⟨_, o1, e1, nf⟩ := I.ok.funs.mem hb
        rw [e] at e1
        cases e1
        obtain ⟨l1, q1⟩ := I.base.slot b o e (I.ok.frf b hb) hb (nx b)
        obtain ⟨l2, q2⟩ := up b _ q1 nf
        obtain ⟨l3, q3⟩ := up2 b _ q2 nf
        exact ⟨l3, q3⟩
      · obtain ⟨o2, e2⟩ := I.base.there b o e (nx b)
        exact ⟨o2, nb b o2 e2 (nst b o e hb)⟩
    exact ⟨c, fly_ctx fl, a, B, H, cls, d, rfl, fly_zc fl, I.inGround nb, ub, na, os.trans I.os, ag, cw, hW _ _ _ _ w⟩
  rw [hs] at sky
  rcases sky with ⟨q1, q2, q3, oe, vs, he, hz, hd, h1⟩ | fl | held
  · exact PXN.leaving_firstZ Zx.steady hfr q3 hf he q1 q2 hd h1 hz fin
  · exact PXN.leaves_onZ Zx.steady hfr hf fl fin
  · exact HandSPX.leaves_heldZ hf held fin
theorem takesC_of (hs : X.stack = X.env :: X.outer) (hf : X.env.frame = some X.env.locals) (hex : X.ex = []) {E₁ : Value → Shared → Prop}
    (hx : X.xe = fun e s' => wpAny (model X.prog X.w) X.A (leaving X.env e) (fun _ s2 => CXc X.prog X.w X.outer X.H_0 X.s_0 E e s2) E₁ s') : TakesC X (fun cls d _ H => E cls d H) := fun u s' x => by
  rw [hx]
  exact XC.leave (W := fun cls d _ H => E cls d H) hs hf hex (fun _ _ _ _ h => h) x
/-- an object of ours that nobody tracks is tracked from now on -/
theorem inv_know {a : Addr} {o : HO} (I : Inv X pins σ H s) (na : H a = none) (h0 : X.s_0.heap.get? a = none) (nL : a ≠ X.env.locals) (nC : ∀ x c, X.env.cells.lookup x = some c → c ≠ a) (np : ∀ p ∈ X.pn ++ pins, p.1 ≠ a)
    (ok : ObjOk X.prog X.w (upd H a o) s.heap a o) : Inv X pins σ (upd H a o) s := by
  refine ⟨I.ok, I.os, I.bare, ⟨I.base.keep, I.base.slot, fun b u e n hb => ?_, I.base.there, fun b xs e => ?_, fun b u v e => ?_, fun b ps e => ?_⟩, I.loc, I.cell, ?_, fun x c e => ?_, fun p hp => ?_, ?_, I.len⟩
  · rw [upd_ne (fun z => by rw [z, h0] at e; cases e)]
    exact I.base.free b u e n hb
  · have q := I.base.tups b xs e
    rw [upd_ne (ne_of_none q na)]; exact q
  · have q := I.base.frzs b u v e
    rw [upd_ne (ne_of_none q na)]; exact q
  · obtain ⟨more, q⟩ := I.base.tbls b ps e
    exact ⟨more, by rw [upd_ne (ne_of_none q na)]; exact q⟩
  · rw [upd_ne (Ne.symm nL)]; exact I.free
  · rw [upd_ne (nC x c e)]; exact I.freeC x c e
  · obtain ⟨p1, p2, p3⟩ := I.pin p hp
    exact ⟨p1, by rw [upd_ne (np p hp)]; exact p2, p3⟩
  · exact HOk.laidN I.hok (fun _ _ q => q) na ok
end
/-! ### except suites -/
section
variable {X : Cx} {pins : List (Addr × Obj)} {σ : L2.St} {H : Hp} {B : Heap} {sI s' : Shared} {a : Addr} {Z : Obj → Prop}
/-- what the ground tells of the exception's address -/
theorem sky_far (hs : X.stack = X.env :: X.outer) (hf : X.env.frame = some X.env.locals) (I : Inv X pins σ H sI) (nb : ∀ b o, sI.heap.get? b = some o → b ∉ frs X.stack → B.get? b = some o) (nB : B.get? a = none) (nf : a ∉ frs (X.env :: X.outer)) :
    sI.heap.get? a = none := by
  cases e : sI.heap.get? a with
  | none => rfl
  | some o =>
    have q := nb a o e (by rw [hs]; exact nf)
    rw [nB] at q; cases q
end
/-- what 'except c: raise ..' wishes of the body's exception -/
def wRef (K : PySem.W.Frag) (c : Value) (t : L2.St → Hp → XK → Prop) (Wout : WX) : WX := fun cls d σ H => PySem.W.exmOne K cls c = some true ∧ ∀ a, H a = none → t σ H fun cls' d' H' => Wout cls' d' σ (upd H' a (XO a))
section
variable {X : Cx} {W : WX} {e : Expr} {t : L2.St → Hp → XK → Prop} {pos : Pos}
/-- raise, while p's exception is handled -/
theorem ps_raiseC {p : Addr × Obj} (hp : p ∈ X.pn) (hh : L2H.Hot1 X.A p) (tk : ∀ u s', L2.XE X W u s' → CtxAt (.ref p.1) u s'.heap → X.xe u s') (he : L2N.PMk X e t) :
    PS X (.Raise (some e) none pos) (fun _ σ H => t σ H fun cls d H' => W cls d σ H') := by
  refine ⟨fun pins s σ H D I h => ?_⟩
  obtain ⟨hA, v1, e1, c1⟩ := hh
  show wpAny _ _ (do standAt pos; raiseStmt X.env (some (do let v ← eval e X.env; standAt pos; pure v)) none) _ _ _
  refine wpAny_bind (wpAny_standAt (HotX.raise_made_hot (x1 := p.1) (wpAny_bind (thn (he pins s σ H _ I h) fun u s1 hu => wpAny_bind (wpAny_standAt (wpAny_pure ?_))))))
  obtain ⟨a, oe, vs, sI, H', cls, d, rfl, J, k, hne, ha, hz, hd, h1, na, os, ag, r, q⟩ := hu
  obtain ⟨r1, r2⟩ := r (model X.prog X.w) s1.heap (J.kIn.keeps k)
  have P1 := (J.pin p (List.mem_append_left _ hp)).1
  have nap : p.1 ≠ a := fun z => by
    rw [z, hne] at P1
    cases P1
  have hi : 2 < vs.size := (Array.getElem?_eq_some_iff.mp (hz.2.2 vs hd)).1
  have g1 : (vs.setIfInBounds 2 (Value.ref p.1))[1]? = some Value.none := by
    rw [Array.getElem?_setIfInBounds_ne (by decide)]; exact h1
  have g2 : (vs.setIfInBounds 2 (Value.ref p.1))[2]? = some (Value.ref p.1) := by
    rw [Array.getElem?_setIfInBounds_self_of_lt hi]
  have dn := Obj.data_mapFields hd (·.setIfInBounds 2 (Value.ref p.1))
  have gn := Heap.get?_update_self (Obj.mapFields (·.setIfInBounds 2 (Value.ref p.1))) ha (Obj.isFreed_of_fields dn)
  refine ⟨a, oe, vs, cls, rfl, ha, hz.1, hd, h1, hi, nap, ⟨hA, p.2, v1, k _ _ P1, e1, c1⟩, r1, r2, tk _ _ (L2.XE.new J (fun b u z => ?_) hne gn ⟨(Obj.cls_mapFields ..).trans hz.1, (HandSPX.dict_mapFields ..).trans hz.2.1⟩ dn g1 na os ag q) ⟨a, _, _, rfl, gn, dn, g2⟩⟩
  have nab : a ≠ b := fun y => by
    rw [← y, hne] at z
    cases z
  show (s1.heap.update a (Obj.mapFields (·.setIfInBounds 2 (.ref p.1)))).get? b = some u
  rw [Heap.get?_update_other _ _ nab]
  exact k b u z
end
end Bo

/-! try: .. except c: raise e(..); try: .. except c as n: .., for such exceptions -/
namespace Bo
open PySem PySem.Spec PyProof.Rows L2
section
variable {X : Cx} {pins pn : List (Addr × Obj)} {σ : L2.St} {H : Hp} {D : Ends} {s : Shared} {a : Addr}
/-- an end of a try's body is an end of the def's -/
theorem sp_back {xe : Value → Shared → Prop} (ok : X.Ok) : ∀ {fl : Flow}, SP (X.tr (X.pn ++ pins) xe) [] D fl s → SP X pins D fl s
  | .next, ⟨σ1, H1, J, q⟩ => ⟨σ1, H1, Inv.ofTry J ok, q⟩
  | .brk, ⟨σ1, H1, J, q⟩ => ⟨σ1, H1, Inv.ofTry J ok, q⟩
  | .cont, ⟨σ1, H1, J, q⟩ => ⟨σ1, H1, Inv.ofTry J ok, q⟩
  | .ret _, ⟨v1, σ1, H1, J, r, q⟩ => ⟨v1, σ1, H1, Inv.ofTry J ok, r, q⟩
/-- nothing that ends well -/
abbrev noEnd : Ends := { nx := fun _ _ => False, rt := fun _ _ => False, bk := fun _ _ => False, ct := fun _ _ => False }
theorem sp_none : ∀ {fl : Flow}, ¬ SP X pins noEnd fl s
  | .next, ⟨_, _, _, q⟩ => q
  | .brk, ⟨_, _, _, q⟩ => q
  | .cont, ⟨_, _, _, q⟩ => q
  | .ret _, ⟨_, _, _, _, _, q⟩ => q
/-- a record stands apart from every frame -/
theorem far_frames {B h : Heap} {l : List Env} {o : Obj} {vs : Array Value} (ff : h.FunFrames B l) (g : h.get? a = some o) (dd : o.data = .fields vs) : a ∉ frs l := fun hm => by
  obtain ⟨_, o', e', nf⟩ := ff.mem hm
  rw [g] at e'
  cases e'
  exact nf _ dd
theorem far_own (hf : X.env.frame = some X.env.locals) (n : a ∉ frs (X.env :: X.outer)) : a ≠ X.env.locals ∧ a ∉ X.fs :=
  ⟨fun z => n (z ▸ List.mem_filterMap.mpr ⟨_, List.mem_cons_self, hf⟩), fun hm => n (by
    obtain ⟨y, m, q⟩ := List.mem_filterMap.mp hm
    exact List.mem_filterMap.mpr ⟨y, List.mem_cons_of_mem _ m, q⟩)⟩
/-- the clause's class is asked, the exception in hand -/
theorem clause_ask {x : Str} {c cls : Value} {np : Pos} {oe : Obj} {b : Bool} (hc : Names X x c) (S : Inv (X.suite a ((a, oe) :: pn)) [] σ H s) (g : s.heap.get? a = some oe) (k : oe.cls = cls) (m : PySem.W.exmOne X.K cls c = some b)
    {Q : Bool → Shared → Prop} {E E' : Value → Shared → Prop} (q : Q b s) :
    wpAny (model X.prog X.w) (X.A.mark (some (.ref a))) (eval (.Name x np) X.env) (fun v s1 => wpAny (model X.prog X.w) (X.A.mark (some (.ref a))) (excMatches (.ref a) v) Q E' s1) E s := by
  have asked := (PySem.W.exm_one (M := model X.prog X.w) S.kIn (fun A Q E s2 k2 q2 => wpAny_typeOf_ref (k2 _ _ g) (by rw [k]; exact q2)) m).here (A := X.A.mark (some (.ref a))) (E := E') q
  obtain ⟨hg, hd, hm | ⟨hm, hv, hn⟩⟩ := hc
  · exact ld_glob (X := X.suite a ((a, oe) :: pn)) S hg hm asked hd
  · exact ld_blt (X := X.suite a ((a, oe) :: pn)) S hg hm hv asked hn hd
end
section
variable {X : Cx} {x : Str} {c : Value} {body : List Stmt} {e : Expr} {np rp pos pos' : Pos} {tb : WX → TS} {t : L2.St → Hp → XK → Prop} {Wout : WX}
theorem ps_try_refuse (hs : X.stack = X.env :: X.outer) (hf : X.env.frame = some X.env.locals) (hc : Names X x c) (hx0 : X.ex = []) (hpa : ∀ hd : Option Value, PassesOwnAt (model X.prog X.w) (X.A.mark hd) X.A X.env X.xe) (tk : TakesC X Wout)
    (hb : ∀ (W : WX) (pn : List (Addr × Obj)) (xe : Value → Shared → Prop), L2N.Takes (X.tr pn xe) W → PSs (X.tr pn xe) body (tb W))
    (he : ∀ (a : Addr) (pn : List (Addr × Obj)), L2N.PMk (L2H.suiteX X a pn) e t) :
    PS X (.Try body [.ExceptHandler (some (.Name x np)) none [.Raise (some e) none rp] pos'] [] [] pos) (fun D σ H => tb (wRef X.K c t Wout) D σ H) := by
  constructor
  intro pins s σ H D I h
  have ok := I.ok
  refine wpAny_Try_except (wpAny_mono ((hb (wRef X.K c t Wout) (X.pn ++ pins) _ ?_).run [] s σ H D (I.toTry _) h) (fun fl s1 q => ?_) fun _ _ z => z)
  rotate_left
  · cases fl <;> first | exact wpAny_execs_nil (sp_back ok q) | exact sp_back ok q
  rintro u s' ⟨a, B, sI, pins', σ1, H1, cls, d, rfl, J0, nb, up, sky, na, os, ag, hb1, hyes⟩
  have J := J0.ofTry ok
  rw [show (X.tr (X.pn ++ pins) _).stack = X.env :: X.outer from hs] at sky
  refine L2N.Sky.land L2N.Zn.steady (ok.frames.trans (congrArg some hs)) hf sky fun h3 fl3 up3 => ?_
  obtain ⟨o3, v3, g3, z3, d3⟩ := fl3.there
  have nfr := far_frames fl3.2.2.1 g3 d3
  obtain ⟨nL, nF⟩ := far_own hf nfr
  -- where the exception stands, nothing of ours stood
  have nI : sI.heap.get? a = none := sky_far hs hf J nb fl3.2.1 nfr
  have h0 : X.s_0.heap.get? a = none := by
    cases q : X.s_0.heap.get? a with
    | none => rfl
    | some o =>
      obtain ⟨o', q'⟩ := J.base.there a o q (by rw [hx0]; simp)
      rw [nI] at q'; cases q'
  have npin : ∀ p ∈ X.pn ++ pins, p.1 ≠ a := fun p hp z => by
    have q := (J.pin p hp).1
    rw [z, nI] at q; cases q
  have ncell : ∀ y k, X.env.cells.lookup y = some k → k ≠ a := fun y k q z => by
    obtain ⟨v, ob, e1, _⟩ := J.cell y k q
    rw [z, nI] at e1; cases e1
  have S3 := (J.landed (s' := { s' with heap := h3 }) nb fl3.1 (up.trans up3) os ag).suite g3 d3 na nL nF
  refine wpAny_handleBy_cons (codeAny_handlers_test (clause_ask hc S3 g3 z3.1 hb1 ?_)) (fun q => by cases q)
  refine codeAny_handlers_suite (HandSPX.lands_againZ fl3 fun h4 fl4 up4 => ?_)
  obtain ⟨o4, v4, g4, z4, d4⟩ := fl4.there
  have c4 := z4.2.2 v4 d4
  have S4 := (J.landed (s' := { s' with heap := h4 }) nb fl4.1 ((up.trans up3).trans up4) os ag).suite g4 d4 na nL nF
  have tkS : ∀ u s2, L2.XE (L2H.suiteX X a ((a, o4) :: (X.pn ++ pins))) (fun cls d σ H => Wout cls d σ (upd H a (XO a))) u s2 → CtxAt (.ref a) u s2.heap → X.xe u s2 := fun u s2 x2 ca => by
    obtain ⟨b, B2, sJ, pn2, σ2, H2, cls2, d2, e2, I2, nb2, up2, sky2, nb', os2, ag2, w2⟩ := x2
    have P2 := I2.pin (a, o4) (List.mem_append_left _ List.mem_cons_self)
    have n2 : b ≠ a := fun z => by
      have q := nb2 a _ P2.1 (by show a ∉ frs X.stack; rw [hs]; exact nfr)
      have nB2 : B2.get? b = none := by
        rcases sky2 with ⟨_, q, _⟩ | ⟨_, q, _⟩ | ⟨_, q, _⟩ <;> exact q
      rw [z, q] at nB2; cases nB2
    have K2 : Inv X pins σ2 (upd H2 a (XO a)) sJ := inv_know (L2H.unsuiteX I2 ok) P2.2.1 h0 nL ncell npin ⟨⟨o4, v4, P2.1, d4, c4⟩, ⟨_, P2.1⟩, fun _ _ ⟨o', v, q, r⟩ k => ⟨o', v, k o' q, r⟩⟩
    exact tk u s2 ⟨.ref a, ca, b, B2, sJ, pins, σ2, _, cls2, d2, e2, K2, nb2, up2, sky2, by rw [upd_ne n2]; exact nb', os2, ag2, .inr ⟨a, rfl, upd_same⟩, w2⟩
  exact wpAny_mono ((pss_one (ps_raiseC (p := (a, o4)) (pos := rp) List.mem_cons_self ⟨rfl, v4, d4, c4⟩ tkS (he a _))).run [] _ _ H1 noEnd (L2H.suiteX_of S4) (hyes a na)) (fun _ _ q => (sp_none q).elim) fun u s6 z => hpa (some (.ref a)) u s6 z
end
/-- what 'except c as n' wishes: slot i is n's -/
def wAsC (K : PySem.W.Frag) (c : Value) (i : Nat) (ts : Value → Addr → Value → Option Addr → TS) (D : Ends) : WX := fun cls d σ H =>
  PySem.W.exmOne K cls c = some true ∧ ∀ k a, H a = none → CtxOk k H → ts k a cls d { nx := fun σ' H' => D.nx (σ'.set i none) H', rt := D.rt, bk := fun σ' H' => D.bk (σ'.set i none) H', ct := fun σ' H' => D.ct (σ'.set i none) H' } (σ.set i (some (.ref a))) H
section
variable {X : Cx} {x n : Str} {c : Value} {i : Nat} {body suite : List Stmt} {b₀ : Stmt} {np pos pos' : Pos} {tb : WX → TS} {ts : Value → Addr → Value → Option Addr → TS}
theorem ps_try_asC (hs : X.stack = X.env :: X.outer) (hf : X.env.frame = some X.env.locals) (hN : X.N.Nodup) (hi : X.N[i]? = some n) (hln : X.env.kindOf n = some .local) (hc : Names X x c)
    (hb : ∀ (W : WX) (pn : List (Addr × Obj)) (xe : Value → Shared → Prop), TakesC (X.tr pn xe) W → PSs (X.tr pn xe) body (tb W))
    (hsu : ∀ (k : Value) (a : Addr) (oe : Obj) (cls : Value) (d : Option Addr) (pn : List (Addr × Obj)), Zx k cls d oe → (∃ vs, oe.data = .fields vs) → PSs (X.suite a ((a, oe) :: pn)) (b₀ :: suite) (ts k a cls d)) :
    PS X (.Try body [.ExceptHandler (some (.Name x np)) (some n) (b₀ :: suite) pos'] [] [] pos) (fun D σ H => tb (wAsC X.K c i ts D) D σ H) := by
  constructor
  intro pins s σ H D I h
  have ok := I.ok
  refine wpAny_Try_except (wpAny_mono ((hb (wAsC X.K c i ts D) (X.pn ++ pins) _ ?_).run [] s σ H D (I.toTry _) h) (fun fl s1 q => ?_) fun _ _ z => z)
  rotate_left
  · cases fl <;> first | exact wpAny_execs_nil (sp_back ok q) | exact sp_back ok q
  rintro u s' ⟨k, ck, a, B, sI, pins', σ1, H1, cls, d, rfl, J0, nb, up, sky0, na, os, ag, co, hb1, hyes⟩
  have J := J0.ofTry ok
  have sky := sky_ctx ck sky0
  rw [show (X.tr (X.pn ++ pins) _).stack = X.env :: X.outer from hs] at sky
  refine L2N.Sky.land Zx.steady (ok.frames.trans (congrArg some hs)) hf sky fun h3 fl3 up3 => ?_
  obtain ⟨o3, v3, g3, z3, d3⟩ := fl3.there
  obtain ⟨nL, nF⟩ := far_own hf (far_frames fl3.2.2.1 g3 d3)
  have S3 := (J.landed (s' := { s' with heap := h3 }) nb fl3.1 (up.trans up3) os ag).suite g3 d3 na nL nF
  refine wpAny_handleBy_cons (codeAny_handlers_test (clause_ask hc S3 g3 z3.1 hb1 ?_)) (fun q => by cases q)
  refine codeAny_handlers_suite_as (HandSPX.lands_againZ fl3 fun h4 fl4 up4 => ?_)
  obtain ⟨o4, v4, g4, z4, d4⟩ := fl4.there
  have S4 := (J.landed (s' := { s' with heap := h4 }) nb fl4.1 ((up.trans up3).trans up4) os ag).suite g4 d4 na nL nF
  refine store_ok (X := X.suite a ((a, o4) :: (X.pn ++ pins))) (v := .ref a) S4 hN hi (.inl hln) rfl (fun s5 S5 => ?_) (.inr hln)
  refine wpAny_mono ((hsu k a o4 cls d (X.pn ++ pins) z4 ⟨_, d4⟩).run [] s5 _ H1 _ S5 (hyes k a na co)) (fun fl s6 q => ?_) (fun _ _ z => z.elim)
  -- the name goes
  cases fl with
  | ret u =>
    obtain ⟨v6, σ6, H6, S6, r6, q6⟩ := q
    exact gone_ok (S6.unsuite ok) hN hi hln fun s7 J7 => ⟨v6, _, _, J7, r6, q6⟩
  | _ =>
    obtain ⟨σ6, H6, S6, q6⟩ := q
    exact gone_ok (S6.unsuite ok) hN hi hln fun s7 J7 => ⟨_, _, J7, q6⟩
end
end Bo

/-! any(list) while an exception is handled whose context is None or one whose context is None -/
namespace Bo
open PySem PySem.Spec PyProof.Rows L2
/-- the handled exception and what its context says -/
structure Chain (A : Around) (x1 : Addr) (c : Value) (h : Heap) : Prop where
  hd : A.handled = some (.ref x1)
  it : ∃ (o : Obj) (vs : Array Value), h.get? x1 = some o ∧ o.data = .fields vs ∧ vs[2]? = some c
  up : c = .none ∨ ∃ x0, c = .ref x0 ∧ x0 ≠ x1 ∧ ∃ (o : Obj) (vs : Array Value), h.get? x0 = some o ∧ o.data = .fields vs ∧ vs[2]? = some .none
theorem Chain.keeps {A : Around} {x1 : Addr} {c : Value} {h h' : Heap} (k : ∀ b, (b = x1 ∨ c = .ref b) → ∀ o, h.get? b = some o → h'.get? b = some o) (x : Chain A x1 c h) : Chain A x1 c h' := by
  obtain ⟨e, ⟨o, vs, g, r⟩, u⟩ := x
  refine ⟨e, ⟨o, vs, k _ (.inl rfl) _ g, r⟩, u.elim .inl fun ⟨x0, z, n, o0, v0, g0, r0⟩ => .inr ⟨x0, z, n, o0, v0, k _ (.inr z) _ g0, r0⟩⟩
theorem ref_eq_ff {a b : Addr} (h : a ≠ b) : ¬ ((Value.ref a == Value.ref b) = true) := fun z => h (Value.ref.inj (beq_iff_eq.mp z))
section
variable {prog : Program} {w : World} {A : Around} {E : Value → Shared → Prop} {s : Shared}
theorem chain_cut {x1 a : Addr} {c : Value} {Q : Value → Shared → Prop} (x : Chain A x1 c s.heap) (na : c ≠ .ref a) (q : Q .none s) :
    wpAny (model prog w) A (holding [Value.ref a] (runValue (.builtin "proto.unchain" ⟨[.ref a, .ref x1, .ref x1, .bool false], []⟩))) Q E s := by
  obtain ⟨_, ⟨o1, v1, g1, d1, c1⟩, u⟩ := x
  refine wpAny_holding (wpAny_runValue (codeAny_builtin HotX.entry_unchain ?_))
  show wpAny _ _ (field (.ref x1) 2 >>= _) _ _ s
  refine wpAny_bind (wpAny_field g1 d1 c1 ?_)
  rcases u with rfl | ⟨x0, rfl, n01, o0, v0, g0, d0, c0⟩
  · rw [if_pos (show (Value.none == Value.none) = true from rfl)]
    first
    | exact wpAny_bind (wpAny_pure (wpAny_pure q))
    | exact wpAny_pure q
  · have n0a : x0 ≠ a := fun z => na (by rw [z])
    rw [if_neg (show ¬ ((Value.ref x0 == Value.none) = true) from Bool.false_ne_true), if_neg (ref_eq_ff n0a), if_neg (ref_eq_ff n01)]
    refine wpAny_pure ⟨Code.quiet_builtin _ (by decide +kernel), codeAny_builtin HotX.entry_unchain ?_⟩
    show wpAny _ _ (field (.ref x0) 2 >>= _) _ _ s
    refine wpAny_bind (wpAny_field g0 d0 c0 ?_)
    rw [if_pos (show (Value.none == Value.none) = true from rfl)]
    first
    | exact wpAny_bind (wpAny_pure (wpAny_pure q))
    | exact wpAny_pure q
theorem raise_chain {α : Type} {a x1 : Addr} {c : Value} {oe : Obj} {vs : Array Value} {Q : α → Shared → Prop} (x : Chain A x1 c s.heap) (na : c ≠ .ref a) (n1 : x1 ≠ a) (ha : s.heap.get? a = some oe) (da : oe.data = .fields vs) (hi : 2 < vs.size)
    (hE : E (.ref a) { s with heap := s.heap.update a (Obj.mapFields (·.setIfInBounds 2 (.ref x1))) }) : wpAny (model prog w) A (raiseNew (.ref a) : Sem α) Q E s := by
  unfold raiseNew
  refine wpAny_bind (wpAny_handled ?_)
  rw [x.hd]
  have hb : (Value.ref x1 != Value.ref a) = true := HotX.ref_bne n1
  first
  | (show wpAny _ _ (if (Value.ref x1 != Value.ref a) = true then _ else _) _ _ _
     rw [if_pos hb]
     first
     | exact wpAny_bind (chain_cut x na (wpAny_bind (HotX.chained ha da hi (wpAny_throw hE))))
     | exact wpAny_bind (wpAny_bind (chain_cut x na (HotX.chained ha da hi (wpAny_throw hE)))))
  | (refine wpAny_bind ?_
     show wpAny _ _ (if (Value.ref x1 != Value.ref a) = true then _ else _) _ _ _
     rw [if_pos hb]
     exact wpAny_bind (chain_cut x na (HotX.chained ha da hi (wpAny_throw hE))))
/-- a list's iterator at its end -/
theorem next_end {it l : Addr} {i : Nat} {items : Array Value} {x1 : Addr} {c : Value} {Q : Option Value → Shared → Prop} (x : Chain A x1 c s.heap) (n1 : x1 ≠ it) (n0 : c ≠ .ref it)
    (hit : s.heap.IsListIter it l i) (hl : s.heap.IsList l items) (hx : items[i]? = none)
    (hQ : ∀ h', (∀ b o, b ≠ it → s.heap.get? b = some o → h'.get? b = some o) → Q none { s with heap := h' }) : wpAny (model prog w) A (pyNext (.ref it)) Q E s := by
  obtain ⟨o, ho, hc, hd⟩ := id hit
  obtain ⟨ol, hol, _, nl, hdl⟩ := hl
  unfold pyNext
  refine wpAny_bind (wpAny_attempt (wpAny_callSpecial?_slot (name := Str.ofString "__next__") hit.typeIs PySem.slot_listiter_next
    (PySem.wpAny_call_entry PySem.slot_listiter_next hit.typeIs PySem.entry_listiter_next ?_ (PySem.args_listiter_next _))))
  show wpAny _ _ (field (.ref it) 0 >>= _) _ _ s
  refine wpAny_bind (wpAny_field ho hd (x := .ref l) rfl ?_)
  show wpAny _ _ (if (Value.ref l == Value.none) = true then _ else _) _ _ s
  rw [if_neg (show ¬ ((Value.ref l == Value.none) = true) from Bool.false_ne_true)]
  show wpAny _ _ (field (.ref it) 1 >>= _) _ _ s
  refine wpAny_bind (wpAny_field ho hd (x := .int i 0) rfl ?_)
  show wpAny _ _ (seqItems? (.ref l) >>= _) _ _ s
  refine wpAny_bind (PySem.wpAny_seqItems hol hdl ?_)
  simp only [Int.toNat_natCast, hx]
  refine wpAny_bind (wpAny_rule (wpAny_bind (wpAny_setField ho hd (by simp) ?_)))
  show wpAny _ _ (newExc (.type "StopIteration") [] >>= _) _ _ _
  refine wpAny_bind ?_
  simp only [newExc, newTuple]
  have k1 : ∀ b u, b ≠ it → s.heap.get? b = some u → (s.heap.update it (Obj.mapFields (·.setIfInBounds 0 Value.none))).get? b = some u := fun b u nb e => by
    rw [Heap.get?_update_other _ _ (Ne.symm nb)]; exact e
  refine wpAny_bind (wpAny_newObj_type ?_ (by size_fits))
  refine wpAny_bind (m := firstArgMember _ _) (wpAny_of_eq (a := Value.none) (by first | rfl | (simp only [firstArgMember]; rfl)) ?_)
  refine wpAny_newObj_type ?_ (by size_fits)
  have far : ∀ {h : Heap} {N : Addr}, (∀ b u, b ≠ it → s.heap.get? b = some u → h.get? b = some u) → N = h.objs.size → x1 ≠ N ∧ c ≠ .ref N := fun {h N} k e => by
    obtain ⟨o1, v1, g1, _⟩ := x.it
    refine ⟨fun z => ?_, fun z => ?_⟩
    · have q := Heap.lt_size (k _ _ n1 g1)
      rw [z, e] at q
      exact Nat.lt_irrefl _ q
    · rcases x.up with y | ⟨x0, y, _, o0, v0, g0, _⟩
      · rw [y] at z; cases z
      · rw [y] at z
        cases z
        have q := Heap.lt_size (k _ _ (fun m => n0 (by rw [y, m])) g0)
        rw [e] at q
        exact Nat.lt_irrefl _ q
  have k2 : ∀ {o2 o3 : Obj} b u, b ≠ it → s.heap.get? b = some u → (((s.heap.update it (Obj.mapFields (·.setIfInBounds 0 Value.none))).push o2).push o3).get? b = some u := fun b u nb e => Heap.get?_push_of_some _ (Heap.get?_push_of_some _ (k1 b u nb e))
  have k3 : ∀ {o2 : Obj} b u, b ≠ it → s.heap.get? b = some u → ((s.heap.update it (Obj.mapFields (·.setIfInBounds 0 Value.none))).push o2).get? b = some u := fun b u nb e => Heap.get?_push_of_some _ (k1 b u nb e)
  refine raise_chain ((show Chain A.in1 x1 c s.heap from ⟨x.hd, x.it, x.up⟩).keeps fun b hb u e => k2 b u (fun z => ?_) e) (far k3 rfl).2 (far k3 rfl).1 (Heap.get?_push_size _ rfl) rfl (by first | (simp; done) | (simp; omega) | (simp only [Array.size_append]; simp; omega)) ?_
  · rcases hb with hb | hb
    · exact n1 (hb.symm.trans z)
    · exact n0 (by rw [hb, z])
  refine wpAny_bind (wpAny_isInstance (T := "StopIteration") (b := true) ⟨_, Heap.get?_update_self _ (Heap.get?_push_size _ rfl) rfl, rfl⟩ PySem.isSubtype_stop ?_)
  refine wpAny_pure (hQ _ fun b u nb e => ?_)
  have ne := Heap.lt_size (k3 b u nb e (o2 := { cls := .type "tuple", data := .seq ([] : List Value).toArray }))
  rw [Heap.get?_update_other _ _ (Nat.ne_of_gt ne)]
  exact k2 b u nb e
end
/-- the context's address, if it is one -/
def cAt : Value → List Addr
  | .ref x => [x]
  | _ => []
theorem walks_chain {prog : Program} {w : World} {A : Around} {x1 I ax : Addr} {c : Value} (hne : ax ≠ I) (n1 : x1 ≠ I) (n0 : c ≠ .ref I) (items : Array Value) :
    Walks prog w A I (I :: ax :: x1 :: cAt c) [I] items.size (fun i v => items[i]? = some v) (fun i h => h.IsListIter I ax i ∧ h.IsList ax items ∧ Chain A x1 c h) where
  sub := fun b hb => by
    have e : b = I := by simpa using hb
    rw [e]; exact List.mem_cons_self
  frame := fun _ _ _ st hk => ⟨st.1.at fun o e => hk I (by simp) o e, st.2.1.at fun o e => hk ax (by simp) o e, st.2.2.keeps fun b hb o e => hk b (by
    rcases hb with rfl | rfl
    · simp
    · simp [cAt]) o e⟩
  item := fun i s Q E hi st hQ => by
    refine wpAny_pyNext_list_item st.1 st.2.1 (x := items[i]) (by simp [hi]) fun h' hit' hs' => ?_
    refine hQ _ h' s.toks (by simp [hi]) ⟨hit', st.2.1.extBut hs'.extBut hne, st.2.2.keeps fun b hb o e => hs'.extBut b o (fun z => ?_) e⟩ fun b o hb e => hs'.extBut b o (fun h => hb (by simp [h])) e
    rcases hb with rfl | rfl
    · exact n1 z
    · exact n0 (by rw [z])
  done := fun s Q E st hQ => next_end st.2.2 n1 n0 st.1 st.2.1 (by simp) fun h' k => hQ h' s.toks fun b o hb e => k b o (fun z => hb (by simp [z])) e
  self := fun _ _ _ _ st hQ => wpAny_pyIter_listiter st.1 hQ
/-- any, in the suite -/
def rAnyC (K : PySem.W.Frag) (c : Value) : List V → Hp → VK → Prop := fun xs H Q => CtxOk c H ∧ rAny K xs H Q
theorem cr_anyC {X : Cx} {a : Addr} {oe : Obj} {pn : List (Addr × Obj)} {c cls : Value} {d : Option Addr} (hz : Zx c cls d oe) (hf : ∃ vs, oe.data = .fields vs) : CallR (X.suite a ((a, oe) :: pn)) (.builtin "any") (rAnyC X.K c) := by
  intro pins s σ H vs us Q I r h
  obtain ⟨co, p, bs, rfl, hs, q⟩ := h
  obtain ⟨v1, hd⟩ := hf
  obtain ⟨its, rv, hl, _⟩ := I.list hs
  obtain ⟨ga, na, _⟩ := I.pin (a, oe) (List.mem_append_left _ List.mem_cons_self)
  have ch : Chain (X.suite a ((a, oe) :: pn)).A.in1 a c s.heap := by
    refine ⟨rfl, ⟨oe, v1, ga, hd, hz.2.2 v1 hd⟩, co.elim .inl fun ⟨x0, e, g⟩ => .inr ⟨x0, e, ne_of_none g na, ?_⟩⟩
    obtain ⟨k, _⟩ := I.hok x0 _ g
    exact k
  rw [Vals.ref1 r]
  have hb := rv.bls
  refine call_any_walk (iter_any hl.isList fun s₂ e2 st hne => ?_)
  subst e2
  have ch2 := ch.keeps (h' := s.heap.push { cls := .type "list_iterator", data := .fields #[.ref p, .int 0 0] }) fun b _ o e => Heap.get?_push_of_some _ e
  have n1 : a ≠ s.heap.objs.size := Nat.ne_of_lt (Heap.lt_size ga)
  have n0 : c ≠ .ref s.heap.objs.size := fun z => by
    rcases ch.up with y | ⟨x0, y, _, o0, v0, g0, _⟩
    · rw [y] at z; cases z
    · rw [y] at z
      cases z
      exact Nat.lt_irrefl _ (Heap.lt_size g0)
  refine ⟨_, _, _, _, _, _, _, rfl, walks_chain hne n1 n0 its.toArray, ⟨st.1, st.2, ch2⟩, truth_bools hb, fun h' tk hk => ?_⟩
  refine ⟨.bl _, H, I.kept fun b o eo => hk b o (fun hmem => ?_) (Heap.get?_push_of_some _ eo), ?_, q⟩
  · have z : b = s.heap.objs.size := by simpa using hmem
    rw [z] at eo
    exact Nat.lt_irrefl _ (Heap.lt_size eo)
  · show Value.bool _ = Value.bool _
    rw [← L2.any_range, hb, List.size_toArray, List.length_map]
end Bo

/-! words and the numbers that they tell -/
namespace Bo
open PySem PySem.Spec PyProof.Rows L2
open NumText (AllDigits digitsVal)
abbrev cps (w : Str) : List Nat := w.cps.toList
theorem len_cps (w : Str) : w.length = (cps w).length := TL.len_tl w
theorem str_ext {a b : Str} (h : cps a = cps b) : a = b := by
  obtain ⟨⟨a⟩⟩ := a
  obtain ⟨⟨b⟩⟩ := b
  have : a = b := h
  rw [this]
/-- a word that tells a number just so -/
def okW (w : Str) : Prop := 1 ≤ w.length ∧ w.length ≤ 6 ∧ AllDigits (cps w) ∧ ((cps w).head? = some 48 → cps w = [48])
instance (w : Str) : Decidable (okW w) := by unfold okW AllDigits; infer_instance
def numW (w : Str) : Int := (digitsVal (cps w) : Nat)
def numOf (w : Str) : Option Int := if okW w then some (numW w) else none
theorem okW_int {w : Str} (h : okW w) : PySem.intText? w = some (numW w) :=
  intText_digits h.2.2.1 (fun e => by have := h.1; have e' : cps w = [] := e; rw [len_cps, e'] at this; simp at this) (by have := h.2.1; omega)
theorem digitsVal_snoc (l : List Nat) (c : Nat) : digitsVal (l ++ [c]) = digitsVal l * 10 + (c - 48) := by
  unfold NumText.digitsVal
  rw [List.foldl_append]; rfl
theorem digits_pos : ∀ {l : List Nat}, AllDigits l → l ≠ [] → l.head? ≠ some 48 → 0 < digitsVal l := by
  intro l
  induction h : l.length generalizing l with
  | zero => intro _ h2 _; exact absurd (List.length_eq_zero_iff.mp h) h2
  | succ n ih =>
    intro hd hne hh
    obtain ⟨r, c, rfl⟩ : ∃ r c, l = r ++ [c] := ⟨l.dropLast, l.getLast hne, (List.dropLast_concat_getLast hne).symm⟩
    rw [digitsVal_snoc]
    have hc := hd c (by simp)
    cases r with
    | nil =>
      have : c ≠ 48 := fun e => hh (by rw [e]; rfl)
      omega
    | cons a r =>
      have := ih (l := a :: r) (by simp at h ⊢; omega) (fun x hx => hd x (List.mem_append_left _ hx)) (by simp) (by simpa using hh)
      omega
/-- written again it is the word -/
theorem numL_back : ∀ {l : List Nat}, AllDigits l → l ≠ [] → (l.head? = some 48 → l = [48]) → TL.numL (digitsVal l) = l := by
  intro l
  induction h : l.length generalizing l with
  | zero => intro _ h2 _; exact absurd (List.length_eq_zero_iff.mp h) h2
  | succ n ih =>
    intro hd hne hh
    obtain ⟨r, c, rfl⟩ : ∃ r c, l = r ++ [c] := ⟨l.dropLast, l.getLast hne, (List.dropLast_concat_getLast hne).symm⟩
    have hc := hd c (by simp)
    rw [digitsVal_snoc]
    cases r with
    | nil =>
      show TL.numL (0 * 10 + (c - 48)) = [c]
      rw [TL.numL_lt (by omega)]
      congr 1; omega
    | cons a r =>
      have hh' : (a :: r).head? ≠ some 48 := fun e => by
        have := hh (by simpa using e)
        simp at this
      have hd' : AllDigits (a :: r) := fun x hx => hd x (List.mem_append_left _ hx)
      have hp := digits_pos hd' (by simp) hh'
      have := ih (l := a :: r) (by simp at h ⊢; omega) hd' (by simp) (fun e => absurd e hh')
      rw [TL.numL_step (by omega), show (digitsVal (a :: r) * 10 + (c - 48)) / 10 = digitsVal (a :: r) by omega, show (digitsVal (a :: r) * 10 + (c - 48)) % 10 = c - 48 by omega, this]
      congr 2; omega
theorem okW_str {w : Str} (h : okW w) : Str.ofString (toString (numW w)) = w := by
  refine str_ext ?_
  have e := TL.tl_num (digitsVal (cps w))
  have e2 := numL_back h.2.2.1 (fun e => by have := h.1; rw [len_cps, e] at this; simp at this) h.2.2.2
  exact e.trans e2
theorem digits_lt : ∀ {l : List Nat}, AllDigits l → digitsVal l < 10 ^ l.length := by
  intro l
  induction h : l.length generalizing l with
  | zero =>
    intro _
    have : l = [] := List.length_eq_zero_iff.mp h
    subst this
    decide
  | succ n ih =>
    intro hd
    have hne : l ≠ [] := fun e => by rw [e] at h; simp at h
    obtain ⟨r, c, rfl⟩ : ∃ r c, l = r ++ [c] := ⟨l.dropLast, l.getLast hne, (List.dropLast_concat_getLast hne).symm⟩
    have hc := hd c (by simp)
    rw [digitsVal_snoc, Nat.pow_succ]
    have := ih (l := r) (by simp at h; omega) (fun x hx => hd x (List.mem_append_left _ hx))
    omega
theorem okW_bd {w : Str} (h : okW w) : 0 ≤ numW w ∧ numW w < 1000000 := by
  have := digits_lt h.2.2.1
  have hl := h.2.1
  rw [len_cps] at hl
  have h2 : 10 ^ (cps w).length ≤ 10 ^ 6 := Nat.pow_le_pow_right (by decide) hl
  unfold numW
  omega
/-! ### strip of figures -/
def FIG : Str := "0123456789"
theorem fig_has (c : Nat) : FIG.cps.contains c = true ↔ 48 ≤ c ∧ c ≤ 57 := by
  have e : FIG.cps = #[48, 49, 50, 51, 52, 53, 54, 55, 56, 57] := by decide +kernel
  rw [e]
  simp only [Array.contains, Array.any_toList]
  simp
  omega
theorem strip_fig (w : Str) : Txt.stripChars w FIG = "" ↔ AllDigits (cps w) := by
  unfold Txt.stripChars
  rw [stripBy_eq]
  obtain ⟨a1, a2, a3⟩ := lo_facts FIG.cps.contains w
  obtain ⟨b1, b2, b3, b4⟩ := hi_facts FIG.cps.contains w _ a1
  generalize stripLo FIG.cps.contains true w = lo at *
  generalize stripHi FIG.cps.contains true w lo = hi at *
  have hlen : w.length = w.cps.size := rfl
  have emp : (Builtin.Str.strSub w lo hi = "") ↔ hi ≤ lo := by
    unfold Builtin.Str.strSub
    constructor
    · intro e
      have e2 : (w.cps.extract lo hi).size = 0 := by
        have := congrArg (fun s : Str => s.cps.size) e
        exact this.trans (by decide +kernel)
      rw [Array.size_extract] at e2
      omega
    · intro h
      have e2 : w.cps.extract lo hi = #[] := by
        apply Array.eq_empty_of_size_eq_zero
        rw [Array.size_extract]; omega
      rw [e2]
      decide +kernel
  rw [emp]
  have getm : ∀ k, k < w.length → w.cps.getD k 0 ∈ cps w := fun k hk => by
    rw [← getD_list, List.getD_eq_getElem?_getD, List.getElem?_eq_getElem (by simpa [Str.length] using hk)]
    exact List.getElem_mem _
  constructor
  · intro h x hx
    obtain ⟨k, hk, e⟩ := List.getElem_of_mem hx
    have ex : w.cps.getD k 0 = x := by rw [← getD_list, List.getD_eq_getElem?_getD, List.getElem?_eq_getElem hk, e]; rfl
    have hk' : k < w.length := by rw [len_cps]; exact hk
    rw [← ex, ← fig_has]
    by_cases c : k < lo
    · exact a2 k c
    · exact b3 k (by omega) hk'
  · intro h
    rcases a3 with a3 | a3
    · omega
    · by_cases c : lo < w.length
      · have := (fig_has _).mpr (h _ (getm lo c))
        rw [this] at a3; cases a3
      · omega
/-! ### texts of rows -/
def SP : Str := " "
def joinS (ns : List Int) : Str := Txt.join SP (ns.map fun n => Str.ofString (toString n))
def writeS (ns : List Int) : Str := if ns = [] then "-" else joinS ns
def wordsS (t : Str) : List Str := Txt.split t SP
theorem join_words (t : Str) : Txt.join SP (wordsS t) = t := (StrLaws.glued_eq_join _ _).trans (StrLaws.join_split t SP)
/-- what all words tell -/
def numsOf : List Str → Option (List Int)
  | [] => some []
  | w :: ws => match numOf w, numsOf ws with
    | some n, some ns => some (n :: ns)
    | _, _ => none
theorem numOf_some {w : Str} {n : Int} (h : numOf w = some n) : okW w ∧ n = numW w := by
  unfold numOf at h
  split at h
  · next c => exact ⟨c, (Option.some.inj h).symm⟩
  · cases h
theorem numsOf_back : ∀ {ws : List Str} {ns : List Int}, numsOf ws = some ns → (ns.map fun n => Str.ofString (toString n)) = ws
  | [], ns, h => by
    have : [] = ns := Option.some.inj h
    subst this; rfl
  | w :: ws, ns, h => by
    unfold numsOf at h
    split at h
    · next n ms e1 e2 =>
      have : n :: ms = ns := Option.some.inj h
      subst this
      obtain ⟨ok, rfl⟩ := numOf_some e1
      rw [List.map_cons, numsOf_back e2, okW_str ok]
    · cases h
/-- the row that a text tells -/
def readS (t : Str) : Option (List Int) := if t = "-" then some [] else match numsOf (wordsS t) with
  | some ns => if isAll ns ns.length = true then some ns else none
  | none => none
theorem readS_back {t : Str} {ns : List Int} (h : readS t = some ns) : writeS ns = t := by
  unfold readS at h
  split at h
  · next e =>
    have : [] = ns := Option.some.inj h
    subst this
    exact e.symm
  · split at h
    · next ms e =>
      split at h
      · have : ms = ns := Option.some.inj h
        subst this
        have b := numsOf_back e
        have ne : ms ≠ [] := fun z => by
          subst z
          have l := PyProof.Rows.split_pos t SP
          have : wordsS t = [] := by rw [← b]; rfl
          unfold wordsS at this
          rw [this] at l
          simp at l
        unfold writeS
        rw [if_neg ne]
        unfold joinS
        rw [b]
        exact join_words t
      · cases h
    · cases h
theorem numsOf_len : ∀ {ws : List Str} {ns : List Int}, numsOf ws = some ns → ns.length = ws.length := fun {ws ns} h => by
  rw [← numsOf_back h, List.length_map]
theorem numsOf_none : ∀ {ws : List Str}, (∃ w ∈ ws, numOf w = none) → numsOf ws = none
  | [], h => by obtain ⟨w, hw, _⟩ := h; simp at hw
  | v :: ws, h => by
    obtain ⟨w, hw, e⟩ := h
    unfold numsOf
    rcases List.mem_cons.mp hw with rfl | hw
    · rw [e]
    · rw [numsOf_none ⟨w, hw, e⟩]
      split <;> simp_all
theorem numsOf_all : ∀ {ws : List Str}, (∀ w ∈ ws, numOf w ≠ none) → ∃ ns, numsOf ws = some ns ∧ ws.map numOf = ns.map some
  | [], _ => ⟨[], rfl, rfl⟩
  | v :: ws, h => by
    obtain ⟨ns, e1, e2⟩ := numsOf_all (ws := ws) fun w hw => h w (List.mem_cons_of_mem _ hw)
    cases e : numOf v with
    | none => exact absurd e (h v (by simp))
    | some n =>
      refine ⟨n :: ns, ?_, ?_⟩
      · unfold numsOf; rw [e, e1]
      · rw [List.map_cons, e, e2]; rfl
end Bo

namespace Bo
open PySem PySem.Spec PyProof.Rows L2
open NumText (AllDigits digitsVal)
theorem sz {n : Nat} (h : n ≤ 1000000) : n ≤ sizeLine := Nat.le_trans h (by decide)
theorem str_beq {a b : Str} : (a == b) = decide (cps a = cps b) := by
  rw [Bool.eq_iff_iff, decide_eq_true_eq]
  exact ⟨fun h => by rw [eq_of_beq h], fun h => by rw [str_ext h]; exact beq_self_eq_true _⟩
theorem cps0 : cps (Str.ofString "0") = [48] := by decide +kernel
theorem cpsE : cps (Str.ofString "") = [] := by decide +kernel
theorem one_beq (c : Nat) : ((⟨#[c]⟩ : Str) == Str.ofString "0") = decide (c = 48) := by
  rw [str_beq, cps0]
  show decide ([c] = [48]) = _
  rw [Bool.eq_iff_iff, decide_eq_true_eq, decide_eq_true_eq]
  simp
theorem zero_beq (w : Str) : (w == Str.ofString "0") = decide (cps w = [48]) := by rw [str_beq, cps0]
theorem strip_t {w : Str} (h : (Txt.stripChars w (Str.ofString "0123456789") == Str.ofString "") = true) : AllDigits (cps w) := (strip_fig w).mp (eq_of_beq h)
theorem strip_f {w : Str} (h : (Txt.stripChars w (Str.ofString "0123456789") == Str.ofString "") = false) : ¬ AllDigits (cps w) := fun d => by
  have e : Txt.stripChars w (Str.ofString "0123456789") = Str.ofString "" := (strip_fig w).mpr d
  rw [e] at h
  exact absurd h (by decide +kernel)
theorem word_head {w : Str} (h : 1 ≤ w.length) : ∃ c, atI w.cps.toList 0 = some c ∧ (cps w).head? = some c := by
  rw [len_cps] at h
  cases e : cps w with
  | nil => rw [e] at h; simp at h
  | cons c r => exact ⟨c, atI_nat (j := 0) (by show (cps w)[0]? = _; rw [e]; rfl), rfl⟩
/-! ### steps of a reading: each a row of its own -/
local macro_rules | `(tactic| walk_at "ne") => `(tactic| first
  | assumption
  | (apply Ne.symm; assumption)
  | (apply neo; assumption; walk_at "hp")
  | (apply Ne.symm; apply neo; assumption; walk_at "hp"))
local macro_rules | `(tactic| walk_at "hp") => `(tactic| first
  | assumption
  | exact upd_same
  | (apply lift_ne; walk_at "hp"; walk_at "ne")
  | (apply Same.up; assumption; walk_at "hp"))
local macro_rules | `(tactic| walk_at "same") => `(tactic| first
  | assumption
  | exact Same.refl _
  | (apply Same.new; walk_at "same"; walk_at "fr")
  | (apply same_trans; assumption; walk_at "same"))
local macro_rules | `(tactic| walk_at "fr") => `(tactic| first
  | assumption
  | (apply same_free; assumption; walk_at "same"))
local macro_rules | `(tactic| walk_at "sq") => `(tactic| first
  | assumption
  | (apply SqL.of; walk_at "hp")
  | (apply same_seq; assumption; walk_at "same"))
local macro_rules | `(tactic| walk_at "sqt") => `(tactic| first
  | assumption
  | (apply SqT.of; walk_at "hp")
  | (apply same_sqt; assumption; walk_at "same"))
local macro_rules | `(tactic| walk_at "nw") => `(tactic| first
  | assumption
  | (apply News.mut; walk_at "nw"; (first | assumption | (refine News.notin (by assumption) ?_; assumption)))
  | (apply News.same; walk_at "nw"; walk_at "same"))
/-! one step -/
local macro_rules | `(tactic| walk_at "go1") => `(tactic| first
  | with_reducible refine r_seq ?_
  | with_reducible refine r_asgN ?_
  | with_reducible refine r_set ?_
  | with_reducible refine r_ret ?_
  | with_reducible refine r_drop ?_
  | with_reducible refine r_if ?_
  | with_reducible refine r_next ?_
  | ((with_reducible apply r_nxD); with_reducible refine r_nx ?_)
  | ((with_reducible apply r_rtD); with_reducible refine r_rt ?_)
  | with_reducible refine r_par ?_
  | with_reducible refine k_par ?_
  | with_reducible refine r_fld ?_
  | ((with_reducible apply r_aug); exact rfl)
  | with_reducible refine i_ip ?_
  | ((with_reducible apply e_var); exact rfl)
  | with_reducible refine e_c ?_
  | with_reducible refine e_op ?_
  | with_reducible refine e_un ?_
  | with_reducible refine o_I0 ?_
  | with_reducible refine o_neg ?_
  | with_reducible refine o_eqI ?_
  | with_reducible refine o_neI ?_
  | with_reducible refine o_eqB ?_
  | with_reducible refine o_neB ?_
  | with_reducible refine o_eqS ?_
  | with_reducible refine o_neS ?_
  | with_reducible refine a_nil ?_
  | with_reducible refine a_cons ?_
  | with_reducible refine e_cb ?_
  | with_reducible refine e_call ?_
  | with_reducible refine e_make ?_
  | with_reducible refine e_meth ?_
  | with_reducible refine e_fld ?_
  | with_reducible refine e_lst ?_
  | with_reducible refine e_tup ?_
  | with_reducible refine e_bm ?_
  | with_reducible refine e_bm0 ?_
  | with_reducible refine e_rev ?_
  | with_reducible refine e_sl ?_
  | with_reducible refine e_nopart ?_
  | with_reducible refine e_part ?_
  | with_reducible refine i_ok ?_
  | with_reducible refine e_lenset ?_
  | with_reducible refine e_listRg1 ?_
  | with_reducible refine t_test ?_
  | with_reducible refine t_B ?_
  | with_reducible refine b_ok ?_
  | with_reducible refine t_and ?_
  | with_reducible refine t_or ?_
  | with_reducible refine t_not ?_
  | with_reducible refine v_and ?_
  | with_reducible refine v_or ?_
  | with_reducible refine v_not ?_
  | with_reducible refine e_if ?_
  | with_reducible refine e_chain ?_
  | with_reducible refine e_chain3 ?_
  | with_reducible refine iteT ?_
  | with_reducible refine iteF ?_
  | with_reducible refine ite_nT ?_
  | with_reducible refine ite_nF ?_
  | with_reducible refine r_forL ?_
  | with_reducible refine r_forT ?_
  | with_reducible refine r_forE ?_
  | with_reducible refine r_forR1 ?_
  | with_reducible refine r_forR2 ?_
  | with_reducible refine e_lcL ?_
  | with_reducible refine e_lcR1 ?_
  | with_reducible refine e_lcR2 ?_
  | with_reducible refine r_dput ?_
  | with_reducible refine e_dget ?_
  | with_reducible refine e_dnin ?_
  | with_reducible refine c_max2 ?_
  | with_reducible refine c_min2 ?_
  | ((with_reducible apply c_isiI); (first | exact (show kitB "int" _ = some true by decide +kernel) | exact (show kitB "int" _ = some false by decide +kernel)))
  | ((with_reducible apply m_ty); walk_at "sq"))
local macro_rules | `(tactic| walk_at "go2") => `(tactic| first
  | ((with_reducible apply o_ixI); walk_at "sq"; omega)
  | ((with_reducible refine o_mod ?_ ?_); omega)
  | ((with_reducible refine o_fdiv ?_ ?_); omega)
  | ((with_reducible refine o_mulR ?_ ?_); omega)
  | ((with_reducible refine o_mulL ?_ ?_); omega)
  | ((with_reducible apply c_lenM); walk_at "sq")
  | ((with_reducible apply c_all); walk_at "sq")
  | ((with_reducible apply c_any); walk_at "sq")
  | ((with_reducible apply o_in); walk_at "sq")
  | ((with_reducible apply o_nin); walk_at "sq")
  | ((with_reducible apply o_ixB); walk_at "sq"; omega)
  | ((with_reducible apply m_setB); walk_at "hp"; omega)
  | ((with_reducible apply m_appR); walk_at "hp"; omega)
  | ((with_reducible apply m_ins); walk_at "hp"; omega; omega)
  | ((with_reducible apply m_appM); walk_at "hp"; exact rfl; omega)
  | ((with_reducible apply m_setI); walk_at "hp"; omega))
local macro_rules | `(tactic| walk_at "d") => `(tactic| try dsimp only)
local macro_rules | `(tactic| walk_at "k") => `(tactic| try dsimp only [cxOf, Cx.nox, Cx.blk])
local macro_rules | `(tactic| walk_at "go") => `(tactic| repeat (first | walk_at "go1" | walk_at "go2"))

section
variable {P : Program} {w : World} {K : PySem.W.Frag} {mg : Str → Option Value} {base : Heap} {C_Exchanged C_Fronted C_Ended C_Put C_Answer C_OrderError C_BadRow C_BadNumber C_BadRings C_Unlike C_BadText : Addr} (T : Top K mg C_Exchanged C_Fronted C_Ended C_Put C_Answer C_OrderError C_BadRow C_BadNumber C_BadRings C_Unlike C_BadText)
include T
def sp_number_in (C : Addr) : Sp := fun vs H Q E => ∃ w : Str, vs = [.str w] ∧ w.length ≤ 10000 ∧ (okW w → Q (.int (numW w)) H) ∧ (¬ okW w → E (.ref C) none H)
theorem okX_number_in : CqN P w K mg base 1 "number_in" (sp_number_in C_BadText) := by
  obtain ⟨tF, g_FIGURES⟩ := T.g_FIGURES
  refine Cq.mkN T.d_number_in sc_number_in ?_ ?_
  · rintro vs H Q E ⟨w, rfl, _⟩; rfl
  · rintro f cdv A outer s H vs Q E hr tk ⟨w, rfl, hl, q1, q2⟩
    refine ⟨_, pss_cons (ps_if (PW.pt (pw_or (pt_not (pt_chain op_le op_le pe_int (pe_callB call_len_str (by rfl) T.b_len PySem.boot_len (pa_cons (pv 0) pa_nil)) pe_int)) (pw_or (pt_cmpR op_ne (pe_bm PySem.F.plainAttrs_str PySem.F.slot_str_strip PySem.F.type_str_strip mt_stripChars (pv 0) (pa_cons (pe_glob (v := .str "0123456789") (by rfl) g_FIGURES ⟨_, rfl⟩) pa_nil)) pe_str (nomark _)) (pw_or1 (PW.pt (pw_and (pt_cmpR op_eq (pe_ix (r := rIxS) ix_str (pv 0) pe_int (fun _ _ => rfl)) pe_str (nomark _)) (pw_and1 (pt_cmpR op_ne (pv 0) pe_str (nomark _))))))))) (pss_one (L2N.ps_raise rfl tk (L2N.pmk_own PySem.F.excBase_ValueError T.x_BadText T.c_BadText T.k_BadText (raises_own T.sb_BadText T.st_BadText) rfl))) pss_nil) (pss_one (ps_ret (pe_callTy call_int_str (by rfl) T.b_int PyProof.Rows.boot_int (pa_cons (pv 0) pa_nil)))), ?_⟩
    walk_at "k"
    walk_at "go"
    refine ⟨w, rfl, sz (by omega), ?_⟩
    walk_at "go"
    refine ite_dec (fun h1 => ?_) (fun h1 => ?_)
    · walk_at "go"
      refine ite_ndec (fun h2 => ?_) (fun h2 => ?_)
      · walk_at "go"
        exact q2 fun ok => h2 (by have := ok.2.1; omega)
      · walk_at "go"
        refine ⟨rfl, ?_⟩
        walk_at "go"
        refine ⟨w, _, rfl, rfl, sz (by omega), ?_⟩
        walk_at "go"
        cases hs : (Txt.stripChars w (Str.ofString "0123456789") == Str.ofString "") with
        | false =>
          walk_at "go"
          exact q2 fun ok => strip_f hs ok.2.2.1
        | true =>
          walk_at "go"
          obtain ⟨c, hc1, hc2⟩ := word_head (w := w) (by omega)
          refine ⟨w, 0, c, rfl, rfl, sz (by omega), hc1, ?_⟩
          walk_at "go"
          rw [one_beq]
          refine ite_dec (fun h3 => ?_) (fun h3 => ?_)
          · walk_at "go"
            rw [zero_beq]
            refine ite_ndec (fun h4 => ?_) (fun h4 => ?_)
            · exact q2 fun ok => h4 (ok.2.2.2 (by rw [hc2, h3]))
            · walk_at "go"
              have ok : okW w := ⟨by omega, by omega, strip_t hs, fun _ => h4⟩
              exact ⟨w, _, rfl, okW_int ok, by omega, q1 ok⟩
          · walk_at "go"
            have ok : okW w := ⟨by omega, by omega, strip_t hs, fun e => absurd (by rw [hc2] at e; exact Option.some.inj e) h3⟩
            exact ⟨w, _, rfl, okW_int ok, by omega, q1 ok⟩
    · walk_at "go"
      exact q2 fun ok => h1 (by have := ok.1; omega)
def optV : Option Int → V
  | some n => .int n
  | none => .non
def sp__law_number : Sp := fun vs H Q _ => ∃ w : Str, vs = [.str w] ∧ w.length ≤ 10000 ∧ Q (optV (numOf w)) H
theorem ok__law_number : Cc P w K mg base 1 "_law_number" sp__law_number := by
  refine Cc.mk' T.d__law_number sc__law_number ?_ ?_
  · rintro vs H Q E ⟨w, rfl, _⟩; rfl
  · rintro f cdv A outer s H vs Q E hr ⟨w, rfl, hl, q⟩
    have yes : okW w → Q (.int (numW w)) H := fun ok => by unfold numOf at q; rw [if_pos ok] at q; exact q
    have no : ¬ okW w → Q .non H := fun ok => by unfold numOf at q; rw [if_neg ok] at q; exact q
    refine ⟨_, (pss_cons (ps_if (PW.pt (pw_or (pt_cmpR op_eq (pv 0) pe_str (nomark _)) (pw_or (pt_cmpR op_gt (pe_callB call_len_str (by rfl) T.b_len PySem.boot_len (pa_cons (pv 0) pa_nil)) pe_int (nomark _)) (pw_or (pt_cmpR op_ne (pe_bm PySem.F.plainAttrs_str PySem.F.slot_str_strip PySem.F.type_str_strip mt_stripChars (pv 0) (pa_cons pe_str pa_nil)) pe_str (nomark _)) (pw_or1 (PW.pt (pw_and (pt_cmpR op_eq (pe_ix (r := rIxS) ix_str (pv 0) pe_int (fun _ _ => rfl)) pe_str (nomark _)) (pw_and1 (pt_cmpR op_ne (pv 0) pe_str (nomark _)))))))))) (pss_one (ps_ret pe_non)) pss_nil)
      (pss_one (ps_ret (pe_callTy call_int_str (by rfl) T.b_int PyProof.Rows.boot_int (pa_cons (pv 0) pa_nil))))), ?_⟩
    walk_at "k"
    walk_at "go"
    rw [str_beq, cpsE]
    refine ite_dec (fun h1 => ?_) (fun h1 => ?_)
    · walk_at "go"
      exact no fun ok => by have := ok.1; rw [len_cps, h1] at this; simp at this
    · have l1 : 1 ≤ w.length := by
        rw [len_cps]
        cases e : cps w with
        | nil => exact absurd e h1
        | cons c r => simp
      walk_at "go"
      refine ⟨w, rfl, sz (by omega), ?_⟩
      walk_at "go"
      refine ite_dec (fun h2 => ?_) (fun h2 => ?_)
      · walk_at "go"
        exact no fun ok => by have := ok.2.1; omega
      · walk_at "go"
        refine ⟨rfl, ?_⟩
        walk_at "go"
        refine ⟨w, _, rfl, rfl, sz (by omega), ?_⟩
        walk_at "go"
        cases hs : (Txt.stripChars w (Str.ofString "0123456789") == Str.ofString "") with
        | false =>
          walk_at "go"
          exact no fun ok => strip_f hs ok.2.2.1
        | true =>
          walk_at "go"
          obtain ⟨c, hc1, hc2⟩ := word_head l1
          refine ⟨w, 0, c, rfl, rfl, sz (by omega), hc1, ?_⟩
          walk_at "go"
          rw [one_beq]
          refine ite_dec (fun h3 => ?_) (fun h3 => ?_)
          · walk_at "go"
            rw [zero_beq]
            refine ite_ndec (fun h4 => ?_) (fun h4 => ?_)
            · walk_at "go"
              exact no fun ok => h4 (ok.2.2.2 (by rw [hc2, h3]))
            · walk_at "go"
              have ok : okW w := ⟨by omega, by omega, strip_t hs, fun _ => h4⟩
              exact ⟨w, _, rfl, okW_int ok, by omega, yes ok⟩
          · walk_at "go"
            have ok : okW w := ⟨by omega, by omega, strip_t hs, fun e => absurd (by rw [hc2] at e; exact Option.some.inj e) h3⟩
            exact ⟨w, _, rfl, okW_int ok, by omega, yes ok⟩
end
end Bo

/-! the rings of a row: the mathematics -/
namespace Bo
open PySem L2
theorem perm_of_mem : ∀ {l m : List Int}, l.Nodup → m.Nodup → (∀ x, x ∈ l ↔ x ∈ m) → l.Perm m
  | [], m, _, _, h => by
    have : m = [] := List.eq_nil_iff_forall_not_mem.mpr fun x hx => by simpa using (h x).mpr hx
    subst this; exact .nil
  | a :: l, m, hl, hm, h => by
    have ha : a ∈ m := (h a).mp (by simp)
    have hl' := List.nodup_cons.mp hl
    have p := List.perm_cons_erase ha
    refine .trans (.cons a ?_) p.symm
    refine perm_of_mem hl'.2 (hm.erase a) fun x => ?_
    rw [hm.mem_erase_iff]
    constructor
    · intro hx
      exact ⟨fun e => hl'.1 (e ▸ hx), (h x).mp (List.mem_cons_of_mem _ hx)⟩
    · rintro ⟨n, hx⟩
      rcases List.mem_cons.mp ((h x).mpr hx) with e | e
      · exact absurd e n
      · exact e
theorem gb_false_get {met : List Bool} {t : Int} (h : gb met t = false) (h0 : 0 ≤ t) : t < met.length := by
  unfold gb at h
  rw [List.getD_eq_getElem?_getD] at h
  by_cases c : t.toNat < met.length
  · omega
  · rw [List.getElem?_eq_none (by omega)] at h
    cases h
theorem gb_set {met : List Bool} {t x : Int} (h0 : 0 ≤ t) (h1 : t < met.length) (hx : 0 ≤ x) : gb (met.set t.toNat true) x = true ↔ gb met x = true ∨ x = t := by
  unfold gb
  rw [List.getD_eq_getElem?_getD, List.getD_eq_getElem?_getD]
  by_cases c : x = t
  · subst c
    rw [List.getElem?_set_self (by omega)]
    simp
  · rw [List.getElem?_set_ne (by omega)]
    simp [c]
theorem gt_inj {row : List Int} (R : IsRow row) {x y : Int} (hx : 0 ≤ x ∧ x < row.length) (hy : 0 ≤ y ∧ y < row.length) (e : gt row x = gt row y) : x = y := by
  have h1 : row[x.toNat]? = some (gt row x) := by
    have := gt_some (ns := row) (i := x.toNat) (by omega)
    rwa [show ((x.toNat : Nat) : Int) = x by omega] at this
  have h2 : row[y.toNat]? = some (gt row y) := by
    have := gt_some (ns := row) (i := y.toNat) (by omega)
    rwa [show ((y.toNat : Nat) : Int) = y by omega] at this
  rw [e] at h1
  have := nd_ix R.nd h1 h2
  omega
theorem gt_bd {row : List Int} (R : IsRow row) {x : Int} (hx : 0 ≤ x ∧ x < row.length) : 0 ≤ gt row x ∧ gt row x < row.length := R.bd _ (gt_mem (by omega) (by omega))
/-- on the way round a ring -/
structure RI (row : List Int) (met0 : List Bool) (t0 : Int) (met : List Bool) (t : Int) (ring : List Int) : Prop where
  len : met.length = row.length
  mem : ∀ x : Int, 0 ≤ x → (gb met x = true ↔ gb met0 x = true ∨ x ∈ ring)
  nd : ring.Nodup
  out : ∀ x ∈ ring, gb met0 x = false
  bd : ∀ x ∈ ring, 0 ≤ x ∧ x < row.length
  bt : 0 ≤ t ∧ t < row.length
  ch : ∀ k, k + 1 < ring.length → gt row (ring.getD k 0) = ring.getD (k + 1) 0
  st : ring = [] ∧ t = t0 ∨ ring ≠ [] ∧ ring.getD 0 0 = t0 ∧ t = gt row (ring.getD (ring.length - 1) 0)
theorem getD_app {l : List Int} {x : Int} {k : Nat} (h : k < l.length) : (l ++ [x]).getD k 0 = l.getD k 0 := by
  rw [List.getD_eq_getElem?_getD, List.getD_eq_getElem?_getD, List.getElem?_append_left h]
theorem getD_last {l : List Int} {x : Int} : (l ++ [x]).getD l.length 0 = x := by
  rw [List.getD_eq_getElem?_getD, List.getElem?_append_right (Nat.le_refl _)]; simp
theorem RI.next {row : List Int} (R : IsRow row) {met0 met : List Bool} {t0 t : Int} {ring : List Int} (I : RI row met0 t0 met t ring) (h : gb met t = false) : RI row met0 t0 (met.set t.toNat true) (gt row t) (ring ++ [t]) := by
  have hl := I.len
  have bt := I.bt
  have nt : ¬ (gb met0 t = true ∨ t ∈ ring) := fun z => by
    have := (I.mem t bt.1).mpr z
    rw [h] at this; cases this
  refine ⟨by rw [List.length_set]; exact I.len, fun x hx => ?_, ?_, fun x hx => ?_, fun x hx => ?_, gt_bd R bt, fun k hk => ?_, .inr ⟨by simp, ?_, ?_⟩⟩
  · rw [gb_set bt.1 (by omega) hx, I.mem x hx, List.mem_append, List.mem_singleton, or_assoc]
  · exact List.nodup_append.mpr ⟨I.nd, by simp, fun a ha b hb => by
      have : b = t := by simpa using hb
      subst this
      exact fun e => nt (.inr (e ▸ ha))⟩
  · rcases List.mem_append.mp hx with hx | hx
    · exact I.out x hx
    · have : x = t := by simpa using hx
      subst this
      cases e : gb met0 x with
      | false => rfl
      | true => exact absurd (.inl e) nt
  · rcases List.mem_append.mp hx with hx | hx
    · exact I.bd x hx
    · have : x = t := by simpa using hx
      subst this; exact bt
  · rw [List.length_append, List.length_singleton] at hk
    by_cases c : k + 1 < ring.length
    · rw [getD_app (by omega), getD_app c]; exact I.ch k c
    · have e : k + 1 = ring.length := by omega
      rw [getD_app (by omega), e, getD_last]
      rcases I.st with ⟨e1, _⟩ | ⟨_, _, e2⟩
      · subst e1; simp at e
      · rw [e2, ← e]; rfl
  · rcases I.st with ⟨e1, e2⟩ | ⟨e1, e2, _⟩
    · subst e1 e2; rfl
    · rw [getD_app (List.length_pos_iff.mpr e1)]; exact e2
  · rw [List.length_append, List.length_singleton, Nat.add_sub_cancel, getD_last]
theorem gb_all {met : List Bool} (h : met.count false = 0) (t : Int) : gb met t = true := by
  unfold gb
  rw [List.getD_eq_getElem?_getD]
  cases e : met[t.toNat]? with
  | none => rfl
  | some b =>
    cases b with
    | true => rfl
    | false =>
      have : false ∈ met := List.mem_of_getElem? e
      exact absurd (List.count_pos_iff.mpr this) (by omega)
theorem RI.run {row : List Int} (R : IsRow row) {met0 : List Bool} {t0 : Int} : ∀ (n : Nat) (met : List Bool) (t : Int) (ring : List Int), met.count false = n → RI row met0 t0 met t ring →
    ∃ t', RI row met0 t0 (ringFrom row n met t ring).1 t' (ringFrom row n met t ring).2 ∧ gb (ringFrom row n met t ring).1 t' = true
  | 0, met, t, ring, hn, I => ⟨t, I, gb_all hn t⟩
  | n + 1, met, t, ring, hn, I => by
    by_cases c : gb met t = true
    · have e : ringFrom row (n + 1) met t ring = (met, ring) := by unfold ringFrom; rw [if_pos c]
      rw [e]; exact ⟨t, I, c⟩
    · have c' : gb met t = false := by simpa using c
      have e : ringFrom row (n + 1) met t ring = ringFrom row n (met.set t.toNat true) (gt row t) (ring ++ [t]) := by
        conv => lhs; unfold ringFrom
        rw [if_neg c]
      rw [e]
      have hg := gb_get (met := met) (t := t) (by rw [I.len]; exact I.bt)
      rw [c'] at hg
      have := count_set hg
      exact RI.run R n _ _ _ (by omega) (I.next R c')
/-- a whole ring -/
structure Ring (row r : List Int) : Prop where
  ne : r ≠ []
  bd : ∀ x ∈ r, 0 ≤ x ∧ x < row.length
  ch : ∀ k, k + 1 < r.length → gt row (r.getD k 0) = r.getD (k + 1) 0
  cl : gt row (r.getD (r.length - 1) 0) = r.getD 0 0
theorem getD_mem {l : List Int} {k : Nat} (h : k < l.length) : l.getD k 0 ∈ l := List.mem_of_getElem? (getD_some h)
theorem mem_getD {l : List Int} {x : Int} (h : x ∈ l) : ∃ k, k < l.length ∧ l.getD k 0 = x := by
  obtain ⟨k, hk, e⟩ := List.mem_iff_getElem.mp h
  exact ⟨k, hk, by rw [List.getD_eq_getElem?_getD, List.getElem?_eq_getElem hk]; exact e⟩
theorem getD_inj {l : List Int} (hn : l.Nodup) {i j : Nat} (hi : i < l.length) (hj : j < l.length) (e : l.getD i 0 = l.getD j 0) : i = j :=
  nd_ix hn (getD_some hi) (by rw [e]; exact getD_some hj)
/-- what a turn of the outer loop gives -/
theorem RI.done {row : List Int} (R : IsRow row) {met0 met : List Bool} {t0 t : Int} {ring : List Int} (I : RI row met0 t0 met t ring) (h : gb met t = true) (bk : ∀ y : Int, 0 ≤ y ∧ y < row.length → gb met0 (gt row y) = true → gb met0 y = true) :
    (ring = [] ∧ gb met0 t0 = true ∧ (∀ x : Int, 0 ≤ x → (gb met x = true ↔ gb met0 x = true))) ∨ (Ring row ring ∧ ring.getD 0 0 = t0 ∧ (∀ y : Int, 0 ≤ y ∧ y < row.length → gb met (gt row y) = true → gb met y = true)) := by
  rcases I.st with ⟨e1, e2⟩ | ⟨e1, e2, e3⟩
  · subst e1 e2
    refine .inl ⟨rfl, ?_, fun x hx => by rw [I.mem x hx]; simp⟩
    have := (I.mem t I.bt.1).mp h
    simpa using this
  · have hp := List.length_pos_iff.mpr e1
    have hlast := getD_mem (l := ring) (k := ring.length - 1) (by omega)
    have bl := I.bd _ hlast
    have et : t = t0 := by
      rcases (I.mem t I.bt.1).mp h with z | z
      · rw [e3] at z
        have := bk _ bl z
        rw [I.out _ hlast] at this; cases this
      · obtain ⟨k, hk, ek⟩ := mem_getD z
        cases k with
        | zero => rw [← ek, e2]
        | succ k =>
          have c := I.ch k hk
          rw [ek, e3] at c
          have hk' := getD_mem (l := ring) (k := k) (by omega)
          have := getD_inj I.nd (by omega) (by omega) (gt_inj R (I.bd _ hk') bl c)
          omega
    refine .inr ⟨⟨e1, I.bd, I.ch, by rw [← e3, et, e2]⟩, e2, fun y hy z => ?_⟩
    rcases (I.mem _ (gt_bd R hy).1).mp z with z | z
    · exact (I.mem y hy.1).mpr (.inl (bk y hy z))
    · refine (I.mem y hy.1).mpr (.inr ?_)
      obtain ⟨k, hk, ek⟩ := mem_getD z
      cases k with
      | zero =>
        have : y = ring.getD (ring.length - 1) 0 := gt_inj R hy bl (by rw [← ek, e2, ← et, e3])
        rw [this]; exact hlast
      | succ k =>
        have hk' := getD_mem (l := ring) (k := k) (by omega)
        have : y = ring.getD k 0 := gt_inj R hy (I.bd _ hk') (by rw [I.ch k hk, ek])
        rw [this]; exact hk'
/-- behind i turns of the outer loop -/
structure RO (row : List Int) (i : Nat) (met : List Bool) (found : List (List Int)) : Prop where
  len : met.length = row.length
  mem : ∀ x : Int, 0 ≤ x → x < row.length → (gb met x = true ↔ x ∈ found.flatten)
  nd : found.flatten.Nodup
  rg : ∀ r ∈ found, Ring row r
  below : ∀ x : Int, 0 ≤ x → x < i → x < row.length → gb met x = true
  bk : ∀ y : Int, 0 ≤ y ∧ y < row.length → gb met (gt row y) = true → gb met y = true
  least : ∀ r ∈ found, ∀ x ∈ r, r.getD 0 0 ≤ x
  up : (found.map fun r => r.getD 0 0).Pairwise (· < ·)
  heads : ∀ r ∈ found, r.getD 0 0 < i
theorem RO.all {row : List Int} (R : IsRow row) : ∀ i, i ≤ row.length → RO row i (ringsAux row i).1 (ringsAux row i).2
  | 0, _ => by
    have e : ∀ x : Int, 0 ≤ x → x < row.length → gb (row.map fun _ => false) x = false := fun x h0 h1 => by
      unfold gb
      rw [List.getD_eq_getElem?_getD, List.getElem?_map, List.getElem?_eq_getElem (by omega)]; rfl
    refine ⟨by simp [ringsAux], fun x h0 h1 => ?_, by simp [ringsAux], by simp [ringsAux], fun x h0 h1 _ => by omega, fun y hy z => ?_, by simp [ringsAux], by simp [ringsAux], by simp [ringsAux]⟩
    · show gb (row.map fun _ => false) x = true ↔ x ∈ ([] : List (List Int)).flatten
      rw [e x h0 h1]; simp
    · have z' : gb (row.map fun _ => false) (gt row y) = true := z
      have := gt_bd R hy
      rw [e _ this.1 this.2] at z'; cases z'
  | i + 1, hi => by
    have O := RO.all R i (by omega)
    have I0 : RI row (ringsAux row i).1 i (ringsAux row i).1 i [] := ⟨O.len, fun x _ => by simp, List.nodup_nil, by simp, by simp, by omega, fun k hk => by simp at hk, .inl ⟨rfl, rfl⟩⟩
    obtain ⟨t', I, ht⟩ := RI.run R _ _ _ _ rfl I0
    have e1 : (ringsAux row (i + 1)).1 = (ringFrom row ((ringsAux row i).1.count false) (ringsAux row i).1 i []).1 := rfl
    have e2 : (ringsAux row (i + 1)).2 = if (ringFrom row ((ringsAux row i).1.count false) (ringsAux row i).1 i []).2 = [] then (ringsAux row i).2 else (ringsAux row i).2 ++ [(ringFrom row ((ringsAux row i).1.count false) (ringsAux row i).1 i []).2] := rfl
    rw [e1, e2]
    generalize (ringFrom row ((ringsAux row i).1.count false) (ringsAux row i).1 i []).1 = met at *
    generalize (ringFrom row ((ringsAux row i).1.count false) (ringsAux row i).1 i []).2 = ring at *
    rcases I.done R ht O.bk with ⟨z1, z2, z3⟩ | ⟨z1, z2, z3⟩
    · rw [if_pos z1]
      refine ⟨I.len, fun x h0 h1 => by rw [z3 x h0, O.mem x h0 h1], O.nd, O.rg, fun x h0 h1 h2 => ?_, fun y hy z => ?_, O.least, O.up, fun r hr => by have := O.heads r hr; omega⟩
      · rw [z3 x h0]
        by_cases c : x < i
        · exact O.below x h0 c h2
        · have : x = i := by omega
          subst this; exact z2
      · rw [z3 _ (gt_bd R hy).1] at z
        rw [z3 y hy.1]
        exact O.bk y hy z
    · rw [if_neg z1.ne]
      have lst : ∀ x ∈ ring, (i : Int) ≤ x := fun x hx => by
        have bx := I.bd x hx
        by_cases c : x < i
        · have := O.below x bx.1 c bx.2
          rw [I.out x hx] at this; cases this
        · omega
      refine ⟨I.len, fun x h0 h1 => ?_, ?_, fun r hr => ?_, fun x h0 h1 h2 => ?_, z3, fun r hr => ?_, ?_, fun r hr => ?_⟩
      · rw [I.mem x h0, O.mem x h0 h1, List.flatten_append, List.mem_append]; simp
      · rw [List.flatten_append]
        refine List.nodup_append.mpr ⟨O.nd, by simpa using I.nd, fun a ha b hb e => ?_⟩
        have hb' : b ∈ ring := by simpa using hb
        subst e
        have bx := I.bd a hb'
        have := (O.mem a bx.1 bx.2).mpr ha
        rw [I.out a hb'] at this; cases this
      · rcases List.mem_append.mp hr with hr | hr
        · exact O.rg r hr
        · have : r = ring := by simpa using hr
          subst this; exact z1
      · rw [I.mem x h0]
        by_cases c : x < i
        · exact .inl (O.below x h0 c h2)
        · have : x = i := by omega
          subst this
          exact .inr (by rw [← z2]; exact getD_mem (List.length_pos_iff.mpr z1.ne))
      · rcases List.mem_append.mp hr with hr | hr
        · exact O.least r hr
        · have : r = ring := by simpa using hr
          subst this
          intro x hx; rw [z2]; exact lst x hx
      · rw [List.map_append]
        refine List.pairwise_append.mpr ⟨O.up, by simp, fun a ha b hb => ?_⟩
        obtain ⟨r, hr, rfl⟩ := List.mem_map.mp ha
        have hb' : b = ring.getD 0 0 := by simpa using hb
        rw [hb', z2]
        exact O.heads r hr
      · rcases List.mem_append.mp hr with hr | hr
        · have := O.heads r hr; omega
        · have : r = ring := by simpa using hr
          subst this; rw [z2]; omega
theorem RO.of {row : List Int} (R : IsRow row) : RO row row.length (ringsAux row row.length).1 (ringsOf row) := RO.all R _ (Nat.le_refl _)
theorem Ring.ok {row r : List Int} (h : Ring row r) : okRing row r = true := by
  unfold okRing
  rw [Bool.and_eq_true, Bool.and_eq_true, List.all_eq_true, List.all_eq_true]
  refine ⟨⟨?_, fun x hx => ?_⟩, fun k hk => ?_⟩
  · cases r with
    | nil => exact absurd rfl h.ne
    | cons _ _ => rfl
  · have := h.bd x hx
    rw [Bool.and_eq_true, decide_eq_true_eq, decide_eq_true_eq]; exact this
  · have hk' := List.mem_range.mp hk
    rw [decide_eq_true_eq, gt_nat]
    cases k with
    | zero =>
      have e : gt r (((0 : Nat) : Int) - 1) = r.getD (r.length - 1) 0 := by
        unfold gt
        rw [if_neg (by omega)]
        congr 1; omega
      rw [e]; exact h.cl
    | succ k =>
      have e : gt r (((k + 1 : Nat) : Int) - 1) = r.getD k 0 := by
        rw [show ((k + 1 : Nat) : Int) - 1 = (k : Int) by omega, gt_nat]
      rw [e]; exact h.ch k hk'
theorem ringsOf_perm {row : List Int} (R : IsRow row) : (ringsOf row).flatten.Perm (upTo row.length) := by
  have O := RO.of R
  refine perm_of_mem O.nd (upTo_nodup _) fun x => ?_
  rw [mem_upTo]
  constructor
  · intro hx
    obtain ⟨r, hr, hx⟩ := List.mem_flatten.mp hx
    exact (O.rg r hr).bd x hx
  · rintro ⟨h0, h1⟩
    exact (O.mem x h0 h1).mp (O.below x h0 h1 h1)
theorem ringsOf_ringed {row : List Int} (R : IsRow row) : ringed row (ringsOf row) = true := by
  unfold ringed isAll
  rw [Bool.and_eq_true, List.all_eq_true, decide_eq_true_eq]
  exact ⟨fun r hr => ((RO.of R).rg r hr).ok, ringsOf_perm R⟩
end Bo

/-! of rings the row -/
namespace Bo
open PySem L2
theorem gt_st {f : List Int} {i x y : Int} (hi : 0 ≤ i ∧ i < f.length) (hy : 0 ≤ y) : gt (st f i x) y = if y = i then x else gt f y := by
  unfold gt st
  rw [if_pos hy, if_pos hy, List.getD_eq_getElem?_getD, List.getD_eq_getElem?_getD]
  by_cases c : y = i
  · subst c
    rw [if_pos rfl, List.getElem?_set_self (by omega)]; rfl
  · rw [if_neg c, List.getElem?_set_ne (by omega)]
theorem gt_upTo {n : Nat} {y : Int} (h : 0 ≤ y ∧ y < n) : gt (upTo n) y = y := by
  have := gt_get (upTo_get (n := n) (i := y.toNat) (by omega))
  rw [show ((y.toNat : Nat) : Int) = y by omega] at this
  exact this
theorem okRing_ne {row r : List Int} (h : okRing row r = true) : r ≠ [] := by
  intro e; subst e; simp [okRing] at h
theorem okRing_bd {row r : List Int} (h : okRing row r = true) : ∀ x ∈ r, 0 ≤ x ∧ x < row.length := fun x hx => by
  unfold okRing at h
  rw [Bool.and_eq_true, Bool.and_eq_true, List.all_eq_true] at h
  have := h.1.2 x hx
  rw [Bool.and_eq_true, decide_eq_true_eq, decide_eq_true_eq] at this
  exact this
theorem okRing_at {row r : List Int} (h : okRing row r = true) {k : Nat} (hk : k < r.length) : gt row (gt r ((k : Int) - 1)) = gt r (k : Int) := by
  unfold okRing at h
  rw [Bool.and_eq_true] at h
  exact of_decide_eq_true (List.all_eq_true.mp h.2 k (List.mem_range.mpr hk))
theorem okRing_isRing {row r : List Int} (h : okRing row r = true) : isRing r (row.length : Nat) = true := by
  unfold isRing
  rw [Bool.and_eq_true, List.all_eq_true]
  refine ⟨?_, fun x hx => ?_⟩
  · cases r with
    | nil => exact absurd rfl (okRing_ne h)
    | cons _ _ => rfl
  · have := okRing_bd h x hx
    rw [isNum_int, decide_eq_true this.1, decide_eq_true (by omega)]; rfl
/-- a row on the way: each place as in order or as in row -/
structure Half (row f : List Int) : Prop where
  len : f.length = row.length
  at_ : ∀ y : Int, 0 ≤ y ∧ y < row.length → gt f y = y ∨ gt f y = gt row y
theorem Half.step {row f : List Int} (h : Half row f) {i : Int} (hi : 0 ≤ i ∧ i < row.length) : Half row (st f i (gt row i)) ∧ gt (st f i (gt row i)) i = gt row i ∧ ∀ y : Int, 0 ≤ y ∧ y < row.length → gt f y = gt row y → gt (st f i (gt row i)) y = gt row y := by
  have hl := h.len
  refine ⟨⟨by rw [st_length, h.len], fun y hy => ?_⟩, ?_, fun y hy e => ?_⟩
  · rw [gt_st (by omega) hy.1]
    by_cases c : y = i
    · rw [if_pos c, c]; exact .inr rfl
    · rw [if_neg c]; exact h.at_ y hy
  · rw [gt_st (by omega) hi.1, if_pos rfl]
  · rw [gt_st (by omega) hy.1]
    by_cases c : y = i
    · rw [if_pos c, c]
    · rw [if_neg c]; exact e
theorem gt_pred_bd {row r : List Int} (h : okRing row r = true) {k : Nat} (hk : k < r.length) : 0 ≤ gt r ((k : Int) - 1) ∧ gt r ((k : Int) - 1) < row.length :=
  okRing_bd h _ (gt_mem (by omega) (by omega))
theorem setRing_half {row r : List Int} (h : okRing row r = true) : ∀ (k : Nat) (f : List Int), k ≤ r.length → Half row f → Half row (setRing r k f) ∧ (∀ j, j < k → gt (setRing r k f) (gt r ((j : Int) - 1)) = gt row (gt r ((j : Int) - 1))) ∧
    ∀ y : Int, 0 ≤ y ∧ y < row.length → gt f y = gt row y → gt (setRing r k f) y = gt row y
  | 0, f, _, hf => ⟨hf, fun j hj => absurd hj (Nat.not_lt_zero _), fun y _ e => e⟩
  | k + 1, f, hk, hf => by
    obtain ⟨h1, h2, h3⟩ := setRing_half h k f (by omega) hf
    have hb := gt_pred_bd h (k := k) (by omega)
    have e : setRing r (k + 1) f = st (setRing r k f) (gt r ((k : Int) - 1)) (gt row (gt r ((k : Int) - 1))) := by
      show st _ _ _ = _
      rw [okRing_at h (by omega)]
    rw [e]
    obtain ⟨s1, s2, s3⟩ := h1.step hb
    refine ⟨s1, fun j hj => ?_, fun y hy e => s3 y hy (h3 y hy e)⟩
    by_cases c : j = k
    · subst c; exact s2
    · exact s3 _ (gt_pred_bd h (by omega)) (h2 j (by omega))
theorem setRing_all {row r : List Int} (h : okRing row r = true) {f : List Int} (hf : Half row f) : Half row (setRing r r.length f) ∧ (∀ y ∈ r, gt (setRing r r.length f) y = gt row y) ∧ ∀ y : Int, 0 ≤ y ∧ y < row.length → gt f y = gt row y → gt (setRing r r.length f) y = gt row y := by
  obtain ⟨h1, h2, h3⟩ := setRing_half h r.length f (Nat.le_refl _) hf
  refine ⟨h1, fun y hy => ?_, h3⟩
  obtain ⟨k, hk, e⟩ := mem_getD hy
  by_cases c : k + 1 < r.length
  · have := h2 (k + 1) c
    rw [show ((k + 1 : Nat) : Int) - 1 = (k : Int) by omega, gt_nat, e] at this
    exact this
  · have := h2 0 (by omega)
    have e0 : gt r (((0 : Nat) : Int) - 1) = y := by
      unfold gt
      rw [if_neg (by omega), ← e]
      congr 1; omega
    rw [e0] at this
    exact this
theorem rowOf_half {row : List Int} : ∀ (told : List (List Int)) (f : List Int), (∀ r ∈ told, okRing row r = true) → Half row f → Half row (told.foldl (fun f r => setRing r r.length f) f) ∧
    (∀ y ∈ told.flatten, gt (told.foldl (fun f r => setRing r r.length f) f) y = gt row y) ∧ ∀ y : Int, 0 ≤ y ∧ y < row.length → gt f y = gt row y → gt (told.foldl (fun f r => setRing r r.length f) f) y = gt row y
  | [], f, _, hf => ⟨hf, by simp, fun y _ e => e⟩
  | r :: t, f, h, hf => by
    obtain ⟨a1, a2, a3⟩ := setRing_all (h r (by simp)) hf
    obtain ⟨b1, b2, b3⟩ := rowOf_half t _ (fun r hr => h r (List.mem_cons_of_mem _ hr)) a1
    rw [List.foldl_cons]
    refine ⟨b1, fun y hy => ?_, fun y hy e => b3 y hy (a3 y hy e)⟩
    rw [List.flatten_cons] at hy
    rcases List.mem_append.mp hy with hy | hy
    · exact b3 y (okRing_bd (h r (by simp)) y hy) (a2 y hy)
    · exact b2 y hy
theorem ext_gt {f g : List Int} (hl : f.length = g.length) (h : ∀ y : Int, 0 ≤ y ∧ y < g.length → gt f y = gt g y) : f = g := by
  apply List.ext_getElem hl
  intro i h1 h2
  have := h i (by omega)
  rw [gt_nat, gt_nat, List.getD_eq_getElem?_getD, List.getD_eq_getElem?_getD, List.getElem?_eq_getElem h1, List.getElem?_eq_getElem h2] at this
  exact this
/-- rings of a row that hold all that doesn't stand at its place tell the row -/
theorem rowOf_is {row : List Int} {told : List (List Int)} (h : ∀ r ∈ told, okRing row r = true) (hm : ∀ y : Int, 0 ≤ y ∧ y < row.length → gt row y ≠ y → y ∈ told.flatten) : rowOf row.length told = row := by
  have h0 : Half row (upTo row.length) := ⟨upTo_length _, fun y hy => .inl (gt_upTo hy)⟩
  obtain ⟨b1, b2, _⟩ := rowOf_half told _ h h0
  refine ext_gt b1.len fun y hy => ?_
  by_cases c : gt row y = y
  · rcases b1.at_ y hy with e | e
    · show gt (rowOf _ _) y = _
      rw [c]; exact e
    · exact e
  · exact b2 y (hm y hy c)
theorem okRing_one {row r : List Int} (h : okRing row r = true) (hl : r.length ≤ 1) {x : Int} (hx : x ∈ r) : gt row x = x := by
  obtain ⟨k, hk, e⟩ := mem_getD hx
  have hk0 : k = 0 := by omega
  subst hk0
  have := okRing_at h (k := 0) hk
  have e1 : gt r (((0 : Nat) : Int) - 1) = x := by
    unfold gt
    rw [if_neg (by omega), ← e]
    congr 1; omega
  rw [e1, gt_nat, e] at this
  exact this
/-- .. as rings_of tells them -/
theorem rowOf_ringsOf {row : List Int} (R : IsRow row) : rowOf row.length (ringsOf row) = row := by
  have h := ringsOf_ringed R
  unfold ringed at h
  rw [Bool.and_eq_true, List.all_eq_true] at h
  exact rowOf_is h.1 fun y hy _ => ((ringsOf_perm R).mem_iff).mpr (mem_upTo.mpr hy)
/-! ### a ring begun elsewhere -/
theorem rot_perm (r : List Int) (a : Nat) : (r.drop a ++ r.take a).Perm r := by
  refine List.perm_append_comm.trans ?_
  rw [List.take_append_drop]
theorem rot_getD (r : List Int) (a k : Nat) (ha : a < r.length) (hk : k < r.length) : (r.drop a ++ r.take a).getD k 0 = if k < r.length - a then r.getD (a + k) 0 else r.getD (k - (r.length - a)) 0 := by
  rw [List.getD_eq_getElem?_getD]
  by_cases c : k < r.length - a
  · rw [if_pos c, List.getElem?_append_left (by rw [List.length_drop]; exact c), List.getElem?_drop, List.getD_eq_getElem?_getD]
  · rw [if_neg c, List.getElem?_append_right (by rw [List.length_drop]; omega), List.length_drop, List.getElem?_take_of_lt (by omega), List.getD_eq_getElem?_getD]
theorem okRing_iff {row r : List Int} : okRing row r = true ↔ r ≠ [] ∧ (∀ x ∈ r, 0 ≤ x ∧ x < row.length) ∧ ∀ k, k < r.length → gt row (r.getD k 0) = if k + 1 < r.length then r.getD (k + 1) 0 else r.getD 0 0 := by
  constructor
  · intro h
    refine ⟨okRing_ne h, okRing_bd h, fun k hk => ?_⟩
    by_cases c : k + 1 < r.length
    · rw [if_pos c]
      have := okRing_at h c
      rw [show ((k + 1 : Nat) : Int) - 1 = (k : Int) by omega, gt_nat, gt_nat] at this
      exact this
    · rw [if_neg c]
      have := okRing_at h (k := 0) (by omega)
      have e : gt r (((0 : Nat) : Int) - 1) = r.getD k 0 := by
        unfold gt
        rw [if_neg (by omega)]
        congr 1; omega
      rw [e, gt_nat] at this
      exact this
  · rintro ⟨h1, h2, h3⟩
    unfold okRing
    rw [Bool.and_eq_true, Bool.and_eq_true, List.all_eq_true, List.all_eq_true]
    have hp := List.length_pos_iff.mpr h1
    refine ⟨⟨?_, fun x hx => ?_⟩, fun k hk => ?_⟩
    · cases r with
      | nil => exact absurd rfl h1
      | cons _ _ => rfl
    · have := h2 x hx
      rw [Bool.and_eq_true, decide_eq_true_eq, decide_eq_true_eq]; exact this
    · have hk' := List.mem_range.mp hk
      rw [decide_eq_true_eq, gt_nat]
      cases k with
      | zero =>
        have e : gt r (((0 : Nat) : Int) - 1) = r.getD (r.length - 1) 0 := by
          unfold gt
          rw [if_neg (by omega)]
          congr 1; omega
        have := h3 (r.length - 1) (by omega)
        rw [if_neg (by omega)] at this
        rw [e]; exact this
      | succ k =>
        have := h3 k (by omega)
        rw [if_pos hk'] at this
        rw [show ((k + 1 : Nat) : Int) - 1 = (k : Int) by omega, gt_nat]
        exact this
theorem okRing_rot {row r : List Int} (h : okRing row r = true) {a : Nat} (ha : a < r.length) : okRing row (r.drop a ++ r.take a) = true := by
  obtain ⟨h1, h2, h3⟩ := okRing_iff.mp h
  have p := rot_perm r a
  have hl : (r.drop a ++ r.take a).length = r.length := p.length_eq
  refine okRing_iff.mpr ⟨fun e => h1 (by rw [e] at p; exact List.nil_perm.mp p), fun x hx => h2 x (p.mem_iff.mp hx), fun k hk => ?_⟩
  rw [hl] at hk ⊢
  rw [rot_getD r a k ha hk]
  by_cases c : k + 1 < r.length
  · rw [if_pos c, rot_getD r a (k + 1) ha c]
    by_cases d : k < r.length - a
    · rw [if_pos d, h3 _ (by omega)]
      by_cases e : k + 1 < r.length - a
      · rw [if_pos e, if_pos (by omega)]; rfl
      · rw [if_neg e, if_neg (by omega)]
        congr 1; omega
    · rw [if_neg d, if_neg (by omega), h3 _ (by omega), if_pos (by omega)]
      congr 1; omega
  · rw [if_neg c, rot_getD r a 0 ha (by omega)]
    by_cases d : k < r.length - a
    · have ha0 : a = 0 := by omega
      subst ha0
      rw [if_pos d, if_pos (by omega), h3 _ (by omega), if_neg (by omega)]
    · rw [if_neg d, h3 _ (by omega), if_pos (by omega), if_pos (by omega)]
      congr 1; omega
/-- the two last of n + 2 change places -/
theorem rowOf_two (n : Nat) : (rowOf (n + 2) [[(n : Int), (n : Int) + 1]]).drop n = [(n : Int) + 1, (n : Int)] := by
  have e : rowOf (n + 2) [[(n : Int), (n : Int) + 1]] = st (st (upTo (n + 2)) ((n : Int) + 1) n) n ((n : Int) + 1) := rfl
  rw [e]
  apply List.ext_getElem?
  intro i
  unfold st
  rw [List.getElem?_drop]
  have h1 : ((n : Int) + 1).toNat = n + 1 := by omega
  have h2 : (n : Int).toNat = n := by omega
  rw [h1, h2]
  have hl : (upTo (n + 2)).length = n + 2 := upTo_length _
  cases i with
  | zero =>
    show (((upTo (n + 2)).set (n + 1) (n : Int)).set n ((n : Int) + 1))[n]? = _
    rw [List.getElem?_set_self (by rw [List.length_set]; omega)]; rfl
  | succ i =>
    cases i with
    | zero =>
      show (((upTo (n + 2)).set (n + 1) (n : Int)).set n ((n : Int) + 1))[n + 1]? = _
      rw [List.getElem?_set_ne (by omega), List.getElem?_set_self (by omega)]; rfl
    | succ i =>
      rw [List.getElem?_eq_none (by rw [List.length_set, List.length_set]; omega)]; rfl
theorem mem_le_flatten {α : Type} : ∀ {l : List (List α)} {r : List α}, r ∈ l → r.length ≤ l.flatten.length
  | a :: l, r, h => by
    rw [List.flatten_cons, List.length_append]
    rcases List.mem_cons.mp h with e | h
    · subst e; omega
    · have := mem_le_flatten h; omega
theorem ringsOf_flat {row : List Int} (R : IsRow row) : (ringsOf row).flatten.length = row.length := by
  rw [(ringsOf_perm R).length_eq, upTo_length]
theorem ringsOf_len {row : List Int} (R : IsRow row) {r : List Int} (h : r ∈ ringsOf row) : r.length ≤ row.length := by
  rw [← ringsOf_flat R]; exact mem_le_flatten h
theorem ringsOf_okR {row : List Int} (R : IsRow row) {r : List Int} (h : r ∈ ringsOf row) : okRing row r = true := ((RO.of R).rg r h).ok
theorem getD_gt0 (r : List Int) : gt r 0 = r.getD 0 0 := by
  exact gt_nat r 0
theorem heads_up {row : List Int} (R : IsRow row) : ((ringsOf row).map fun x => gt x 0).Pairwise (· ≤ ·) := by
  have := (RO.of R).up
  have e : ((ringsOf row).map fun x => gt x 0) = (ringsOf row).map fun r => r.getD 0 0 := List.map_congr_left fun r _ => getD_gt0 r
  rw [e]
  exact this.imp fun h => by omega
/-- rings of a row told otherwise, behind i of them -/
structure Told (row : List Int) (found : List (List Int)) (i : Nat) (told : List (List Int)) : Prop where
  ok : ∀ t ∈ told, okRing row t = true
  nd : told.flatten.Nodup
  sub : ∀ x ∈ told.flatten, x ∈ (found.take i).flatten
  big : ∀ r ∈ found.take i, 1 < r.length → ∀ x ∈ r, x ∈ told.flatten
  len : told.length ≤ i
theorem Told.zero (row : List Int) (found : List (List Int)) : Told row found 0 [] := ⟨by simp, by simp, by simp, by simp, Nat.le_refl _⟩
theorem Told.put {row : List Int} {found told : List (List Int)} {i : Nat} {r : List Int} (h : Told row found i told) (hn : found.flatten.Nodup) (hr : found[i]? = some r) (ho : okRing row r = true) {a : Nat} (ha : a < r.length) : Told row found (i + 1) (told ++ [r.drop a ++ r.take a]) := by
  have p := rot_perm r a
  have e : (told ++ [r.drop a ++ r.take a]).flatten = told.flatten ++ (r.drop a ++ r.take a) := by rw [List.flatten_append]; simp
  have hn2 : ((found.take (i + 1)).flatten).Nodup := by
    have : found.flatten = (found.take (i + 1)).flatten ++ (found.drop (i + 1)).flatten := by rw [← List.flatten_append, List.take_append_drop]
    rw [this] at hn
    exact (List.nodup_append.mp hn).1
  rw [flatten_take hr] at hn2
  obtain ⟨_, n2, n3⟩ := List.nodup_append.mp hn2
  refine ⟨fun t ht => ?_, ?_, fun x hx => ?_, fun s hs hl x hx => ?_, by rw [List.length_append]; simp; exact h.len⟩
  · rcases List.mem_append.mp ht with ht | ht
    · exact h.ok t ht
    · have : t = r.drop a ++ r.take a := by simpa using ht
      subst this; exact okRing_rot ho ha
  · rw [e]
    exact List.nodup_append.mpr ⟨h.nd, p.nodup_iff.mpr n2, fun x hx y hy z => n3 x (h.sub x hx) y (p.mem_iff.mp hy) z⟩
  · rw [flatten_take hr]
    rw [e] at hx
    rcases List.mem_append.mp hx with hx | hx
    · exact List.mem_append_left _ (h.sub x hx)
    · exact List.mem_append_right _ (p.mem_iff.mp hx)
  · rw [e]
    rw [List.take_add_one, hr] at hs
    rcases List.mem_append.mp hs with hs | hs
    · exact List.mem_append_left _ (h.big s hs hl x hx)
    · have : s = r := by simpa using hs
      subst this
      exact List.mem_append_right _ (p.mem_iff.mpr hx)
theorem Told.skip {row : List Int} {found told : List (List Int)} {i : Nat} {r : List Int} (h : Told row found i told) (hr : found[i]? = some r) (hl : ¬ 1 < r.length) : Told row found (i + 1) told := by
  refine ⟨h.ok, h.nd, fun x hx => ?_, fun s hs hl' x hx => ?_, Nat.le_succ_of_le h.len⟩
  · rw [flatten_take hr]; exact List.mem_append_left _ (h.sub x hx)
  · rw [List.take_add_one, hr] at hs
    rcases List.mem_append.mp hs with hs | hs
    · exact h.big s hs hl' x hx
    · have : s = r := by simpa using hs
      subst this; exact absurd hl' hl
/-- what of_rings asks of rings, and that they tell the row -/
structure Tells (row : List Int) (told : List (List Int)) : Prop where
  ok : ∀ t ∈ told, okRing row t = true
  nd : told.flatten.Nodup
  len : told.length ≤ 1000
  flat : told.flatten.length ≤ 1000
  is : rowOf row.length told = row
theorem nodup_sub_len : ∀ {l m : List Int}, l.Nodup → (∀ x ∈ l, x ∈ m) → l.length ≤ m.length
  | [], m, _, _ => Nat.zero_le _
  | a :: l, m, hn, hs => by
    have ha : a ∈ m := hs a (by simp)
    have hn' := List.nodup_cons.mp hn
    have ih := nodup_sub_len (l := l) (m := m.erase a) hn'.2 fun x hx => by
      have ne : x ≠ a := fun e => hn'.1 (by rw [← e]; exact hx)
      exact (List.mem_erase_of_ne ne).mpr (hs x (List.mem_cons_of_mem _ hx))
    rw [List.length_erase_of_mem ha] at ih
    have := List.length_pos_iff.mpr (List.ne_nil_of_mem ha)
    rw [List.length_cons]; omega
theorem nodup_le {row l : List Int} (hn : l.Nodup) (hb : ∀ x ∈ l, 0 ≤ x ∧ x < row.length) : l.length ≤ row.length := by
  have : l.length ≤ (upTo row.length).length := by
    have hs : l ⊆ upTo row.length := fun x hx => mem_upTo.mpr (hb x hx)
    exact nodup_sub_len hn hs
  rwa [upTo_length] at this
theorem Told.tells {row : List Int} {told : List (List Int)} (R : IsRow row) (h : Told row (ringsOf row) (ringsOf row).length told) : Tells row told ∧ Tells row told.reverse := by
  have hl := R.len
  have ob : ∀ x ∈ told.flatten, 0 ≤ x ∧ x < row.length := fun x hx => by
    obtain ⟨t, ht, hx⟩ := List.mem_flatten.mp hx
    exact okRing_bd (h.ok t ht) x hx
  have fl := nodup_le h.nd ob
  have big : ∀ y : Int, 0 ≤ y ∧ y < row.length → gt row y ≠ y → y ∈ told.flatten := fun y hy ny => by
    have hm : y ∈ (ringsOf row).flatten := ((ringsOf_perm R).mem_iff).mpr (mem_upTo.mpr hy)
    obtain ⟨r, hr, hy'⟩ := List.mem_flatten.mp hm
    have ho := ringsOf_okR R hr
    refine h.big r (by rw [List.take_length]; exact hr) ?_ y hy'
    by_cases c : 1 < r.length
    · exact c
    · exact absurd (okRing_one ho (by omega) hy') ny
  have cnt : (ringsOf row).length ≤ row.length := ringsAux_count row row.length
  have hlen := h.len
  have pr : told.reverse.flatten.Perm told.flatten := (List.reverse_perm told).flatten
  refine ⟨⟨h.ok, h.nd, by omega, by omega, rowOf_is h.ok big⟩, ⟨fun t ht => h.ok t (List.mem_reverse.mp ht), pr.nodup_iff.mpr h.nd, by rw [List.length_reverse]; omega, by rw [pr.length_eq]; omega, rowOf_is (fun t ht => h.ok t (List.mem_reverse.mp ht)) fun y hy ny => (pr.mem_iff).mpr (big y hy ny)⟩⟩
theorem ringsOf_tells {row : List Int} (R : IsRow row) : Tells row (ringsOf row) := by
  have hl := R.len
  have cnt : (ringsOf row).length ≤ row.length := ringsAux_count row row.length
  exact ⟨fun t ht => ringsOf_okR R ht, (RO.of R).nd, by omega, by rw [ringsOf_flat R]; omega, rowOf_ringsOf R⟩
end Bo

/-! places, exchanges -/
namespace Bo
open PySem L2
/-- for each thing its place, as places_of makes it -/
def plAux (ns : List Int) : Nat → List Int
  | 0 => ns.map fun _ => 0
  | i + 1 => st (plAux ns i) (gt ns (i : Int)) (i : Int)
def placesOf (ns : List Int) : List Int := plAux ns ns.length
theorem plAux_length (ns : List Int) : ∀ i, (plAux ns i).length = ns.length
  | 0 => by simp [plAux]
  | i + 1 => by show (st _ _ _).length = _; rw [st_length, plAux_length ns i]
theorem placesOf_length (ns : List Int) : (placesOf ns).length = ns.length := plAux_length ns _
theorem plAux_at {ns : List Int} (R : IsRow ns) : ∀ i, i ≤ ns.length → ∀ k : Nat, k < i → gt (plAux ns i) (gt ns (k : Int)) = (k : Int)
  | 0, _, k, hk => absurd hk (Nat.not_lt_zero _)
  | i + 1, hi, k, hk => by
    show gt (st (plAux ns i) (gt ns (i : Int)) (i : Int)) (gt ns (k : Int)) = k
    have bi := gt_bd R (x := (i : Int)) (by omega)
    have bk := gt_bd R (x := (k : Int)) (by omega)
    rw [gt_st (by rw [plAux_length]; exact bi) bk.1]
    by_cases c : k = i
    · subst c; rw [if_pos rfl]
    · have : gt ns (k : Int) ≠ gt ns (i : Int) := fun e => c (by have := gt_inj R (by omega) (by omega) e; omega)
      rw [if_neg this]
      exact plAux_at R i (by omega) k (by omega)
/-- the place of the thing that stands at a place -/
theorem placesOf_gt {ns : List Int} (R : IsRow ns) {x : Int} (h : 0 ≤ x ∧ x < ns.length) : gt (placesOf ns) (gt ns x) = x := by
  have := plAux_at R ns.length (Nat.le_refl _) x.toNat (by omega)
  rwa [show ((x.toNat : Nat) : Int) = x by omega] at this
theorem row_surj {ns : List Int} (R : IsRow ns) {y : Int} (h : 0 ≤ y ∧ y < ns.length) : ∃ x : Int, (0 ≤ x ∧ x < ns.length) ∧ gt ns x = y := by
  have hm : y ∈ (ringsOf ns).flatten := ((ringsOf_perm R).mem_iff).mpr (mem_upTo.mpr h)
  obtain ⟨r, hr, hy⟩ := List.mem_flatten.mp hm
  have ho := ringsOf_okR R hr
  obtain ⟨k, hk, e⟩ := mem_getD hy
  refine ⟨gt r ((k : Int) - 1), gt_pred_bd ho hk, ?_⟩
  rw [okRing_at ho hk, gt_nat, e]
theorem gt_placesOf {ns : List Int} (R : IsRow ns) {y : Int} (h : 0 ≤ y ∧ y < ns.length) : (0 ≤ gt (placesOf ns) y ∧ gt (placesOf ns) y < ns.length) ∧ gt ns (gt (placesOf ns) y) = y := by
  obtain ⟨x, hx, e⟩ := row_surj R h
  rw [← e, placesOf_gt R hx]
  exact ⟨hx, rfl⟩
theorem row_mem {ns : List Int} (R : IsRow ns) {y : Int} (h : 0 ≤ y ∧ y < ns.length) : y ∈ ns := by
  obtain ⟨x, hx, e⟩ := row_surj R h
  rw [← e]; exact gt_mem (by omega) (by omega)
theorem row_perm {ns : List Int} (R : IsRow ns) : ns.Perm (upTo ns.length) :=
  perm_of_mem R.nd (upTo_nodup _) fun x => ⟨fun h => mem_upTo.mpr (R.bd x h), fun h => row_mem R (mem_upTo.mp h)⟩
theorem order_all (ns : List Int) : ((List.range ns.length).map fun i : Nat => decide (gt ns (i : Int) = (i : Int))).all id = decide (ns = upTo ns.length) := by
  rw [List.all_map, Bool.eq_iff_iff, List.all_eq_true, decide_eq_true_eq]
  constructor
  · intro h
    refine ext_gt (upTo_length _).symm fun y hy => ?_
    rw [upTo_length] at hy
    have := h y.toNat (List.mem_range.mpr (by omega))
    have := of_decide_eq_true this
    rw [show ((y.toNat : Nat) : Int) = y by omega] at this
    rw [this, gt_upTo hy]
  · intro h i hi
    have hi' := List.mem_range.mp hi
    show decide (gt ns (i : Int) = (i : Int)) = true
    rw [h, decide_eq_true_eq]
    exact gt_upTo (by omega)
/-! ### exchanges -/
def swap (f : List Int) (p : Int × Int) : List Int := st (st f p.1 (gt f p.2)) p.2 (gt f p.1)
def swapOk (n : Nat) (p : Int × Int) : Bool := decide (0 ≤ p.1) && (decide (p.1 < p.2) && decide (p.2 < n))
theorem swap_length (f : List Int) (p : Int × Int) : (swap f p).length = f.length := by unfold swap; rw [st_length, st_length]
theorem swaps_length : ∀ (ps : List (Int × Int)) (f : List Int), (ps.foldl swap f).length = f.length
  | [], f => rfl
  | p :: ps, f => by rw [List.foldl_cons, swaps_length ps, swap_length]
/-- the row behind exchanges; an empty one for what are none -/
def exL (ns : List Int) (ps : List (Int × Int)) : List Int := if ps.all (swapOk ns.length) = true then ps.foldl swap ns else []
/-- what Exchanged's shows says -/
def exShows (ns : List Int) (ps : List (Int × Int)) (rs : List (List Int)) : Bool := ps.all (swapOk ns.length) && (decide (ps.foldl swap ns = upTo ns.length) && (ringed ns rs && decide ((rs.length : Int) + ps.length = ns.length)))
theorem exDue {ns : List Int} {ps : List (Int × Int)} {rs : List (List Int)} : exShows ns ps rs = ((decide (exL ns ps = upTo ns.length) || decide (ns = [])) && (ringed ns rs && decide ((ps.length : Int) + rs.length = ns.length))) := by
  unfold exShows exL
  have e : decide ((rs.length : Int) + ps.length = ns.length) = decide ((ps.length : Int) + rs.length = ns.length) := by
    rw [Int.add_comm]
  rw [e]
  cases hA : ps.all (swapOk ns.length) with
  | true =>
    rw [if_pos rfl, Bool.true_and]
    by_cases hn : ns = []
    · subst hn
      have : ps.foldl swap [] = upTo ([] : List Int).length := List.eq_nil_of_length_eq_zero (by rw [swaps_length]; rfl)
      rw [decide_eq_true this]; rfl
    · rw [decide_eq_false hn, Bool.or_false]
  | false =>
    rw [if_neg Bool.false_ne_true, Bool.false_and]
    by_cases hn : ns = []
    · subst hn
      have hp : ps ≠ [] := by rintro rfl; simp at hA
      have : decide ((ps.length : Int) + rs.length = (([] : List Int).length : Nat)) = false := decide_eq_false (by
        have := List.length_pos_iff.mpr hp
        simp; omega)
      rw [this, Bool.and_false, Bool.and_false]
    · have : ([] : List Int) ≠ upTo ns.length := fun e => hn (List.eq_nil_of_length_eq_zero (by rw [← upTo_length ns.length, ← e]; rfl))
      rw [decide_eq_false this, decide_eq_false hn]; rfl
end Bo

/-! lengths of words and texts; rows that a text tells -/
namespace Bo
open PySem PySem.Spec PyProof.Rows L2
open NumText (AllDigits digitsVal)
theorem joinL_len (S : List Nat) : ∀ (ps : List (List Nat)) (p : List Nat), p ∈ ps → p.length ≤ (TL.joinL S ps).length
  | [], p, h => by simp at h
  | [q], p, h => by
    have e : p = q := by simpa using h
    rw [e]; exact Nat.le_refl _
  | q :: r :: l, p, h => by
    show p.length ≤ (q ++ (S ++ TL.joinL S (r :: l))).length
    rw [List.length_append, List.length_append]
    rcases List.mem_cons.mp h with e | h
    · rw [e]; omega
    · have := joinL_len S (r :: l) p h
      omega
theorem joinL_count (S : List Nat) (hS : 1 ≤ S.length) : ∀ ps : List (List Nat), ps.length ≤ (TL.joinL S ps).length + 1
  | [] => Nat.zero_le _
  | [q] => by simp
  | q :: r :: l => by
    show (q :: r :: l).length ≤ (q ++ (S ++ TL.joinL S (r :: l))).length + 1
    have := joinL_count S hS (r :: l)
    rw [List.length_append, List.length_append, List.length_cons]
    omega
theorem cps_words (t : Str) : TL.joinL (cps SP) ((wordsS t).map cps) = cps t := by
  rw [← TL.tl_join, show Str.join SP (wordsS t) = t from StrLaws.join_split t SP]
theorem word_len {t w : Str} (h : w ∈ wordsS t) : w.length ≤ t.length := by
  rw [len_cps, len_cps, ← cps_words t]
  exact joinL_len _ _ _ (List.mem_map.mpr ⟨w, h, rfl⟩)
theorem words_len (t : Str) : (wordsS t).length ≤ t.length + 1 := by
  rw [len_cps, ← cps_words t, ← List.length_map (f := cps)]
  exact joinL_count _ (by decide +kernel) _
theorem numL_len {n : Nat} (h : n < 1000) : (TL.numL n).length ≤ 3 := by
  have one : ∀ m : Nat, m < 10 → (TL.numL m).length ≤ 1 := fun m hm => by rw [TL.numL_lt hm]; simp
  have two : ∀ m : Nat, m < 100 → (TL.numL m).length ≤ 2 := fun m hm => by
    by_cases c : m < 10
    · have := one m c; omega
    · rw [TL.numL_step (by omega), List.length_append]
      have := one (m / 10) (by omega)
      simp; omega
  by_cases c : n < 10
  · have := one n c; omega
  · rw [TL.numL_step (by omega), List.length_append]
    have := two (n / 10) (by omega)
    simp; omega
theorem num_len {i : Int} (h0 : 0 ≤ i) (h : i < 1000) : (Str.ofString (toString i)).length ≤ 3 := by
  obtain ⟨n, rfl⟩ : ∃ n : Nat, i = (n : Int) := ⟨i.toNat, by omega⟩
  rw [len_cps]
  show (TL.tl _).length ≤ 3
  rw [TL.tl_num]
  exact numL_len (by omega)
set_option exponentiation.threshold 2000 in
theorem num_log {i : Int} (h0 : 0 ≤ i) (h : i < 1000) : i.natAbs.log2 < 1920 := by
  have h1 : i.natAbs < 2 ^ 1920 := Nat.lt_of_lt_of_le (show i.natAbs < 2 ^ 10 by omega) (Nat.pow_le_pow_right (by decide) (by decide))
  by_cases z : i.natAbs = 0
  · rw [z]; decide
  · exact (Nat.log2_lt z).mpr h1
theorem sum_le {l : List Nat} {k : Nat} (h : ∀ x ∈ l, x ≤ k) : l.sum ≤ k * l.length := by
  induction l with
  | nil => simp
  | cons a r ih =>
    have h1 := h a (by simp)
    have h2 := ih fun x hx => h x (List.mem_cons_of_mem _ hx)
    rw [List.sum_cons, List.length_cons, Nat.mul_add, Nat.mul_one]
    omega
theorem strs_sum {ns : List Int} (R : IsRow ns) : ((ns.map fun n => Str.ofString (toString n)).map (·.length)).sum ≤ 3 * ns.length := by
  have hl := R.len
  have := sum_le (l := (ns.map fun n => Str.ofString (toString n)).map (·.length)) (k := 3) fun x hx => by
    obtain ⟨s, hs, rfl⟩ := List.mem_map.mp hx
    obtain ⟨i, hi, rfl⟩ := List.mem_map.mp hs
    have b := R.bd i hi
    exact num_len b.1 (by omega)
  rw [List.length_map, List.length_map] at this
  exact this
theorem join_len (ns : List Int) (R : IsRow ns) : (joinS ns).length ≤ 4 * ns.length := by
  have h1 := StrLaws.join_length_le SP (ns.map fun n => Str.ofString (toString n))
  have h2 := strs_sum R
  have h3 : SP.length = 1 := by decide +kernel
  rw [h3, List.length_map] at h1
  have e : joinS ns = Str.join SP (ns.map fun n => Str.ofString (toString n)) := StrLaws.glued_eq_join _ _
  rw [e]
  omega
theorem write_len (ns : List Int) (R : IsRow ns) : (writeS ns).length ≤ 4 * ns.length + 1 := by
  unfold writeS
  split
  · show (Str.ofString "-").length ≤ _
    rw [show (Str.ofString "-").length = 1 from by decide +kernel]
    omega
  · have := join_len ns R
    omega
/-! what a text tells -/
theorem isRow_isAll {ns : List Int} (h : ns.length ≤ 1000) : isAll ns ns.length = true ↔ IsRow ns := by
  unfold isAll
  rw [decide_eq_true_eq]
  constructor
  · intro p
    exact ⟨h, fun x hx => mem_upTo.mp (p.mem_iff.mp hx), p.nodup_iff.mpr (upTo_nodup _)⟩
  · exact row_perm
theorem isRow_of_read {t : Str} {ns : List Int} (h : (wordsS t).length ≤ 1000) (e : readS t = some ns) : IsRow ns := by
  unfold readS at e
  split at e
  · cases e
    exact ⟨by simp, fun x hx => by simp at hx, List.nodup_nil⟩
  · split at e
    · next ms q =>
      split at e
      · next c =>
        cases e
        exact (isRow_isAll (by rw [numsOf_len q]; exact h)).mp c
      · cases e
    · cases e
theorem numsOf_ok : ∀ {ws : List Str}, (∀ w ∈ ws, okW w) → numsOf ws = some (ws.map numW)
  | [], _ => rfl
  | w :: ws, h => by
    have h1 : numOf w = some (numW w) := if_pos (h w (by simp))
    unfold numsOf
    rw [h1, numsOf_ok fun x hx => h x (List.mem_cons_of_mem _ hx)]
    rfl
theorem read_words {t : Str} {ns : List Int} (n : t ≠ "-") (e : numsOf (wordsS t) = some ns) : readS t = if isAll ns ns.length = true then some ns else none := by
  unfold readS
  rw [if_neg n, e]
theorem read_bad {t : Str} (n : t ≠ "-") {w : Str} (h : w ∈ wordsS t) (k : ¬ okW w) : readS t = none := by
  unfold readS
  rw [if_neg n, numsOf_none ⟨w, h, if_neg k⟩]
end Bo

/-! defs that let such exceptions out; texts -/
namespace Bo
open PySem PySem.Spec PyProof.Rows L2
section
variable {P : Program} {w : World} {K : PySem.W.Frag} {mg : Str → Option Value} {base : Heap}
abbrev CqC (P : Program) (w : World) (K : PySem.W.Frag) (mg : Str → Option Value) (base : Heap) (k : Nat) (x : Str) (sp : Sp) : Prop := Cq (CXc P w) P w K mg base k x sp
theorem okC {x qual : Str} {st : Stmt} {f : Addr} {fd : FuncData} {N ps : List Str} {k : Nat} {sp : Sp} (F : L2.Fun K x qual st f fd) (S : FnScope N ps (defScope st)) (len : ∀ vs H Q E, sp vs H Q E → vs.length = ps.length)
    (body : ∀ (cdv : Value) (A : Around) (outer : List Env) (s : Shared) (H : Hp) (vs : List V) (Q : VK) (E : XK), Room k (A.deeper (envOfC qual (defScope st) s.heap.objs.size f cdv)) →
      TakesC (cxOf (CXc P w) P w K mg base N qual (defScope st) f cdv A outer s H E) (fun cls d _ H => E cls d H) → sp vs H Q E →
      ∃ t, PSs (cxOf (CXc P w) P w K mg base N qual (defScope st) f cdv A outer s H E) (defBody st) t ∧ t { nx := fun _ H' => Q .non H', rt := Q } (start N vs) H) : FnOk P w K mg base (CXc P w) (k + 1) f fd ps sp := by
  obtain ⟨oc, od, kV, doc, pm, an, cdv, ct, osl, rfl, lk, hcd⟩ := F.ex
  exact fn_of lk hcd S len fun A outer s H vs Q E hr h => body cdv A outer s H vs Q E hr (takesC_of rfl rfl rfl rfl) h
theorem Cq.mkC {x : Str} {st : Stmt} {N ps : List Str} {k : Nat} {sp : Sp} (D : Df K mg x st ps) (S : FnScope N ps (defScope st)) (len : ∀ vs H Q E, sp vs H Q E → vs.length = ps.length)
    (body : ∀ (f : Addr) (cdv : Value) (A : Around) (outer : List Env) (s : Shared) (H : Hp) (vs : List V) (Q : VK) (E : XK), Room k (A.deeper (envOfC x (defScope st) s.heap.objs.size f cdv)) →
      TakesC (cxOf (CXc P w) P w K mg base N x (defScope st) f cdv A outer s H E) (fun cls d _ H => E cls d H) → sp vs H Q E →
      ∃ t, PSs (cxOf (CXc P w) P w K mg base N x (defScope st) f cdv A outer s H E) (defBody st) t ∧ t { nx := fun _ H' => Q .non H', rt := Q } (start N vs) H) : CqC P w K mg base (k + 1) x sp := by
  obtain ⟨f, fd, h1, F, b⟩ := D.ex
  exact ⟨f, fd, ps, okC F S len (body f), h1, F.kp, b⟩
end
section
variable {X : Cx} {k : Nat} {x : Str} {sp : Sp} {E : L2.St → XK} {p pos : Pos} {e : Expr} {es : List Expr} {t : TA}
theorem pe_cqC (c : CqC X.prog X.w X.K X.mg X.base k x sp) (hr : Room k X.A) (hg : Gl X x) (hx : ∀ σ, PassesAt (CXc X.prog X.w) X σ (E σ)) (ha : PA X (e :: es) t)
    (hdb : (x == ("__debug__" : Str)) = false := by decide) (he : starEach (e :: es) X.env = (false, eval e X.env) :: starEach es X.env := by rfl) (hpl : (backTo pos (starEach es X.env)).any (·.1) = false := by rfl) :
    PE X (.Call (.Name x p) (e :: es) [] pos) (tCallS sp E t) := by
  obtain ⟨f, fd, ps, F, hm, kp, b⟩ := c.ex
  exact pe_callS F hr hg hm kp b hx ha hdb he hpl
/-- where none is let out -/
theorem pass0C {X : Cx} (σ : L2.St) : PassesAt (CXc X.prog X.w) X σ (fun _ _ _ => False) := fun _ _ _ _ _ _ ⟨_, _, _, _, _, _, _, _, _, _, _, _, _, _, q⟩ => q.2.elim
/-- the class of what the suite holds, told -/
theorem pss_told {X : Cx} {b : List Stmt} {cls : Value} {d : Option Addr} {t : Addr → TS} (h : ∀ D, cls = .ref D → d = none → ExcC X.K D → PSs X b (t D)) : PSs X b (fun Ed σ H => ∃ D, cls = .ref D ∧ d = none ∧ ExcC X.K D ∧ t D Ed σ H) :=
  ⟨fun pins s σ H D' I ⟨D, e1, e2, e3, q⟩ => (h D e1 e2 e3).run pins s σ H D' I q⟩
end
section
variable {K : PySem.W.Frag} {σ : L2.St} {H : Hp} {Q : VK} {te : TE} {α β : Type} {f : α → V} {h : β → V} {a : Addr} {j : Nat} {vs : List Nat}
/-- a comprehension whose elements need not come to an end: those that do are as G says -/
theorem k_lcG {xs : List α} (F : α → β) (G : α → Prop) (hx : SqL K H a (xs.map f)) (z : xs.length < 1000000) (hw : ∀ v : V, wipe ((wipe σ vs).set j (some v)) vs = wipe σ vs)
    (hs : ∀ (i : Nat) (x : α) (H2 : Hp) (R : VK), xs[i]? = some x → Same H H2 → (G x → ∀ H3, Same H2 H3 → R (h (F x)) H3) → te ((wipe σ vs).set j (some (f x))) H2 R)
    (hd : ∀ D H2, (∀ x ∈ xs, G x) → H D = none → Same H H2 → H2 D = some (.lst ((xs.map F).map h)) → Q (.ref D) H2) : KC K (gName j) tYes te vs σ Q (.ref a) H := by
  refine ⟨a, rfl, ⟨_, hx⟩, fun D nD => ?_⟩
  refine lc_list (xs := xs.map f) (fun i H2 => (∀ x ∈ xs.take i, G x) ∧ Same H H2 ∧ H2 D = some (.lst (((xs.take i).map F).map h))) ⟨fun x hx => by simp at hx, Same.one nD, upd_same⟩ (fun i H2 _ p => p.2.1.seq hx) (fun i x H2 hi p => ⟨hw x, ?_⟩) (fun H2 p => ?_)
  · obtain ⟨y, hy, rfl⟩ := map_get hi
    obtain ⟨p1, p2, p3⟩ := p
    refine tYes_ok (iteT ?_)
    refine hs i y H2 _ hy p2 fun g H4 s4 => ?_
    refine ⟨_, s4 _ _ p3, ?_, fun x hx => ?_, Same.new (p2.trans s4) nD, ?_⟩
    · rw [List.length_map, List.length_map, List.length_take]
      exact Nat.lt_of_lt_of_le (Nat.lt_of_le_of_lt (Nat.min_le_right _ _) z) (by decide)
    · rw [List.take_add_one, hy] at hx
      rcases List.mem_append.mp hx with q | q
      · exact p1 x q
      · have e : x = y := by simpa using q
        rw [e]; exact g
    · rw [upd_same, List.take_add_one, hy, List.map_append, List.map_append]; rfl
  · obtain ⟨p1, p2, p3⟩ := p
    rw [List.length_map, List.take_length] at p1 p3
    exact hd D H2 p1 nD p2 p3
theorem e_m1 {r : V → List V → Hp → VK → Prop} {to : TE} (q : to σ H fun x H1 => (∃ a, x = .str a) ∧ te σ H1 fun y H2 => r x [y] H2 Q) : tM1 r to te σ H Q := q
theorem s_ok {t : Str} {A : Prop} (q : A) : (∃ a, V.str t = .str a) ∧ A := ⟨⟨t, rfl⟩, q⟩
end
end Bo

namespace Bo
open PySem PySem.Spec PyProof.Rows L2
/-- no text -/
def NoS (K : PySem.W.Frag) (H : Hp) (x : V) : Prop := ∃ t, TyX K H x (.type t) ∧ kitB t "str" = some false
theorem nums_bd (ns : List Int) : (ns.map fun x => isNum (.int x) 0 ((ns.length : Int) - 1)).all id = true ↔ ∀ x ∈ ns, 0 ≤ x ∧ x < ns.length := by
  rw [List.all_map, List.all_eq_true]
  refine forall_congr' fun x => imp_congr_right fun _ => ?_
  show isNum (.int x) 0 ((ns.length : Int) - 1) = true ↔ _
  rw [isNum_int, Bool.and_eq_true, decide_eq_true_eq, decide_eq_true_eq]
  omega
/-! ### steps of a reading: each a row of its own -/
local macro_rules | `(tactic| walk_at "ne") => `(tactic| first
  | assumption
  | (apply Ne.symm; assumption)
  | (apply neo; assumption; walk_at "hp")
  | (apply Ne.symm; apply neo; assumption; walk_at "hp"))
local macro_rules | `(tactic| walk_at "hp") => `(tactic| first
  | assumption
  | exact upd_same
  | (apply lift_ne; walk_at "hp"; walk_at "ne")
  | (apply Same.up; assumption; walk_at "hp"))
local macro_rules | `(tactic| walk_at "same") => `(tactic| first
  | assumption
  | exact Same.refl _
  | (apply Same.new; walk_at "same"; walk_at "fr")
  | (apply same_trans; assumption; walk_at "same"))
local macro_rules | `(tactic| walk_at "fr") => `(tactic| first
  | assumption
  | (apply same_free; assumption; walk_at "same"))
local macro_rules | `(tactic| walk_at "sq") => `(tactic| first
  | assumption
  | (apply SqL.of; walk_at "hp")
  | (apply same_seq; assumption; walk_at "same"))
local macro_rules | `(tactic| walk_at "sqt") => `(tactic| first
  | assumption
  | (apply SqT.of; walk_at "hp")
  | (apply same_sqt; assumption; walk_at "same"))
local macro_rules | `(tactic| walk_at "nw") => `(tactic| first
  | assumption
  | (apply News.mut; walk_at "nw"; (first | assumption | (refine News.notin (by assumption) ?_; assumption)))
  | (apply News.same; walk_at "nw"; walk_at "same"))
/-! one step -/
local macro_rules | `(tactic| walk_at "go1") => `(tactic| first
  | with_reducible refine r_seq ?_
  | with_reducible refine r_asgN ?_
  | with_reducible refine r_set ?_
  | with_reducible refine r_ret ?_
  | with_reducible refine r_drop ?_
  | with_reducible refine r_if ?_
  | with_reducible refine r_next ?_
  | ((with_reducible apply r_nxD); with_reducible refine r_nx ?_)
  | ((with_reducible apply r_rtD); with_reducible refine r_rt ?_)
  | with_reducible refine r_par ?_
  | with_reducible refine k_par ?_
  | with_reducible refine r_fld ?_
  | ((with_reducible apply r_aug); exact rfl)
  | with_reducible refine i_ip ?_
  | ((with_reducible apply e_var); exact rfl)
  | with_reducible refine e_c ?_
  | with_reducible refine e_op ?_
  | with_reducible refine e_un ?_
  | with_reducible refine o_I0 ?_
  | with_reducible refine o_neg ?_
  | with_reducible refine o_eqI ?_
  | with_reducible refine o_neI ?_
  | with_reducible refine o_eqB ?_
  | with_reducible refine o_neB ?_
  | with_reducible refine o_eqS ?_
  | with_reducible refine o_neS ?_
  | with_reducible refine a_nil ?_
  | with_reducible refine a_cons ?_
  | with_reducible refine e_cb ?_
  | with_reducible refine e_call ?_
  | with_reducible refine e_make ?_
  | with_reducible refine e_meth ?_
  | with_reducible refine e_fld ?_
  | with_reducible refine e_lst ?_
  | with_reducible refine e_tup ?_
  | with_reducible refine e_bm ?_
  | with_reducible refine e_bm0 ?_
  | with_reducible refine e_rev ?_
  | with_reducible refine e_sl ?_
  | with_reducible refine e_nopart ?_
  | with_reducible refine e_part ?_
  | with_reducible refine i_ok ?_
  | with_reducible refine e_lenset ?_
  | with_reducible refine e_listRg1 ?_
  | with_reducible refine t_test ?_
  | with_reducible refine t_B ?_
  | with_reducible refine b_ok ?_
  | with_reducible refine t_and ?_
  | with_reducible refine t_or ?_
  | with_reducible refine t_not ?_
  | with_reducible refine v_and ?_
  | with_reducible refine v_or ?_
  | with_reducible refine v_not ?_
  | with_reducible refine e_if ?_
  | with_reducible refine e_chain ?_
  | with_reducible refine e_chain3 ?_
  | with_reducible refine iteT ?_
  | with_reducible refine iteF ?_
  | with_reducible refine ite_nT ?_
  | with_reducible refine ite_nF ?_
  | with_reducible refine r_forL ?_
  | with_reducible refine r_forT ?_
  | with_reducible refine r_forE ?_
  | with_reducible refine r_forR1 ?_
  | with_reducible refine r_forR2 ?_
  | with_reducible refine e_lcL ?_
  | with_reducible refine e_lcR1 ?_
  | with_reducible refine e_lcR2 ?_
  | with_reducible refine r_dput ?_
  | with_reducible refine e_dget ?_
  | with_reducible refine e_dnin ?_
  | with_reducible refine c_max2 ?_
  | with_reducible refine c_min2 ?_
  | ((with_reducible apply c_isiI); (first | exact (show kitB "int" _ = some true by decide +kernel) | exact (show kitB "int" _ = some false by decide +kernel)))
  | ((with_reducible apply m_ty); walk_at "sq"))
local macro_rules | `(tactic| walk_at "go2") => `(tactic| first
  | ((with_reducible apply o_ixI); walk_at "sq"; omega)
  | ((with_reducible refine o_mod ?_ ?_); omega)
  | ((with_reducible refine o_fdiv ?_ ?_); omega)
  | ((with_reducible refine o_mulR ?_ ?_); omega)
  | ((with_reducible refine o_mulL ?_ ?_); omega)
  | ((with_reducible apply c_lenM); walk_at "sq")
  | ((with_reducible apply c_all); walk_at "sq")
  | ((with_reducible apply c_any); walk_at "sq")
  | ((with_reducible apply o_in); walk_at "sq")
  | ((with_reducible apply o_nin); walk_at "sq")
  | ((with_reducible apply o_ixB); walk_at "sq"; omega)
  | ((with_reducible apply m_setB); walk_at "hp"; omega)
  | ((with_reducible apply m_appR); walk_at "hp"; omega)
  | ((with_reducible apply m_ins); walk_at "hp"; omega; omega)
  | ((with_reducible apply m_appM); walk_at "hp"; exact rfl; omega)
  | ((with_reducible apply m_setI); walk_at "hp"; omega))
local macro_rules | `(tactic| walk_at "d") => `(tactic| try dsimp only)
local macro_rules | `(tactic| walk_at "k") => `(tactic| try dsimp only [cxOf, Cx.nox, Cx.blk])
local macro_rules | `(tactic| walk_at "go") => `(tactic| repeat (first | walk_at "go1" | walk_at "go2"))

section
variable {P : Program} {w : World} {K : PySem.W.Frag} {mg : Str → Option Value} {base : Heap} {C_Exchanged C_Fronted C_Ended C_Put C_Answer C_OrderError C_BadRow C_BadNumber C_BadRings C_Unlike C_BadText : Addr} (T : Top K mg C_Exchanged C_Fronted C_Ended C_Put C_Answer C_OrderError C_BadRow C_BadNumber C_BadRings C_Unlike C_BadText)
include T
def sp_check (K : PySem.W.Frag) (C : Addr) : Sp := fun vs H Q E => ∃ (a : Addr) (ns : List Int), vs = [.ref a] ∧ SqL K H a (ns.map V.int) ∧ ns.length ≤ 1000 ∧ (IsRow ns → ∀ H', Same H H' → Q .non H') ∧ (¬ IsRow ns → ∀ H', Same H H' → E (.ref C) none H')
theorem okY_check_row : CqN P w K mg base 2 "check_row" (sp_check K C_BadRow) := by
  have c_is_number := ok_is_number (P := P) (w := w) (base := base) T
  obtain ⟨tM, g_MOST⟩ := T.g_MOST
  refine Cq.mkN T.d_check_row sc_check_row ?_ ?_
  · rintro vs H Q E ⟨a, ns, rfl, _⟩; rfl
  · rintro f cdv A outer s H vs Q E hr tk ⟨a, ns, rfl, hS, hl, q1, q2⟩
    refine ⟨_, pss_cons (ps_if (PW.pt (pw_or (pt_not (pt_val (pe_callB (r := rIsi K) call_isi (by rfl) T.b_isinstance PyProof.Rows.boot_isinstance (pa_cons (pv 0) (pa_cons (pe_bltn (v := .ty "list") (by rfl) T.b_list PyProof.Rows.boot_list rfl) pa_nil))))) (pw_or (pt_cmpR op_gt (pe_callB (r := rLen2 K) call_len_seq (by rfl) T.b_len PySem.boot_len (pa_cons (pv 0) pa_nil)) (pe_glob (v := .int 1000000) (by rfl) g_MOST ⟨_, rfl⟩) (nomark _)) (pw_or1 (pt_not (pt_val (pe_callB (r := rAll K) (cr_all rfl) (by rfl) T.b_all PyProof.Rows.boot_all (pa_cons (pe_lc (own := [("thing", 1)]) (g := gName 1) (tt := tYes) rfl sc_check_row.nd (pi_list (pv 0)) (blkOk_by (own := [("thing", 1)]) (N := N_check_row) (sc := defScope s_check_row) (by decide +kernel)) (fun _ _ _ _ _ => (pg_name (i := 1) sc_check_row.nd rfl (Or.inl rfl))) (fun _ _ _ _ _ => pts_nil) (fun _ _ _ _ _ => (pe_cc c_is_number (hr.mono (by decide)) (by rfl) (pa_cons (pv 1) (pa_cons pe_int (pa_cons (pe_op op_sub (pe_callB (r := rLen2 K) call_len_seq (by rfl) T.b_len PySem.boot_len (pa_cons (pv 0) pa_nil)) pe_int) pa_nil)))))) pa_nil)))))))) (pss_one (L2N.ps_raise rfl tk (L2N.pmk_own PySem.F.excBase_ValueError T.x_BadRow T.c_BadRow T.k_BadRow (raises_own T.sb_BadRow T.st_BadRow) rfl))) pss_nil) (pss_one (ps_if (pt_cmpR op_ne (pe_lenSetG (by rfl) T.b_len (by rfl) T.b_set (pv 0)) (pe_callB (r := rLen2 K) call_len_seq (by rfl) T.b_len PySem.boot_len (pa_cons (pv 0) pa_nil)) (nomark _)) (pss_one (L2N.ps_raise rfl tk (L2N.pmk_own PySem.F.excBase_ValueError T.x_BadRow T.c_BadRow T.k_BadRow (raises_own T.sb_BadRow T.st_BadRow) rfl))) pss_nil)), ?_⟩
    walk_at "k"
    walk_at "go"
    refine c_isiL hS (show kitB "list" "list" = some true by decide +kernel) ?_
    walk_at "go"
    refine ite_decN (by omega) ?_
    walk_at "go"
    refine k_lcV (xs := ns) (f := V.int) (h := V.bl) (fun x => isNum (.int x) 0 ((ns.length : Int) - 1)) hS (by omega) (fun _ => rfl) ?_ ?_
    · intro i x H2 R' hx s2 k2
      walk_at "go"
      exact ⟨.int x, 0, _, "int", rfl, .base (.int x), k2 H2 (Same.refl _)⟩
    · intro D H2 nD s2 hD
      walk_at "go"
      cases hb : (ns.map fun x => isNum (.int x) 0 ((ns.length : Int) - 1)).all id with
      | false =>
        refine ite_nF ?_
        exact q2 (fun R => by have := (nums_bd ns).mpr R.bd; rw [hb] at this; cases this) H2 s2
      | true =>
        refine ite_nT ?_
        have bd := (nums_bd ns).mp hb
        walk_at "go"
        refine c_lenset (s2.seq hS) (by omega) ?_
        walk_at "go"
        refine ite_ndec (fun h => ?_) (fun h => ?_)
        · exact q2 (fun R => h (by rw [(nodup_len_eq ns).mpr R.nd])) H2 s2
        · walk_at "go"
          exact q1 ⟨hl, bd, (nodup_len_eq ns).mp (by omega)⟩ H2 s2
def sp_written (K : PySem.W.Frag) : Sp := fun vs H Q _ => ∃ (a : Addr) (ns : List Int), vs = [.ref a] ∧ SqL K H a (ns.map V.int) ∧ IsRow ns ∧ ∀ H', Same H H' → Q (.str (writeS ns)) H'
theorem ok_written : Cc P w K mg base 3 "written" (sp_written K) := by
  have c_check_row := ok_check_row (P := P) (w := w) (base := base) T
  refine Cc.mk' T.d_written sc_written ?_ ?_
  · rintro vs H Q E ⟨a, ns, rfl, _⟩; rfl
  · rintro f cdv A outer s H vs Q E hr ⟨a, ns, rfl, hS, R, q⟩
    have hl := R.len
    refine ⟨_, (pss_cons (ps_expr (pe_cc c_check_row (hr.mono (by decide)) (by rfl) (pa_cons (pv 0) pa_nil)))
      (pss_cons (ps_if (pt_cmpR op_eq (pe_callB (r := rLen2 K) call_len_seq (by rfl) T.b_len PySem.boot_len (pa_cons (pv 0) pa_nil)) pe_int (nomark _)) (pss_one (ps_ret pe_str)) pss_nil)
      (pss_one (ps_ret (pe_join pe_str (pe_lc (own := [("thing", 1)]) (g := gName 1) (tt := tYes) rfl sc_written.nd (pi_list (pv 0)) (blkOk_by (own := [("thing", 1)]) (N := N_written) (sc := defScope s_written) (by decide +kernel)) (fun _ _ _ _ _ => (pg_name (i := 1) sc_written.nd rfl (Or.inl rfl))) (fun _ _ _ _ _ => pts_nil) (fun _ _ _ _ _ => (pe_callTy call_str_int (by rfl) T.b_str PyProof.Rows.boot_str (pa_cons (pv 1) pa_nil))))))))), ?_⟩
    walk_at "k"
    walk_at "go"
    refine ⟨a, ns, rfl, hS, R, fun H1 s1 => ?_⟩
    have hS1 := s1.seq hS
    walk_at "go"
    refine ite_dec (fun h => ?_) (fun h => ?_)
    · walk_at "go"
      have e : ns = [] := List.length_eq_zero_iff.mp (by omega)
      have q := q H1 s1
      unfold writeS at q
      rw [if_pos e] at q
      exact q
    · walk_at "go"
      refine e_m1 ?_
      walk_at "go"
      refine s_ok ?_
      walk_at "go"
      refine k_lcV (xs := ns) (f := V.int) (h := V.str) (fun n => Str.ofString (toString n)) hS1 (by omega) (fun _ => rfl) ?_ ?_
      · intro i x H2 R' hx s2 k2
        walk_at "go"
        have b := R.bd x (List.mem_of_getElem? hx)
        exact ⟨x, rfl, num_log b.1 (by omega), k2 H2 (Same.refl _)⟩
      · intro D H2 nD s2 hD
        refine ⟨_, D, _, rfl, rfl, .inl (SqL.of hD), ?_, ?_⟩
        · have h2 := strs_sum R
          rw [List.length_map]
          have h3 : (Str.ofString " ").length = 1 := by decide +kernel
          rw [h3]
          omega
        · have q := q H2 (s1.trans s2)
          unfold writeS at q
          rw [if_neg (fun e => h (by rw [e]; rfl))] at q
          exact q
end
end Bo

namespace Bo
open PySem PySem.Spec PyProof.Rows L2
theorem dash_beq (t : Str) : (t == Str.ofString "-") = decide (t = "-") := by
  rw [Bool.eq_iff_iff, decide_eq_true_eq, beq_iff_eq]
theorem o_inN {K : PySem.W.Frag} {H : Hp} {Q : VK} {p : Addr} {xs : List V} {b : Bool} (h : SqL K H p xs) (fl : xs.all flatV = true) (e : inV .non xs = b) (q : Q (.bl b) H) : rIn K false .non (.ref p) H Q :=
  ⟨p, xs, rfl, .inl h, rfl, fl, by rw [if_neg Bool.false_ne_true, e]; exact q⟩
theorem flat_opt (os : List (Option Int)) : (os.map optV).all flatV = true := by
  rw [List.all_map, List.all_eq_true]
  intro o _
  cases o <;> rfl
theorem in_opt (os : List (Option Int)) : inV .non (os.map optV) = os.any Option.isNone := by
  unfold inV
  rw [List.any_map]
  congr 1
  funext o
  cases o <;> rfl
theorem opt_some {ws : List Str} (h : ∀ w ∈ ws, okW w) : (ws.map numOf).map optV = (ws.map numW).map V.int := by
  rw [List.map_map, List.map_map]
  refine List.map_congr_left fun w hw => ?_
  show optV (numOf w) = V.int (numW w)
  unfold numOf
  rw [if_pos (h w hw)]; rfl
theorem none_in {ws : List Str} : (ws.map numOf).any Option.isNone = true ↔ ∃ w ∈ ws, ¬ okW w := by
  rw [List.any_map, List.any_eq_true]
  refine exists_congr fun w => and_congr_right fun _ => ?_
  show (numOf w).isNone = true ↔ _
  unfold numOf
  split <;> simp_all
/-! ### steps of a reading: each a row of its own -/
local macro_rules | `(tactic| walk_at "ne") => `(tactic| first
  | assumption
  | (apply Ne.symm; assumption)
  | (apply neo; assumption; walk_at "hp")
  | (apply Ne.symm; apply neo; assumption; walk_at "hp"))
local macro_rules | `(tactic| walk_at "hp") => `(tactic| first
  | assumption
  | exact upd_same
  | (apply lift_ne; walk_at "hp"; walk_at "ne")
  | (apply Same.up; assumption; walk_at "hp"))
local macro_rules | `(tactic| walk_at "same") => `(tactic| first
  | assumption
  | exact Same.refl _
  | (apply Same.new; walk_at "same"; walk_at "fr")
  | (apply same_trans; assumption; walk_at "same"))
local macro_rules | `(tactic| walk_at "fr") => `(tactic| first
  | assumption
  | (apply same_free; assumption; walk_at "same"))
local macro_rules | `(tactic| walk_at "sq") => `(tactic| first
  | assumption
  | (apply SqL.of; walk_at "hp")
  | (apply same_seq; assumption; walk_at "same"))
local macro_rules | `(tactic| walk_at "sqt") => `(tactic| first
  | assumption
  | (apply SqT.of; walk_at "hp")
  | (apply same_sqt; assumption; walk_at "same"))
local macro_rules | `(tactic| walk_at "nw") => `(tactic| first
  | assumption
  | (apply News.mut; walk_at "nw"; (first | assumption | (refine News.notin (by assumption) ?_; assumption)))
  | (apply News.same; walk_at "nw"; walk_at "same"))
/-! one step -/
local macro_rules | `(tactic| walk_at "go1") => `(tactic| first
  | with_reducible refine r_seq ?_
  | with_reducible refine r_asgN ?_
  | with_reducible refine r_set ?_
  | with_reducible refine r_ret ?_
  | with_reducible refine r_drop ?_
  | with_reducible refine r_if ?_
  | with_reducible refine r_next ?_
  | ((with_reducible apply r_nxD); with_reducible refine r_nx ?_)
  | ((with_reducible apply r_rtD); with_reducible refine r_rt ?_)
  | with_reducible refine r_par ?_
  | with_reducible refine k_par ?_
  | with_reducible refine r_fld ?_
  | ((with_reducible apply r_aug); exact rfl)
  | with_reducible refine i_ip ?_
  | ((with_reducible apply e_var); exact rfl)
  | with_reducible refine e_c ?_
  | with_reducible refine e_op ?_
  | with_reducible refine e_un ?_
  | with_reducible refine o_I0 ?_
  | with_reducible refine o_neg ?_
  | with_reducible refine o_eqI ?_
  | with_reducible refine o_neI ?_
  | with_reducible refine o_eqB ?_
  | with_reducible refine o_neB ?_
  | with_reducible refine o_eqS ?_
  | with_reducible refine o_neS ?_
  | with_reducible refine a_nil ?_
  | with_reducible refine a_cons ?_
  | with_reducible refine e_cb ?_
  | with_reducible refine e_call ?_
  | with_reducible refine e_make ?_
  | with_reducible refine e_meth ?_
  | with_reducible refine e_fld ?_
  | with_reducible refine e_lst ?_
  | with_reducible refine e_tup ?_
  | with_reducible refine e_bm ?_
  | with_reducible refine e_bm0 ?_
  | with_reducible refine e_rev ?_
  | with_reducible refine e_sl ?_
  | with_reducible refine e_nopart ?_
  | with_reducible refine e_part ?_
  | with_reducible refine i_ok ?_
  | with_reducible refine e_lenset ?_
  | with_reducible refine e_listRg1 ?_
  | with_reducible refine t_test ?_
  | with_reducible refine t_B ?_
  | with_reducible refine b_ok ?_
  | with_reducible refine t_and ?_
  | with_reducible refine t_or ?_
  | with_reducible refine t_not ?_
  | with_reducible refine v_and ?_
  | with_reducible refine v_or ?_
  | with_reducible refine v_not ?_
  | with_reducible refine e_if ?_
  | with_reducible refine e_chain ?_
  | with_reducible refine e_chain3 ?_
  | with_reducible refine iteT ?_
  | with_reducible refine iteF ?_
  | with_reducible refine ite_nT ?_
  | with_reducible refine ite_nF ?_
  | with_reducible refine r_forL ?_
  | with_reducible refine r_forT ?_
  | with_reducible refine r_forE ?_
  | with_reducible refine r_forR1 ?_
  | with_reducible refine r_forR2 ?_
  | with_reducible refine e_lcL ?_
  | with_reducible refine e_lcR1 ?_
  | with_reducible refine e_lcR2 ?_
  | with_reducible refine r_dput ?_
  | with_reducible refine e_dget ?_
  | with_reducible refine e_dnin ?_
  | with_reducible refine c_max2 ?_
  | with_reducible refine c_min2 ?_
  | ((with_reducible apply c_isiI); (first | exact (show kitB "int" _ = some true by decide +kernel) | exact (show kitB "int" _ = some false by decide +kernel)))
  | ((with_reducible apply m_ty); walk_at "sq"))
local macro_rules | `(tactic| walk_at "go2") => `(tactic| first
  | ((with_reducible apply o_ixI); walk_at "sq"; omega)
  | ((with_reducible refine o_mod ?_ ?_); omega)
  | ((with_reducible refine o_fdiv ?_ ?_); omega)
  | ((with_reducible refine o_mulR ?_ ?_); omega)
  | ((with_reducible refine o_mulL ?_ ?_); omega)
  | ((with_reducible apply c_lenM); walk_at "sq")
  | ((with_reducible apply c_all); walk_at "sq")
  | ((with_reducible apply c_any); walk_at "sq")
  | ((with_reducible apply o_in); walk_at "sq")
  | ((with_reducible apply o_nin); walk_at "sq")
  | ((with_reducible apply o_ixB); walk_at "sq"; omega)
  | ((with_reducible apply m_setB); walk_at "hp"; omega)
  | ((with_reducible apply m_appR); walk_at "hp"; omega)
  | ((with_reducible apply m_ins); walk_at "hp"; omega; omega)
  | ((with_reducible apply m_appM); walk_at "hp"; exact rfl; omega)
  | ((with_reducible apply m_setI); walk_at "hp"; omega))
local macro_rules | `(tactic| walk_at "d") => `(tactic| try dsimp only)
local macro_rules | `(tactic| walk_at "k") => `(tactic| try dsimp only [cxOf, Cx.nox, Cx.blk])
local macro_rules | `(tactic| walk_at "go") => `(tactic| repeat (first | walk_at "go1" | walk_at "go2"))

section
variable {P : Program} {w : World} {K : PySem.W.Frag} {mg : Str → Option Value} {base : Heap} {C_Exchanged C_Fronted C_Ended C_Put C_Answer C_OrderError C_BadRow C_BadNumber C_BadRings C_Unlike C_BadText : Addr} (T : Top K mg C_Exchanged C_Fronted C_Ended C_Put C_Answer C_OrderError C_BadRow C_BadNumber C_BadRings C_Unlike C_BadText)
include T
/-- what reads well, what does not -/
def sp_read (K : PySem.W.Frag) (C : Addr) : Sp := fun vs H Q E => ∃ x, vs = [x] ∧ ((NoS K H x ∧ ∀ H', Same H H' → E (.ref C) none H') ∨ ∃ t : Str, x = .str t ∧ t.length ≤ 9000 ∧ (wordsS t).length ≤ 1000 ∧
  (∀ ns, readS t = some ns → ∀ p H', Same H H' → H p = none → H' p = some (oL ns) → Q (.ref p) H') ∧ (readS t = none → ∀ H', Same H H' → E (.ref C) none H'))
theorem okX_read : CqC P w K mg base 3 "read" (sp_read K C_BadText) := by
  have x_number_in := okX_number_in (P := P) (w := w) (base := base) T
  have x_check := okY_check_row (P := P) (w := w) (base := base) T
  refine Cq.mkC T.d_read sc_read ?_ ?_
  · rintro vs H Q E ⟨x, rfl, _⟩; rfl
  · rintro f cdv A outer s H vs Q E hr tc ⟨x, rfl, hx⟩
    have tk := tc.n
    refine ⟨_, pss_cons (ps_if (pt_not (pt_val (pe_callB (r := rIsi K) call_isi (by rfl) T.b_isinstance PyProof.Rows.boot_isinstance (pa_cons (pv 0) (pa_cons (pe_bltn (v := .ty "str") (by rfl) T.b_str PyProof.Rows.boot_str rfl) pa_nil))))) (pss_one (L2N.ps_raise rfl tk (L2N.pmk_own PySem.F.excBase_ValueError T.x_BadText T.c_BadText T.k_BadText (raises_own T.sb_BadText T.st_BadText) rfl))) pss_nil) (pss_cons (ps_if (pt_cmpR op_eq (pv 0) pe_str (nomark _)) (pss_one (ps_ret (pe_lst pa_nil))) pss_nil)
      (pss_cons (ps_setLcX (i := 1) (own := [("word", 2)]) (g := gName 2) rfl sc_read.nd rfl rfl tk rfl rfl (sw_true rfl rfl rfl (by decide +kernel)) (pi_list (pe_split (pv 0) pe_str)) (blkOk_by (own := [("word", 2)]) (N := N_read) (sc := defScope s_read) (by decide +kernel))
        (fun _ _ _ _ _ _ => (pg_name (i := 2) sc_read.nd rfl (Or.inl rfl))) (fun _ _ _ _ _ _ px => pe_cqS x_number_in (hr.mono (by decide)) (by rfl) px (pa_cons (pv 2) pa_nil)))
      (pss_cons (ps_try_refuse (Wout := fun cls d _ H => E cls d H) (tb := fun W => tDrop (tCallS (sp_check K C_BadRow) (WE W) (tCons (tVar 1) tNil))) rfl rfl ⟨rfl, by decide, .inl T.c_BadRow⟩ rfl (fun hd => L2H.passesAt_of rfl hd) tc
          (fun W pn xe tk' => pss_one (ps_expr (by exact (pe_cqS x_check (hr.mono (by decide)) (by rfl) (fun σ => L2N.passAt tk' σ) (pa_cons (pv 1) pa_nil)))))
          (fun a pn => L2N.pmk_own PySem.F.excBase_ValueError T.x_BadText T.c_BadText T.k_BadText (raises_own T.sb_BadText T.st_BadText) rfl))
        (pss_one (ps_ret (pv 1)))))), ?_⟩
    walk_at "k"
    walk_at "go"
    rcases hx with ⟨⟨ty, tx, kl⟩, qE⟩ | ⟨t, rfl, hl, hw, qR, qE⟩
    · refine c_isi tx kl ?_
      walk_at "go"
      exact qE H (Same.refl _)
    · refine c_isi (.base (.str t)) (show kitB "str" "str" = some true by decide +kernel) ?_
      walk_at "go"
      rw [dash_beq]
      refine ite_dec (fun h => ?_) (fun h => ?_)
      · walk_at "go"
        refine l_new (Nat.zero_le _) fun p np => ?_
        walk_at "go"
        exact qR [] (by unfold readS; rw [if_pos h]) p _ (Same.one np) np upd_same
      · walk_at "go"
        refine e_m1 ?_
        walk_at "go"
        refine s_ok ?_
        walk_at "go"
        refine ⟨t, _, rfl, rfl, by decide +kernel, sz (by omega), fun p np => ?_⟩
        have s1 : Same H (upd H p (.lst ((wordsS t).map V.str))) := Same.one np
        refine k_lcG (xs := wordsS t) (f := V.str) (h := V.int) numW okW (SqL.of upd_same) (by omega) (fun _ => rfl) ?_ ?_
        · intro i x H2 R' hx s2 k2
          have hm := List.mem_of_getElem? hx
          have hle := word_len hm
          refine e_callS ?_
          walk_at "go"
          exact ⟨x, rfl, by omega, fun ok => k2 ok H2 (Same.refl _), fun no => qE (read_bad h hm no) H2 (s1.trans s2)⟩
        · intro D H2 ok nD s2 hD
          have e1 := read_words h (numsOf_ok ok)
          have ln : ((wordsS t).map numW).length ≤ 1000 := by rw [List.length_map]; exact hw
          have s02 := s1.trans s2
          walk_at "go"
          refine e_callS ?_
          walk_at "go"
          refine ⟨D, _, rfl, SqL.of hD, ln, fun R H3 s3 => ?_, fun nR H3 s3 => ?_⟩
          · walk_at "go"
            rw [if_pos ((isRow_isAll ln).mpr R)] at e1
            exact qR _ e1 D H3 (s02.trans s3) (s1.free nD) (s3 _ _ hD)
          · rw [if_neg (fun z => nR ((isRow_isAll ln).mp z))] at e1
            exact ⟨T.er_BadRow, fun a na => qE e1 _ (Same.new (s02.trans s3) ((s02.trans s3).free na))⟩
def sp__law_in (K : PySem.W.Frag) : Sp := fun vs H Q _ => ∃ t : Str, vs = [.str t] ∧ t.length ≤ 9000 ∧ (wordsS t).length ≤ 1000 ∧ (∀ ns, readS t = some ns → ∀ p H', Same H H' → H p = none → H' p = some (oL ns) → Q (.ref p) H') ∧ (readS t = none → ∀ H', Same H H' → Q .non H')
theorem ok__law_in : Cc P w K mg base 2 "_law_in" (sp__law_in K) := by
  have c__law_number := ok__law_number (P := P) (w := w) (base := base) T
  refine Cc.mk' T.d__law_in sc__law_in ?_ ?_
  · rintro vs H Q E ⟨x, rfl, _⟩; rfl
  · rintro f cdv A outer s H vs Q E hr ⟨t, rfl, hl, hw, qR, qE⟩
    refine ⟨_, (pss_cons (ps_if (pt_cmpR op_eq (pv 0) pe_str (nomark _)) (pss_one (ps_ret (pe_lst pa_nil))) pss_nil)
      (pss_cons (ps_setLc (i := 1) (own := [("_law_word", 2)]) (g := gName 2) (tt := tYes) rfl sc__law_in.nd rfl rfl (sw_true rfl rfl rfl (by decide +kernel)) (pi_list (pe_split (pv 0) pe_str)) (blkOk_by (own := [("_law_word", 2)]) (N := N__law_in) (sc := defScope s__law_in) (by decide +kernel)) (fun _ _ _ _ _ => (pg_name (i := 2) sc__law_in.nd rfl (Or.inl rfl))) (fun _ _ _ _ _ => pts_nil) (fun _ _ _ _ _ => (pe_cc c__law_number (hr.mono (by decide)) (by rfl) (pa_cons (pv 2) pa_nil))))
      (pss_cons (ps_if (PW.pt (pw_or (pt_cmpR (r := rIn K false) op_in_seq pe_non (pv 1) (by rfl)) (pw_or1 (pt_cmpR (r := rNeD K) (op_neD hr.units) (pe_callB (r := rSortedI K) cr_sortedI (by rfl) T.b_sorted PyProof.Rows.boot_sorted (pa_cons (pv 1) pa_nil)) (pe_listRg rfl (by rfl) T.b_list (prg_1 (by rfl) T.b_range (pe_callB (r := rLen2 K) call_len_seq (by rfl) T.b_len PySem.boot_len (pa_cons (pv 1) pa_nil)))) (nomark _))))) (pss_one (ps_ret pe_non)) pss_nil)
      (pss_one (ps_ret (pv 1)))))), ?_⟩
    walk_at "k"
    walk_at "go"
    rw [dash_beq]
    refine ite_dec (fun h => ?_) (fun h => ?_)
    · walk_at "go"
      refine l_new (Nat.zero_le _) fun p np => ?_
      walk_at "go"
      exact qR [] (by unfold readS; rw [if_pos h]) p _ (Same.one np) np upd_same
    · walk_at "go"
      refine e_m1 ?_
      walk_at "go"
      refine s_ok ?_
      walk_at "go"
      refine ⟨t, _, rfl, rfl, by decide +kernel, sz (by omega), fun p np => ?_⟩
      have s1 : Same H (upd H p (.lst ((wordsS t).map V.str))) := Same.one np
      refine k_lcV (xs := wordsS t) (f := V.str) (h := optV) numOf (SqL.of upd_same) (by omega) (fun _ => rfl) ?_ ?_
      · intro i x H2 R' hx s2 k2
        have hm := List.mem_of_getElem? hx
        have hle := word_len hm
        walk_at "go"
        exact ⟨x, rfl, by omega, k2 H2 (Same.refl _)⟩
      · intro D H2 nD s2 hD
        have s02 := s1.trans s2
        walk_at "go"
        refine o_inN (SqL.of hD) (flat_opt _) (in_opt _) ?_
        walk_at "go"
        refine ite_bl (fun hb => ?_) (fun hb => ?_)
        · walk_at "go"
          obtain ⟨w0, hm, no⟩ := none_in.mp hb
          exact qE (read_bad h hm no) H2 s02
        · have ok : ∀ w ∈ wordsS t, okW w := fun w hw => Decidable.byContradiction fun no => by rw [none_in.mpr ⟨w, hw, no⟩] at hb; cases hb
          have e1 := read_words h (numsOf_ok ok)
          have ln : ((wordsS t).map numW).length ≤ 1000 := by rw [List.length_map]; exact hw
          rw [opt_some ok] at hD
          generalize (wordsS t).map numW = ns at hD e1 ln
          walk_at "go"
          refine c_sorted (SqL.of hD) fun ns' l pm so nl => ?_
          have hD2 : (upd H2 l (.lst (ns'.map V.int))) D = some (.lst (ns.map V.int)) := by walk_at "hp"
          walk_at "go"
          refine k_listRg (by omega) fun p3 np3 => ?_
          refine o_neL (ns := ns') (ms := upTo ns.length) (by walk_at "sq") (by walk_at "sq") ?_
          rw [sorted_isAll pm so]
          walk_at "go"
          cases hc : isAll ns ns.length with
          | false =>
            walk_at "go"
            rw [if_neg (by rw [hc]; exact Bool.false_ne_true)] at e1
            exact qE e1 _ (by walk_at "same")
          | true =>
            walk_at "go"
            rw [if_pos hc] at e1
            exact qR ns e1 D _ (by walk_at "same") (s1.free nD) (by walk_at "hp")
end
end Bo

namespace Bo
open PySem PySem.Spec PyProof.Rows L2
/-- what read refuses -/
def BadX (K : PySem.W.Frag) (H : Hp) (x : V) : Prop := NoS K H x ∨ ∃ t : Str, x = .str t ∧ t.length ≤ 9000 ∧ (wordsS t).length ≤ 1000 ∧ readS t = none
section
variable {K : PySem.W.Frag} {H : Hp} {Q : VK}
theorem read_refuses {C : Addr} {x : V} {E : XK} (b : BadX K H x) (h : ∀ H', Same H H' → E (.ref C) none H') : sp_read K C [x] H Q E := by
  refine ⟨x, rfl, ?_⟩
  rcases b with b | ⟨t, rfl, l1, l2, e⟩
  · exact .inl ⟨b, h⟩
  · exact .inr ⟨t, rfl, l1, l2, fun ns e2 => by rw [e] at e2; (cases e2), fun _ => h⟩
theorem k_isE {D a C : Addr} {b : Bool} (e : PySem.W.kitOne K (.ref D) (.ref C) = some b) (q : Q (.bl b) H) : rIsE K D a [.ref a, .ref C] H Q := ⟨.ref C, .ref C, b, rfl, fun _ h => h, e, q⟩
theorem k_isET {D a : Addr} {n : String} {b : Bool} (e : PySem.W.kitOne K (.ref D) (.type n) = some b) (q : Q (.bl b) H) : rIsE K D a [.ref a, .ty n] H Q := ⟨.ty n, .type n, b, rfl, fun _ h => h, e, q⟩
theorem k_anyC {c : Value} {p : Addr} {bs : List Bool} (co : CtxOk c H) (h : SqL K H p (bs.map V.bl)) (q : Q (.bl (bs.any id)) H) : rAnyC K c [.ref p] H Q := ⟨co, p, bs, rfl, h, q⟩
end
abbrev tIs (K : PySem.W.Frag) (D a : Addr) (c : V) : TE := tCB (rIsE K D a) (tCons (tVar 1) (tCons (tC c) tNil))
/-! ### steps of a reading: each a row of its own -/
local macro_rules | `(tactic| walk_at "ne") => `(tactic| first
  | assumption
  | (apply Ne.symm; assumption)
  | (apply neo; assumption; walk_at "hp")
  | (apply Ne.symm; apply neo; assumption; walk_at "hp"))
local macro_rules | `(tactic| walk_at "hp") => `(tactic| first
  | assumption
  | exact upd_same
  | (apply lift_ne; walk_at "hp"; walk_at "ne")
  | (apply Same.up; assumption; walk_at "hp"))
local macro_rules | `(tactic| walk_at "same") => `(tactic| first
  | assumption
  | exact Same.refl _
  | (apply Same.new; walk_at "same"; walk_at "fr")
  | (apply same_trans; assumption; walk_at "same"))
local macro_rules | `(tactic| walk_at "fr") => `(tactic| first
  | assumption
  | (apply same_free; assumption; walk_at "same"))
local macro_rules | `(tactic| walk_at "sq") => `(tactic| first
  | assumption
  | (apply SqL.of; walk_at "hp")
  | (apply same_seq; assumption; walk_at "same"))
local macro_rules | `(tactic| walk_at "sqt") => `(tactic| first
  | assumption
  | (apply SqT.of; walk_at "hp")
  | (apply same_sqt; assumption; walk_at "same"))
local macro_rules | `(tactic| walk_at "nw") => `(tactic| first
  | assumption
  | (apply News.mut; walk_at "nw"; (first | assumption | (refine News.notin (by assumption) ?_; assumption)))
  | (apply News.same; walk_at "nw"; walk_at "same"))
/-! one step -/
local macro_rules | `(tactic| walk_at "go1") => `(tactic| first
  | with_reducible refine r_seq ?_
  | with_reducible refine r_asgN ?_
  | with_reducible refine r_set ?_
  | with_reducible refine r_ret ?_
  | with_reducible refine r_drop ?_
  | with_reducible refine r_if ?_
  | with_reducible refine r_next ?_
  | ((with_reducible apply r_nxD); with_reducible refine r_nx ?_)
  | ((with_reducible apply r_rtD); with_reducible refine r_rt ?_)
  | with_reducible refine r_par ?_
  | with_reducible refine k_par ?_
  | with_reducible refine r_fld ?_
  | ((with_reducible apply r_aug); exact rfl)
  | with_reducible refine i_ip ?_
  | ((with_reducible apply e_var); exact rfl)
  | with_reducible refine e_c ?_
  | with_reducible refine e_op ?_
  | with_reducible refine e_un ?_
  | with_reducible refine o_I0 ?_
  | with_reducible refine o_neg ?_
  | with_reducible refine o_eqI ?_
  | with_reducible refine o_neI ?_
  | with_reducible refine o_eqB ?_
  | with_reducible refine o_neB ?_
  | with_reducible refine o_eqS ?_
  | with_reducible refine o_neS ?_
  | with_reducible refine a_nil ?_
  | with_reducible refine a_cons ?_
  | with_reducible refine e_cb ?_
  | with_reducible refine e_call ?_
  | with_reducible refine e_make ?_
  | with_reducible refine e_meth ?_
  | with_reducible refine e_fld ?_
  | with_reducible refine e_lst ?_
  | with_reducible refine e_tup ?_
  | with_reducible refine e_bm ?_
  | with_reducible refine e_bm0 ?_
  | with_reducible refine e_rev ?_
  | with_reducible refine e_sl ?_
  | with_reducible refine e_nopart ?_
  | with_reducible refine e_part ?_
  | with_reducible refine i_ok ?_
  | with_reducible refine e_lenset ?_
  | with_reducible refine e_listRg1 ?_
  | with_reducible refine t_test ?_
  | with_reducible refine t_B ?_
  | with_reducible refine b_ok ?_
  | with_reducible refine t_and ?_
  | with_reducible refine t_or ?_
  | with_reducible refine t_not ?_
  | with_reducible refine v_and ?_
  | with_reducible refine v_or ?_
  | with_reducible refine v_not ?_
  | with_reducible refine e_if ?_
  | with_reducible refine e_chain ?_
  | with_reducible refine e_chain3 ?_
  | with_reducible refine iteT ?_
  | with_reducible refine iteF ?_
  | with_reducible refine ite_nT ?_
  | with_reducible refine ite_nF ?_
  | with_reducible refine r_forL ?_
  | with_reducible refine r_forT ?_
  | with_reducible refine r_forE ?_
  | with_reducible refine r_forR1 ?_
  | with_reducible refine r_forR2 ?_
  | with_reducible refine e_lcL ?_
  | with_reducible refine e_lcR1 ?_
  | with_reducible refine e_lcR2 ?_
  | with_reducible refine r_dput ?_
  | with_reducible refine e_dget ?_
  | with_reducible refine e_dnin ?_
  | with_reducible refine c_max2 ?_
  | with_reducible refine c_min2 ?_
  | ((with_reducible apply c_isiI); (first | exact (show kitB "int" _ = some true by decide +kernel) | exact (show kitB "int" _ = some false by decide +kernel)))
  | ((with_reducible apply m_ty); walk_at "sq"))
local macro_rules | `(tactic| walk_at "go2") => `(tactic| first
  | ((with_reducible apply o_ixI); walk_at "sq"; omega)
  | ((with_reducible refine o_mod ?_ ?_); omega)
  | ((with_reducible refine o_fdiv ?_ ?_); omega)
  | ((with_reducible refine o_mulR ?_ ?_); omega)
  | ((with_reducible refine o_mulL ?_ ?_); omega)
  | ((with_reducible apply c_lenM); walk_at "sq")
  | ((with_reducible apply c_all); walk_at "sq")
  | ((with_reducible apply c_any); walk_at "sq")
  | ((with_reducible apply o_in); walk_at "sq")
  | ((with_reducible apply o_nin); walk_at "sq")
  | ((with_reducible apply o_ixB); walk_at "sq"; omega)
  | ((with_reducible apply m_setB); walk_at "hp"; omega)
  | ((with_reducible apply m_appR); walk_at "hp"; omega)
  | ((with_reducible apply m_ins); walk_at "hp"; omega; omega)
  | ((with_reducible apply m_appM); walk_at "hp"; exact rfl; omega)
  | ((with_reducible apply m_setI); walk_at "hp"; omega))
local macro_rules | `(tactic| walk_at "d") => `(tactic| try dsimp only)
local macro_rules | `(tactic| walk_at "k") => `(tactic| try dsimp only [cxOf, Cx.nox, Cx.blk])
local macro_rules | `(tactic| walk_at "go") => `(tactic| repeat (first | walk_at "go1" | walk_at "go2"))

section
variable {P : Program} {w : World} {K : PySem.W.Frag} {mg : Str → Option Value} {base : Heap} {C_Exchanged C_Fronted C_Ended C_Put C_Answer C_OrderError C_BadRow C_BadNumber C_BadRings C_Unlike C_BadText : Addr} (T : Top K mg C_Exchanged C_Fronted C_Ended C_Put C_Answer C_OrderError C_BadRow C_BadNumber C_BadRings C_Unlike C_BadText)
include T
def sp__law_refused (K : PySem.W.Frag) : Sp := fun vs H Q _ => ∃ x, vs = [x] ∧ BadX K H x ∧ ∀ H', Same H H' → Q (.bl true) H'
theorem ok__law_refused : Cc P w K mg base 4 "_law_refused" (sp__law_refused K) := by
  have x_read := okX_read (P := P) (w := w) (base := base) T
  refine Cc.mk' T.d__law_refused sc__law_refused ?_ ?_
  · rintro vs H Q E ⟨x, rfl, _⟩; rfl
  · rintro f cdv A outer s H vs Q E hr ⟨x, rfl, bad, q⟩
    refine ⟨_, pss_cons (ps_try_asC (i := 1) (tb := fun W => tDrop (tCallS (sp_read K C_BadText) (WE W) (tCons (tVar 0) tNil)))
        (ts := fun k a cls d => fun Ed σ H => ∃ D, cls = .ref D ∧ d = none ∧ ExcC K D ∧
          (tSeq (tAsg (tLst (tCons (tIs K D a (.ref C_BadNumber)) (tCons (tIs K D a (.ref C_BadRings)) (tCons (tIs K D a (.ref C_BadRow)) tNil)))) (gName 2))
            (tSeq (tAsg (tOp rCat (tVar 2) (tLst (tCons (tIs K D a (.ref C_Unlike)) (tCons (tNotV (tIs K D a (.ty "ValueError"))) tNil)))) (gName 2))
              (tRet (tAndV (tIs K D a (.ref C_BadText)) (tNotV (tCB (rAnyC K k) (tCons (tVar 2) tNil))))))) Ed σ H)
        rfl rfl sc__law_refused.nd rfl rfl ⟨rfl, by decide, .inl T.c_OrderError⟩
        (fun W pn xe tk => pss_one (ps_expr (by exact (pe_cqC x_read (hr.mono (by decide)) (by rfl) (fun σ => passC tk σ) (pa_cons (pv 0) pa_nil)))))
        (fun k a oe cls d pn hz hf => pss_told fun D e1 e2 ec => by
          subst e1 e2
          exact (pss_cons (ps_set (i := 2) sc__law_refused.nd rfl (by first | exact Or.inl rfl | exact Or.inr rfl) (pe_lst (pa_cons (pe_callB (r := rIsE K D a) (call_isE ec hz.zc hf) (by rfl) T.b_isinstance PyProof.Rows.boot_isinstance (pa_cons (pv 1) (pa_cons (pe_glob (v := .ref C_BadNumber) (by rfl) T.c_BadNumber rfl) pa_nil))) (pa_cons (pe_callB (r := rIsE K D a) (call_isE ec hz.zc hf) (by rfl) T.b_isinstance PyProof.Rows.boot_isinstance (pa_cons (pv 1) (pa_cons (pe_glob (v := .ref C_BadRings) (by rfl) T.c_BadRings rfl) pa_nil))) (pa_cons (pe_callB (r := rIsE K D a) (call_isE ec hz.zc hf) (by rfl) T.b_isinstance PyProof.Rows.boot_isinstance (pa_cons (pv 1) (pa_cons (pe_glob (v := .ref C_BadRow) (by rfl) T.c_BadRow rfl) pa_nil))) pa_nil))))) (pss_cons (ps_set (i := 2) sc__law_refused.nd rfl (by first | exact Or.inl rfl | exact Or.inr rfl) (pe_op op_cat (pv 2) (pe_lst (pa_cons (pe_callB (r := rIsE K D a) (call_isE ec hz.zc hf) (by rfl) T.b_isinstance PyProof.Rows.boot_isinstance (pa_cons (pv 1) (pa_cons (pe_glob (v := .ref C_Unlike) (by rfl) T.c_Unlike rfl) pa_nil))) (pa_cons (pe_not (pe_callB (r := rIsE K D a) (call_isE ec hz.zc hf) (by rfl) T.b_isinstance PyProof.Rows.boot_isinstance (pa_cons (pv 1) (pa_cons (pe_bltn (v := .ty "ValueError") (by rfl) T.b_ValueError boot_ValueError rfl) pa_nil)))) pa_nil))))) (pss_one (ps_ret (pe_and (pe_callB (r := rIsE K D a) (call_isE ec hz.zc hf) (by rfl) T.b_isinstance PyProof.Rows.boot_isinstance (pa_cons (pv 1) (pa_cons (pe_glob (v := .ref C_BadText) (by rfl) T.c_BadText rfl) pa_nil))) (pe_one (pe_not (pe_callB (r := rAnyC K k) (cr_anyC hz hf) (by rfl) T.b_any PyProof.Rows.boot_any (pa_cons (pv 2) pa_nil)))))))))))
      (pss_one (ps_ret pe_bl)), ?_⟩
    walk_at "k"
    refine r_seq ?_
    refine r_drop ?_
    refine e_callS ?_
    walk_at "go"
    refine read_refuses bad fun H1 s1 => ⟨T.em_BadText, fun k a na co => ⟨C_BadText, rfl, rfl, T.ec_BadText, ?_⟩⟩
    walk_at "go"
    refine k_isE T.kq_BadText_BadNumber ?_
    walk_at "go"
    refine k_isE T.kq_BadText_BadRings ?_
    walk_at "go"
    refine k_isE T.kq_BadText_BadRow ?_
    walk_at "go"
    refine l_new (by show 3 ≤ sizeLine; decide) fun p1 n1 => ?_
    have h1 : (upd H1 p1 (.lst [.bl false, .bl false, .bl false])) p1 = some (.lst ([false, false, false].map V.bl)) := upd_same
    have s2 : Same H1 (upd H1 p1 (.lst [.bl false, .bl false, .bl false])) := Same.one n1
    generalize upd H1 p1 (.lst [.bl false, .bl false, .bl false]) = H2 at h1 s2
    walk_at "go"
    refine k_isE T.kq_BadText_Unlike ?_
    walk_at "go"
    refine k_isET T.kv_BadText ?_
    walk_at "go"
    refine l_new (by show 2 ≤ sizeLine; decide) fun p2 n2 => ?_
    have h2 : (upd H2 p2 (.lst [.bl false, .bl (!true)])) p2 = some (.lst ([false, false].map V.bl)) := upd_same
    have s3 : Same H2 (upd H2 p2 (.lst [.bl false, .bl (!true)])) := Same.one n2
    generalize upd H2 p2 (.lst [.bl false, .bl (!true)]) = H3 at h2 s3
    refine o_cat (f := V.bl) (xs := [false, false, false]) (zs := [false, false]) (s3 _ _ h1) h2 (by simp) fun p3 n3 => ?_
    have s13 := s2.trans s3
    walk_at "go"
    refine k_isE T.kq_BadText_BadText ?_
    walk_at "go"
    refine k_anyC (bs := [false, false, false] ++ [false, false]) ((co.same s13).same (Same.one n3)) (SqL.of upd_same) ?_
    walk_at "go"
    exact q _ (Same.new (s1.trans s13) ((s1.trans s13).free n3))
def sp__law_right (K : PySem.W.Frag) : Sp := fun vs H Q _ => ∃ t : Str, vs = [.str t] ∧ t.length ≤ 9000 ∧ (wordsS t).length ≤ 1000 ∧ ∀ H', Same H H' → Q (.bl true) H'
theorem ok__law_right : Cc P w K mg base 5 "_law_right" (sp__law_right K) := by
  have x_read := okX_read (P := P) (w := w) (base := base) T
  have c__law_in := ok__law_in (P := P) (w := w) (base := base) T
  have c__law_refused := ok__law_refused (P := P) (w := w) (base := base) T
  have c_written := ok_written (P := P) (w := w) (base := base) T
  refine Cc.mk' T.d__law_right sc__law_right ?_ ?_
  · rintro vs H Q E ⟨x, rfl, _⟩; rfl
  · rintro f cdv A outer s H vs Q E hr ⟨t, rfl, hl, hw, q⟩
    refine ⟨_, (pss_cons (ps_set (i := 1) sc__law_right.nd rfl (by first | exact Or.inl rfl | exact Or.inr rfl) (pe_cc c__law_in (hr.mono (by decide)) (by rfl) (pa_cons (pv 0) pa_nil)))
      (pss_cons (ps_if (pt_cmpR op_isN (pv 1) pe_non (nomark _)) (pss_one (ps_ret (pe_cc c__law_refused (hr.mono (by decide)) (by rfl) (pa_cons (pv 0) pa_nil)))) pss_nil)
      (pss_cons (ps_set (i := 2) sc__law_right.nd rfl (by first | exact Or.inl rfl | exact Or.inr rfl) (Bo.pe_cqC (E := fun _ _ _ _ => False) x_read (hr.mono (by decide)) (by rfl) pass0C (pa_cons (pv 0) pa_nil)))
      (pss_cons (ps_if (PW.pt (pw_or (pt_not (pt_val (pe_callB (r := rIsi K) call_isi (by rfl) T.b_isinstance PyProof.Rows.boot_isinstance (pa_cons (pv 2) (pa_cons (pe_bltn (v := .ty "list") (by rfl) T.b_list PyProof.Rows.boot_list rfl) pa_nil))))) (pw_or (pt_cmpR (r := rNeD K) (op_neD hr.units) (pv 2) (pv 1) (nomark _)) (pw_or1 (pt_cmpR op_ne (pe_cc c_written (hr.mono (by decide)) (by rfl) (pa_cons (pv 2) pa_nil)) (pv 0) (nomark _)))))) (pss_one (ps_ret pe_bl)) pss_nil)
      (pss_cons (ps_expr (pe_bm PySem.F.plainAttrs_list PySem.F.slot_list_append PySem.F.type_list_append mt_append (pv 2) (pa_cons pe_int pa_nil)))
      (pss_one (ps_ret (pe_cmpR (r := rEqD K) (op_eqD hr.units) (Bo.pe_cqC (E := fun _ _ _ _ => False) x_read (hr.mono (by decide)) (by rfl) pass0C (pa_cons (pv 0) pa_nil)) (pv 1) (nomark _))))))))), ?_⟩
    walk_at "k"
    walk_at "go"
    refine ⟨t, rfl, hl, hw, fun ns e p H1 s1 np h1 => ?_, fun e H1 s1 => ?_⟩
    · have R := isRow_of_read hw e
      have ln := R.len
      walk_at "go"
      refine ⟨rfl, ?_⟩
      walk_at "go"
      refine ite_decN (fun z => by cases z) ?_
      walk_at "go"
      refine e_callS ?_
      walk_at "go"
      refine ⟨.str t, rfl, .inr ⟨t, rfl, hl, hw, fun ns2 e2 p2 H2 s2 np2 h2 => ?_, fun z => by rw [e] at z; cases z⟩⟩
      rw [e] at e2
      cases e2
      have hp2 : H2 p = some (oL ns) := s2 _ _ h1
      have np12 : p2 ≠ p := fun z => by rw [z, h1] at np2; cases np2
      walk_at "go"
      refine c_isiL (SqL.of h2) (show kitB "list" "list" = some true by decide +kernel) ?_
      walk_at "go"
      refine o_neL (ns := ns) (ms := ns) (SqL.of h2) (SqL.of hp2) ?_
      walk_at "go"
      refine ite_ndecN rfl ?_
      walk_at "go"
      refine ⟨p2, ns, rfl, SqL.of h2, R, fun H3 s3 => ?_⟩
      walk_at "go"
      rw [readS_back e, show (t == t) = true from beq_self_eq_true t]
      walk_at "go"
      have h3 : H3 p2 = some (.lst (ns.map V.int)) := s3 _ _ h2
      have hp3 : H3 p = some (oL ns) := s3 _ _ hp2
      have s4 : Same H1 (upd H3 p2 (.lst ((ns ++ [0]).map V.int))) := fun b u eb => by
        rw [upd_ne (fun z => by rw [z, np2] at eb; cases eb)]
        exact s3 _ _ (s2 _ _ eb)
      generalize upd H3 p2 (.lst ((ns ++ [0]).map V.int)) = H4 at s4 ⊢
      refine e_callS ?_
      walk_at "go"
      refine ⟨.str t, rfl, .inr ⟨t, rfl, hl, hw, fun ns5 e5 p5 H5 s5 np5 h5 => ?_, fun z => by rw [e] at z; cases z⟩⟩
      rw [e] at e5
      cases e5
      walk_at "go"
      refine o_eqL (ns := ns) (ms := ns) (SqL.of h5) (SqL.of (s5 _ _ (s4 _ _ h1))) ?_
      rw [decide_eq_true rfl]
      exact q _ ((s1.trans s4).trans s5)
    · walk_at "go"
      refine ⟨rfl, ?_⟩
      walk_at "go"
      refine ite_decY rfl ?_
      walk_at "go"
      refine ⟨.str t, rfl, .inr ⟨t, rfl, hl, hw, e⟩, fun H2 s2 => q H2 (s1.trans s2)⟩
end
end Bo

/-! a text said often; signs of texts -/
namespace Bo
open PySem PySem.Spec PyProof.Rows L2
def repS (a : Str) (n : Nat) : Str := ⟨(List.replicate n a.cps).foldl (· ++ ·) #[]⟩
theorem rep_list (x : Array Nat) : ∀ (n : Nat) (acc : Array Nat), ((List.replicate n x).foldl (· ++ ·) acc).toList = acc.toList ++ (List.replicate n x.toList).flatten
  | 0, acc => by simp
  | n + 1, acc => by
    rw [List.replicate_succ, List.foldl_cons, rep_list x n, Array.toList_append, List.append_assoc, List.replicate_succ, List.flatten_cons]
theorem rep_cps (a : Str) (n : Nat) : (repS a n).cps.toList = (List.replicate n a.cps.toList).flatten := by
  show ((List.replicate n a.cps).foldl (· ++ ·) #[]).toList = _
  rw [rep_list]; rfl
section
variable {X : Cx}
theorem op_strrep : OpR X (binaryOp .Mult) (fun x y H Q => ∃ (a : Str) (i : Int), x = .str a ∧ y = .int i ∧ 1 ≤ a.length ∧ 2 ≤ i ∧ a.length * i.toNat ≤ 1000000 ∧ Q (.str (repS a i.toNat)) H) := by
  intro pins s σ H x y v u Q I rx ry h
  obtain ⟨a, i, rfl, rfl, h1, h2, h3, q⟩ := h
  obtain ⟨t, rfl⟩ := rx
  obtain ⟨t', rfl⟩ := ry
  obtain ⟨n, rfl⟩ : ∃ n : Nat, i = (n : Int) := ⟨i.toNat, by omega⟩
  rw [Int.toNat_natCast] at h3 q
  have hn : n ≤ 1000000 := Nat.le_trans (Nat.le_mul_of_pos_left n h1) h3
  have hb : (a.length : Int) ≤ (2 ^ 63 - 1) / (n : Int) := by
    refine Int.le_ediv_of_mul_le (by omega) ?_
    have : (a.length : Int) * (n : Int) = ((a.length * n : Nat) : Int) := (Int.natCast_mul _ _).symm
    omega
  have hle : a.length * n ≤ sizeLine := Nat.le_trans h3 (by decide)
  refine PySem.P.mul_str (by simp; omega) (fun _ _ => by omega) (fun _ _ => ?_) ?_
  · rw [Int.toNat_natCast]
    show decide (_ > sizeLine) = false
    exact decide_eq_false (by omega)
  · have e1 : ((n : Int) == 1 || a.length == 0) = false := by
      simp only [Bool.or_eq_false_iff, beq_eq_false_iff_ne]
      omega
    rw [if_neg (by omega), e1, if_neg Bool.false_ne_true, Int.toNat_natCast]
    refine ⟨?_, ⟨.str (repS a n), H, I.tok _, ⟨_, rfl⟩, q⟩⟩
    show (repS a n).length ≤ sizeLine
    have : (repS a n).length = a.length * n := by
      show (repS a n).cps.size = a.cps.size * n
      rw [← Array.length_toList, rep_cps]
      simp [Nat.mul_comm]
    omega
end
theorem atI_in {α : Type} {xs : List α} {i : Int} (h0 : 0 ≤ i) (h : i < xs.length) : ∃ c, atI xs i = some c := by
  obtain ⟨n, rfl⟩ : ∃ n : Nat, i = (n : Int) := ⟨i.toNat, by omega⟩
  exact ⟨_, atI_nat (List.getElem?_eq_getElem (by omega))⟩
end Bo

namespace Bo
open PySem PySem.Spec PyProof.Rows L2
/-! ### steps of a reading: each a row of its own -/
local macro_rules | `(tactic| walk_at "ne") => `(tactic| first
  | assumption
  | (apply Ne.symm; assumption)
  | (apply neo; assumption; walk_at "hp")
  | (apply Ne.symm; apply neo; assumption; walk_at "hp"))
local macro_rules | `(tactic| walk_at "hp") => `(tactic| first
  | assumption
  | exact upd_same
  | (apply lift_ne; walk_at "hp"; walk_at "ne")
  | (apply Same.up; assumption; walk_at "hp"))
local macro_rules | `(tactic| walk_at "same") => `(tactic| first
  | assumption
  | exact Same.refl _
  | (apply Same.new; walk_at "same"; walk_at "fr")
  | (apply same_trans; assumption; walk_at "same"))
local macro_rules | `(tactic| walk_at "fr") => `(tactic| first
  | assumption
  | (apply same_free; assumption; walk_at "same"))
local macro_rules | `(tactic| walk_at "sq") => `(tactic| first
  | assumption
  | (apply SqL.of; walk_at "hp")
  | (apply same_seq; assumption; walk_at "same"))
local macro_rules | `(tactic| walk_at "sqt") => `(tactic| first
  | assumption
  | (apply SqT.of; walk_at "hp")
  | (apply same_sqt; assumption; walk_at "same"))
local macro_rules | `(tactic| walk_at "nw") => `(tactic| first
  | assumption
  | (apply News.mut; walk_at "nw"; (first | assumption | (refine News.notin (by assumption) ?_; assumption)))
  | (apply News.same; walk_at "nw"; walk_at "same"))
/-! one step -/
local macro_rules | `(tactic| walk_at "go1") => `(tactic| first
  | with_reducible refine r_seq ?_
  | with_reducible refine r_asgN ?_
  | with_reducible refine r_set ?_
  | with_reducible refine r_ret ?_
  | with_reducible refine r_drop ?_
  | with_reducible refine r_if ?_
  | with_reducible refine r_next ?_
  | ((with_reducible apply r_nxD); with_reducible refine r_nx ?_)
  | ((with_reducible apply r_rtD); with_reducible refine r_rt ?_)
  | with_reducible refine r_par ?_
  | with_reducible refine k_par ?_
  | with_reducible refine r_fld ?_
  | ((with_reducible apply r_aug); exact rfl)
  | with_reducible refine i_ip ?_
  | ((with_reducible apply e_var); exact rfl)
  | with_reducible refine e_c ?_
  | with_reducible refine e_op ?_
  | with_reducible refine e_un ?_
  | with_reducible refine o_I0 ?_
  | with_reducible refine o_neg ?_
  | with_reducible refine o_eqI ?_
  | with_reducible refine o_neI ?_
  | with_reducible refine o_eqB ?_
  | with_reducible refine o_neB ?_
  | with_reducible refine o_eqS ?_
  | with_reducible refine o_neS ?_
  | with_reducible refine a_nil ?_
  | with_reducible refine a_cons ?_
  | with_reducible refine e_cb ?_
  | with_reducible refine e_call ?_
  | with_reducible refine e_make ?_
  | with_reducible refine e_meth ?_
  | with_reducible refine e_fld ?_
  | with_reducible refine e_lst ?_
  | with_reducible refine e_tup ?_
  | with_reducible refine e_bm ?_
  | with_reducible refine e_bm0 ?_
  | with_reducible refine e_rev ?_
  | with_reducible refine e_sl ?_
  | with_reducible refine e_nopart ?_
  | with_reducible refine e_part ?_
  | with_reducible refine i_ok ?_
  | with_reducible refine e_lenset ?_
  | with_reducible refine e_listRg1 ?_
  | with_reducible refine t_test ?_
  | with_reducible refine t_B ?_
  | with_reducible refine b_ok ?_
  | with_reducible refine t_and ?_
  | with_reducible refine t_or ?_
  | with_reducible refine t_not ?_
  | with_reducible refine v_and ?_
  | with_reducible refine v_or ?_
  | with_reducible refine v_not ?_
  | with_reducible refine e_if ?_
  | with_reducible refine e_chain ?_
  | with_reducible refine e_chain3 ?_
  | with_reducible refine iteT ?_
  | with_reducible refine iteF ?_
  | with_reducible refine ite_nT ?_
  | with_reducible refine ite_nF ?_
  | with_reducible refine r_forL ?_
  | with_reducible refine r_forT ?_
  | with_reducible refine r_forE ?_
  | with_reducible refine r_forR1 ?_
  | with_reducible refine r_forR2 ?_
  | with_reducible refine e_lcL ?_
  | with_reducible refine e_lcR1 ?_
  | with_reducible refine e_lcR2 ?_
  | with_reducible refine r_dput ?_
  | with_reducible refine e_dget ?_
  | with_reducible refine e_dnin ?_
  | with_reducible refine c_max2 ?_
  | with_reducible refine c_min2 ?_
  | ((with_reducible apply c_isiI); (first | exact (show kitB "int" _ = some true by decide +kernel) | exact (show kitB "int" _ = some false by decide +kernel)))
  | ((with_reducible apply m_ty); walk_at "sq"))
local macro_rules | `(tactic| walk_at "go2") => `(tactic| first
  | ((with_reducible apply o_ixI); walk_at "sq"; omega)
  | ((with_reducible refine o_mod ?_ ?_); omega)
  | ((with_reducible refine o_fdiv ?_ ?_); omega)
  | ((with_reducible refine o_mulR ?_ ?_); omega)
  | ((with_reducible refine o_mulL ?_ ?_); omega)
  | ((with_reducible apply c_lenM); walk_at "sq")
  | ((with_reducible apply c_all); walk_at "sq")
  | ((with_reducible apply c_any); walk_at "sq")
  | ((with_reducible apply o_in); walk_at "sq")
  | ((with_reducible apply o_nin); walk_at "sq")
  | ((with_reducible apply o_ixB); walk_at "sq"; omega)
  | ((with_reducible apply m_setB); walk_at "hp"; omega)
  | ((with_reducible apply m_appR); walk_at "hp"; omega)
  | ((with_reducible apply m_ins); walk_at "hp"; omega; omega)
  | ((with_reducible apply m_appM); walk_at "hp"; exact rfl; omega)
  | ((with_reducible apply m_setI); walk_at "hp"; omega))
local macro_rules | `(tactic| walk_at "d") => `(tactic| try dsimp only)
local macro_rules | `(tactic| walk_at "k") => `(tactic| try dsimp only [cxOf, Cx.nox, Cx.blk])
local macro_rules | `(tactic| walk_at "go") => `(tactic| repeat (first | walk_at "go1" | walk_at "go2"))

section
variable {P : Program} {w : World} {K : PySem.W.Frag} {mg : Str → Option Value} {base : Heap} {C_Exchanged C_Fronted C_Ended C_Put C_Answer C_OrderError C_BadRow C_BadNumber C_BadRings C_Unlike C_BadText : Addr} (T : Top K mg C_Exchanged C_Fronted C_Ended C_Put C_Answer C_OrderError C_BadRow C_BadNumber C_BadRings C_Unlike C_BadText)
include T

def sp_cell_at (K : PySem.W.Frag) : Sp := fun vs H Q _ => ∃ (a : Addr) (ns : List Int) (k : Int), vs = [.ref a, .int k] ∧ SqL K H a (ns.map V.int) ∧ 0 ≤ k ∧ ∀ r, Q (.int r) H
theorem ok__law_cell_at : Cc P w K mg base 1 "_law_cell_at" (sp_cell_at K) := by
  refine Cc.mk' T.d__law_cell_at sc__law_cell_at ?_ ?_
  · rintro vs H Q E ⟨a, ns, k, rfl, _⟩; rfl
  · rintro f cdv A outer s H vs Q E hr ⟨a, ns, k, rfl, hS, h0, q⟩
    refine ⟨_, (pss_cons (ps_if (pt_cmpR op_lt (pv 1) (pe_callB (r := rLen2 K) call_len_seq (by rfl) T.b_len PySem.boot_len (pa_cons (pv 0) pa_nil)) (nomark _)) (pss_one (ps_ret (pe_ix (r := rIxL K) ix_list (pv 0) (pv 1) (fun _ _ => rfl)))) pss_nil)
      (pss_one (ps_ret pe_int))), ?_⟩
    walk_at "k"
    walk_at "go"
    refine ite_dec (fun h => ?_) (fun h => ?_)
    · walk_at "go"
      exact q _
    · walk_at "go"
      exact q _
def sp_draw (K : PySem.W.Frag) : Sp := fun vs H Q _ => ∃ (c k m : Int), vs = [.int c, .int k, .int m] ∧ 0 < m ∧ ∀ r H', 0 ≤ r → r < m → Same H H' → Q (.int r) H'
theorem ok__law_draw : Cc P w K mg base 1 "_law_draw" (sp_draw K) := by
  refine Cc.mk' T.d__law_draw sc__law_draw ?_ ?_
  · rintro vs H Q E ⟨c, k, m, rfl, _⟩; rfl
  · rintro f cdv A outer s H vs Q E hr ⟨c, k, m, rfl, h0, q⟩
    refine ⟨_, (pss_cons (ps_set (i := 3) sc__law_draw.nd rfl (by first | exact Or.inl rfl | exact Or.inr rfl) (pe_tup (pa_cons pe_int (pa_cons pe_int (pa_cons pe_int (pa_cons pe_int (pa_cons pe_int (pa_cons pe_int (pa_cons pe_int (pa_cons pe_int (pa_cons pe_int (pa_cons pe_int (pa_cons pe_int (pa_cons pe_int (pa_cons pe_int (pa_cons pe_int (pa_cons pe_int (pa_cons pe_int pa_nil))))))))))))))))))
      (pss_one (ps_ret (pe_op op_mod (pe_op op_mod (pe_op op_add (pe_op op_mul (pv 0) pe_int) (pe_op op_mul (pv 1) pe_int)) (pe_ix (r := rIxT K) ix_tup (pv 3) (pe_op op_mod (pv 1) pe_int) (fun _ _ => rfl))) (pv 2))))), ?_⟩
    walk_at "k"
    walk_at "go"
    refine ⟨by show 16 ≤ sizeLine; decide, fun p np => ?_⟩
    walk_at "go"
    obtain ⟨pr, hp, e⟩ := primes_at k
    refine o_ixT (SqT.of upd_same) e ?_
    walk_at "go"
    exact q _ _ (Int.emod_nonneg _ (by omega)) (Int.emod_lt_of_pos _ h0) (Same.one np)
/-- the row that a law builds of its script: some row of as many things -/
def sp_law_row (K : PySem.W.Frag) : Sp := fun vs H Q _ => ∃ (a : Addr) (ns : List Int), vs = [.ref a] ∧ SqL K H a (ns.map V.int) ∧ ns.length ≤ 63 ∧
  ∀ p r H', Same H H' → H p = none → IsRow r → r.length = ns.length → H' p = some (.lst (r.map V.int)) → Q (.ref p) H'
theorem ok__law_row : Cc P w K mg base 2 "_law_row" (sp_law_row K) := by
  have c__law_draw := ok__law_draw (P := P) (w := w) (base := base) T
  have c__law_cell_at := ok__law_cell_at (P := P) (w := w) (base := base) T
  refine Cc.mk' T.d__law_row sc__law_row ?_ ?_
  · rintro vs H Q E ⟨a, ns, rfl, _⟩; rfl
  · rintro f cdv A outer s H vs Q E hr ⟨a, ns, rfl, hS, hl, q⟩
    refine ⟨_, (pss_cons (ps_par (i := 1) (j := 2) rfl sc__law_row.nd rfl rfl (by decide) rfl rfl (pa_cons (pe_cc c__law_draw (hr.mono (by decide)) (by rfl) (pa_cons (pe_cc c__law_cell_at (hr.mono (by decide)) (by rfl) (pa_cons (pv 0) (pa_cons pe_int pa_nil))) (pa_cons pe_int (pa_cons pe_int pa_nil)))) (pa_cons (pe_lst pa_nil) pa_nil)) (by rfl))
      (pss_cons (ps_for PassesOwn.never rfl (pi_range1 (by rfl) T.b_range (pa_cons (pe_callB (r := rLen2 K) call_len_seq (by rfl) T.b_len PySem.boot_len (pa_cons (pv 0) pa_nil)) pa_nil)) (pg_name (i := 3) sc__law_row.nd rfl (by first | exact Or.inl rfl | exact Or.inr rfl)) (pss_cons (ps_set (i := 4) sc__law_row.nd rfl (by first | exact Or.inl rfl | exact Or.inr rfl) (pe_cc c__law_draw (hr.mono (by decide)) (by rfl) (pa_cons (pe_ix (r := rIxL K) ix_list (pv 0) (pv 3) (fun _ _ => rfl)) (pa_cons (pe_op op_add (pe_op op_mod (pv 3) pe_int) pe_int) (pa_cons (pe_op op_add (pv 3) pe_int) pa_nil)))))
      (Bo.pss_cut (ps_if (pt_cmpR op_eq (pv 1) pe_int (nomark _)) (pss_one (ps_set (i := 4) sc__law_row.nd rfl (by first | exact Or.inl rfl | exact Or.inr rfl) (pe_callB (r := rMin2) (call_min2 rfl) (by rfl) T.b_min PyProof.Rows.boot_min (pa_cons (pv 4) (pa_cons (pe_cc c__law_draw (hr.mono (by decide)) (by rfl) (pa_cons (pe_ix (r := rIxL K) ix_list (pv 0) (pv 3) (fun _ _ => rfl)) (pa_cons (pe_op op_add (pe_op op_mod (pv 3) pe_int) pe_int) (pa_cons pe_int pa_nil)))) pa_nil))))) pss_nil)
      (Bo.pss_cut (ps_if (pt_cmpR op_eq (pv 1) pe_int (nomark _)) (pss_one (ps_set (i := 4) sc__law_row.nd rfl (by first | exact Or.inl rfl | exact Or.inr rfl) (pe_callB (r := rMax2) (call_max2 rfl) (by rfl) T.b_max PyProof.Rows.boot_max (pa_cons (pv 4) (pa_cons (pe_op op_sub (pv 3) (pe_cc c__law_draw (hr.mono (by decide)) (by rfl) (pa_cons (pe_ix (r := rIxL K) ix_list (pv 0) (pv 3) (fun _ _ => rfl)) (pa_cons (pe_op op_add (pe_op op_mod (pv 3) pe_int) pe_int) (pa_cons pe_int pa_nil))))) pa_nil))))) pss_nil)
      (Bo.pss_cut (ps_if (PW.pt (pw_and (pt_cmpR op_eq (pv 1) pe_int (nomark _)) (pw_and1 (pt_cmpR op_gt (pe_op op_mod (pv 4) pe_int) pe_int (nomark _))))) (pss_one (ps_set (i := 4) sc__law_row.nd rfl (by first | exact Or.inl rfl | exact Or.inr rfl) pe_int)) pss_nil)
      (pss_one (ps_expr (pe_bm (r := rIns) PySem.F.plainAttrs_list PySem.F.slot_list_insert PySem.F.type_list_insert mt_insert (pv 2) (pa_cons (pe_op op_sub (pv 3) (pv 4)) (pa_cons (pv 3) pa_nil))))))))))
      (pss_one (ps_ret (pv 2))))), ?_⟩
    walk_at "k"
    walk_at "go"
    refine ⟨a, ns, 0, rfl, hS, by decide, fun c => ?_⟩
    walk_at "go"
    refine ⟨c, 6, 4, rfl, by decide, fun kind H1 k0 k1 s1 => ?_⟩
    walk_at "go"
    refine ⟨Nat.zero_le _, fun p np => ?_⟩
    have np0 : H p = none := by walk_at "fr"
    walk_at "go"
    refine k_rng1 (fun i σ H' => ∃ r kk aw, σ = [some (.ref a), some (.int kind), some (.ref p), kk, aw] ∧ Same H H' ∧ H' p = some (.lst (r.map V.int)) ∧ r.length = i ∧ (∀ x ∈ r, 0 ≤ x ∧ x < (i : Int)) ∧ r.Nodup)
      (by omega) ⟨[], none, none, rfl, by walk_at "same", by walk_at "hp", rfl, by simp, List.nodup_nil⟩ ?_ ?_
    · rintro i σ H' hi ⟨r, kk, aw, rfl, s2, h1, l1, b1, n1⟩
      walk_at "d"
      walk_at "go"
      -- the last step, once how far is known
      have fin : ∀ (away : Int) (H3 : Hp), 0 ≤ away → away ≤ i → Same H H3 → H3 p = some (.lst (r.map V.int)) → ∃ (r' : List Int) (kk' aw' : Option V), ([some (.ref a), some (.int kind), some (.ref p), some (.int (i : Int)), some (.int away)] : L2.St) = [some (.ref a), some (.int kind), some (.ref p), kk', aw'] ∧
          Same H (upd H3 p (.lst ((ins r ((i : Int) - away) (i : Int)).map V.int))) ∧ (upd H3 p (.lst ((ins r ((i : Int) - away) (i : Int)).map V.int))) p = some (.lst (r'.map V.int)) ∧ r'.length = i + 1 ∧ (∀ x ∈ r', 0 ≤ x ∧ x < ((i + 1 : Nat) : Int)) ∧ r'.Nodup := by
        intro away H3 a0 a1 s3 h3
        obtain ⟨e1, e2, e3⟩ := ins_row (k := (i : Int) - away) l1 b1 n1
        exact ⟨_, _, _, rfl, by walk_at "same", upd_same, e1, e2, e3⟩
      refine ⟨_, _, _, rfl, by omega, fun a0 H3 a1 a2 s3 => ?_⟩
      walk_at "go"
      refine c_nocut ?_
      walk_at "go"
      refine ite_dec (fun hk => ?_) (fun hk => ?_)
      · walk_at "go"
        refine ⟨_, _, _, rfl, by omega, fun b H4 b1 b2 s4 => ?_⟩
        walk_at "go"
        refine c_nocut ?_
        walk_at "go"
        refine ite_decN (by omega) ?_
        walk_at "go"
        refine c_nocut ?_
        walk_at "go"
        refine ite_decN (by omega) ?_
        walk_at "go"
        exact fin _ _ (by omega) (by omega) (by walk_at "same") (by walk_at "hp")
      · walk_at "go"
        refine c_nocut ?_
        walk_at "go"
        refine ite_dec (fun hk2 => ?_) (fun hk2 => ?_)
        · walk_at "go"
          refine ⟨_, _, _, rfl, by omega, fun b H4 b1 b2 s4 => ?_⟩
          walk_at "go"
          refine c_nocut ?_
          walk_at "go"
          refine ite_decN (by omega) ?_
          walk_at "go"
          exact fin _ _ (by omega) (by omega) (by walk_at "same") (by walk_at "hp")
        · walk_at "go"
          refine c_nocut ?_
          walk_at "go"
          refine ite_dec (fun hk3 => ?_) (fun hk3 => ?_)
          · walk_at "go"
            refine ite_dec (fun hk4 => ?_) (fun hk4 => ?_)
            · walk_at "go"
              exact fin _ _ (by omega) (by omega) (by walk_at "same") (by walk_at "hp")
            · walk_at "go"
              exact fin _ _ (by omega) (by omega) (by walk_at "same") (by walk_at "hp")
          · walk_at "go"
            exact fin _ _ (by omega) (by omega) (by walk_at "same") (by walk_at "hp")
    · rintro σ H' ⟨r, kk, aw, rfl, s2, h1, l1, b1, n1⟩
      walk_at "go"
      rw [Int.toNat_natCast] at l1 b1
      exact q p r H' s2 np0 ⟨by omega, by rw [l1]; exact b1, n1⟩ l1 h1
end
end Bo

namespace Bo
open PySem PySem.Spec PyProof.Rows L2
/-- a text that is neither long nor of many words -/
def okT (t : Str) : Prop := t.length ≤ 9000 ∧ (cps t).count 32 ≤ 900
instance (t : Str) : Decidable (okT t) := by unfold okT; infer_instance
theorem joinL_words : ∀ ps : List (List Nat), ps.length ≤ (TL.joinL [32] ps).count 32 + 1
  | [] => Nat.zero_le _
  | [q] => by simp
  | q :: r :: l => by
    show (q :: r :: l).length ≤ (q ++ ([32] ++ TL.joinL [32] (r :: l))).count 32 + 1
    have := joinL_words (r :: l)
    rw [List.count_append, List.count_append, List.length_cons]
    simp only [List.count_singleton_self]
    omega
theorem okT.words {t : Str} (h : okT t) : (wordsS t).length ≤ 1000 := by
  have e := cps_words t
  have e2 : cps SP = [32] := by decide +kernel
  rw [e2] at e
  have := joinL_words ((wordsS t).map cps)
  rw [e, List.length_map] at this
  have := h.2
  omega
/-- a value that is such a text -/
def okV (v : V) : Prop := ∃ t : Str, v = .str t ∧ okT t
theorem okV_cons {v : V} {l : List V} (h : okV v) (t : ∀ x ∈ l, okV x) : ∀ x ∈ v :: l, okV x := List.forall_mem_cons.mpr ⟨h, t⟩
theorem okV_nil : ∀ x ∈ ([] : List V), okV x := fun x h => absurd h (by simp)
theorem okV_app {l m : List V} (h : ∀ x ∈ l, okV x) (h2 : ∀ x ∈ m, okV x) : ∀ x ∈ l ++ m, okV x := fun x hx => (List.mem_append.mp hx).elim (h x) (h2 x)
theorem flat_one (n : Nat) : (List.replicate n [57]).flatten = List.replicate n 57 := by
  induction n with
  | zero => rfl
  | succ n ih => rw [List.replicate_succ, List.flatten_cons, ih, List.replicate_succ]; rfl
theorem nines_cps (n : Nat) : cps (repS (Str.ofString "9") n) = List.replicate n 57 := by
  show (repS (Str.ofString "9") n).cps.toList = _
  rw [rep_cps, show (Str.ofString "9").cps.toList = [57] from by decide +kernel, flat_one]
theorem nines_len (n : Nat) : (repS (Str.ofString "9") n).length = n := by rw [len_cps, nines_cps, List.length_replicate]
theorem nines_ok {n : Nat} (h : n ≤ 4000) : okT (repS (Str.ofString "9") n) := by
  refine ⟨by rw [nines_len]; omega, ?_⟩
  rw [nines_cps, List.count_replicate]
  simp
theorem nines_ok2 {n : Nat} (h : n ≤ 4000) {a : Str} (ha : a.length ≤ 10) : okT (a ++ repS (Str.ofString "9") n) := by
  refine ⟨by rw [strLen_append, nines_len]; omega, ?_⟩
  have e : cps (a ++ repS (Str.ofString "9") n) = cps a ++ cps (repS (Str.ofString "9") n) := TL.tl_append _ _
  have z : (List.replicate n 57).count 32 = 0 := by rw [List.count_replicate]; simp
  rw [e, List.count_append, nines_cps, z]
  have := List.count_le_length (a := 32) (l := cps a)
  rw [← len_cps] at this
  omega
section
variable {K : PySem.W.Frag} {H : Hp} {Q : VK}
theorem w_catV {l b : Addr} {xs zs : List V} (h : H l = some (.lst xs)) (hb : H b = some (.lst zs)) (z : xs.length + zs.length < 1000000) (q : ∀ p, H p = none → Q (.ref p) (upd H p (.lst (xs ++ zs)))) : rCat (.ref l) (.ref b) H Q :=
  ⟨l, b, xs, zs, rfl, rfl, h, hb, Nat.le_of_lt (Nat.lt_of_lt_of_le z (by decide)), q⟩
end
/-! ### steps of a reading: each a row of its own -/
local macro_rules | `(tactic| walk_at "ne") => `(tactic| first
  | assumption
  | (apply Ne.symm; assumption)
  | (apply neo; assumption; walk_at "hp")
  | (apply Ne.symm; apply neo; assumption; walk_at "hp"))
local macro_rules | `(tactic| walk_at "hp") => `(tactic| first
  | assumption
  | exact upd_same
  | (apply lift_ne; walk_at "hp"; walk_at "ne")
  | (apply Same.up; assumption; walk_at "hp"))
local macro_rules | `(tactic| walk_at "same") => `(tactic| first
  | assumption
  | exact Same.refl _
  | (apply Same.new; walk_at "same"; walk_at "fr")
  | (apply same_trans; assumption; walk_at "same"))
local macro_rules | `(tactic| walk_at "fr") => `(tactic| first
  | assumption
  | (apply same_free; assumption; walk_at "same"))
local macro_rules | `(tactic| walk_at "sq") => `(tactic| first
  | assumption
  | (apply SqL.of; walk_at "hp")
  | (apply same_seq; assumption; walk_at "same"))
local macro_rules | `(tactic| walk_at "sqt") => `(tactic| first
  | assumption
  | (apply SqT.of; walk_at "hp")
  | (apply same_sqt; assumption; walk_at "same"))
local macro_rules | `(tactic| walk_at "nw") => `(tactic| first
  | assumption
  | (apply News.mut; walk_at "nw"; (first | assumption | (refine News.notin (by assumption) ?_; assumption)))
  | (apply News.same; walk_at "nw"; walk_at "same"))
/-! one step -/
local macro_rules | `(tactic| walk_at "go1") => `(tactic| first
  | with_reducible refine r_seq ?_
  | with_reducible refine r_asgN ?_
  | with_reducible refine r_set ?_
  | with_reducible refine r_ret ?_
  | with_reducible refine r_drop ?_
  | with_reducible refine r_if ?_
  | with_reducible refine r_next ?_
  | ((with_reducible apply r_nxD); with_reducible refine r_nx ?_)
  | ((with_reducible apply r_rtD); with_reducible refine r_rt ?_)
  | with_reducible refine r_par ?_
  | with_reducible refine k_par ?_
  | with_reducible refine r_fld ?_
  | ((with_reducible apply r_aug); exact rfl)
  | with_reducible refine i_ip ?_
  | ((with_reducible apply e_var); exact rfl)
  | with_reducible refine e_c ?_
  | with_reducible refine e_op ?_
  | with_reducible refine e_un ?_
  | with_reducible refine o_I0 ?_
  | with_reducible refine o_neg ?_
  | with_reducible refine o_eqI ?_
  | with_reducible refine o_neI ?_
  | with_reducible refine o_eqB ?_
  | with_reducible refine o_neB ?_
  | with_reducible refine o_eqS ?_
  | with_reducible refine o_neS ?_
  | with_reducible refine a_nil ?_
  | with_reducible refine a_cons ?_
  | with_reducible refine e_cb ?_
  | with_reducible refine e_call ?_
  | with_reducible refine e_make ?_
  | with_reducible refine e_meth ?_
  | with_reducible refine e_fld ?_
  | with_reducible refine e_lst ?_
  | with_reducible refine e_tup ?_
  | with_reducible refine e_bm ?_
  | with_reducible refine e_bm0 ?_
  | with_reducible refine e_rev ?_
  | with_reducible refine e_sl ?_
  | with_reducible refine e_nopart ?_
  | with_reducible refine e_part ?_
  | with_reducible refine i_ok ?_
  | with_reducible refine e_lenset ?_
  | with_reducible refine e_listRg1 ?_
  | with_reducible refine t_test ?_
  | with_reducible refine t_B ?_
  | with_reducible refine b_ok ?_
  | with_reducible refine t_and ?_
  | with_reducible refine t_or ?_
  | with_reducible refine t_not ?_
  | with_reducible refine v_and ?_
  | with_reducible refine v_or ?_
  | with_reducible refine v_not ?_
  | with_reducible refine e_if ?_
  | with_reducible refine e_chain ?_
  | with_reducible refine e_chain3 ?_
  | with_reducible refine iteT ?_
  | with_reducible refine iteF ?_
  | with_reducible refine ite_nT ?_
  | with_reducible refine ite_nF ?_
  | with_reducible refine r_forL ?_
  | with_reducible refine r_forT ?_
  | with_reducible refine r_forE ?_
  | with_reducible refine r_forR1 ?_
  | with_reducible refine r_forR2 ?_
  | with_reducible refine e_lcL ?_
  | with_reducible refine e_lcR1 ?_
  | with_reducible refine e_lcR2 ?_
  | with_reducible refine r_dput ?_
  | with_reducible refine e_dget ?_
  | with_reducible refine e_dnin ?_
  | with_reducible refine c_max2 ?_
  | with_reducible refine c_min2 ?_
  | ((with_reducible apply c_isiI); (first | exact (show kitB "int" _ = some true by decide +kernel) | exact (show kitB "int" _ = some false by decide +kernel)))
  | ((with_reducible apply m_ty); walk_at "sq"))
local macro_rules | `(tactic| walk_at "go2") => `(tactic| first
  | ((with_reducible apply o_ixI); walk_at "sq"; omega)
  | ((with_reducible refine o_mod ?_ ?_); omega)
  | ((with_reducible refine o_fdiv ?_ ?_); omega)
  | ((with_reducible refine o_mulR ?_ ?_); omega)
  | ((with_reducible refine o_mulL ?_ ?_); omega)
  | ((with_reducible apply c_lenM); walk_at "sq")
  | ((with_reducible apply c_all); walk_at "sq")
  | ((with_reducible apply c_any); walk_at "sq")
  | ((with_reducible apply o_in); walk_at "sq")
  | ((with_reducible apply o_nin); walk_at "sq")
  | ((with_reducible apply o_ixB); walk_at "sq"; omega)
  | ((with_reducible apply m_setB); walk_at "hp"; omega)
  | ((with_reducible apply m_appR); walk_at "hp"; omega)
  | ((with_reducible apply m_ins); walk_at "hp"; omega; omega)
  | ((with_reducible apply m_appM); walk_at "hp"; exact rfl; omega)
  | ((with_reducible apply m_setI); walk_at "hp"; omega))
local macro_rules | `(tactic| walk_at "d") => `(tactic| try dsimp only)
local macro_rules | `(tactic| walk_at "k") => `(tactic| try dsimp only [cxOf, Cx.nox, Cx.blk])
local macro_rules | `(tactic| walk_at "go") => `(tactic| repeat (first | walk_at "go1" | walk_at "go2"))

section
variable {P : Program} {w : World} {K : PySem.W.Frag} {mg : Str → Option Value} {base : Heap} {C_Exchanged C_Fronted C_Ended C_Put C_Answer C_OrderError C_BadRow C_BadNumber C_BadRings C_Unlike C_BadText : Addr} (T : Top K mg C_Exchanged C_Fronted C_Ended C_Put C_Answer C_OrderError C_BadRow C_BadNumber C_BadRings C_Unlike C_BadText)
include T
def sp__law_few : Sp := fun vs H Q _ => vs = [] ∧ ∀ (p : Addr) (H' : Hp) (ts : List V), Same H H' → H p = none → H' p = some (.lst ts) → ts.length ≤ 1000 → (∀ x ∈ ts, okV x) → Q (.ref p) H'
theorem ok__law_few : Cc P w K mg base 1 "_law_few" sp__law_few := by
  refine Cc.mk' T.d__law_few sc__law_few ?_ ?_
  · rintro vs H Q E ⟨rfl, _⟩; rfl
  · rintro f cdv A outer s H vs Q E hr ⟨rfl, q⟩
    refine ⟨_, (pss_cons (ps_set (i := 0) sc__law_few.nd rfl (by first | exact Or.inl rfl | exact Or.inr rfl) (pe_lst (pa_cons pe_str (pa_cons pe_str (pa_cons pe_str (pa_cons pe_str (pa_cons pe_str (pa_cons pe_str (pa_cons pe_str (pa_cons pe_str (pa_cons pe_str (pa_cons pe_str (pa_cons pe_str (pa_cons pe_str (pa_cons pe_str (pa_cons pe_str (pa_cons pe_str (pa_cons pe_str (pa_cons pe_str pa_nil)))))))))))))))))))
      (pss_cons (ps_set (i := 0) sc__law_few.nd rfl (by first | exact Or.inl rfl | exact Or.inr rfl) (pe_op op_cat (pv 0) (pe_lst (pa_cons pe_str (pa_cons pe_str (pa_cons pe_str (pa_cons pe_str (pa_cons pe_str (pa_cons pe_str (pa_cons pe_str (pa_cons pe_str pa_nil)))))))))))
      (pss_cons (ps_expr (pe_bm PySem.F.plainAttrs_list PySem.F.slot_list_append PySem.F.type_list_append mt_append (pv 0) (pa_cons pe_str pa_nil)))
      (pss_one (ps_ret (pe_op op_cat (pv 0) (pe_lst (pa_cons (pe_op op_strrep pe_str pe_int) (pa_cons (pe_op op_add_str pe_str (pe_op op_strrep pe_str pe_int)) (pa_cons pe_str (pa_cons pe_str (pa_cons pe_str (pa_cons pe_str pa_nil))))))))))))), ?_⟩
    walk_at "k"
    walk_at "go"
    refine l_new (by show 17 ≤ sizeLine; decide) fun p1 n1 => ?_
    walk_at "go"
    refine l_new (by show 8 ≤ sizeLine; decide) fun p2 n2 => ?_
    refine w_catV (by walk_at "hp") upd_same (by show 17 + 8 < 1000000; decide) fun p3 n3 => ?_
    walk_at "go"
    refine m_app upd_same (by decide) ?_
    rw [upd_upd]
    walk_at "go"
    refine ⟨_, _, rfl, rfl, by decide +kernel, by decide, by decide +kernel, ?_⟩
    walk_at "go"
    refine ⟨_, _, rfl, rfl, by decide +kernel, by decide, by decide +kernel, ?_⟩
    have hl : (Str.ofString "0 ").length + (repS (Str.ofString "9") (4000 : Int).toNat).length ≤ sizeLine := by
      rw [nines_len]
      exact sz (by decide +kernel)
    refine ⟨_, _, rfl, rfl, hl, ?_⟩
    walk_at "go"
    refine l_new (by show 6 ≤ sizeLine; decide) fun p4 n4 => ?_
    refine w_catV (by walk_at "hp") upd_same (by decide) fun p5 n5 => ?_
    walk_at "go"
    refine q p5 _ _ (by walk_at "same") (by walk_at "fr") upd_same (by decide) (okV_app (okV_app (okV_app ?_ ?_) ?_) ?_)
    · repeat (refine okV_cons ⟨_, rfl, by decide +kernel⟩ ?_)
      exact okV_nil
    · repeat (refine okV_cons ⟨_, rfl, by decide +kernel⟩ ?_)
      exact okV_nil
    · repeat (refine okV_cons ⟨_, rfl, by decide +kernel⟩ ?_)
      exact okV_nil
    · refine okV_cons ⟨_, rfl, nines_ok (by decide)⟩ (okV_cons ⟨_, rfl, nines_ok2 (by decide) (by decide +kernel)⟩ ?_)
      repeat (refine okV_cons ⟨_, rfl, by decide +kernel⟩ ?_)
      exact okV_nil
end
end Bo

namespace Bo
open PySem PySem.Spec PyProof.Rows L2
theorem sign_one (c : Nat) : (⟨#[c]⟩ : Str).length = 1 := rfl
theorem signs_at {sg : Str} {i : Int} (h0 : 0 ≤ i) (h : i < 2) (z : sg.length ≤ 1) : ∃ x : Str, atI [V.str (Str.ofString ""), V.str sg] i = some (.str x) ∧ x.length ≤ 1 := by
  obtain ⟨n, rfl⟩ : ∃ n : Nat, i = (n : Int) := ⟨i.toNat, by omega⟩
  match n, h with
  | 0, _ => exact ⟨Str.ofString "", atI_nat rfl, by decide +kernel⟩
  | 1, _ => exact ⟨sg, atI_nat rfl, z⟩
  | n + 2, h => exact absurd h (by omega)
/-! ### steps of a reading: each a row of its own -/
local macro_rules | `(tactic| walk_at "ne") => `(tactic| first
  | assumption
  | (apply Ne.symm; assumption)
  | (apply neo; assumption; walk_at "hp")
  | (apply Ne.symm; apply neo; assumption; walk_at "hp"))
local macro_rules | `(tactic| walk_at "hp") => `(tactic| first
  | assumption
  | exact upd_same
  | (apply lift_ne; walk_at "hp"; walk_at "ne")
  | (apply Same.up; assumption; walk_at "hp"))
local macro_rules | `(tactic| walk_at "same") => `(tactic| first
  | assumption
  | exact Same.refl _
  | (apply Same.new; walk_at "same"; walk_at "fr")
  | (apply same_trans; assumption; walk_at "same"))
local macro_rules | `(tactic| walk_at "fr") => `(tactic| first
  | assumption
  | (apply same_free; assumption; walk_at "same"))
local macro_rules | `(tactic| walk_at "sq") => `(tactic| first
  | assumption
  | (apply SqL.of; walk_at "hp")
  | (apply same_seq; assumption; walk_at "same"))
local macro_rules | `(tactic| walk_at "sqt") => `(tactic| first
  | assumption
  | (apply SqT.of; walk_at "hp")
  | (apply same_sqt; assumption; walk_at "same"))
local macro_rules | `(tactic| walk_at "nw") => `(tactic| first
  | assumption
  | (apply News.mut; walk_at "nw"; (first | assumption | (refine News.notin (by assumption) ?_; assumption)))
  | (apply News.same; walk_at "nw"; walk_at "same"))
/-! one step -/
local macro_rules | `(tactic| walk_at "go1") => `(tactic| first
  | with_reducible refine r_seq ?_
  | with_reducible refine r_asgN ?_
  | with_reducible refine r_set ?_
  | with_reducible refine r_ret ?_
  | with_reducible refine r_drop ?_
  | with_reducible refine r_if ?_
  | with_reducible refine r_next ?_
  | ((with_reducible apply r_nxD); with_reducible refine r_nx ?_)
  | ((with_reducible apply r_rtD); with_reducible refine r_rt ?_)
  | with_reducible refine r_par ?_
  | with_reducible refine k_par ?_
  | with_reducible refine r_fld ?_
  | ((with_reducible apply r_aug); exact rfl)
  | with_reducible refine i_ip ?_
  | ((with_reducible apply e_var); exact rfl)
  | with_reducible refine e_c ?_
  | with_reducible refine e_op ?_
  | with_reducible refine e_un ?_
  | with_reducible refine o_I0 ?_
  | with_reducible refine o_neg ?_
  | with_reducible refine o_eqI ?_
  | with_reducible refine o_neI ?_
  | with_reducible refine o_eqB ?_
  | with_reducible refine o_neB ?_
  | with_reducible refine o_eqS ?_
  | with_reducible refine o_neS ?_
  | with_reducible refine a_nil ?_
  | with_reducible refine a_cons ?_
  | with_reducible refine e_cb ?_
  | with_reducible refine e_call ?_
  | with_reducible refine e_make ?_
  | with_reducible refine e_meth ?_
  | with_reducible refine e_fld ?_
  | with_reducible refine e_lst ?_
  | with_reducible refine e_tup ?_
  | with_reducible refine e_bm ?_
  | with_reducible refine e_bm0 ?_
  | with_reducible refine e_rev ?_
  | with_reducible refine e_sl ?_
  | with_reducible refine e_nopart ?_
  | with_reducible refine e_part ?_
  | with_reducible refine i_ok ?_
  | with_reducible refine e_lenset ?_
  | with_reducible refine e_listRg1 ?_
  | with_reducible refine t_test ?_
  | with_reducible refine t_B ?_
  | with_reducible refine b_ok ?_
  | with_reducible refine t_and ?_
  | with_reducible refine t_or ?_
  | with_reducible refine t_not ?_
  | with_reducible refine v_and ?_
  | with_reducible refine v_or ?_
  | with_reducible refine v_not ?_
  | with_reducible refine e_if ?_
  | with_reducible refine e_chain ?_
  | with_reducible refine e_chain3 ?_
  | with_reducible refine iteT ?_
  | with_reducible refine iteF ?_
  | with_reducible refine ite_nT ?_
  | with_reducible refine ite_nF ?_
  | with_reducible refine r_forL ?_
  | with_reducible refine r_forT ?_
  | with_reducible refine r_forE ?_
  | with_reducible refine r_forR1 ?_
  | with_reducible refine r_forR2 ?_
  | with_reducible refine e_lcL ?_
  | with_reducible refine e_lcR1 ?_
  | with_reducible refine e_lcR2 ?_
  | with_reducible refine r_dput ?_
  | with_reducible refine e_dget ?_
  | with_reducible refine e_dnin ?_
  | with_reducible refine c_max2 ?_
  | with_reducible refine c_min2 ?_
  | ((with_reducible apply c_isiI); (first | exact (show kitB "int" _ = some true by decide +kernel) | exact (show kitB "int" _ = some false by decide +kernel)))
  | ((with_reducible apply m_ty); walk_at "sq"))
local macro_rules | `(tactic| walk_at "go2") => `(tactic| first
  | ((with_reducible apply o_ixI); walk_at "sq"; omega)
  | ((with_reducible refine o_mod ?_ ?_); omega)
  | ((with_reducible refine o_fdiv ?_ ?_); omega)
  | ((with_reducible refine o_mulR ?_ ?_); omega)
  | ((with_reducible refine o_mulL ?_ ?_); omega)
  | ((with_reducible apply c_lenM); walk_at "sq")
  | ((with_reducible apply c_all); walk_at "sq")
  | ((with_reducible apply c_any); walk_at "sq")
  | ((with_reducible apply o_in); walk_at "sq")
  | ((with_reducible apply o_nin); walk_at "sq")
  | ((with_reducible apply o_ixB); walk_at "sq"; omega)
  | ((with_reducible apply m_setB); walk_at "hp"; omega)
  | ((with_reducible apply m_appR); walk_at "hp"; omega)
  | ((with_reducible apply m_ins); walk_at "hp"; omega; omega)
  | ((with_reducible apply m_appM); walk_at "hp"; exact rfl; omega)
  | ((with_reducible apply m_setI); walk_at "hp"; omega))
local macro_rules | `(tactic| walk_at "d") => `(tactic| try dsimp only)
local macro_rules | `(tactic| walk_at "k") => `(tactic| try dsimp only [cxOf, Cx.nox, Cx.blk])
local macro_rules | `(tactic| walk_at "go") => `(tactic| repeat (first | walk_at "go1" | walk_at "go2"))

section
variable {P : Program} {w : World} {K : PySem.W.Frag} {mg : Str → Option Value} {base : Heap} {C_Exchanged C_Fronted C_Ended C_Put C_Answer C_OrderError C_BadRow C_BadNumber C_BadRings C_Unlike C_BadText : Addr} (T : Top K mg C_Exchanged C_Fronted C_Ended C_Put C_Answer C_OrderError C_BadRow C_BadNumber C_BadRings C_Unlike C_BadText)
include T
def sp_law (K : PySem.W.Frag) : Sp := fun vs H Q _ => ∃ (a : Addr) (ns : List Int), vs = [.ref a] ∧ SqL K H a (ns.map V.int) ∧ ns.length ≤ 63 ∧ ∀ H', Q (.bl true) H'
theorem ok_law {f : Addr} {fd : FuncData} (F : L2.Fun K "law" "law" s_law f fd) : FnOk P w K mg base L2.CX0 6 f fd ["_law_script"] (sp_law K) := by
  have c__law_row := ok__law_row (P := P) (w := w) (base := base) T
  have c__law_right := ok__law_right (P := P) (w := w) (base := base) T
  have c_written := ok_written (P := P) (w := w) (base := base) T
  have c__law_cell_at := ok__law_cell_at (P := P) (w := w) (base := base) T
  have c__law_draw := ok__law_draw (P := P) (w := w) (base := base) T
  have c__law_few := ok__law_few (P := P) (w := w) (base := base) T
  have c__law_refused := ok__law_refused (P := P) (w := w) (base := base) T
  refine F.ok sc_law ?_ ?_
  · rintro vs H Q E ⟨a, ns, rfl, _⟩; rfl
  · rintro cdv A outer s H vs Q E hr ⟨a, ns, rfl, hS, hl, q⟩
    refine ⟨_, (pss_cons (ps_set (i := 1) sc_law.nd rfl (by first | exact Or.inl rfl | exact Or.inr rfl) (pe_cc c__law_row (hr.mono (by decide)) (by rfl) (pa_cons (pv 0) pa_nil)))
      (Bo.pss_cut (ps_set (i := 2) sc_law.nd rfl (by first | exact Or.inl rfl | exact Or.inr rfl) (pe_ifExp (pt_cmpR (r := rNeD K) (op_neD hr.units) (pv 1) (pe_lst pa_nil) (nomark _)) (pe_join pe_str (pe_lc (own := [("_law_thing", 8)]) (g := gName 8) (tt := tYes) rfl sc_law.nd (pi_list (pv 1)) (blkOk_by (own := [("_law_thing", 8)]) (N := N_law) (sc := defScope s_law) (by decide +kernel)) (fun _ _ _ _ _ => (pg_name (i := 8) sc_law.nd rfl (Or.inl rfl))) (fun _ _ _ _ _ => pts_nil) (fun _ _ _ _ _ => (pe_callTy call_str_int (by rfl) T.b_str PyProof.Rows.boot_str (pa_cons (pv 8) pa_nil))))) pe_str))
      (pss_cons (ps_set (i := 3) sc_law.nd rfl (by first | exact Or.inl rfl | exact Or.inr rfl) (pe_callTy (r := rList2 K) call_list_of (by rfl) T.b_list PyProof.Rows.boot_list (pa_cons (pv 1) pa_nil)))
      (pss_cons (ps_if (PW.pt (pw_or (pt_cmpR op_ne (pe_cc c_written (hr.mono (by decide)) (by rfl) (pa_cons (pv 3) pa_nil)) (pv 2) (nomark _)) (pw_or (pt_cmpR (r := rNeD K) (op_neD hr.units) (pv 3) (pv 1) (nomark _)) (pw_or1 (pt_not (pt_val (pe_cc c__law_right (hr.mono (by decide)) (by rfl) (pa_cons (pv 2) pa_nil)))))))) (pss_one (ps_ret pe_bl)) pss_nil)
      (pss_cons (ps_set (i := 4) sc_law.nd rfl (by first | exact Or.inl rfl | exact Or.inr rfl) (pe_op op_add (pe_cc c__law_cell_at (hr.mono (by decide)) (by rfl) (pa_cons (pv 0) (pa_cons pe_int pa_nil))) (pe_op op_mul pe_int (pe_cc c__law_cell_at (hr.mono (by decide)) (by rfl) (pa_cons (pv 0) (pa_cons pe_int pa_nil))))))
      (pss_cons (ps_for PassesOwn.never rfl (pi_range1 (by rfl) T.b_range (pa_cons pe_int pa_nil)) (pg_name (i := 5) sc_law.nd rfl (by first | exact Or.inl rfl | exact Or.inr rfl)) (pss_cons (ps_set (i := 6) sc_law.nd rfl (by first | exact Or.inl rfl | exact Or.inr rfl) (pe_cc c__law_draw (hr.mono (by decide)) (by rfl) (pa_cons (pe_op op_add (pv 4) (pv 5)) (pa_cons pe_int (pa_cons (pe_op op_add (pe_callB call_len_str (by rfl) T.b_len PySem.boot_len (pa_cons (pv 2) pa_nil)) pe_int) pa_nil)))))
      (pss_cons (ps_set (i := 7) sc_law.nd rfl (by first | exact Or.inl rfl | exact Or.inr rfl) (pe_ix (r := rIxT K) ix_tup (pe_tup (pa_cons pe_str (pa_cons (pe_ix (r := rIxS) ix_str pe_str (pe_cc c__law_draw (hr.mono (by decide)) (by rfl) (pa_cons (pe_op op_add (pv 4) (pv 5)) (pa_cons pe_int (pa_cons pe_int pa_nil)))) (fun _ _ => rfl)) pa_nil))) (pe_cc c__law_draw (hr.mono (by decide)) (by rfl) (pa_cons (pe_op op_add (pv 4) (pv 5)) (pa_cons pe_int (pa_cons pe_int pa_nil)))) (fun _ _ => rfl)))
      (pss_one (ps_if (pt_not (pt_val (pe_cc c__law_right (hr.mono (by decide)) (by rfl) (pa_cons (pe_op op_add_str (pe_op op_add_str (pe_slice sl_str (pv 2) po_none (po_some (pv 6))) (pv 7)) (pe_slice sl_str (pv 2) (po_some (pe_op op_add (pv 6) (pe_cc c__law_draw (hr.mono (by decide)) (by rfl) (pa_cons (pe_op op_add (pv 4) (pv 5)) (pa_cons pe_int (pa_cons pe_int pa_nil)))))) po_none)) pa_nil)))) (pss_one (ps_ret pe_bl)) pss_nil)))))
      (pss_cons (ps_if (pt_not (pt_val (pe_callB (r := rAll K) (cr_all rfl) (by rfl) T.b_all PyProof.Rows.boot_all (pa_cons (pe_lc (own := [("_law_other", 9)]) (g := gName 9) (tt := tYes) rfl sc_law.nd (pi_list (pe_cc0 c__law_few (hr.mono (by decide)) (by rfl))) (blkOk_by (own := [("_law_other", 9)]) (N := N_law) (sc := defScope s_law) (by decide +kernel)) (fun _ _ _ _ _ => (pg_name (i := 9) sc_law.nd rfl (Or.inl rfl))) (fun _ _ _ _ _ => pts_nil) (fun _ _ _ _ _ => (pe_cc c__law_right (hr.mono (by decide)) (by rfl) (pa_cons (pv 9) pa_nil)))) pa_nil)))) (pss_one (ps_ret pe_bl)) pss_nil)
      (pss_one (ps_ret (pe_callB (r := rAll K) (cr_all rfl) (by rfl) T.b_all PyProof.Rows.boot_all (pa_cons (pe_lc (own := [("_law_thing", 8)]) (g := gName 8) (tt := tYes) rfl sc_law.nd (pi_list (pe_lst (pa_cons pe_non (pa_cons pe_int (pa_cons (pe_lst (pa_cons pe_str pa_nil)) (pa_cons pe_bl pa_nil)))))) (blkOk_by (own := [("_law_thing", 8)]) (N := N_law) (sc := defScope s_law) (by decide +kernel)) (fun _ _ _ _ _ => (pg_name (i := 8) sc_law.nd rfl (Or.inl rfl))) (fun _ _ _ _ _ => pts_nil) (fun _ _ _ _ _ => (pe_cc c__law_refused (hr.mono (by decide)) (by rfl) (pa_cons (pv 8) pa_nil)))) pa_nil))))))))))), ?_⟩
    walk_at "k"
    walk_at "go"
    refine ⟨a, ns, rfl, hS, hl, fun p r H1 s1 np R lr hp => ?_⟩
    have hrl : r.length ≤ 63 := by omega
    have wl := write_len r R
    walk_at "go"
    refine c_cut (fun σ' H' => σ' = [some (.ref a), some (.ref p), some (.str (writeS r)), none, none, none, none, none, none, none] ∧ Same H1 H') ?_ ?_
    · walk_at "go"
      refine l_new (Nat.zero_le _) fun p2 np2 => ?_
      have hp2 : (upd H1 p2 (.lst [])) p = some (.lst (r.map V.int)) := by walk_at "hp"
      have s2 : Same H1 (upd H1 p2 (.lst [])) := by walk_at "same"
      refine o_neL (ns := r) (ms := []) (SqL.of hp2) (SqL.of upd_same) ?_
      generalize upd H1 p2 (.lst []) = H2 at hp2 s2
      walk_at "go"
      refine ite_ndec (fun h => ?_) (fun h => ?_)
      · refine e_m1 ?_
        walk_at "go"
        refine s_ok ?_
        walk_at "go"
        refine k_lcV (xs := r) (f := V.int) (h := V.str) (fun n => Str.ofString (toString n)) (SqL.of hp2) (by omega) (fun _ => rfl) ?_ ?_
        · intro i x H3 R' hx s3 k3
          walk_at "go"
          have b := R.bd x (List.mem_of_getElem? hx)
          refine ⟨x, rfl, num_log (by omega) (by omega), k3 H3 (Same.refl _)⟩
        · intro D H3 nD s3 hD
          refine ⟨_, D, _, rfl, rfl, .inl (SqL.of hD), ?_, ?_⟩
          · have h2 := strs_sum R
            rw [List.length_map]
            have h3 : (Str.ofString " ").length = 1 := by decide +kernel
            rw [h3]
            omega
          · walk_at "go"
            refine ⟨?_, s2.trans s3⟩
            unfold writeS
            rw [if_neg h]; rfl
      · walk_at "go"
        refine ⟨?_, s2⟩
        unfold writeS
        rw [if_pos h]; rfl
    rintro σ' H2 ⟨rfl, s12⟩
    have s2 : Same H H2 := s1.trans s12
    have hp2 : H2 p = some (.lst (r.map V.int)) := s12 _ _ hp
    generalize ht : writeS r = t at wl
    have wt := words_len t
    walk_at "d"
    walk_at "go"
    refine c_list (SqL.of hp2) fun l nl => ?_
    have hl3 : (upd H2 l (.lst (r.map V.int))) l = some (.lst (r.map V.int)) := upd_same
    have hp3 : (upd H2 l (.lst (r.map V.int))) p = some (.lst (r.map V.int)) := by walk_at "hp"
    have s3 : Same H (upd H2 l (.lst (r.map V.int))) := by walk_at "same"
    generalize upd H2 l (.lst (r.map V.int)) = H3 at hl3 hp3 s3
    walk_at "go"
    refine ⟨l, r, rfl, SqL.of hl3, R, fun H4 s4 => ?_⟩
    walk_at "go"
    rw [ht, show (t == t) = true from beq_self_eq_true t]
    walk_at "go"
    refine o_neL (ns := r) (ms := r) (SqL.of (s4 _ _ hl3)) (SqL.of (s4 _ _ hp3)) ?_
    walk_at "go"
    refine ite_ndecN rfl ?_
    walk_at "go"
    refine ⟨t, rfl, by omega, by omega, fun H5 s5 => ?_⟩
    have s05 : Same H H5 := (s3.trans s4).trans s5
    have hS5 := s05.seq hS
    walk_at "go"
    refine ⟨a, ns, 3, rfl, hS5, by omega, fun c1 => ?_⟩
    walk_at "go"
    refine ⟨a, ns, 0, rfl, hS5, by omega, fun c2 => ?_⟩
    walk_at "go"
    generalize c1 + 7 * c2 = cell
    refine k_rng1 (fun i σ H' => ∃ v5 v6 v7, σ = [some (.ref a), some (.ref p), some (.str t), some (.ref l), some (.int cell), v5, v6, v7, none, none] ∧ Same H5 H') (by omega) ⟨none, none, none, rfl, Same.refl _⟩ ?_ ?_
    · rintro i σ H6 hi ⟨v5, v6, v7, rfl, s6⟩
      walk_at "d"
      walk_at "go"
      refine ⟨t, rfl, sz (by omega), ?_⟩
      walk_at "go"
      refine ⟨_, 1, _, rfl, by omega, fun at_ H7 at0 at1 s7 => ?_⟩
      walk_at "go"
      refine ⟨_, 2, 13, rfl, by omega, fun k2 H8 k20 k21 s8 => ?_⟩
      obtain ⟨c, hc⟩ := atI_in (xs := (Str.ofString "0123456789 -x").cps.toList) k20 (by rw [show (Str.ofString "0123456789 -x").cps.toList.length = 13 from by decide +kernel]; omega)
      refine ⟨_, k2, c, rfl, rfl, by decide +kernel, hc, ?_⟩
      walk_at "go"
      refine l_new (by show 2 ≤ sizeLine; decide) fun pt npt => ?_
      walk_at "go"
      refine ⟨_, 3, 2, rfl, by omega, fun k3 H9 k30 k31 s9 => ?_⟩
      obtain ⟨sg, hsg, lsg⟩ := signs_at (sg := ⟨#[c]⟩) k30 k31 (Nat.le_of_eq (sign_one c))
      refine o_ixT (SqT.of (s9 _ _ upd_same)) hsg ?_
      have s59 : Same H5 H9 := (((s6.trans s7).trans s8).trans (Same.one npt)).trans s9
      clear s9 npt pt
      walk_at "go"
      have lc1 := cutS_length t none (some at_)
      refine ⟨t, rfl, sz (by omega), ?_⟩
      walk_at "go"
      generalize cutS t none (some at_) = x1 at lc1
      refine ⟨x1, sg, rfl, rfl, sz (by omega), ?_⟩
      walk_at "go"
      refine ⟨_, 4, 2, rfl, by omega, fun k4 H10 k40 k41 s10 => ?_⟩
      walk_at "go"
      have lc2 := cutS_length t (some (at_ + k4)) none
      refine ⟨t, rfl, sz (by omega), ?_⟩
      generalize cutS t (some (at_ + k4)) none = x2 at lc2
      have l12 : (x1 ++ sg).length = x1.length + sg.length := strLen_append _ _
      refine ⟨x1 ++ sg, x2, rfl, rfl, sz (by omega), ?_⟩
      walk_at "go"
      have l123 : ((x1 ++ sg) ++ x2).length = (x1 ++ sg).length + x2.length := strLen_append _ _
      have wx := words_len ((x1 ++ sg) ++ x2)
      refine ⟨(x1 ++ sg) ++ x2, rfl, by omega, by omega, fun H11 s11 => ?_⟩
      walk_at "go"
      exact ⟨_, _, _, rfl, (s59.trans s10).trans s11⟩
    · rintro σ H6 ⟨v5, v6, v7, rfl, s6⟩
      walk_at "d"
      walk_at "go"
      refine ⟨rfl, fun pf H7 ts s7 npf hpf lts okts => ?_⟩
      refine k_lcV (xs := ts) (f := id) (h := V.bl) (fun _ => true) (by rw [List.map_id]; exact SqL.of hpf) (by omega) (fun _ => rfl) ?_ ?_
      · intro i x H8 R' hx s8 k8
        obtain ⟨tx, rfl, okx⟩ := okts x (List.mem_of_getElem? hx)
        walk_at "go"
        exact ⟨tx, rfl, okx.1, okx.words, fun H9 s9 => k8 H9 s9⟩
      · intro D H8 nD s8 hD
        walk_at "go"
        rw [show ((ts.map fun _ => true).all id) = true from by rw [List.all_map]; exact List.all_eq_true.mpr fun _ _ => rfl]
        walk_at "go"
        refine l_new (by show 1 ≤ sizeLine; decide) fun pi npi => ?_
        walk_at "go"
        refine l_new (by show 4 ≤ sizeLine; decide) fun po npo => ?_
        have hpi : (upd (upd H8 pi (.lst [.str (Str.ofString "0")])) po (.lst [.non, .int 5, .ref pi, .bl true])) pi = some (.lst [.str (Str.ofString "0")]) := by walk_at "hp"
        refine k_lcV (xs := [V.non, .int 5, .ref pi, .bl true]) (f := id) (h := V.bl) (fun _ => true) (SqL.of upd_same) (by show 4 < 1000000; decide) (fun _ => rfl) ?_ ?_
        · intro i x H9 R' hx s9 k9
          have ns : NoS K H9 x := by
            have hm := List.mem_of_getElem? hx
            simp only [List.mem_cons, List.not_mem_nil, or_false] at hm
            rcases hm with rfl | rfl | rfl | rfl
            · exact ⟨"NoneType", .base .non, by decide +kernel⟩
            · exact ⟨"int", .base (.int 5), by decide +kernel⟩
            · exact ⟨"list", .base (.lst (s9 _ _ hpi)), by decide +kernel⟩
            · exact ⟨"bool", .base (.bl true), by decide +kernel⟩
          walk_at "go"
          exact ⟨x, rfl, .inl ns, fun H10 s10 => k9 H10 s10⟩
        · intro D2 H9 nD2 s9 hD2
          walk_at "go"
          rw [show (([V.non, .int 5, .ref pi, .bl true].map fun _ => true).all id) = true from rfl]
          exact q _
end
end Bo

namespace Bo
open PySem PySem.Spec PyProof.Rows L2
theorem all_mk {l : PySem.W.OpenLaw} {w : World} {K : PySem.W.Frag} {h : Heap} {mg : Str → Option Value} {fa : Addr} {C_OrderError C_BadRow C_BadNumber C_BadRings C_Unlike C_BadText : Addr} (X : K.In h) (G : h.Ns mainGlobals mg) (hfa : mg "law" = some (.ref fa))
    {f1 : Addr} {od1 an1 : Option Addr} {sl1 : Array (Option Value)} {oc1 kV1 dc1 pm1 cd1 ct1 : Value}
    {f2 : Addr} {od2 an2 : Option Addr} {sl2 : Array (Option Value)} {oc2 kV2 dc2 pm2 cd2 ct2 : Value}
    {f3 : Addr} {od3 an3 : Option Addr} {sl3 : Array (Option Value)} {oc3 kV3 dc3 pm3 cd3 ct3 : Value}
    {f4 : Addr} {od4 an4 : Option Addr} {sl4 : Array (Option Value)} {oc4 kV4 dc4 pm4 cd4 ct4 : Value}
    {f5 : Addr} {od5 an5 : Option Addr} {sl5 : Array (Option Value)} {oc5 kV5 dc5 pm5 cd5 ct5 : Value}
    {f6 : Addr} {od6 an6 : Option Addr} {sl6 : Array (Option Value)} {oc6 kV6 dc6 pm6 cd6 ct6 : Value}
    {f7 : Addr} {od7 an7 : Option Addr} {sl7 : Array (Option Value)} {oc7 kV7 dc7 pm7 cd7 ct7 : Value}
    {f8 : Addr} {od8 an8 : Option Addr} {sl8 : Array (Option Value)} {oc8 kV8 dc8 pm8 cd8 ct8 : Value}
    {f9 : Addr} {od9 an9 : Option Addr} {sl9 : Array (Option Value)} {oc9 kV9 dc9 pm9 cd9 ct9 : Value}
    {f10 : Addr} {od10 an10 : Option Addr} {sl10 : Array (Option Value)} {oc10 kV10 dc10 pm10 cd10 ct10 : Value}
    {f11 : Addr} {od11 an11 : Option Addr} {sl11 : Array (Option Value)} {oc11 kV11 dc11 pm11 cd11 ct11 : Value}
    {f12 : Addr} {od12 an12 : Option Addr} {sl12 : Array (Option Value)} {oc12 kV12 dc12 pm12 cd12 ct12 : Value}
    {f13 : Addr} {od13 an13 : Option Addr} {sl13 : Array (Option Value)} {oc13 kV13 dc13 pm13 cd13 ct13 : Value}
    {f14 : Addr} {od14 an14 : Option Addr} {sl14 : Array (Option Value)} {oc14 kV14 dc14 pm14 cd14 ct14 : Value}
    {t_MOST : Tok}
    {t_FIGURES : Tok}
    (a1 : PySem.W.nsIn K mainGlobals "is_number" = some (some (.ref f1)))
    (l1 : K.lookup f1 = some ⟨oc1, od1, .func (PySem.W.fnOf "is_number" "is_number" (defArgs s_is_number) (defBody s_is_number) (defScope s_is_number) .none kV1 dc1 pm1 an1 cd1 ct1), sl1⟩)
    (c1 : PySem.W.codeIn K cd1 "is_number" = true)
    (k1 : PySem.W.keepIn K (.ref f1) = true)
    (a2 : PySem.W.nsIn K mainGlobals "check_row" = some (some (.ref f2)))
    (l2 : K.lookup f2 = some ⟨oc2, od2, .func (PySem.W.fnOf "check_row" "check_row" (defArgs s_check_row) (defBody s_check_row) (defScope s_check_row) .none kV2 dc2 pm2 an2 cd2 ct2), sl2⟩)
    (c2 : PySem.W.codeIn K cd2 "check_row" = true)
    (k2 : PySem.W.keepIn K (.ref f2) = true)
    (a3 : PySem.W.nsIn K mainGlobals "written" = some (some (.ref f3)))
    (l3 : K.lookup f3 = some ⟨oc3, od3, .func (PySem.W.fnOf "written" "written" (defArgs s_written) (defBody s_written) (defScope s_written) .none kV3 dc3 pm3 an3 cd3 ct3), sl3⟩)
    (c3 : PySem.W.codeIn K cd3 "written" = true)
    (k3 : PySem.W.keepIn K (.ref f3) = true)
    (a4 : PySem.W.nsIn K mainGlobals "number_in" = some (some (.ref f4)))
    (l4 : K.lookup f4 = some ⟨oc4, od4, .func (PySem.W.fnOf "number_in" "number_in" (defArgs s_number_in) (defBody s_number_in) (defScope s_number_in) .none kV4 dc4 pm4 an4 cd4 ct4), sl4⟩)
    (c4 : PySem.W.codeIn K cd4 "number_in" = true)
    (k4 : PySem.W.keepIn K (.ref f4) = true)
    (a5 : PySem.W.nsIn K mainGlobals "read" = some (some (.ref f5)))
    (l5 : K.lookup f5 = some ⟨oc5, od5, .func (PySem.W.fnOf "read" "read" (defArgs s_read) (defBody s_read) (defScope s_read) .none kV5 dc5 pm5 an5 cd5 ct5), sl5⟩)
    (c5 : PySem.W.codeIn K cd5 "read" = true)
    (k5 : PySem.W.keepIn K (.ref f5) = true)
    (a6 : PySem.W.nsIn K mainGlobals "_law_cell_at" = some (some (.ref f6)))
    (l6 : K.lookup f6 = some ⟨oc6, od6, .func (PySem.W.fnOf "_law_cell_at" "_law_cell_at" (defArgs s__law_cell_at) (defBody s__law_cell_at) (defScope s__law_cell_at) .none kV6 dc6 pm6 an6 cd6 ct6), sl6⟩)
    (c6 : PySem.W.codeIn K cd6 "_law_cell_at" = true)
    (k6 : PySem.W.keepIn K (.ref f6) = true)
    (a7 : PySem.W.nsIn K mainGlobals "_law_draw" = some (some (.ref f7)))
    (l7 : K.lookup f7 = some ⟨oc7, od7, .func (PySem.W.fnOf "_law_draw" "_law_draw" (defArgs s__law_draw) (defBody s__law_draw) (defScope s__law_draw) .none kV7 dc7 pm7 an7 cd7 ct7), sl7⟩)
    (c7 : PySem.W.codeIn K cd7 "_law_draw" = true)
    (k7 : PySem.W.keepIn K (.ref f7) = true)
    (a8 : PySem.W.nsIn K mainGlobals "_law_row" = some (some (.ref f8)))
    (l8 : K.lookup f8 = some ⟨oc8, od8, .func (PySem.W.fnOf "_law_row" "_law_row" (defArgs s__law_row) (defBody s__law_row) (defScope s__law_row) .none kV8 dc8 pm8 an8 cd8 ct8), sl8⟩)
    (c8 : PySem.W.codeIn K cd8 "_law_row" = true)
    (k8 : PySem.W.keepIn K (.ref f8) = true)
    (a9 : PySem.W.nsIn K mainGlobals "_law_number" = some (some (.ref f9)))
    (l9 : K.lookup f9 = some ⟨oc9, od9, .func (PySem.W.fnOf "_law_number" "_law_number" (defArgs s__law_number) (defBody s__law_number) (defScope s__law_number) .none kV9 dc9 pm9 an9 cd9 ct9), sl9⟩)
    (c9 : PySem.W.codeIn K cd9 "_law_number" = true)
    (k9 : PySem.W.keepIn K (.ref f9) = true)
    (a10 : PySem.W.nsIn K mainGlobals "_law_in" = some (some (.ref f10)))
    (l10 : K.lookup f10 = some ⟨oc10, od10, .func (PySem.W.fnOf "_law_in" "_law_in" (defArgs s__law_in) (defBody s__law_in) (defScope s__law_in) .none kV10 dc10 pm10 an10 cd10 ct10), sl10⟩)
    (c10 : PySem.W.codeIn K cd10 "_law_in" = true)
    (k10 : PySem.W.keepIn K (.ref f10) = true)
    (a11 : PySem.W.nsIn K mainGlobals "_law_refused" = some (some (.ref f11)))
    (l11 : K.lookup f11 = some ⟨oc11, od11, .func (PySem.W.fnOf "_law_refused" "_law_refused" (defArgs s__law_refused) (defBody s__law_refused) (defScope s__law_refused) .none kV11 dc11 pm11 an11 cd11 ct11), sl11⟩)
    (c11 : PySem.W.codeIn K cd11 "_law_refused" = true)
    (k11 : PySem.W.keepIn K (.ref f11) = true)
    (a12 : PySem.W.nsIn K mainGlobals "_law_right" = some (some (.ref f12)))
    (l12 : K.lookup f12 = some ⟨oc12, od12, .func (PySem.W.fnOf "_law_right" "_law_right" (defArgs s__law_right) (defBody s__law_right) (defScope s__law_right) .none kV12 dc12 pm12 an12 cd12 ct12), sl12⟩)
    (c12 : PySem.W.codeIn K cd12 "_law_right" = true)
    (k12 : PySem.W.keepIn K (.ref f12) = true)
    (a13 : PySem.W.nsIn K mainGlobals "_law_few" = some (some (.ref f13)))
    (l13 : K.lookup f13 = some ⟨oc13, od13, .func (PySem.W.fnOf "_law_few" "_law_few" (defArgs s__law_few) (defBody s__law_few) (defScope s__law_few) .none kV13 dc13 pm13 an13 cd13 ct13), sl13⟩)
    (c13 : PySem.W.codeIn K cd13 "_law_few" = true)
    (k13 : PySem.W.keepIn K (.ref f13) = true)
    (a14 : PySem.W.nsIn K mainGlobals "law" = some (some (.ref f14)))
    (l14 : K.lookup f14 = some ⟨oc14, od14, .func (PySem.W.fnOf "law" "law" (defArgs s_law) (defBody s_law) (defScope s_law) .none kV14 dc14 pm14 an14 cd14 ct14), sl14⟩)
    (c14 : PySem.W.codeIn K cd14 "law" = true)
    (k14 : PySem.W.keepIn K (.ref f14) = true)
    (z_ValueError : PySem.W.nsIn K mainGlobals "ValueError" = some none)
    (z_all : PySem.W.nsIn K mainGlobals "all" = some none)
    (z_any : PySem.W.nsIn K mainGlobals "any" = some none)
    (z_bool : PySem.W.nsIn K mainGlobals "bool" = some none)
    (z_int : PySem.W.nsIn K mainGlobals "int" = some none)
    (z_isinstance : PySem.W.nsIn K mainGlobals "isinstance" = some none)
    (z_len : PySem.W.nsIn K mainGlobals "len" = some none)
    (z_list : PySem.W.nsIn K mainGlobals "list" = some none)
    (z_max : PySem.W.nsIn K mainGlobals "max" = some none)
    (z_min : PySem.W.nsIn K mainGlobals "min" = some none)
    (z_range : PySem.W.nsIn K mainGlobals "range" = some none)
    (z_set : PySem.W.nsIn K mainGlobals "set" = some none)
    (z_sorted : PySem.W.nsIn K mainGlobals "sorted" = some none)
    (z_str : PySem.W.nsIn K mainGlobals "str" = some none)
    (g_MOST : PySem.W.nsIn K mainGlobals "MOST" = some (some (.int 1000000 t_MOST)))
    (g_FIGURES : PySem.W.nsIn K mainGlobals "FIGURES" = some (some (.str "0123456789" t_FIGURES)))
    (aOrderError : PySem.W.nsIn K mainGlobals "OrderError" = some (some (.ref C_OrderError)))
    (aBadRow : PySem.W.nsIn K mainGlobals "BadRow" = some (some (.ref C_BadRow)))
    (aBadNumber : PySem.W.nsIn K mainGlobals "BadNumber" = some (some (.ref C_BadNumber)))
    (aBadRings : PySem.W.nsIn K mainGlobals "BadRings" = some (some (.ref C_BadRings)))
    (aUnlike : PySem.W.nsIn K mainGlobals "Unlike" = some (some (.ref C_Unlike)))
    (aBadText : PySem.W.nsIn K mainGlobals "BadText" = some (some (.ref C_BadText)))
    (sbOrderError : PySem.W.subIn K (.ref C_OrderError) (.type "BaseException") = some true)
    (stOrderError : PySem.W.typeIn K (.ref C_OrderError) = some (.type "type"))
    (hdOrderError : PySem.W.hasDictIn K C_OrderError = true)
    (sbBadRow : PySem.W.subIn K (.ref C_BadRow) (.type "BaseException") = some true)
    (stBadRow : PySem.W.typeIn K (.ref C_BadRow) = some (.type "type"))
    (hdBadRow : PySem.W.hasDictIn K C_BadRow = true)
    (xBadRow : PySem.W.excIn K C_BadRow [.type "ValueError", .type "Exception", .type "BaseException", .type "object"] "ValueError.__new__" = true)
    (kBadRow : PySem.W.keepIn K (.ref C_BadRow) = true)
    (gBadRow : PySem.W.findIn K (.ref C_BadRow) "__getattribute__" = some (some (.builtin "BaseException.__getattribute__")))
    (gaBadRow : PySem.W.findIn K (.ref C_BadRow) "__getattr__" = some none)
    (iaBadRow : PySem.W.findIn K (.ref C_BadRow) "__class__" = some (some (.builtin "object.__class__")))
    (imBadRow : PySem.W.mroIn K C_BadRow (.type "object") = some true)
    (soBadRow : PySem.W.subIn K (.ref C_BadRow) (.ref C_OrderError) = some true)
    (ikBadRowBadRow : PySem.W.kitOne K (.ref C_BadRow) (.ref C_BadRow) = some true)
    (ikBadRowBadNumber : PySem.W.kitOne K (.ref C_BadRow) (.ref C_BadNumber) = some false)
    (ikBadRowBadRings : PySem.W.kitOne K (.ref C_BadRow) (.ref C_BadRings) = some false)
    (ikBadRowUnlike : PySem.W.kitOne K (.ref C_BadRow) (.ref C_Unlike) = some false)
    (ikBadRowBadText : PySem.W.kitOne K (.ref C_BadRow) (.ref C_BadText) = some false)
    (kvBadRow : PySem.W.kitOne K (.ref C_BadRow) (.type "ValueError") = some true)
    (sbBadText : PySem.W.subIn K (.ref C_BadText) (.type "BaseException") = some true)
    (stBadText : PySem.W.typeIn K (.ref C_BadText) = some (.type "type"))
    (hdBadText : PySem.W.hasDictIn K C_BadText = true)
    (xBadText : PySem.W.excIn K C_BadText [.type "ValueError", .type "Exception", .type "BaseException", .type "object"] "ValueError.__new__" = true)
    (kBadText : PySem.W.keepIn K (.ref C_BadText) = true)
    (gBadText : PySem.W.findIn K (.ref C_BadText) "__getattribute__" = some (some (.builtin "BaseException.__getattribute__")))
    (gaBadText : PySem.W.findIn K (.ref C_BadText) "__getattr__" = some none)
    (iaBadText : PySem.W.findIn K (.ref C_BadText) "__class__" = some (some (.builtin "object.__class__")))
    (imBadText : PySem.W.mroIn K C_BadText (.type "object") = some true)
    (soBadText : PySem.W.subIn K (.ref C_BadText) (.ref C_OrderError) = some true)
    (ikBadTextBadRow : PySem.W.kitOne K (.ref C_BadText) (.ref C_BadRow) = some false)
    (ikBadTextBadNumber : PySem.W.kitOne K (.ref C_BadText) (.ref C_BadNumber) = some false)
    (ikBadTextBadRings : PySem.W.kitOne K (.ref C_BadText) (.ref C_BadRings) = some false)
    (ikBadTextUnlike : PySem.W.kitOne K (.ref C_BadText) (.ref C_Unlike) = some false)
    (ikBadTextBadText : PySem.W.kitOne K (.ref C_BadText) (.ref C_BadText) = some true)
    (kvBadText : PySem.W.kitOne K (.ref C_BadText) (.type "ValueError") = some true)
    (ss : PySem.W.subIn K (.ref C_BadRow) (.ref C_BadRow) = some true)
    (ihn : PySem.W.specialIn K (.builtin "object.__class__") "__get__" = some (some (.builtin "getset_descriptor.__get__")))
    (iht : PySem.W.takesIn K (.builtin "object.__class__") = some true) :
    ∃ fd : FuncData, (∀ (s : Shared) (v : Value), BindsTo s fd ⟨[v], []⟩ [("_law_script", v)]) ∧ ∀ base : Heap, K.In base → base.Ns mainGlobals mg → FnOk l.prog w K mg base L2.CX0 6 fa fd ["_law_script"] (sp_law K) := by
  have e := hfa.symm.trans (PySem.W.mg_of X G a14)
  cases e
  have T : Top K mg 0 0 0 0 0 C_OrderError C_BadRow C_BadNumber C_BadRings C_Unlike C_BadText := { d_is_number := ⟨_, _, PySem.W.mg_of X G a1, fun_mk (st := s_is_number) l1 c1 k1, (fun_mk (st := s_is_number) l1 c1 k1).binds (ps := ["thing", "low", "high"]) fun _ _ _ _ _ _ us hl => match us, hl with | [_, _, _], _ => rfl⟩, d_check_row := ⟨_, _, PySem.W.mg_of X G a2, fun_mk (st := s_check_row) l2 c2 k2, (fun_mk (st := s_check_row) l2 c2 k2).binds (ps := ["row"]) fun _ _ _ _ _ _ us hl => match us, hl with | [_], _ => rfl⟩, d_written := ⟨_, _, PySem.W.mg_of X G a3, fun_mk (st := s_written) l3 c3 k3, (fun_mk (st := s_written) l3 c3 k3).binds (ps := ["row"]) fun _ _ _ _ _ _ us hl => match us, hl with | [_], _ => rfl⟩, d_number_in := ⟨_, _, PySem.W.mg_of X G a4, fun_mk (st := s_number_in) l4 c4 k4, (fun_mk (st := s_number_in) l4 c4 k4).binds (ps := ["word"]) fun _ _ _ _ _ _ us hl => match us, hl with | [_], _ => rfl⟩, d_read := ⟨_, _, PySem.W.mg_of X G a5, fun_mk (st := s_read) l5 c5 k5, (fun_mk (st := s_read) l5 c5 k5).binds (ps := ["text"]) fun _ _ _ _ _ _ us hl => match us, hl with | [_], _ => rfl⟩, d__law_cell_at := ⟨_, _, PySem.W.mg_of X G a6, fun_mk (st := s__law_cell_at) l6 c6 k6, (fun_mk (st := s__law_cell_at) l6 c6 k6).binds (ps := ["_law_script", "_law_k"]) fun _ _ _ _ _ _ us hl => match us, hl with | [_, _], _ => rfl⟩, d__law_draw := ⟨_, _, PySem.W.mg_of X G a7, fun_mk (st := s__law_draw) l7 c7 k7, (fun_mk (st := s__law_draw) l7 c7 k7).binds (ps := ["_law_cell", "_law_k", "_law_many"]) fun _ _ _ _ _ _ us hl => match us, hl with | [_, _, _], _ => rfl⟩, d__law_row := ⟨_, _, PySem.W.mg_of X G a8, fun_mk (st := s__law_row) l8 c8 k8, (fun_mk (st := s__law_row) l8 c8 k8).binds (ps := ["_law_script"]) fun _ _ _ _ _ _ us hl => match us, hl with | [_], _ => rfl⟩, d__law_number := ⟨_, _, PySem.W.mg_of X G a9, fun_mk (st := s__law_number) l9 c9 k9, (fun_mk (st := s__law_number) l9 c9 k9).binds (ps := ["_law_text"]) fun _ _ _ _ _ _ us hl => match us, hl with | [_], _ => rfl⟩, d__law_in := ⟨_, _, PySem.W.mg_of X G a10, fun_mk (st := s__law_in) l10 c10 k10, (fun_mk (st := s__law_in) l10 c10 k10).binds (ps := ["_law_text"]) fun _ _ _ _ _ _ us hl => match us, hl with | [_], _ => rfl⟩, d__law_refused := ⟨_, _, PySem.W.mg_of X G a11, fun_mk (st := s__law_refused) l11 c11 k11, (fun_mk (st := s__law_refused) l11 c11 k11).binds (ps := ["_law_text"]) fun _ _ _ _ _ _ us hl => match us, hl with | [_], _ => rfl⟩, d__law_right := ⟨_, _, PySem.W.mg_of X G a12, fun_mk (st := s__law_right) l12 c12 k12, (fun_mk (st := s__law_right) l12 c12 k12).binds (ps := ["_law_text"]) fun _ _ _ _ _ _ us hl => match us, hl with | [_], _ => rfl⟩, d__law_few := ⟨_, _, PySem.W.mg_of X G a13, fun_mk (st := s__law_few) l13 c13 k13, (fun_mk (st := s__law_few) l13 c13 k13).binds (ps := []) fun _ _ _ _ _ _ us hl => match us, hl with | [], _ => rfl⟩, d_law := ⟨_, _, PySem.W.mg_of X G a14, fun_mk (st := s_law) l14 c14 k14, (fun_mk (st := s_law) l14 c14 k14).binds (ps := ["_law_script"]) fun _ _ _ _ _ _ us hl => match us, hl with | [_], _ => rfl⟩, b_ValueError := PySem.W.mg_none_of X G z_ValueError, b_all := PySem.W.mg_none_of X G z_all, b_any := PySem.W.mg_none_of X G z_any, b_bool := PySem.W.mg_none_of X G z_bool, b_int := PySem.W.mg_none_of X G z_int, b_isinstance := PySem.W.mg_none_of X G z_isinstance, b_len := PySem.W.mg_none_of X G z_len, b_list := PySem.W.mg_none_of X G z_list, b_max := PySem.W.mg_none_of X G z_max, b_min := PySem.W.mg_none_of X G z_min, b_range := PySem.W.mg_none_of X G z_range, b_set := PySem.W.mg_none_of X G z_set, b_sorted := PySem.W.mg_none_of X G z_sorted, b_str := PySem.W.mg_none_of X G z_str, g_MOST := ⟨_, PySem.W.mg_of X G g_MOST⟩, g_FIGURES := ⟨_, PySem.W.mg_of X G g_FIGURES⟩, c_OrderError := PySem.W.mg_of X G aOrderError, c_BadRow := PySem.W.mg_of X G aBadRow, c_BadNumber := PySem.W.mg_of X G aBadNumber, c_BadRings := PySem.W.mg_of X G aBadRings, c_Unlike := PySem.W.mg_of X G aUnlike, c_BadText := PySem.W.mg_of X G aBadText, kq_BadRow_BadRow := ikBadRowBadRow, kq_BadRow_BadNumber := ikBadRowBadNumber, kq_BadRow_BadRings := ikBadRowBadRings, kq_BadRow_Unlike := ikBadRowUnlike, kq_BadRow_BadText := ikBadRowBadText, x_BadRow := xBadRow, k_BadRow := kBadRow, sb_BadRow := sbBadRow, st_BadRow := stBadRow, kv_BadRow := kvBadRow, ec_BadRow := ⟨gBadRow, gaBadRow, sbBadRow, hdBadRow, iaBadRow, ihn, iht, imBadRow⟩, em_BadRow := PySem.W.exm_ref sbOrderError hdOrderError stOrderError soBadRow, kq_BadText_BadRow := ikBadTextBadRow, kq_BadText_BadNumber := ikBadTextBadNumber, kq_BadText_BadRings := ikBadTextBadRings, kq_BadText_Unlike := ikBadTextUnlike, kq_BadText_BadText := ikBadTextBadText, x_BadText := xBadText, k_BadText := kBadText, sb_BadText := sbBadText, st_BadText := stBadText, kv_BadText := kvBadText, ec_BadText := ⟨gBadText, gaBadText, sbBadText, hdBadText, iaBadText, ihn, iht, imBadText⟩, em_BadText := PySem.W.exm_ref sbOrderError hdOrderError stOrderError soBadText, er_BadRow := PySem.W.exm_ref sbBadRow hdBadRow stBadRow ss }
  exact ⟨_, fun s v => .of_eq rfl, fun base _ _ => ok_law T (fun_mk (st := s_law) l14 c14 k14)⟩
end Bo
open PySem PySem.W PyProof.Rows
set_option maxRecDepth 100000 in
set_option maxHeartbeats 0 in
theorem PySem.Challenge.cw_backorder_k07_written_holds : PySem.Challenge.rw_backorder_k07_written.Holds := by
  w_on; o_law; k_head; (case hw => w_witness2)
  k_fill
  refine L2.walk_of (l := PySem.Challenge.rw_backorder_k07_written) (n := 63) (k := 6) (x := "_law_script") (CX := fun _ => L2.CX0) (sp := fun w => Bo.sp_law _) rfl (by decide) rfl ⟨rfl, by decide, by decide⟩ (fun w h Y => PySem.W.kIn_of Y) ?F (fun _ _ a ns hl _ hS => ⟨a, ns, rfl, hS, hl, fun _ => rfl⟩) (fun _ _ _ _ _ h => h)
  case F =>
    intro w mg fa h KX G hmg
    refine' Bo.all_mk KX G hmg ?a1 ?l1 ?c1 ?k1 ?a2 ?l2 ?c2 ?k2 ?a3 ?l3 ?c3 ?k3 ?a4 ?l4 ?c4 ?k4 ?a5 ?l5 ?c5 ?k5 ?a6 ?l6 ?c6 ?k6 ?a7 ?l7 ?c7 ?k7 ?a8 ?l8 ?c8 ?k8 ?a9 ?l9 ?c9 ?k9 ?a10 ?l10 ?c10 ?k10 ?a11 ?l11 ?c11 ?k11 ?a12 ?l12 ?c12 ?k12 ?a13 ?l13 ?c13 ?k13 ?a14 ?l14 ?c14 ?k14 ?z_ValueError ?z_all ?z_any ?z_bool ?z_int ?z_isinstance ?z_len ?z_list ?z_max ?z_min ?z_range ?z_set ?z_sorted ?z_str ?g_MOST ?g_FIGURES ?aOrderError ?aBadRow ?aBadNumber ?aBadRings ?aUnlike ?aBadText ?sbOrderError ?stOrderError ?hdOrderError ?sbBadRow ?stBadRow ?hdBadRow ?xBadRow ?kBadRow ?gBadRow ?gaBadRow ?iaBadRow ?imBadRow ?soBadRow ?ikBadRowBadRow ?ikBadRowBadNumber ?ikBadRowBadRings ?ikBadRowUnlike ?ikBadRowBadText ?kvBadRow ?sbBadText ?stBadText ?hdBadText ?xBadText ?kBadText ?gBadText ?gaBadText ?iaBadText ?imBadText ?soBadText ?ikBadTextBadRow ?ikBadTextBadNumber ?ikBadTextBadRings ?ikBadTextUnlike ?ikBadTextBadText ?kvBadText ?ss ?ihn ?iht
    (case a1 => first | k_is | kit_is | k_exc)
    (case l1 => first | k_is | kit_is | k_exc)
    (case c1 => first | k_is | kit_is | k_exc)
    (case k1 => first | k_is | kit_is | k_exc)
    (case a2 => first | k_is | kit_is | k_exc)
    (case l2 => first | k_is | kit_is | k_exc)
    (case c2 => first | k_is | kit_is | k_exc)
    (case k2 => first | k_is | kit_is | k_exc)
    (case a3 => first | k_is | kit_is | k_exc)
    (case l3 => first | k_is | kit_is | k_exc)
    (case c3 => first | k_is | kit_is | k_exc)
    (case k3 => first | k_is | kit_is | k_exc)
    (case a4 => first | k_is | kit_is | k_exc)
    (case l4 => first | k_is | kit_is | k_exc)
    (case c4 => first | k_is | kit_is | k_exc)
    (case k4 => first | k_is | kit_is | k_exc)
    (case a5 => first | k_is | kit_is | k_exc)
    (case l5 => first | k_is | kit_is | k_exc)
    (case c5 => first | k_is | kit_is | k_exc)
    (case k5 => first | k_is | kit_is | k_exc)
    (case a6 => first | k_is | kit_is | k_exc)
    (case l6 => first | k_is | kit_is | k_exc)
    (case c6 => first | k_is | kit_is | k_exc)
    (case k6 => first | k_is | kit_is | k_exc)
    (case a7 => first | k_is | kit_is | k_exc)
    (case l7 => first | k_is | kit_is | k_exc)
    (case c7 => first | k_is | kit_is | k_exc)
    (case k7 => first | k_is | kit_is | k_exc)
    (case a8 => first | k_is | kit_is | k_exc)
    (case l8 => first | k_is | kit_is | k_exc)
    (case c8 => first | k_is | kit_is | k_exc)
    (case k8 => first | k_is | kit_is | k_exc)
    (case a9 => first | k_is | kit_is | k_exc)
    (case l9 => first | k_is | kit_is | k_exc)
    (case c9 => first | k_is | kit_is | k_exc)
    (case k9 => first | k_is | kit_is | k_exc)
    (case a10 => first | k_is | kit_is | k_exc)
    (case l10 => first | k_is | kit_is | k_exc)
    (case c10 => first | k_is | kit_is | k_exc)
    (case k10 => first | k_is | kit_is | k_exc)
    (case a11 => first | k_is | kit_is | k_exc)
    (case l11 => first | k_is | kit_is | k_exc)
    (case c11 => first | k_is | kit_is | k_exc)
    (case k11 => first | k_is | kit_is | k_exc)
    (case a12 => first | k_is | kit_is | k_exc)
    (case l12 => first | k_is | kit_is | k_exc)
    (case c12 => first | k_is | kit_is | k_exc)
    (case k12 => first | k_is | kit_is | k_exc)
    (case a13 => first | k_is | kit_is | k_exc)
    (case l13 => first | k_is | kit_is | k_exc)
    (case c13 => first | k_is | kit_is | k_exc)
    (case k13 => first | k_is | kit_is | k_exc)
    (case a14 => first | k_is | kit_is | k_exc)
    (case l14 => first | k_is | kit_is | k_exc)
    (case c14 => first | k_is | kit_is | k_exc)
    (case k14 => first | k_is | kit_is | k_exc)
    (case z_ValueError => first | k_is | kit_is | k_exc)
    (case z_all => first | k_is | kit_is | k_exc)
    (case z_any => first | k_is | kit_is | k_exc)
    (case z_bool => first | k_is | kit_is | k_exc)
    (case z_int => first | k_is | kit_is | k_exc)
    (case z_isinstance => first | k_is | kit_is | k_exc)
    (case z_len => first | k_is | kit_is | k_exc)
    (case z_list => first | k_is | kit_is | k_exc)
    (case z_max => first | k_is | kit_is | k_exc)
    (case z_min => first | k_is | kit_is | k_exc)
    (case z_range => first | k_is | kit_is | k_exc)
    (case z_set => first | k_is | kit_is | k_exc)
    (case z_sorted => first | k_is | kit_is | k_exc)
    (case z_str => first | k_is | kit_is | k_exc)
    (case g_MOST => first | k_is | kit_is | k_exc)
    (case g_FIGURES => first | k_is | kit_is | k_exc)
    (case aOrderError => first | k_is | kit_is | k_exc)
    (case aBadRow => first | k_is | kit_is | k_exc)
    (case aBadNumber => first | k_is | kit_is | k_exc)
    (case aBadRings => first | k_is | kit_is | k_exc)
    (case aUnlike => first | k_is | kit_is | k_exc)
    (case aBadText => first | k_is | kit_is | k_exc)
    (case sbOrderError => first | k_is | kit_is | k_exc)
    (case stOrderError => first | k_is | kit_is | k_exc)
    (case hdOrderError => first | k_is | kit_is | k_exc)
    (case sbBadRow => first | k_is | kit_is | k_exc)
    (case stBadRow => first | k_is | kit_is | k_exc)
    (case hdBadRow => first | k_is | kit_is | k_exc)
    (case xBadRow => first | k_is | kit_is | k_exc)
    (case kBadRow => first | k_is | kit_is | k_exc)
    (case gBadRow => first | k_is | kit_is | k_exc)
    (case gaBadRow => first | k_is | kit_is | k_exc)
    (case iaBadRow => first | k_is | kit_is | k_exc)
    (case imBadRow => first | k_is | kit_is | k_exc)
    (case soBadRow => first | k_is | kit_is | k_exc)
    (case ikBadRowBadRow => first | k_is | kit_is | k_exc)
    (case ikBadRowBadNumber => first | k_is | kit_is | k_exc)
    (case ikBadRowBadRings => first | k_is | kit_is | k_exc)
    (case ikBadRowUnlike => first | k_is | kit_is | k_exc)
    (case ikBadRowBadText => first | k_is | kit_is | k_exc)
    (case kvBadRow => first | k_is | kit_is | k_exc)
    (case sbBadText => first | k_is | kit_is | k_exc)
    (case stBadText => first | k_is | kit_is | k_exc)
    (case hdBadText => first | k_is | kit_is | k_exc)
    (case xBadText => first | k_is | kit_is | k_exc)
    (case kBadText => first | k_is | kit_is | k_exc)
    (case gBadText => first | k_is | kit_is | k_exc)
    (case gaBadText => first | k_is | kit_is | k_exc)
    (case iaBadText => first | k_is | kit_is | k_exc)
    (case imBadText => first | k_is | kit_is | k_exc)
    (case soBadText => first | k_is | kit_is | k_exc)
    (case ikBadTextBadRow => first | k_is | kit_is | k_exc)
    (case ikBadTextBadNumber => first | k_is | kit_is | k_exc)
    (case ikBadTextBadRings => first | k_is | kit_is | k_exc)
    (case ikBadTextUnlike => first | k_is | kit_is | k_exc)
    (case ikBadTextBadText => first | k_is | kit_is | k_exc)
    (case kvBadText => first | k_is | kit_is | k_exc)
    (case ss => first | k_is | kit_is | k_exc)
    (case ihn => first | k_is | kit_is | k_exc)
    (case iht => first | k_is | kit_is | k_exc)

