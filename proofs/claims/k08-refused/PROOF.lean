import PyProof.Rows.All
import Wide.All
import OpenK.AllK
import Wide.FinOn
import HandS.ForMost
import HandS.ForExc
import HandS.IsInst
import HandS.Conv
import HandS.SortInts
import HandS.SetFor
import HandS.More
import HandS.Style
import HandS.Zip
import HandS.Codes
import HandS.ExcIs
import HandS.CallLocal
import HandS.StrMore
import PySem.Challenge.RW_backorder_k08_refused
import HandS.SuiteRaise
import HandS.Iter
import HandS.ExcBuiltin
set_option Elab.async false
set_option linter.all false
set_option maxRecDepth 100000
set_option maxHeartbeats 4000000
namespace Bo
open PySem PySem.Spec PyProof.Rows L2

/-! ### defs, methods, classes of the text; what they promise -/
/-- a def of the module under its name -/
structure Df (K : PySem.W.Frag) (mg : Str → Option Value) (x : Str) (st : Stmt) (ps : List Str) : Prop where
  ex : ∃ (f : Addr) (fd : FuncData), mg x = some (.ref f) ∧ L2.Fun K x x st f fd ∧ Binds K fd ps []
/-- a method of the class at C -/
structure Dm (K : PySem.W.Frag) (C : Addr) (m qual : Str) (st : Stmt) (ps : List Str) : Prop where
  ex : ∃ (f : Addr) (fd : FuncData), Cls K C ∧ Meth K C m f ∧ L2.Fun K m qual st f fd ∧ Binds K fd ps []
/-- a class with an __init__ -/
structure Dk (K : PySem.W.Frag) (mg : Str → Option Value) (x : Str) (C : Addr) (qual : Str) (st : Stmt) (ps : List Str) : Prop where
  ex : ∃ (f : Addr) (fd : FuncData), mg x = some (.ref C) ∧ L2.Mk K C f ∧ L2.Fun K "__init__" qual st f fd ∧ Binds K fd ps []
section
variable {P : Program} {w : World} {K : PySem.W.Frag} {mg : Str → Option Value} {base : Heap}
structure Cc (P : Program) (w : World) (K : PySem.W.Frag) (mg : Str → Option Value) (base : Heap) (k : Nat) (x : Str) (sp : Sp) : Prop where
  ex : ∃ (f : Addr) (fd : FuncData) (ps : List Str), FnOk P w K mg base L2.CX0 k f fd ps sp ∧ mg x = some (.ref f) ∧ PySem.W.keepIn K (.ref f) = true ∧ Binds K fd ps []
structure Cm (P : Program) (w : World) (K : PySem.W.Frag) (mg : Str → Option Value) (base : Heap) (k : Nat) (C : Addr) (m : Str) (sp : Sp) : Prop where
  ex : ∃ (f : Addr) (fd : FuncData) (ps : List Str), Cls K C ∧ Meth K C m f ∧ FnOk P w K mg base L2.CX0 k f fd ps sp ∧ Binds K fd ps []
structure Ck (P : Program) (w : World) (K : PySem.W.Frag) (mg : Str → Option Value) (base : Heap) (k : Nat) (x : Str) (C : Addr) (sp : Sp) : Prop where
  ex : ∃ (f : Addr) (fd : FuncData) (ps : List Str), L2.Mk K C f ∧ FnOk P w K mg base L2.CX0 k f fd ps sp ∧ mg x = some (.ref C) ∧ Binds K fd ps []
theorem Cc.mk' {x : Str} {st : Stmt} {N ps : List Str} {k : Nat} {sp : Sp} (D : Df K mg x st ps) (S : FnScope N ps (defScope st)) (len : ∀ vs H Q E, sp vs H Q E → vs.length = ps.length)
    (hbody : ∀ (f : Addr) (cdv : Value) (A : Around) (outer : List Env) (s : Shared) (H : Hp) (vs : List V) (Q : VK) (E : XK), Room k (A.deeper (envOfC x (defScope st) s.heap.objs.size f cdv)) → sp vs H Q E →
      ∃ t, PSs (cxOf L2.CX0 P w K mg base N x (defScope st) f cdv A outer s H E).nox (defBody st) t ∧ t { nx := fun _ H' => Q .non H', rt := Q } (start N vs) H) : Cc P w K mg base (k + 1) x sp := by
  obtain ⟨f, fd, h1, F, b⟩ := D.ex
  exact ⟨f, fd, ps, F.ok S len (hbody f), h1, F.kp, b⟩
theorem Cm.mk' {C : Addr} {m qual : Str} {st : Stmt} {N ps : List Str} {k : Nat} {sp : Sp} (D : Dm K C m qual st ps) (S : FnScope N ps (defScope st)) (len : ∀ vs H Q E, sp vs H Q E → vs.length = ps.length)
    (hbody : ∀ (f : Addr) (cdv : Value) (A : Around) (outer : List Env) (s : Shared) (H : Hp) (vs : List V) (Q : VK) (E : XK), Room k (A.deeper (envOfC qual (defScope st) s.heap.objs.size f cdv)) → sp vs H Q E →
      ∃ t, PSs (cxOf L2.CX0 P w K mg base N qual (defScope st) f cdv A outer s H E).nox (defBody st) t ∧ t { nx := fun _ H' => Q .non H', rt := Q } (start N vs) H) : Cm P w K mg base (k + 1) C m sp := by
  obtain ⟨f, fd, c, me, F, b⟩ := D.ex
  exact ⟨f, fd, ps, c, me, F.ok S len (hbody f), b⟩
theorem Ck.mk' {C : Addr} {x qual : Str} {st : Stmt} {N ps : List Str} {k : Nat} {sp : Sp} (D : Dk K mg x C qual st ps) (S : FnScope N ps (defScope st)) (len : ∀ vs H Q E, sp vs H Q E → vs.length = ps.length)
    (hbody : ∀ (f : Addr) (cdv : Value) (A : Around) (outer : List Env) (s : Shared) (H : Hp) (vs : List V) (Q : VK) (E : XK), Room k (A.deeper (envOfC qual (defScope st) s.heap.objs.size f cdv)) → sp vs H Q E →
      ∃ t, PSs (cxOf L2.CX0 P w K mg base N qual (defScope st) f cdv A outer s H E).nox (defBody st) t ∧ t { nx := fun _ H' => Q .non H', rt := Q } (start N vs) H) : Ck P w K mg base (k + 1) x C sp := by
  obtain ⟨f, fd, h1, M, F, b⟩ := D.ex
  exact ⟨f, fd, ps, M, F.ok S len (hbody f), h1, b⟩
end
section
variable {X : Cx} {k : Nat} {C : Addr} {x m : Str} {sp : Sp} {p pos apos : Pos} {e o : Expr} {es : List Expr} {ta : TE} {t : TA}
theorem pe_cc (c : Cc X.prog X.w X.K X.mg X.base k x sp) (hr : Room k X.A) (hg : Gl X x) (ha : PA X (e :: es) t)
    (hdb : (x == ("__debug__" : Str)) = false := by decide) (he : starEach (e :: es) X.env = (false, eval e X.env) :: starEach es X.env := by rfl) (hpl : (backTo pos (starEach es X.env)).any (·.1) = false := by rfl) :
    PE X (.Call (.Name x p) (e :: es) [] pos) (tCall sp [] L2.E0 t) := by
  obtain ⟨f, fd, ps, F, hm, kp, b⟩ := c.ex
  exact pe_call F hr hg hm kp b .nil L2.pass0 ha hdb he hpl
theorem pe_cc0 (c : Cc X.prog X.w X.K X.mg X.base k x sp) (hr : Room k X.A) (hg : Gl X x)
    (hdb : (x == ("__debug__" : Str)) = false := by decide) : PE X (.Call (.Name x p) [] [] pos) (tCall sp [] L2.E0 tNil) := by
  obtain ⟨f, fd, ps, F, hm, kp, b⟩ := c.ex
  exact pe_call0 F hr hg hm kp b .nil L2.pass0 hdb
theorem pe_cm (c : Ck X.prog X.w X.K X.mg X.base k x C sp) (hr : Room (k + 1) X.A) (hg : Gl X x) (ha : PA X (e :: es) t)
    (hdb : (x == ("__debug__" : Str)) = false := by decide) (he : starEach (e :: es) X.env = (false, eval e X.env) :: starEach es X.env := by rfl) (hpl : (backTo pos (starEach es X.env)).any (·.1) = false := by rfl) :
    PE X (.Call (.Name x p) (e :: es) [] pos) (tMake C sp [] L2.E0 t) := by
  obtain ⟨f, fd, ps, M, F, hm, b⟩ := c.ex
  exact pe_make M F hr hg hm b .nil L2.pass0 ha hdb he hpl
theorem pe_ct {pl : Sem Bool} (c : Cm X.prog X.w X.K X.mg X.base k C m sp) (hr : Room k X.A) (he : PE X o ta) (ha : PA X (e :: es) t)
    (hst : starEach (e :: es) X.env = (false, eval e X.env) :: starEach es X.env := by rfl) (hpl : (backTo pos (starEach es X.env)).any (·.1) = false := by rfl)
    (ht : eval (.Call (.Attribute o m apos) (e :: es) [] pos) X.env = (do
      let ov ← eval o X.env
      standAt apos.atName
      let (f, first) ← holding [ov] (getMethod ov m pl)
      callWith pos f first (backTo pos (starEach (e :: es) X.env)) (backToKw pos (keywordEach [] X.env))) := by rfl) :
    PE X (.Call (.Attribute o m apos) (e :: es) [] pos) (tMeth C m sp [] L2.E0 ta t) := by
  obtain ⟨f, fd, ps, hc, hm, F, b⟩ := c.ex
  exact pe_meth (pl := pl) he hc hm F hr b .nil L2.pass0 ha hst hpl ht
end

theorem u1 {k : Nat} {A : Around} (r : Room k A) : A.units + 1 < cLine := by have := r.un; omega
theorem u65 {k : Nat} {A : Around} (r : Room k A) : A.units + 65 < cLine := by have := r.un; omega
/-! ### three comparisons in a chain -/
def tChain3 (r r' r'' : R2) (ta tb tc td : TE) : TE := fun σ H Q => ta σ H fun x H1 => tb σ H1 fun y H2 => r x y H2 fun z H3 => ∃ k, z = .bl k ∧
  (if k = true then tc σ H3 fun w' H4 => r' y w' H4 fun z' H5 => ∃ k', z' = .bl k' ∧ (if k' = true then td σ H5 fun v' H6 => r'' w' v' H6 Q else Q (.bl false) H5) else Q (.bl false) H3)
section
variable {X : Cx} {a b c d : Expr} {ta tb tc td : TE} {pos : Pos}
theorem pe_chain3 {op op' op'' : CmpOp} {r r' r'' : R2} (ho : OpR X (compareOp op) r) (ho' : OpR X (compareOp op') r') (ho'' : OpR X (compareOp op'') r'') (ha : PE X a ta) (hb : PE X b tb) (hc : PE X c tc) (hd : PE X d td)
    (hm : lastMarks [op, op', op''] [b, c, d] = false := by with_unfolding_all rfl) : PE X (.Compare a [op, op', op''] [b, c, d] pos) (tChain3 r r' r'' ta tb tc td) := by
  refine ⟨fun pins s σ H Q I h => ?_⟩
  refine Compare_chain (thn (ha.run pins s σ H _ I h) fun v s1 ⟨x, H1, I1, r1, q1⟩ => chain_link (thn (hb.run pins s1 σ H1 _ I1 q1) fun u s2 ⟨y, H2, I2, r2, q2⟩ =>
    thn (ho pins s2 σ H2 x y v u _ I2 r1 r2 q2) fun d s3 ⟨z, H3, I3, r3, k, e, q3⟩ => ?_)) hm
  subst e
  cases r3
  refine wpAny_truthy_bool ?_
  cases k with
  | false => exact ite_ff ⟨.bl false, H3, I3, rfl, q3⟩
  | true =>
    refine ite_tt (chain_link (thn (hc.run pins s3 σ H3 _ I3 q3) fun w' s4 ⟨z', H4, I4, r4, q4⟩ => thn (ho' pins s4 σ H4 y z' u w' _ I4 r2 r4 q4) fun d' s5 ⟨z2, H5, I5, r5, k2, e2, q5⟩ => ?_))
    subst e2
    cases r5
    refine wpAny_truthy_bool ?_
    cases k2 with
    | false => exact ite_ff ⟨.bl false, H5, I5, rfl, q5⟩
    | true => exact ite_tt (chain_last (thn (hd.run pins s5 σ H5 _ I5 q5) fun w2 s6 ⟨z3, H6, I6, r6, q6⟩ => ho'' pins s6 σ H6 z' z3 w' w2 Q I6 r4 r6 q6))
theorem pt_chain3 {op op' op'' : CmpOp} {r r' r'' : R2} (ho : OpR X (compareOp op) r) (ho' : OpR X (compareOp op') r') (ho'' : OpR X (compareOp op'') r'') (ha : PE X a ta) (hb : PE X b tb) (hc : PE X c tc) (hd : PE X d td)
    (hm : lastMarks [op, op', op''] [b, c, d] = false := by with_unfolding_all rfl) : PT X (.Compare a [op, op', op''] [b, c, d] pos) (tTest (tChain3 r r' r'' ta tb tc td)) := by
  refine ⟨fun pins s σ H Q I h => ?_⟩
  refine isTrue_chain (thn (ha.run pins s σ H _ I h) fun v s1 ⟨x, H1, I1, r1, q1⟩ => test_link (thn (hb.run pins s1 σ H1 _ I1 q1) fun u s2 ⟨y, H2, I2, r2, q2⟩ =>
    thn (ho pins s2 σ H2 x y v u _ I2 r1 r2 q2) fun d s3 ⟨z, H3, I3, r3, k, e, q3⟩ => ?_)) hm
  subst e
  cases r3
  refine wpAny_truthy_bool ?_
  cases k with
  | false =>
    obtain ⟨k', e', q'⟩ := q3
    cases e'
    exact ite_ff ⟨H3, I3, q'⟩
  | true =>
    refine ite_tt (test_link (thn (hc.run pins s3 σ H3 _ I3 q3) fun w' s4 ⟨z', H4, I4, r4, q4⟩ => thn (ho' pins s4 σ H4 y z' u w' _ I4 r2 r4 q4) fun d' s5 ⟨z2, H5, I5, r5, k2, e2, q5⟩ => ?_))
    subst e2
    cases r5
    refine wpAny_truthy_bool ?_
    cases k2 with
    | false =>
      obtain ⟨k', e', q'⟩ := q5
      cases e'
      exact ite_ff ⟨H5, I5, q'⟩
    | true =>
      refine ite_tt (test_last (thn (hd.run pins s5 σ H5 _ I5 q5) fun w2 s6 ⟨z3, H6, I6, r6, q6⟩ => thn (ho'' pins s6 σ H6 z' z3 w' w2 _ I6 r4 r6 q6) fun d2 s7 ⟨z4, H7, I7, r7, k3, e3, q7⟩ => ?_))
      subst e3
      cases r7
      exact wpAny_truthy_bool ⟨H7, I7, q7⟩
end

/-! ### a statement, a word, the rest -/
def tCut (t u : TS) : TS := fun D σ H => ∃ Mid : L2.St → Hp → Prop, t { nx := Mid, rt := D.rt, bk := D.bk, ct := D.ct } σ H ∧ ∀ σ' H', Mid σ' H' → u D σ' H'
theorem pss_cut {X : Cx} {st : Stmt} {rest : List Stmt} {t u : TS} (h1 : PS X st t) (h2 : PSs X rest u) : PSs X (st :: rest) (tCut t u) := by
  refine ⟨fun pins s σ H D I h => ?_⟩
  obtain ⟨Mid, hm, hu⟩ := h
  refine wpAny_execs_cons (thn (h1.run pins s σ H { nx := Mid, rt := D.rt, bk := D.bk, ct := D.ct } I hm) fun f s1 q => ?_)
  cases f with
  | next =>
    obtain ⟨σ', H', I', q⟩ := q
    exact h2.run pins s1 σ' H' D I' (hu σ' H' q)
  | ret v => exact q
  | brk => exact q
  | cont => exact q
theorem c_cut {t u : TS} {D : Ends} {σ : L2.St} {H : Hp} (Mid : L2.St → Hp → Prop) (h1 : t { nx := Mid, rt := D.rt, bk := D.bk, ct := D.ct } σ H) (h2 : ∀ σ' H', Mid σ' H' → u D σ' H') : tCut t u D σ H := ⟨Mid, h1, h2⟩
theorem c_nocut {t u : TS} {D : Ends} {σ : L2.St} {H : Hp} (h : t { nx := u D, rt := D.rt, bk := D.bk, ct := D.ct } σ H) : tCut t u D σ H := ⟨u D, h, fun _ _ z => z⟩

/-! ### len(set(xs)), xs ints of any kind -/
def nodup_len (ns : List Int) : Nat := (PyProof.Rows.firstMet (fun i => ns.getD i 0) ns.length).length
def tLenSetG (K : PySem.W.Frag) (ta : TE) : TE := fun σ H Q => ta σ H fun x H1 => ∃ (l : Addr) (ns : List Int), x = .ref l ∧ SqL K H1 l (ns.map V.int) ∧ ns.length ≤ 4000 ∧ Q (.int (nodup_len ns : Nat)) H1
theorem pe_lenSetG {X : Cx} {a : Expr} {ta : TE} {p p2 q pos : Pos} (hg : Gl X "len") (hm : X.mg "len" = none) (hg2 : Gl X "set") (hm2 : X.mg "set" = none) (ha : PE X a ta) (hc : X.calm = true := by rfl)
    (na : starEach [a] X.env = (false, eval a X.env) :: starEach [] X.env := by rfl) : PE X (.Call (.Name "len" p) [.Call (.Name "set" p2) [a] [] q] [] pos) (tLenSetG X.K ta) := by
  refine ⟨fun pins s σ H Q I h => ?_⟩
  refine Call_ (ld_blt I hg hm boot_len ?_)
  refine PyProof.Rows.callWith_builtin1 (PyProof.Rows.args_cons ?_ rfl) rfl rfl
  refine Call_ (ld_blt I hg2 hm2 boot_set ?_)
  refine PyProof.Rows.callWith_type1 (PyProof.Rows.args_cons (thn (ha.run pins s σ H _ I h) fun v s1 ⟨x, H1, I1, r1, q1⟩ => PyProof.Rows.args_nil ?_) na) na rfl
  obtain ⟨l, ns, rfl, hq, hl, q1⟩ := q1
  cases r1
  obtain ⟨its, r, pl, hz⟩ := I1.list hq
  have hlen : its.toArray.size = ns.length := by rw [List.size_toArray, ← r.length, List.length_map]
  refine call_set_list (I1.ok.hd hc) pl.isList (by simpa using RZ.intsAre_vals r) (by rw [hlen]; unfold scanBound; omega) fun h' tk hS hk => ?_
  refine PyProof.Rows.args_nil ?_
  rw [hlen] at hS
  obtain ⟨o, es, ep, t, ho, hex, hd, _, _, _, hf, hn⟩ := hS
  have I2 : Inv X pins σ H1 { s1 with heap := h', toks := tk } := I1.kept fun b o e => hk b o (Heap.lt_size e) e
  have hle := PyProof.Rows.firstMet_length_le (fun i => ns.getD i 0) ns.length
  exact call_len_set ho hex hd hf (by rw [hn] <;> omega) ⟨.int (nodup_len ns : Nat), H1, I2.tok _, ⟨_, by rw [hn]; rfl⟩, q1⟩
theorem dedup_len : ∀ (l acc : List Int), (l.foldl PyProof.Rows.step_dedup acc).length ≤ acc.length + l.length
  | [], acc => Nat.le_refl _
  | a :: r, acc => by
    rw [List.foldl_cons, List.length_cons]
    refine Nat.le_trans (dedup_len r _) ?_
    unfold PyProof.Rows.step_dedup
    split
    · omega
    · rw [List.length_append]; simp; omega
theorem dedup_eq : ∀ (l acc : List Int), (l.foldl PyProof.Rows.step_dedup acc).length = acc.length + l.length ↔ (l.Nodup ∧ ∀ x ∈ l, x ∉ acc)
  | [], acc => by simp
  | a :: r, acc => by
    rw [List.foldl_cons, List.length_cons, List.nodup_cons]
    have h1 := dedup_len r (PyProof.Rows.step_dedup acc a)
    by_cases hc : a ∈ acc
    · have e : PyProof.Rows.step_dedup acc a = acc := by
        unfold PyProof.Rows.step_dedup
        rw [if_pos]
        exact List.any_eq_true.mpr ⟨a, hc, by simp⟩
      rw [e] at h1 ⊢
      refine ⟨fun h => absurd h (by omega), fun h => absurd hc (h.2 a (by simp))⟩
    · have e : PyProof.Rows.step_dedup acc a = acc ++ [a] := by
        unfold PyProof.Rows.step_dedup
        rw [if_neg]
        intro h
        obtain ⟨y, hy, ey⟩ := List.any_eq_true.mp h
        have ey2 : y = a := eq_of_beq ey
        exact hc (ey2 ▸ hy)
      have ih := dedup_eq r (acc ++ [a])
      rw [e]
      rw [List.length_append] at ih
      constructor
      · intro h
        obtain ⟨n1, n2⟩ := ih.mp (by simp at h ⊢; omega)
        refine ⟨⟨fun hm => n2 a hm (by simp), n1⟩, fun x hx => ?_⟩
        rcases List.mem_cons.mp hx with rfl | hx
        · exact hc
        · intro z; exact n2 x hx (by simp [z])
      · rintro ⟨⟨n0, n1⟩, n2⟩
        have := ih.mpr ⟨n1, fun x hx z => by
          rcases List.mem_append.mp z with z | z
          · exact n2 x (List.mem_cons_of_mem _ hx) z
          · have : x = a := by simpa using z
            subst this; exact n0 hx⟩
        simp at this ⊢; omega
theorem range_getD (ns : List Int) : (List.range ns.length).map (fun i => ns.getD i 0) = ns := by
  apply List.ext_getElem (by simp)
  intro i h1 h2
  simp at h1 h2 ⊢
  rw [List.getElem?_eq_getElem h1]
  rfl
theorem nodup_len_eq (ns : List Int) : nodup_len ns = ns.length ↔ ns.Nodup := by
  unfold nodup_len PyProof.Rows.firstMet
  rw [range_getD]
  have := dedup_eq ns []
  simp at this ⊢
  exact this
end Bo

namespace Bo
open PySem PySem.Spec PyProof.Rows L2

/-! ### heaps: what stands, what is new -/
theorem Same.new {H0 H : Hp} {p : Addr} {o : HO} (s : Same H0 H) (h : H0 p = none) : Same H0 (upd H p o) := fun b u e => by
  rw [upd_ne (ne_of_none e h)]; exact s b u e
theorem Same.up {H H' : Hp} {p : Addr} {o : HO} (s : Same H H') (e : H p = some o) : H' p = some o := s p o e
theorem Same.one {H : Hp} {p : Addr} {o : HO} (h : H p = none) : Same H (upd H p o) := Same.new (Same.refl H) h
theorem lift_ne {H : Hp} {p q : Addr} {o u : HO} (e : H p = some o) (h : p ≠ q) : upd H q u p = some o := by rw [upd_ne h]; exact e
theorem free_up {H : Hp} {p q : Addr} {u : HO} (h : upd H q u p = none) : H p = none := by
  by_cases e : p = q
  · subst e; rw [upd_same] at h; cases h
  · rwa [upd_ne e] at h
theorem SqT.same {K : PySem.W.Frag} {H H' : Hp} {a : Addr} {xs : List V} (e : Same H H') (h : SqT K H a xs) : SqT K H' a xs := by
  rcases h with (h | ⟨o, h⟩) | h
  · exact .inl (.inl (e _ _ h))
  · exact .inl (.inr ⟨o, e _ _ h⟩)
  · exact .inr h

theorem neo {H : Hp} {a b : Addr} {o : HO} (h' : H b = none) (h : H a = some o) : a ≠ b := ne_of_none h h'
theorem same_trans {H H1 H2 : Hp} (b : Same H1 H2) (a : Same H H1) : Same H H2 := a.trans b
theorem same_free {H H' : Hp} {l : Addr} (h : H' l = none) (e : Same H H') : H l = none := e.free h
theorem same_seq {K : PySem.W.Frag} {H H' : Hp} {a : Addr} {xs : List V} (h : SqL K H a xs) (e : Same H H') : SqL K H' a xs := e.seq h
theorem same_sqt {K : PySem.W.Frag} {H H' : Hp} {a : Addr} {xs : List V} (h : SqT K H a xs) (e : Same H H') : SqT K H' a xs := SqT.same e h
/-! ### ints of a list by an int place -/
def gt (ns : List Int) (i : Int) : Int := if 0 ≤ i then ns.getD i.toNat 0 else ns.getD (i + ns.length).toNat 0
theorem gt_nat (ns : List Int) (i : Nat) : gt ns (i : Int) = ns.getD i 0 := by
  unfold gt
  rw [if_pos (by omega)]
  rfl
theorem gt_get {ns : List Int} {i : Nat} {x : Int} (h : ns[i]? = some x) : gt ns (i : Int) = x := by
  rw [gt_nat, List.getD_eq_getElem?_getD, h]; rfl
theorem getD_some {ns : List Int} {i : Nat} (h : i < ns.length) : ns[i]? = some (ns.getD i 0) := by
  rw [List.getD_eq_getElem?_getD, List.getElem?_eq_getElem h]; rfl
theorem gt_some {ns : List Int} {i : Nat} (h : i < ns.length) : ns[i]? = some (gt ns (i : Int)) := by rw [gt_nat]; exact getD_some h
theorem gt_mem {ns : List Int} {i : Int} (h0 : -(ns.length : Int) ≤ i) (h : i < ns.length) : gt ns i ∈ ns := by
  unfold gt
  by_cases c : 0 ≤ i
  · rw [if_pos c]; exact List.mem_of_getElem? (getD_some (by omega))
  · rw [if_neg c]; exact List.mem_of_getElem? (getD_some (by omega))
theorem at_gt {ns : List Int} {i : Int} (h0 : -(ns.length : Int) ≤ i) (h : i < ns.length) : atI (ns.map V.int) i = some (.int (gt ns i)) := by
  unfold atI ixN gt
  rw [List.length_map]
  by_cases c : 0 ≤ i
  · rw [if_pos c, if_pos h, if_pos c]
    show (ns.map V.int)[i.toNat]? = _
    rw [List.getElem?_map, getD_some (by omega)]; rfl
  · rw [if_neg c, if_pos h0, if_neg c]
    show (ns.map V.int)[(i + ns.length).toNat]? = _
    rw [List.getElem?_map, getD_some (by omega)]; rfl
theorem at_map {α : Type} {f : α → V} {xs : List α} {i : Int} {j : Nat} {x : α} (e : i = (j : Int)) (h : xs[j]? = some x) : atI (xs.map f) i = some (f x) := by
  subst e
  refine atI_nat ?_
  rw [List.getElem?_map, h]; rfl
theorem map_get {α : Type} {f : α → V} {xs : List α} {i : Nat} {y : V} (h : (xs.map f)[i]? = some y) : ∃ x, xs[i]? = some x ∧ y = f x := by
  rw [List.getElem?_map] at h
  cases e : xs[i]? with
  | none => rw [e] at h; cases h
  | some x => rw [e] at h; exact ⟨x, rfl, (Option.some.inj h).symm⟩
/-- places stored -/
def st (ns : List Int) (i x : Int) : List Int := ns.set i.toNat x
theorem st_length (ns : List Int) (i x : Int) : (st ns i x).length = ns.length := List.length_set ..

section
variable {K : PySem.W.Frag} {σ : L2.St} {H H' : Hp} {ta tb te tc : TE} {t u : TT} {x y z v : V} {D : Ends} {tu tw tz : TS} {g : TG} {Q : VK} {i j : Int}

/-! ### statements -/
theorem r_seq (h : tu { nx := tw D, rt := D.rt, bk := D.bk, ct := D.ct } σ H) : tSeq tu tw D σ H := h
theorem r_nxD (h : Ends.nx D σ H) : Ends.nx D σ H := h
theorem r_rtD (h : Ends.rt D v H) : Ends.rt D v H := h
theorem r_nx {a : L2.St → Hp → Prop} {b : VK} {c d : L2.St → Hp → Prop} (h : a σ H) : Ends.nx (Ends.mk a b c d) σ H := h
theorem r_rt {a : L2.St → Hp → Prop} {b : VK} {c d : L2.St → Hp → Prop} (h : b v H) : Ends.rt (Ends.mk a b c d) v H := h
theorem r_next (h : D.nx σ H) : tNext D σ H := h
theorem r_asgN {k : Nat} (h : te σ H fun v H1 => D.nx (σ.set k (some v)) H1) : tAsg te (gName k) D σ H := h
theorem r_asg (h : te σ H fun v H1 => g v σ H1 D.nx) : tAsg te g D σ H := h
theorem r_ret (h : te σ H D.rt) : tRet te D σ H := h
theorem r_drop (h : te σ H fun _ H1 => D.nx σ H1) : tDrop te D σ H := h
theorem r_if (h : t σ H fun b H1 => if b = true then tu D σ H1 else tw D σ H1) : tIfS t tu tw D σ H := h
theorem r_set (h : tv σ H fun y H1 => ta σ H1 fun o H2 => tb σ H2 fun i H3 => rSetL o i y H3 fun H4 => D.nx σ H4) : tAsg tv (gSub ta tb rSetL) D σ H := h
def KPar (k l : Nat) (D : Ends) (σ : L2.St) (vs : List V) (H : Hp) : Prop := ∃ v w, vs = [v, w] ∧ D.nx ((σ.set k (some v)).set l (some w)) H
theorem r_par {k l : Nat} {ta : TA} (h : ta σ H fun vs H1 => KPar k l D σ vs H1) : tPar k l ta D σ H := h
theorem k_par {k l : Nat} (h : D.nx ((σ.set k (some x)).set l (some y)) H) : KPar k l D σ [x, y] H := ⟨x, y, rfl, h⟩
theorem r_aug {k : Nat} {a : V} {ti : TIp} (e : σ[k]? = some (some a)) (h : te σ H fun y H1 => ti a y H1 fun z H2 => D.nx (σ.set k (some z)) H2) : tAug k te ti D σ H := ⟨_, e, h⟩
theorem i_ip {f : Int → Int → Int} (q : Q (.int (f i j)) H) : ipI f (.int i) (.int j) H Q := ⟨i, j, rfl, rfl, q⟩
def KFs (K : PySem.W.Frag) (f : Str) (D : Ends) (σ : L2.St) (y x : V) (H : Hp) : Prop := ∃ a C dx fs, x = .ref a ∧ H a = some (.ins C dx fs) ∧ Cls K C ∧ NoAttr K C f ∧ fs.length < 1000 ∧ D.nx σ (upd H a (.ins C dx (putF f y fs)))
theorem r_fld {f : Str} (h : tv σ H fun y H1 => ta σ H1 fun x H2 => KFs K f D σ y x H2) : sFld K ta tv f D σ H := h
theorem k_fld {f : Str} {a C dx : Addr} {fs : List (Str × V)} (h : H a = some (.ins C dx fs)) (c : Cls K C) (n : NoAttr K C f) (z : fs.length < 1000) (q : D.nx σ (upd H a (.ins C dx (putF f y fs)))) : KFs K f D σ y (.ref a) H := ⟨a, C, dx, fs, rfl, h, c, n, z, q⟩
/-! ### expressions -/
theorem e_var {k : Nat} (e : σ[k]? = some (some v)) (q : Q v H) : tVar k σ H Q := ⟨v, e, q⟩
theorem e_c (q : Q v H) : tC v σ H Q := q
theorem e_op {r : R2} (h : ta σ H fun x H1 => tb σ H1 fun y H2 => r x y H2 Q) : tOp r ta tb σ H Q := h
theorem e_un {r : V → Hp → VK → Prop} (h : ta σ H fun x H1 => r x H1 Q) : tUn r ta σ H Q := h
theorem o_I0 {gg : Int → Int → V} (q : Q (gg i j) H) : rI0 gg (.int i) (.int j) H Q := ⟨i, j, rfl, rfl, q⟩
theorem o_I {C : Int → Int → Prop} {gg : Int → Int → V} (c : C i j) (q : Q (gg i j) H) : rI C gg (.int i) (.int j) H Q := ⟨i, j, rfl, rfl, c, q⟩
theorem o_mod (h : 0 < j) (q : Q (.int (i % j)) H) : rI (fun _ j => 0 < j) (fun i j => .int (i % j)) (.int i) (.int j) H Q := ⟨i, j, rfl, rfl, h, q⟩
theorem o_fdiv (h : 0 < j ∧ j < 1073741824) (q : Q (.int (i / j)) H) : rI CDiv (fun i j => .int (i / j)) (.int i) (.int j) H Q := ⟨i, j, rfl, rfl, h, q⟩
theorem o_mulR (h : -10000000000 < j ∧ j < 10000000000) (q : Q (.int (i * j)) H) : rI CMul (fun i j => .int (i * j)) (.int i) (.int j) H Q := ⟨i, j, rfl, rfl, .inr ⟨by omega, by omega⟩, q⟩
theorem o_mulL (h : -10000000000 < i ∧ i < 10000000000) (q : Q (.int (i * j)) H) : rI CMul (fun i j => .int (i * j)) (.int i) (.int j) H Q := ⟨i, j, rfl, rfl, .inl ⟨by omega, by omega⟩, q⟩
theorem o_neg {gg : Int → V} (q : Q (gg i) H) : rU gg (.int i) H Q := ⟨i, rfl, q⟩
theorem o_eqI (q : Q (.bl (decide (i = j))) H) : rEq (.int i) (.int j) H Q := ⟨rfl, by rw [dec_int, Bool.beq_eq_decide_eq]; exact q⟩
theorem o_neI (q : Q (.bl (!decide (i = j))) H) : rNe (.int i) (.int j) H Q := ⟨rfl, by rw [dec_int, Bool.beq_eq_decide_eq]; exact q⟩
theorem o_eqB {a b : Bool} (q : Q (.bl (a == b)) H) : rEq (.bl a) (.bl b) H Q := ⟨rfl, by rw [dec_bl]; exact q⟩
theorem o_neB {a b : Bool} (q : Q (.bl (!(a == b))) H) : rNe (.bl a) (.bl b) H Q := ⟨rfl, by rw [dec_bl]; exact q⟩
theorem o_eqS {a b : Str} (q : Q (.bl (a == b)) H) : rEq (.str a) (.str b) H Q := ⟨rfl, by rw [dec_str]; exact q⟩
theorem o_neS {a b : Str} (q : Q (.bl (!(a == b))) H) : rNe (.str a) (.str b) H Q := ⟨rfl, by rw [dec_str]; exact q⟩
theorem o_ixI {p : Addr} {ns : List Int} (h : SqL K H p (ns.map V.int)) (h0 : -(ns.length : Int) ≤ i ∧ i < ns.length) (q : Q (.int (gt ns i)) H) : rIxL K (.ref p) (.int i) H Q := ⟨p, _, i, _, rfl, rfl, h, at_gt h0.1 h0.2, q⟩
theorem o_ixM {α : Type} {f : α → V} {xs : List α} {p : Addr} {j : Nat} {x : α} (h : SqL K H p (xs.map f)) (e : xs[j]? = some x) (e2 : i = (j : Int)) (q : Q (f x) H) : rIxL K (.ref p) (.int i) H Q := ⟨p, _, i, _, rfl, rfl, h, at_map e2 e, q⟩
theorem o_ixT {xs : List V} {p : Addr} (h : SqT K H p xs) (e : atI xs i = some v) (q : Q v H) : rIxT K (.ref p) (.int i) H Q := ⟨p, _, i, _, rfl, rfl, h, e, q⟩
theorem e_lst {ta : TA} (h : ta σ H fun xs H1 => xs.length ≤ sizeLine ∧ ∀ p, H1 p = none → Q (.ref p) (upd H1 p (.lst xs))) : tLst ta σ H Q := h
theorem e_tup {ta : TA} (h : ta σ H fun xs H1 => xs.length ≤ sizeLine ∧ ∀ p, H1 p = none → Q (.ref p) (upd H1 p (.tup xs))) : tTup ta σ H Q := h
theorem a_nil {R : List V → Hp → Prop} (h : R [] H) : tNil σ H R := h
theorem a_cons {ts : TA} {R : List V → Hp → Prop} (h : ta σ H fun x H1 => ts σ H1 fun xs H2 => R (x :: xs) H2) : tCons ta ts σ H R := h
theorem e_cb {r : List V → Hp → VK → Prop} {ts : TA} (h : ts σ H fun vs H1 => r vs H1 Q) : tCB r ts σ H Q := h
theorem e_call {sp : Sp} {E : XK} {ts : TA} (h : ts σ H fun vs H1 => sp vs H1 Q E) : tCall sp [] E ts σ H Q := by
  have e : (fun (vs : List V) (H1 : Hp) => sp (vs ++ []) H1 Q E) = fun vs H1 => sp vs H1 Q E := by
    funext vs H1; rw [List.append_nil]
  show ts σ H fun vs H1 => sp (vs ++ []) H1 Q E
  rw [e]; exact h
theorem e_make {C : Addr} {sp : Sp} {E : XK} {ts : TA} (h : ts σ H fun vs H1 => ∀ x dx, H1 x = none → H1 dx = none → dx ≠ x → sp (.ref x :: vs) (upd (upd H1 dx (.own x)) x (.ins C dx [])) (fun v H2 => v = .non ∧ Q (.ref x) H2) E) : tMake C sp [] E ts σ H Q := by
  have e : (fun (vs : List V) (H1 : Hp) => ∀ x dx, H1 x = none → H1 dx = none → dx ≠ x → sp (.ref x :: (vs ++ [])) (upd (upd H1 dx (.own x)) x (.ins C dx [])) (fun v H2 => v = .non ∧ Q (.ref x) H2) E) = fun vs H1 => ∀ x dx, H1 x = none → H1 dx = none → dx ≠ x → sp (.ref x :: vs) (upd (upd H1 dx (.own x)) x (.ins C dx [])) (fun v H2 => v = .non ∧ Q (.ref x) H2) E := by
    funext vs H1; rw [List.append_nil]
  show ts σ H fun (vs : List V) (H1 : Hp) => ∀ x dx, H1 x = none → H1 dx = none → dx ≠ x → sp (.ref x :: (vs ++ [])) (upd (upd H1 dx (.own x)) x (.ins C dx [])) (fun v H2 => v = .non ∧ Q (.ref x) H2) E
  rw [e]; exact h
def KM (C : Addr) (m : Str) (sp : Sp) (E : XK) (ts : TA) (σ : L2.St) (Q : VK) (x : V) (H : Hp) : Prop := ∃ a dx fs, x = .ref a ∧ H a = some (.ins C dx fs) ∧ fs.lookup m = none ∧ ts σ H fun vs H2 => sp (x :: vs) H2 Q E
theorem e_meth {C : Addr} {m : Str} {sp : Sp} {E : XK} {ts : TA} (h : ta σ H fun x H1 => KM C m sp E ts σ Q x H1) : tMeth C m sp [] E ta ts σ H Q := by
  have e : ∀ x, (fun (vs : List V) (H2 : Hp) => sp (x :: (vs ++ [])) H2 Q E) = fun vs H2 => sp (x :: vs) H2 Q E := by
    intro x; funext vs H1; rw [List.append_nil]
  show ta σ H fun x H1 => ∃ a dx fs, x = .ref a ∧ H1 a = some (.ins C dx fs) ∧ fs.lookup m = none ∧ ts σ H1 fun vs H2 => sp (x :: (vs ++ [])) H2 Q E
  simp only [e]; exact h
theorem k_meth {C a dx : Addr} {m : Str} {sp : Sp} {E : XK} {ts : TA} {fs : List (Str × V)} (h : H a = some (.ins C dx fs)) (n : fs.lookup m = none) (q : ts σ H fun vs H2 => sp (.ref a :: vs) H2 Q E) : KM C m sp E ts σ Q (.ref a) H := ⟨a, dx, fs, rfl, h, n, q⟩
def KF (K : PySem.W.Frag) (f : Str) (Q : VK) (x : V) (H : Hp) : Prop := ∃ a C dx fs v, x = .ref a ∧ H a = some (.ins C dx fs) ∧ Cls K C ∧ NoAttr K C f ∧ fs.lookup f = some v ∧ Q v H
theorem e_fld {f : Str} (h : ta σ H fun x H1 => KF K f Q x H1) : tFld K ta f σ H Q := h
theorem c_fld {f : Str} {a C dx : Addr} {fs : List (Str × V)} (h : H a = some (.ins C dx fs)) (c : Cls K C) (n : NoAttr K C f) (e : fs.lookup f = some v) (q : Q v H) : KF K f Q (.ref a) H := ⟨a, C, dx, fs, v, rfl, h, c, n, e, q⟩
theorem e_bm {T : String} {r : V → List V → Hp → VK → Prop} {ts : TA} (h : ta σ H fun x H1 => tyV K T x H1 ∧ ts σ H1 fun xs H2 => r x xs H2 Q) : tBM K T r ta ts σ H Q := h
theorem e_bm0 {T : String} {r : V → List V → Hp → VK → Prop} (h : ta σ H fun x H1 => tyV K T x H1 ∧ r x [] H1 Q) : tBM0 K T r ta σ H Q := h
theorem m_ty {p : Addr} {xs : List V} {B : Prop} (h : SqL K H p xs) (q : B) : tyV K "list" (.ref p) H ∧ B := ⟨.inl ⟨rfl, _, h⟩, q⟩
theorem m_app {l : Addr} {xs : List V} (h : H l = some (.lst xs)) (z : xs.length < 1000000) (q : Q .non (upd H l (.lst (xs ++ [v])))) : rAppend (.ref l) [v] H Q := ⟨l, xs, v, rfl, rfl, h, Nat.lt_of_lt_of_le z (by decide), q⟩
theorem m_appM {α : Type} {f : α → V} {l : Addr} {xs : List α} {y : α} (h : H l = some (.lst (xs.map f))) (e : v = f y) (z : xs.length < 1000000) (q : Q .non (upd H l (.lst ((xs ++ [y]).map f)))) : rAppend (.ref l) [v] H Q := by
  refine ⟨l, xs.map f, v, rfl, rfl, h, by rw [List.length_map]; exact Nat.lt_of_lt_of_le z (by decide), ?_⟩
  rw [List.map_append] at q
  rw [e]; exact q
theorem m_setM {α : Type} {f : α → V} {l : Addr} {xs : List α} {y : α} {k : Nat} {R : Hp → Prop} (h : H l = some (.lst (xs.map f))) (e : v = f y) (e2 : i = (k : Int)) (z : k < xs.length) (q : R (upd H l (.lst ((xs.set k y).map f)))) : rSetL (.ref l) (.int i) v H R := by
  refine ⟨l, xs.map f, i, k, rfl, rfl, h, ?_, ?_⟩
  · subst e2
    unfold ixN
    rw [List.length_map, if_pos (by omega), if_pos (by omega)]
    simp
  · rw [List.map_set] at q
    rw [e]; exact q
theorem m_setI {l : Addr} {ns : List Int} {R : Hp → Prop} (h : H l = some (.lst (ns.map V.int))) (z : 0 ≤ i ∧ i < ns.length) (q : R (upd H l (.lst ((st ns i j).map V.int)))) : rSetL (.ref l) (.int i) (.int j) H R :=
  m_setM (k := i.toNat) h rfl (by omega) (by omega) q
def rLen2 (K : PySem.W.Frag) : List V → Hp → VK → Prop := fun xs H Q => ∃ p ys, xs = [.ref p] ∧ (SqL K H p ys ∨ SqT K H p ys) ∧ Q (.int ys.length) H
theorem c_lenM {α : Type} {f : α → V} {p : Addr} {ys : List α} (h : SqL K H p (ys.map f)) (q : Q (.int (ys.length : Nat)) H) : rLen2 K [.ref p] H Q := ⟨p, _, rfl, .inl h, by rw [List.length_map]; exact q⟩
theorem c_lenT {p : Addr} {ys : List V} (h : SqT K H p ys) (q : Q (.int (ys.length : Nat)) H) : rLen2 K [.ref p] H Q := ⟨p, _, rfl, .inr h, q⟩
def rMax2 : List V → Hp → VK → Prop := fun xs H Q => ∃ i j, xs = [.int i, .int j] ∧ Q (.int (if j > i then j else i)) H
def rMin2 : List V → Hp → VK → Prop := fun xs H Q => ∃ i j, xs = [.int i, .int j] ∧ Q (.int (if j < i then j else i)) H
theorem c_max2 (q : Q (.int (max i j)) H) : rMax2 [.int i, .int j] H Q := ⟨i, j, rfl, by
  have e : (if j > i then j else i) = max i j := by split <;> omega
  rw [e]; exact q⟩
theorem c_min2 (q : Q (.int (min i j)) H) : rMin2 [.int i, .int j] H Q := ⟨i, j, rfl, by
  have e : (if j < i then j else i) = min i j := by split <;> omega
  rw [e]; exact q⟩
def rList2 (K : PySem.W.Frag) : List V → Hp → VK → Prop := fun xs H Q => ∃ p ys, xs = [.ref p] ∧ (SqL K H p ys ∨ SqT K H p ys) ∧ ∀ l, H l = none → Q (.ref l) (upd H l (.lst ys))
theorem c_list {p : Addr} {ys : List V} (h : SqL K H p ys) (q : ∀ l, H l = none → Q (.ref l) (upd H l (.lst ys))) : rList2 K [.ref p] H Q := ⟨p, ys, rfl, .inl h, q⟩
theorem c_listT {p : Addr} {ys : List V} (h : SqT K H p ys) (q : ∀ l, H l = none → Q (.ref l) (upd H l (.lst ys))) : rList2 K [.ref p] H Q := ⟨p, ys, rfl, .inr h, q⟩
theorem c_isi {n t : String} {b : Bool} (ty : TyX K H x (.type t)) (e : kitB t n = some b) (q : Q (.bl b) H) : rIsi K [x, .ty n] H Q := ⟨x, .ty n, _, _, b, rfl, .ty n, ty, kit_ty e, q⟩
theorem c_isiI {n : String} {b : Bool} (e : kitB "int" n = some b) (q : Q (.bl b) H) : rIsi K [.int i, .ty n] H Q := c_isi (.base (.int i)) e q
theorem c_isiL {p : Addr} {xs : List V} {n : String} {b : Bool} (h : SqL K H p xs) (e : kitB "list" n = some b) (q : Q (.bl b) H) : rIsi K [.ref p, .ty n] H Q := by
  refine c_isi (t := "list") ?_ e q
  rcases h with (h | ⟨o, h⟩) | ⟨o, its, k, h1, h2, _⟩
  · exact .base (.lst h)
  · exact .base (.frz h)
  · exact .kList h1 h2
theorem c_isiT {p : Addr} {xs : List V} {n : String} {b : Bool} (h : H p = some (.tup xs)) (e : kitB "tuple" n = some b) (q : Q (.bl b) H) : rIsi K [.ref p, .ty n] H Q := c_isi (.base (.tup h)) e q
def gb (bs : List Bool) (i : Int) : Bool := bs.getD i.toNat true
theorem o_ixB {p : Addr} {bs : List Bool} (h : SqL K H p (bs.map V.bl)) (h0 : 0 ≤ i ∧ i < bs.length) (q : Q (.bl (gb bs i)) H) : rIxL K (.ref p) (.int i) H Q := by
  refine o_ixM (j := i.toNat) (x := gb bs i) h ?_ (by omega) q
  unfold gb
  rw [List.getD_eq_getElem?_getD, List.getElem?_eq_getElem (by omega)]; rfl
theorem m_setB {l : Addr} {bs : List Bool} {c : Bool} {R : Hp → Prop} (h : H l = some (.lst (bs.map V.bl))) (z : 0 ≤ i ∧ i < bs.length) (q : R (upd H l (.lst ((bs.set i.toNat c).map V.bl)))) : rSetL (.ref l) (.int i) (.bl c) H R :=
  m_setM (k := i.toNat) h rfl (by omega) (by omega) q
theorem m_appR {l p : Addr} {as : List Addr} (h : H l = some (.lst (as.map V.ref))) (z : as.length < 1000000) (q : Q .non (upd H l (.lst ((as ++ [p]).map V.ref)))) : rAppend (.ref l) [.ref p] H Q := m_appM h rfl z q
theorem e_sl {r : V → Option Int → Option Int → Hp → VK → Prop} {tl th : TO} (h : te σ H fun x H1 => tl σ H1 fun l H2 => th σ H2 fun u H3 => r x l u H3 Q) : tSl r te tl th σ H Q := h
theorem e_nopart {R : Option Int → Hp → Prop} (h : R none H) : tNoPart σ H R := h
theorem e_part {R : Option Int → Hp → Prop} (h : ta σ H fun x H1 => ∃ i, x = .int i ∧ R (some i) H1) : tPart ta σ H R := h
theorem i_ok {R : Int → Prop} (q : R i) : ∃ j, V.int i = .int j ∧ R j := ⟨i, rfl, q⟩
theorem cut_from {α : Type} {f : α → V} {xs : List α} (h : 0 ≤ i) : cutV (xs.map f) (some i) none = (xs.drop i.toNat).map f := by
  obtain ⟨k, rfl⟩ : ∃ k : Nat, i = (k : Int) := ⟨i.toNat, by omega⟩
  unfold cutV
  rw [HT.sIx_nat, HT.sIx_none, List.length_map, Int.toNat_natCast, ← List.map_drop, ← List.map_take]
  congr 1
  by_cases c : k ≤ xs.length
  · rw [Nat.min_eq_left c]; exact List.take_of_length_le (by rw [List.length_drop]; omega)
  · rw [Nat.min_eq_right (by omega), List.drop_eq_nil_of_le (Nat.le_refl _), List.drop_eq_nil_of_le (by omega), List.take_nil]
theorem cut_to {α : Type} {f : α → V} {xs : List α} (h : 0 ≤ i) : cutV (xs.map f) none (some i) = (xs.take i.toNat).map f := by
  obtain ⟨k, rfl⟩ : ∃ k : Nat, i = (k : Int) := ⟨i.toNat, by omega⟩
  unfold cutV
  rw [HT.sIx_nat, HT.sIx_none, List.length_map, Int.toNat_natCast, List.drop_zero, Nat.sub_zero, ← List.map_take]
  congr 1
  by_cases c : k ≤ xs.length
  · rw [Nat.min_eq_left c]
  · rw [Nat.min_eq_right (by omega), List.take_of_length_le (Nat.le_refl _), List.take_of_length_le (by omega)]
theorem o_slFrom {α : Type} {f : α → V} {p : Addr} {xs : List α} (h : SqL K H p (xs.map f)) (z : 0 ≤ i) (q : ∀ l, H l = none → Q (.ref l) (upd H l (.lst ((xs.drop i.toNat).map f)))) : rSlL K (.ref p) (some i) none H Q :=
  ⟨p, _, rfl, h, fun l nl => by rw [cut_from z]; exact q l nl⟩
theorem o_slTo {α : Type} {f : α → V} {p : Addr} {xs : List α} (h : SqL K H p (xs.map f)) (z : 0 ≤ i) (q : ∀ l, H l = none → Q (.ref l) (upd H l (.lst ((xs.take i.toNat).map f)))) : rSlL K (.ref p) none (some i) H Q :=
  ⟨p, _, rfl, h, fun l nl => by rw [cut_to z]; exact q l nl⟩
theorem c_min {p : Addr} {ns : List Int} (h : SqL K H p (ns.map V.int)) (z : 0 < ns.length) (q : ∀ m, m ∈ ns → (∀ y ∈ ns, m ≤ y) → Q (.int m) H) : rMin K [.ref p] H Q := ⟨p, ns, rfl, h, z, q⟩
theorem c_all {p : Addr} {bs : List Bool} (h : SqL K H p (bs.map V.bl)) (q : Q (.bl (bs.all id)) H) : rAll K [.ref p] H Q := ⟨p, bs, rfl, h, q⟩
theorem c_any {p : Addr} {bs : List Bool} (h : SqL K H p (bs.map V.bl)) (q : Q (.bl (bs.any id)) H) : rAny K [.ref p] H Q := ⟨p, bs, rfl, h, q⟩
theorem c_sorted {p : Addr} {ns : List Int} (h : SqL K H p (ns.map V.int)) (q : ∀ ns' l, List.Perm ns' ns → ns'.Pairwise (· ≤ ·) → H l = none → Q (.ref l) (upd H l (.lst (ns'.map V.int)))) : rSortedI K [.ref p] H Q := ⟨p, ns, rfl, h, q⟩
def KLS (K : PySem.W.Frag) (Q : VK) (x : V) (H : Hp) : Prop := ∃ (l : Addr) (ns : List Int), x = .ref l ∧ SqL K H l (ns.map V.int) ∧ ns.length ≤ 4000 ∧ Q (.int (nodup_len ns : Nat)) H
theorem c_lenset {p : Addr} {ns : List Int} (h : SqL K H p (ns.map V.int)) (z : ns.length ≤ 4000) (q : Q (.int (nodup_len ns : Nat)) H) : KLS K Q (.ref p) H := ⟨p, ns, rfl, h, z, q⟩
theorem e_lenset (h : ta σ H fun x H1 => KLS K Q x H1) : tLenSetG K ta σ H Q := h
/-- xs.insert(i, y) -/
def rIns : V → List V → Hp → VK → Prop := fun x vs H Q => ∃ (l : Addr) (xs : List V) (i : Int) (y : V), x = .ref l ∧ vs = [.int i, y] ∧ H l = some (.lst xs) ∧ xs.length < sizeLine ∧ 0 ≤ i ∧ i < 2 ^ 63 ∧ Q .non (upd H l (.lst (xs.take i.toNat ++ [y] ++ xs.drop i.toNat)))
def ins (ns : List Int) (i x : Int) : List Int := ns.take i.toNat ++ [x] ++ ns.drop i.toNat
theorem m_ins {l : Addr} {ns : List Int} (h : H l = some (.lst (ns.map V.int))) (z : ns.length < 1000000) (z2 : 0 ≤ i ∧ i < 2 ^ 63) (q : Q .non (upd H l (.lst ((ins ns i j).map V.int)))) : rIns (.ref l) [.int i, .int j] H Q := by
  refine ⟨l, ns.map V.int, i, .int j, rfl, rfl, h, by rw [List.length_map]; exact Nat.lt_of_lt_of_le z (by decide), z2.1, z2.2, ?_⟩
  unfold ins at q
  rw [List.map_append, List.map_append, List.map_take, List.map_drop] at q
  exact q
theorem find_first : ∀ {ns : List Int} {k : Int}, k ∈ ns → ∃ j, ns[j]? = some k ∧ (∀ m : Nat, m < j → ns[m]? ≠ some k) ∧ ns.eraseIdx j = ns.erase k ∧ ns.idxOf k = j
  | [], k, h => by simp at h
  | a :: r, k, h => by
    by_cases c : a = k
    · subst c
      exact ⟨0, rfl, fun m hm => absurd hm (Nat.not_lt_zero _), by simp, by simp⟩
    · have hr : k ∈ r := by
        rcases List.mem_cons.mp h with e | e
        · exact absurd e.symm c
        · exact e
      obtain ⟨j, h1, h2, h3, h4⟩ := find_first hr
      refine ⟨j + 1, h1, fun m hm => ?_, ?_, ?_⟩
      · cases m with
        | zero => intro z; exact c (Option.some.inj z)
        | succ m => exact h2 m (by omega)
      · rw [List.eraseIdx_cons_succ, h3, List.erase_cons_tail (by simpa using c)]
      · rw [List.idxOf_cons, h4, show (a == k) = false by simpa using c]; rfl
theorem m_rem {l : Addr} {ns : List Int} (h : H l = some (.lst (ns.map V.int))) (hm : i ∈ ns) (q : Q .non (upd H l (.lst ((ns.erase i).map V.int)))) : rRemI (.ref l) [.int i] H Q := by
  obtain ⟨j, h1, h2, h3, _⟩ := find_first hm
  exact ⟨l, ns, i, j, rfl, rfl, h, h1, h2, by rw [h3]; exact q⟩
theorem all_flat (ns : List Int) : (ns.map V.int).all flatV = true := by
  rw [List.all_map]
  exact List.all_eq_true.mpr fun _ _ => rfl
theorem m_idx {l : Addr} {ns : List Int} (h : SqL K H l (ns.map V.int)) (hm : i ∈ ns) (q : Q (.int (ns.idxOf i : Nat)) H) : rIndex K (.ref l) [.int i] H Q := by
  obtain ⟨j, h1, h2, _, h4⟩ := find_first hm
  refine ⟨l, ns.map V.int, .int i, j, .int i, rfl, rfl, h, rfl, all_flat ns, by rw [List.getElem?_map, h1]; rfl, by show (i == i) = true; simp, fun m z' hlt hz => ?_, by rw [← h4]; exact q⟩
  obtain ⟨x, hx, rfl⟩ := map_get hz
  show (x == i) = false
  simp only [beq_eq_false_iff_ne]
  intro e; subst e; exact h2 m hlt hx
theorem inV_ints (ns : List Int) (i : Int) : inV (.int i) (ns.map V.int) = decide (i ∈ ns) := by
  unfold inV
  rw [List.any_map, Bool.eq_iff_iff, List.any_eq_true, decide_eq_true_eq]
  constructor
  · rintro ⟨x, hx, e⟩
    have e' : (x == i) = true := e
    rw [← eq_of_beq e']; exact hx
  · intro h; exact ⟨i, h, by show (i == i) = true; simp⟩
theorem o_in {l : Addr} {ns : List Int} (h : SqL K H l (ns.map V.int)) (q : Q (.bl (decide (i ∈ ns))) H) : rIn K false (.int i) (.ref l) H Q := ⟨l, _, rfl, .inl h, rfl, all_flat ns, by rw [inV_ints]; exact q⟩
theorem o_nin {l : Addr} {ns : List Int} (h : SqL K H l (ns.map V.int)) (q : Q (.bl (!decide (i ∈ ns))) H) : rIn K true (.int i) (.ref l) H Q := ⟨l, _, rfl, .inl h, rfl, all_flat ns, by
  show Q (.bl (!inV (.int i) (ns.map V.int))) H
  rw [inV_ints]; exact q⟩
/-- list(range(n)) -/
def KLR (Q : VK) (x : V) (H : Hp) : Prop := ∃ n, x = .int n ∧ RgOk 0 n ∧ ∀ q, H q = none → Q (.ref q) (upd H q (.lst (rgV 0 n)))
theorem e_listRg1 (h : ta σ H fun x H1 => KLR Q x H1) : tLstRg (tRg1 ta) σ H Q := h
/-- 0, 1, .. below n -/
def upTo (n : Nat) : List Int := (List.range n).map Int.ofNat
theorem upTo_length (n : Nat) : (upTo n).length = n := by unfold upTo; rw [List.length_map, List.length_range]
theorem rgV_upTo (n : Nat) : rgV 0 (n : Int) = (upTo n).map V.int := by
  unfold rgV upTo
  rw [List.map_map]
  have e : ((n : Int) - 0).toNat = n := by omega
  rw [e]
  refine List.map_congr_left fun i _ => ?_
  show V.int (0 + (i : Int)) = V.int (Int.ofNat i)
  rw [Int.zero_add]; rfl
theorem k_listRg {n : Nat} (z : n ≤ 1000000) (q : ∀ p, H p = none → Q (.ref p) (upd H p (.lst ((upTo n).map V.int)))) : KLR Q (.int (n : Nat)) H :=
  ⟨n, rfl, RgOk.of_le (by omega) (by omega) (by omega) (by omega), fun p np => by rw [rgV_upTo]; exact q p np⟩
theorem m_ext {l b : Addr} {α : Type} {f : α → V} {xs zs : List α} (h : H l = some (.lst (xs.map f))) (hb : H b = some (.lst (zs.map f))) (z : xs.length + zs.length < 1000000) (q : Q .non (upd H l (.lst ((xs ++ zs).map f)))) : rExtend (.ref l) [.ref b] H Q := by
  refine ⟨l, b, _, _, rfl, rfl, h, hb, by rw [List.length_map, List.length_map]; exact Nat.le_of_lt (Nat.lt_of_lt_of_le z (by decide)), ?_⟩
  rw [List.map_append] at q; exact q
theorem o_cat {l b : Addr} {α : Type} {f : α → V} {xs zs : List α} (h : H l = some (.lst (xs.map f))) (hb : H b = some (.lst (zs.map f))) (z : xs.length + zs.length < 1000000) (q : ∀ p, H p = none → Q (.ref p) (upd H p (.lst ((xs ++ zs).map f)))) : rCat (.ref l) (.ref b) H Q := by
  refine ⟨l, b, _, _, rfl, rfl, h, hb, by rw [List.length_map, List.length_map]; exact Nat.le_of_lt (Nat.lt_of_lt_of_le z (by decide)), fun p np => ?_⟩
  have := q p np
  rw [List.map_append] at this; exact this
def KRv (K : PySem.W.Frag) (Q : VK) (x : V) (H : Hp) : Prop := ∃ a xs, x = .ref a ∧ SqL K H a xs ∧ ∀ p, H p = none → Q (.ref p) (upd H p (.lst xs.reverse))
theorem e_rev (h : ta σ H fun x H1 => KRv K Q x H1) : tRevL K ta σ H Q := h
theorem c_rev {α : Type} {f : α → V} {p : Addr} {xs : List α} (h : SqL K H p (xs.map f)) (q : ∀ p, H p = none → Q (.ref p) (upd H p (.lst (xs.reverse.map f)))) : KRv K Q (.ref p) H :=
  ⟨p, _, rfl, h, fun p np => by have := q p np; rw [List.map_reverse] at this; exact this⟩
theorem l_new {n : Nat} {B : Prop} (z : n ≤ sizeLine) (q : B) : n ≤ sizeLine ∧ B := ⟨z, q⟩

/-! ### tests -/
variable {R : Bool → Hp → Prop} {b : Bool}
theorem t_test (h : te σ H fun x H1 => ∃ k, x = .bl k ∧ R k H1) : tTest te σ H R := h
theorem t_B (h : te σ H fun x H1 => ∃ k, x = .bl k ∧ R k H1) : tB te σ H R := h
theorem b_ok {R : Bool → Prop} (q : R b) : ∃ k, V.bl b = .bl k ∧ R k := ⟨b, rfl, q⟩
theorem t_and (h : t σ H fun c H1 => if c = true then u σ H1 R else R false H1) : tAnd t u σ H R := h
theorem t_or (h : t σ H fun c H1 => if c = true then R true H1 else u σ H1 R) : tOr t u σ H R := h
theorem t_not (h : t σ H fun c H1 => R (!c) H1) : tNot t σ H R := h
theorem v_and (h : ta σ H fun x H1 => ∃ c, x = .bl c ∧ if c = true then tb σ H1 Q else Q (.bl false) H1) : tAndV ta tb σ H Q := h
theorem v_or (h : ta σ H fun x H1 => ∃ c, x = .bl c ∧ if c = true then Q (.bl true) H1 else tb σ H1 Q) : tOrV ta tb σ H Q := h
theorem v_not (h : ta σ H fun x H1 => ∃ c, x = .bl c ∧ Q (.bl (!c)) H1) : tNotV ta σ H Q := h
theorem e_if (h : t σ H fun c H1 => if c = true then ta σ H1 Q else tb σ H1 Q) : tIf t ta tb σ H Q := h
theorem e_chain {r r' : R2} (h : ta σ H fun x H1 => tb σ H1 fun y H2 => r x y H2 fun z H3 => ∃ k, z = .bl k ∧ (if k = true then tc σ H3 fun w' H4 => r' y w' H4 Q else Q (.bl false) H3)) : tChain r r' ta tb tc σ H Q := h
theorem e_chain3 {r r' r'' : R2} {td : TE} (h : ta σ H fun x H1 => tb σ H1 fun y H2 => r x y H2 fun z H3 => ∃ k, z = .bl k ∧
  (if k = true then tc σ H3 fun w' H4 => r' y w' H4 fun z' H5 => ∃ k', z' = .bl k' ∧ (if k' = true then td σ H5 fun v' H6 => r'' w' v' H6 Q else Q (.bl false) H5) else Q (.bl false) H3)) : tChain3 r r' r'' ta tb tc td σ H Q := h
end
/-! ### the kind of a value -/
def isIntV : V → Bool
  | .int _ => true
  | .bl _ => true
  | _ => false
def isBlV : V → Bool
  | .bl _ => true
  | _ => false
theorem kit_int {K : PySem.W.Frag} {H : Hp} {x : V} {t : String} (h : TyX K H x (.type t)) : kitB t "int" = some (isIntV x) := by
  cases h with
  | base b => cases b <;> first | exact (show kitB _ "int" = some true by decide +kernel) | exact (show kitB _ "int" = some false by decide +kernel)
  | _ => exact (show kitB _ "int" = some false by decide +kernel)
theorem kit_bool {K : PySem.W.Frag} {H : Hp} {x : V} {t : String} (h : TyX K H x (.type t)) : kitB t "bool" = some (isBlV x) := by
  cases h with
  | base b => cases b <;> first | exact (show kitB _ "bool" = some true by decide +kernel) | exact (show kitB _ "bool" = some false by decide +kernel)
  | _ => exact (show kitB _ "bool" = some false by decide +kernel)
/-- whether it is a whole number between two bounds -/
def isNum (x : V) (lo hi : Int) : Bool := match x with
  | .int i => decide (lo ≤ i) && decide (i ≤ hi)
  | _ => false
theorem isNum_int (i lo hi : Int) : isNum (.int i) lo hi = (decide (lo ≤ i) && decide (i ≤ hi)) := rfl
/-- a row: the numbers below its length, each once -/
structure IsRow (ns : List Int) : Prop where
  len : ns.length ≤ 1000
  bd : ∀ x ∈ ns, 0 ≤ x ∧ x < ns.length
  nd : ns.Nodup
theorem IsRow.all_num {ns : List Int} (R : IsRow ns) : (ns.map fun x => isNum (.int x) 0 ((ns.length : Int) - 1)).all id = true := by
  rw [List.all_map]
  refine List.all_eq_true.mpr fun x hx => ?_
  have := R.bd x hx
  show isNum (.int x) 0 ((ns.length : Int) - 1) = true
  rw [isNum_int, decide_eq_true this.1, decide_eq_true (by omega)]; rfl
/-! ### loops -/
def FW (J : It) (g : TG) (tb : TS) (D : Ends) (σ : L2.St) (H : Hp) : Prop := ∃ W : Nat → Nat → L2.St → Hp → Prop, (∃ m, W 0 m σ H) ∧ ∀ i m σ H, W i m σ H →
  (J.stop i H ∧ D.nx σ H) ∨ (J.go i H ∧ ∃ N : L2.St → Hp → Prop, (∀ σ' H', N σ' H' → ∃ m', m' < m ∧ W (i + 1) m' σ' H') ∧ ∀ x H', J.yld i H x H' → g x σ H' fun σ2 H2 => tb { nx := N, rt := D.rt, ct := N, bk := D.nx } σ2 H2)
section
variable {K : PySem.W.Frag} {σ : L2.St} {H : Hp} {D : Ends} {tb : TS} {g : TG} {α : Type} {f : α → V} {a : Addr}
def KL (K : PySem.W.Frag) (g : TG) (tb : TS) (D : Ends) (σ : L2.St) (x : V) (H : Hp) : Prop := ∃ a, x = .ref a ∧ (∃ xs, SqL K H a xs) ∧ FW (Itl K a) g tb D σ H
def KTu (K : PySem.W.Frag) (g : TG) (tb : TS) (D : Ends) (σ : L2.St) (x : V) (H : Hp) : Prop := ∃ a, x = .ref a ∧ (∃ xs, SqT K H a xs) ∧ FW (Itt K a) g tb D σ H
def KE (K : PySem.W.Frag) (g : TG) (tb : TS) (D : Ends) (σ : L2.St) (vs : List V) (H : Hp) : Prop := ∃ a xs, vs = [.ref a] ∧ SqL K H a xs ∧ FW (Ite K a) g tb D σ H
def KR1 (g : TG) (tb : TS) (D : Ends) (σ : L2.St) (vs : List V) (H : Hp) : Prop := ∃ j : Int, vs = [.int j] ∧ -(2 ^ 62) ≤ j ∧ j < 2 ^ 62 ∧ FW (Itr 0 j.toNat) g tb D σ H
def KR2 (g : TG) (tb : TS) (D : Ends) (σ : L2.St) (vs : List V) (H : Hp) : Prop := ∃ i j : Int, vs = [.int i, .int j] ∧ (-(2 ^ 62) ≤ i ∧ i < 2 ^ 62 ∧ -(2 ^ 62) ≤ j ∧ j < 2 ^ 62) ∧ FW (Itr i (j - i).toNat) g tb D σ H
theorem r_forL {tl : TE} (h : tl σ H fun x H1 => KL K g tb D σ x H1) : tFor (iList K tl) g tb D σ H := h
theorem r_forT {tl : TE} (h : tl σ H fun x H1 => KTu K g tb D σ x H1) : tFor (iTup K tl) g tb D σ H := h
theorem r_forE {ta : TA} (h : ta σ H fun vs H1 => KE K g tb D σ vs H1) : tFor (iEnum K ta) g tb D σ H := h
theorem r_forR1 {ta : TA} (h : ta σ H fun vs H1 => KR1 g tb D σ vs H1) : tFor (iRng1 ta) g tb D σ H := h
theorem r_forR2 {ta : TA} (h : ta σ H fun vs H1 => KR2 g tb D σ vs H1) : tFor (iRng2 ta) g tb D σ H := h
/-- a loop over a list -/
theorem k_lst (xs : List α) (Pv : Nat → L2.St → Hp → Prop) (hx : SqL K H a (xs.map f)) (h0 : Pv 0 σ H) (hl : ∀ (i : Nat) (σ : L2.St) (H : Hp), i ≤ xs.length → Pv i σ H → SqL K H a (xs.map f))
    (hs : ∀ (i : Nat) (x : α) (σ : L2.St) (H : Hp), xs[i]? = some x → Pv i σ H → g (f x) σ H fun σ2 H2 => tb { nx := Pv (i + 1), rt := D.rt, ct := Pv (i + 1), bk := D.nx } σ2 H2) (hd : ∀ σ H, Pv xs.length σ H → D.nx σ H) :
    KL K g tb D σ (.ref a) H := by
  refine ⟨a, rfl, ⟨_, hx⟩, for_list (K := K) (a := a) (xs := xs.map f) Pv h0 (fun i σ H hi => hl i σ H (by rw [List.length_map] at hi; exact hi)) (fun i x σ H hx p => ?_) (fun σ H p => hd σ H (by rw [List.length_map] at p; exact p))⟩
  obtain ⟨y, hy, rfl⟩ := map_get hx
  exact hs i y σ H hy p
/-- .. whose target is a name -/
theorem k_lstN {j : Nat} (xs : List α) (Pv : Nat → L2.St → Hp → Prop) (hx : SqL K H a (xs.map f)) (h0 : Pv 0 σ H) (hl : ∀ (i : Nat) (σ : L2.St) (H : Hp), i ≤ xs.length → Pv i σ H → SqL K H a (xs.map f))
    (hs : ∀ (i : Nat) (x : α) (σ : L2.St) (H : Hp), xs[i]? = some x → Pv i σ H → tb { nx := Pv (i + 1), rt := D.rt, ct := Pv (i + 1), bk := D.nx } (σ.set j (some (f x))) H) (hd : ∀ σ H, Pv xs.length σ H → D.nx σ H) :
    KL K (gName j) tb D σ (.ref a) H := k_lst xs Pv hx h0 hl hs hd
/-- .. whose items are tuples: the item's address and what it holds -/
theorem k_lst2 {j1 j2 : Nat} {u v : α → V} {ad : α → Addr} (xs : List α) (Pv : Nat → L2.St → Hp → Prop) (hx : SqL K H a (xs.map fun x => V.ref (ad x))) (h0 : Pv 0 σ H)
    (hl : ∀ (i : Nat) (σ : L2.St) (H : Hp), i ≤ xs.length → Pv i σ H → SqL K H a (xs.map fun x => V.ref (ad x)) ∧ ∀ x ∈ xs, SqT K H (ad x) [u x, v x])
    (hs : ∀ (i : Nat) (x : α) (σ : L2.St) (H : Hp), xs[i]? = some x → Pv i σ H → tb { nx := Pv (i + 1), rt := D.rt, ct := Pv (i + 1), bk := D.nx } ((σ.set j1 (some (u x))).set j2 (some (v x))) H) (hd : ∀ σ H, Pv xs.length σ H → D.nx σ H) :
    KL K (gTup K 2 (gCons (gName j1) (gCons (gName j2) gNil))) tb D σ (.ref a) H := by
  refine k_lst (f := fun x => V.ref (ad x)) xs Pv hx h0 (fun i σ H hi p => (hl i σ H hi p).1) (fun i x σ H hx p => ?_) hd
  have hi : i < xs.length := (List.getElem?_eq_some_iff.mp hx).1
  exact ⟨ad x, _, rfl, (hl i σ H (by omega) p).2 x (List.mem_of_getElem? hx), rfl, _, _, rfl, _, _, rfl, rfl, hs i x σ H hx p⟩
theorem k_tupN {j : Nat} (ys : List V) (Pv : Nat → L2.St → Hp → Prop) (hx : SqT K H a ys) (h0 : Pv 0 σ H) (hl : ∀ (i : Nat) (σ : L2.St) (H : Hp), i ≤ ys.length → Pv i σ H → SqT K H a ys)
    (hs : ∀ (i : Nat) (x : V) (σ : L2.St) (H : Hp), ys[i]? = some x → Pv i σ H → tb { nx := Pv (i + 1), rt := D.rt, ct := Pv (i + 1), bk := D.nx } (σ.set j (some x)) H) (hd : ∀ σ H, Pv ys.length σ H → D.nx σ H) :
    KTu K (gName j) tb D σ (.ref a) H := ⟨a, rfl, ⟨_, hx⟩, for_tup Pv h0 hl hs hd⟩
/-- for i, x in enumerate(list) -/
theorem k_enum {j1 j2 : Nat} (xs : List α) (Pv : Nat → L2.St → Hp → Prop) (hx : SqL K H a (xs.map f)) (h0 : Pv 0 σ H) (hl : ∀ (i : Nat) (σ : L2.St) (H : Hp), i ≤ xs.length → Pv i σ H → SqL K H a (xs.map f))
    (hs : ∀ (i : Nat) (x : α) (σ : L2.St) (H : Hp) (T : Addr), xs[i]? = some x → Pv i σ H → H T = none → tb { nx := Pv (i + 1), rt := D.rt, ct := Pv (i + 1), bk := D.nx } ((σ.set j1 (some (.int (i : Nat)))).set j2 (some (f x))) (upd H T (.tup [.int (i : Nat), f x]))) (hd : ∀ σ H, Pv xs.length σ H → D.nx σ H) :
    KE K (gTup K 2 (gCons (gName j1) (gCons (gName j2) gNil))) tb D σ [.ref a] H := by
  refine ⟨a, _, rfl, hx, fun i m σ H => m = xs.length - i ∧ i ≤ xs.length ∧ Pv i σ H, ⟨xs.length, by simp, Nat.zero_le _, h0⟩, ?_⟩
  rintro i m σ H ⟨rfl, hi, p⟩
  have q := hl i σ H hi p
  by_cases hlt : i < xs.length
  · have hx : xs[i]? = some xs[i] := List.getElem?_eq_getElem hlt
    refine .inr ⟨⟨_, f xs[i], q, by rw [List.getElem?_map, hx]; rfl⟩, Pv (i + 1), fun σ' H' p' => ⟨xs.length - (i + 1), by omega, rfl, hlt, p'⟩, fun x H' y => ?_⟩
    obtain ⟨T, x', rfl, nT, rfl, hy⟩ := y
    have e := hy _ q
    rw [List.getElem?_map, hx] at e
    have e' : f xs[i] = x' := Option.some.inj e
    subst e'
    exact ⟨T, _, rfl, SqT.of upd_same, rfl, _, _, rfl, _, _, rfl, rfl, hs i _ σ H T hx p nT⟩
  · have e : i = xs.length := by omega
    subst e
    exact .inl ⟨⟨_, q, by rw [List.length_map]; exact Nat.le_refl _⟩, hd σ H p⟩
theorem k_rng1 {j : Nat} {n : Int} (Pv : Nat → L2.St → Hp → Prop) (z : 0 ≤ n ∧ n ≤ 1000000) (h0 : Pv 0 σ H)
    (hs : ∀ (i : Nat) (σ : L2.St) (H : Hp), (i : Int) < n → Pv i σ H → tb { nx := Pv (i + 1), rt := D.rt, ct := Pv (i + 1), bk := D.nx } (σ.set j (some (.int (i : Nat)))) H) (hd : ∀ σ H, Pv n.toNat σ H → D.nx σ H) :
    KR1 (gName j) tb D σ [.int n] H := by
  refine ⟨n, rfl, by omega, by omega, for_range (lo := 0) (n := n.toNat) Pv h0 (fun i σ H hi p => ?_) hd⟩
  have e0 : (0 : Int) + (i : Int) = (i : Int) := Int.zero_add _
  show tb _ (σ.set j (some (.int ((0 : Int) + (i : Int))))) H
  rw [e0]
  exact hs i σ H (by omega) p
theorem k_rng2 {j : Nat} {lo n : Int} (Pv : Nat → L2.St → Hp → Prop) (z : 0 ≤ lo ∧ lo ≤ 1000000 ∧ -1 ≤ n ∧ n ≤ 1000000) (h0 : Pv 0 σ H)
    (hs : ∀ (i : Nat) (σ : L2.St) (H : Hp), lo + (i : Int) < n → Pv i σ H → tb { nx := Pv (i + 1), rt := D.rt, ct := Pv (i + 1), bk := D.nx } (σ.set j (some (.int (lo + (i : Nat))))) H) (hd : ∀ σ H, Pv (n - lo).toNat σ H → D.nx σ H) :
    KR2 (gName j) tb D σ [.int lo, .int n] H :=
  ⟨lo, n, rfl, by omega, for_range (lo := lo) (n := (n - lo).toNat) Pv h0 (fun i σ H hi p => hs i σ H (by omega) p) hd⟩
/-- while: a word W by a measure -/
theorem r_while {tc : TT} (W : Nat → L2.St → Hp → Prop) (m0 : Nat) (h0 : W m0 σ H)
    (hs : ∀ m σ' H', W m σ' H' → tc σ' H' fun b H1 => if b = true then ∃ N : L2.St → Hp → Prop, (∀ σ2 H2, N σ2 H2 → ∃ m', m' < m ∧ W m' σ2 H2) ∧ tb { nx := N, rt := D.rt, ct := N, bk := D.nx } σ' H1 else D.nx σ' H1) : tWhile tc tb D σ H :=
  ⟨W, ⟨m0, h0⟩, hs⟩
end
/-! ### comprehensions -/
theorem tYes_ok {σ : L2.St} {H : Hp} {R : Bool → Hp → Prop} (h : R true H) : tYes σ H R := h
def CW (J : It) (g : TG) (tt : TT) (te : TE) (vs : List Nat) (σ : L2.St) (D : Addr) (H1 : Hp) (Qd : Hp → Prop) : Prop := ∃ W : Nat → Nat → Hp → Prop, (∃ m, W 0 m (upd H1 D (.lst []))) ∧ ∀ i m H, W i m H →
  (J.stop i H ∧ Qd H) ∨ (J.go i H ∧ ∃ Nx : Hp → Prop, (∀ H', Nx H' → ∃ m', m' < m ∧ W (i + 1) m' H') ∧ ∀ x H', J.yld i H x H' → g x (wipe σ vs) H' fun σ2 H2 => wipe σ2 vs = wipe σ vs ∧ tt σ2 H2 fun b H3 =>
    if b = true then te σ2 H3 fun y H4 => ∃ acc, H4 D = some (.lst acc) ∧ acc.length < sizeLine ∧ Nx (upd H4 D (.lst (acc ++ [y]))) else Nx H3)
/-- new objects at as, each holding obj of its item -/
def News {α : Type} (H1 H2 : Hp) (obj : α → HO) (as : List Addr) (xs : List α) : Prop := as.length = xs.length ∧ as.Nodup ∧ ∀ (i : Nat) (p : Addr) (x : α), as[i]? = some p → xs[i]? = some x → H1 p = none ∧ H2 p = some (obj x)
section
variable {K : PySem.W.Frag} {σ : L2.St} {H : Hp} {Q : VK} {g : TG} {te : TE} {tt : TT} {α β : Type} {f : α → V} {h : β → V} {a : Addr} {j : Nat} {vs : List Nat}
def KC (K : PySem.W.Frag) (g : TG) (tt : TT) (te : TE) (vs : List Nat) (σ : L2.St) (Q : VK) (x : V) (H : Hp) : Prop := ∃ a, x = .ref a ∧ (∃ xs, SqL K H a xs) ∧ ∀ D, H D = none → CW (Itl K a) g tt te vs σ D H fun H2 => Q (.ref D) H2
def KCR1 (g : TG) (tt : TT) (te : TE) (vs : List Nat) (σ : L2.St) (Q : VK) (us : List V) (H : Hp) : Prop := ∃ j : Int, us = [.int j] ∧ -(2 ^ 62) ≤ j ∧ j < 2 ^ 62 ∧ ∀ D, H D = none → CW (Itr 0 j.toNat) g tt te vs σ D H fun H2 => Q (.ref D) H2
def KCR2 (g : TG) (tt : TT) (te : TE) (vs : List Nat) (σ : L2.St) (Q : VK) (us : List V) (H : Hp) : Prop := ∃ i j : Int, us = [.int i, .int j] ∧ (-(2 ^ 62) ≤ i ∧ i < 2 ^ 62 ∧ -(2 ^ 62) ≤ j ∧ j < 2 ^ 62) ∧ ∀ D, H D = none → CW (Itr i (j - i).toNat) g tt te vs σ D H fun H2 => Q (.ref D) H2
theorem e_lcL {tl : TE} (hh : tl σ H fun x H1 => KC K g tt te vs σ Q x H1) : tLc (iList K tl) g tt te vs σ H Q := hh
theorem e_lcR1 {ta : TA} (hh : ta σ H fun us H1 => KCR1 g tt te vs σ Q us H1) : tLc (iRng1 ta) g tt te vs σ H Q := hh
theorem e_lcR2 {ta : TA} (hh : ta σ H fun us H1 => KCR2 g tt te vs σ Q us H1) : tLc (iRng2 ta) g tt te vs σ H Q := hh
/-- elements that are values, over a list -/
theorem k_lcV {xs : List α} (F : α → β) (hx : SqL K H a (xs.map f)) (z : xs.length < 1000000) (hw : ∀ v : V, wipe ((wipe σ vs).set j (some v)) vs = wipe σ vs)
    (hs : ∀ (i : Nat) (x : α) (H2 : Hp) (R : VK), xs[i]? = some x → Same H H2 → (∀ H3, Same H2 H3 → R (h (F x)) H3) → te ((wipe σ vs).set j (some (f x))) H2 R)
    (hd : ∀ D H2, H D = none → Same H H2 → H2 D = some (.lst ((xs.map F).map h)) → Q (.ref D) H2) : KC K (gName j) tYes te vs σ Q (.ref a) H := by
  refine ⟨a, rfl, ⟨_, hx⟩, fun D nD => ?_⟩
  refine lc_list (xs := xs.map f) (fun i H2 => Same H H2 ∧ H2 D = some (.lst (((xs.take i).map F).map h))) ⟨Same.one nD, upd_same⟩ (fun i H2 _ p => p.1.seq hx) (fun i x H2 hi p => ⟨hw x, ?_⟩) (fun H2 p => ?_)
  · obtain ⟨y, hy, rfl⟩ := map_get hi
    refine tYes_ok (iteT ?_)
    refine hs i y H2 _ hy p.1 fun H4 s4 => ?_
    refine ⟨_, s4 _ _ p.2, ?_, Same.new (p.1.trans s4) nD, ?_⟩
    · rw [List.length_map, List.length_map, List.length_take]
      exact Nat.lt_of_lt_of_le (Nat.lt_of_le_of_lt (Nat.min_le_right _ _) z) (by decide)
    · rw [upd_same, List.take_add_one, hy, List.map_append, List.map_append]; rfl
  · obtain ⟨p1, p2⟩ := p
    rw [List.length_map, List.take_length] at p2
    exact hd D H2 nD p1 p2
/-- .. over a list of lists (as their addresses, xss what stands there) -/
theorem k_lcLf {γ : Type} {as : List Addr} {xss : List γ} (F : γ → β) (hx : SqL K H a (as.map V.ref)) (hl : as.length = xss.length) (z : as.length < 1000000) (hw : ∀ v : V, wipe ((wipe σ vs).set j (some v)) vs = wipe σ vs)
    (hs : ∀ (i : Nat) (p : Addr) (x : γ) (H2 : Hp) (R : VK), as[i]? = some p → xss[i]? = some x → Same H H2 → (∀ H3, Same H2 H3 → R (h (F x)) H3) → te ((wipe σ vs).set j (some (.ref p))) H2 R)
    (hd : ∀ D H2, H D = none → Same H H2 → H2 D = some (.lst ((xss.map F).map h)) → Q (.ref D) H2) : KC K (gName j) tYes te vs σ Q (.ref a) H := by
  have e1 : (as.zip xss).map (fun p => V.ref p.1) = as.map V.ref := by
    have : (as.zip xss).map Prod.fst = as := List.map_fst_zip (by omega)
    conv => rhs; rw [← this, List.map_map]
    rfl
  have e2 : (as.zip xss).map (fun p => F p.2) = xss.map F := by
    have : (as.zip xss).map Prod.snd = xss := List.map_snd_zip (by omega)
    conv => rhs; rw [← this, List.map_map]
    rfl
  refine k_lcV (xs := as.zip xss) (f := fun p => V.ref p.1) (h := h) (fun p => F p.2) (by rw [e1]; exact hx) (by rw [List.length_zip]; omega) hw (fun i x H2 R hi s2 k => ?_) (fun D H2 nD s2 hD => hd D H2 nD s2 (by rw [e2] at hD; exact hD))
  obtain ⟨p, y⟩ := x
  obtain ⟨h1, h2⟩ := List.getElem?_zip_eq_some.mp hi
  exact hs i p y H2 R h1 h2 s2 k
/-- elements that are values, over a range -/
theorem k_lcR1 {n : Int} (F : Nat → β) (z : 0 ≤ n ∧ n < 1000000) (hw : ∀ v : V, wipe ((wipe σ vs).set j (some v)) vs = wipe σ vs)
    (hs : ∀ (i : Nat) (H2 : Hp) (R : VK), (i : Int) < n → Same H H2 → (∀ H3, Same H2 H3 → R (h (F i)) H3) → te ((wipe σ vs).set j (some (.int (i : Nat)))) H2 R)
    (hd : ∀ D H2, H D = none → Same H H2 → H2 D = some (.lst (((List.range n.toNat).map F).map h)) → Q (.ref D) H2) : KCR1 (gName j) tYes te vs σ Q [.int n] H := by
  refine ⟨n, rfl, by omega, by omega, fun D nD => ?_⟩
  refine lc_range (lo := 0) (n := n.toNat) (fun i H2 => Same H H2 ∧ H2 D = some (.lst (((List.range i).map F).map h))) ⟨Same.one nD, upd_same⟩ (fun i H2 hi p => ⟨hw _, ?_⟩) (fun H2 p => hd D H2 nD p.1 p.2)
  have e0 : (0 : Int) + (i : Int) = (i : Int) := Int.zero_add _
  rw [e0]
  refine tYes_ok (iteT ?_)
  refine hs i H2 _ (by omega) p.1 fun H4 s4 => ?_
  refine ⟨_, s4 _ _ p.2, ?_, Same.new (p.1.trans s4) nD, ?_⟩
  · rw [List.length_map, List.length_map, List.length_range]
    exact Nat.lt_of_lt_of_le (show i < 1000000 by omega) (by decide)
  · rw [upd_same, List.range_succ, List.map_append, List.map_append]; rfl
theorem k_lcR2 {lo n : Int} (F : Int → β) (z : 0 ≤ lo ∧ lo ≤ 1000000 ∧ -1 ≤ n ∧ n < 1000000) (hw : ∀ v : V, wipe ((wipe σ vs).set j (some v)) vs = wipe σ vs)
    (hs : ∀ (i : Nat) (H2 : Hp) (R : VK), lo + (i : Int) < n → Same H H2 → (∀ H3, Same H2 H3 → R (h (F (lo + i))) H3) → te ((wipe σ vs).set j (some (.int (lo + (i : Nat))))) H2 R)
    (hd : ∀ D H2, H D = none → Same H H2 → H2 D = some (.lst (((List.range (n - lo).toNat).map fun i : Nat => F (lo + i)).map h)) → Q (.ref D) H2) : KCR2 (gName j) tYes te vs σ Q [.int lo, .int n] H := by
  refine ⟨lo, n, rfl, by omega, fun D nD => ?_⟩
  refine lc_range (lo := lo) (n := (n - lo).toNat) (fun i H2 => Same H H2 ∧ H2 D = some (.lst (((List.range i).map fun i : Nat => F (lo + i)).map h))) ⟨Same.one nD, upd_same⟩ (fun i H2 hi p => ⟨hw _, ?_⟩) (fun H2 p => hd D H2 nD p.1 p.2)
  refine tYes_ok (iteT ?_)
  refine hs i H2 _ (by omega) p.1 fun H4 s4 => ?_
  refine ⟨_, s4 _ _ p.2, ?_, Same.new (p.1.trans s4) nD, ?_⟩
  · rw [List.length_map, List.length_map, List.length_range]
    exact Nat.lt_of_lt_of_le (show i < 1000002 by omega) (by decide)
  · rw [upd_same, List.range_succ, List.map_append, List.map_append]; rfl
/-- elements that are new objects, over a list -/
theorem k_lcN {xs : List α} (obj : α → HO) (hx : SqL K H a (xs.map f)) (z : xs.length < 1000000) (hw : ∀ v : V, wipe ((wipe σ vs).set j (some v)) vs = wipe σ vs)
    (hs : ∀ (i : Nat) (x : α) (H2 : Hp) (R : VK), xs[i]? = some x → Same H H2 → (∀ p H3, H2 p = none → Same H2 H3 → H3 p = some (obj x) → R (.ref p) H3) → te ((wipe σ vs).set j (some (f x))) H2 R)
    (hd : ∀ D as H2, H D = none → Same H H2 → News H H2 obj as xs → D ∉ as → H2 D = some (.lst (as.map V.ref)) → Q (.ref D) H2) : KC K (gName j) tYes te vs σ Q (.ref a) H := by
  refine ⟨a, rfl, ⟨_, hx⟩, fun D nD => ?_⟩
  refine lc_list (xs := xs.map f) (fun i H2 => Same H H2 ∧ ∃ as, News H H2 obj as (xs.take i) ∧ D ∉ as ∧ H2 D = some (.lst (as.map V.ref)))
    ⟨Same.one nD, [], ⟨rfl, List.nodup_nil, fun i p x h => by simp at h⟩, by simp, upd_same⟩ (fun i H2 _ p => p.1.seq hx) (fun i x H2 hi p => ⟨hw x, ?_⟩) (fun H2 p => ?_)
  · obtain ⟨y, hy, rfl⟩ := map_get hi
    obtain ⟨p1, as, ⟨n1, n2, n3⟩, p3, p4⟩ := p
    have hil : i < xs.length := (List.getElem?_eq_some_iff.mp hy).1
    have hl : as.length = i := by rw [n1, List.length_take]; omega
    refine tYes_ok (iteT ?_)
    refine hs i y H2 _ hy p1 fun p H4 np s4 hp => ?_
    have pD : p ≠ D := (ne_of_none p4 np).symm
    have pas : p ∉ as := fun hm => by
      obtain ⟨k, hk⟩ := List.mem_iff_getElem?.mp hm
      have hkl : k < as.length := (List.getElem?_eq_some_iff.mp hk).1
      obtain ⟨x, hx'⟩ : ∃ x, (xs.take i)[k]? = some x := ⟨_, List.getElem?_eq_getElem (by rw [← n1]; exact hkl)⟩
      have := (n3 k p x hk hx').2
      rw [np] at this; cases this
    refine ⟨_, s4 _ _ p4, ?_, Same.new (p1.trans s4) nD, as ++ [p], ⟨?_, ?_, ?_⟩, ?_, ?_⟩
    · rw [List.length_map, hl]
      exact Nat.lt_of_lt_of_le (show i < 1000000 by omega) (by decide)
    · rw [List.length_append, n1, List.take_add_one, hy, List.length_append]; rfl
    · exact List.nodup_append.mpr ⟨n2, by simp, fun x hx y hy => by
        have : y = p := by simpa using hy
        subst this
        exact fun e => pas (e ▸ hx)⟩
    · intro k q x hk hx'
      rw [List.take_add_one, hy] at hx'
      by_cases hki : k < i
      · rw [List.getElem?_append_left (by omega)] at hk
        rw [List.getElem?_append_left (by rw [List.length_take]; omega)] at hx'
        obtain ⟨m1, m2⟩ := n3 k q x hk hx'
        have qD : q ≠ D := fun e => p3 (e ▸ List.mem_of_getElem? hk)
        exact ⟨m1, by rw [upd_ne qD]; exact s4 _ _ m2⟩
      · rw [List.getElem?_append_right (by omega), hl] at hk
        rw [List.getElem?_append_right (by rw [List.length_take]; omega), List.length_take] at hx'
        have e0 : k - i = 0 := by
          cases hz : k - i with
          | zero => rfl
          | succ m => rw [hz] at hk; simp at hk
        have e1 : k - min i xs.length = 0 := by omega
        rw [e0] at hk; rw [e1] at hx'
        have h1 : p = q := Option.some.inj hk
        have h2 : y = x := Option.some.inj hx'
        subst h1 h2
        exact ⟨p1.free np, by rw [upd_ne pD]; exact hp⟩
    · intro hm
      rcases List.mem_append.mp hm with hm | hm
      · exact p3 hm
      · exact pD (by simpa using hm : D = p).symm
    · rw [upd_same, List.map_append]; rfl
  · obtain ⟨p1, as, n, p3, p4⟩ := p
    rw [List.length_map, List.take_length] at n
    exact hd D as H2 nD p1 n p3 p4
end
section
variable {K : PySem.W.Frag} {σ : L2.St} {H : Hp} {Q : VK} {te : TE} {a : Addr} {j : Nat} {vs : List Nat}
/-- .. over a list of lists (as their addresses, xss what stands there) -/
theorem k_lcNf {γ : Type} {as : List Addr} {xss : List γ} (obj : γ → HO) (hx : SqL K H a (as.map V.ref)) (hl : as.length = xss.length) (z : as.length < 1000000) (hw : ∀ v : V, wipe ((wipe σ vs).set j (some v)) vs = wipe σ vs)
    (hs : ∀ (i : Nat) (p : Addr) (x : γ) (H2 : Hp) (R : VK), as[i]? = some p → xss[i]? = some x → Same H H2 → (∀ q H3, H2 q = none → Same H2 H3 → H3 q = some (obj x) → R (.ref q) H3) → te ((wipe σ vs).set j (some (.ref p))) H2 R)
    (hd : ∀ D bs H2, H D = none → Same H H2 → News H H2 obj bs xss → D ∉ bs → H2 D = some (.lst (bs.map V.ref)) → Q (.ref D) H2) : KC K (gName j) tYes te vs σ Q (.ref a) H := by
  have e1 : (as.zip xss).map (fun p => V.ref p.1) = as.map V.ref := by
    have : (as.zip xss).map Prod.fst = as := List.map_fst_zip (by omega)
    conv => rhs; rw [← this, List.map_map]
    rfl
  refine k_lcN (xs := as.zip xss) (f := fun p => V.ref p.1) (fun p => obj p.2) (by rw [e1]; exact hx) (by rw [List.length_zip]; omega) hw (fun i x H2 R hi s2 k => ?_) (fun D bs H2 nD s2 n hn hD => hd D bs H2 nD s2 ⟨by rw [n.1, List.length_zip]; omega, n.2.1, fun i q x hq hx => ?_⟩ hn hD)
  · obtain ⟨p, y⟩ := x
    obtain ⟨h1, h2⟩ := List.getElem?_zip_eq_some.mp hi
    exact hs i p y H2 R h1 h2 s2 k
  · have hi : i < as.length := by rw [hl]; exact (List.getElem?_eq_some_iff.mp hx).1
    exact n.2.2 i q (as[i], x) hq (List.getElem?_zip_eq_some.mpr ⟨List.getElem?_eq_getElem hi, hx⟩)
end
section
variable {α : Type} {H1 H2 H3 : Hp} {obj : α → HO} {as : List Addr} {xs : List α}
theorem News.nil : News H1 H2 obj [] [] := ⟨rfl, List.nodup_nil, fun i p x h => by simp at h⟩
theorem News.len (n : News H1 H2 obj as xs) : as.length = xs.length := n.1
theorem News.get (n : News H1 H2 obj as xs) {i : Nat} {x : α} (h : xs[i]? = some x) : ∃ p, as[i]? = some p ∧ H1 p = none ∧ H2 p = some (obj x) := by
  have hi : i < as.length := by rw [n.1]; exact (List.getElem?_eq_some_iff.mp h).1
  exact ⟨as[i], List.getElem?_eq_getElem hi, n.2.2 i _ x (List.getElem?_eq_getElem hi) h⟩
theorem News.mem (n : News H1 H2 obj as xs) {p : Addr} (h : p ∈ as) : ∃ x ∈ xs, H1 p = none ∧ H2 p = some (obj x) := by
  obtain ⟨i, hi⟩ := List.mem_iff_getElem?.mp h
  have hl : i < xs.length := by rw [← n.1]; exact (List.getElem?_eq_some_iff.mp hi).1
  exact ⟨xs[i], List.getElem_mem hl, n.2.2 i p _ hi (List.getElem?_eq_getElem hl)⟩
theorem News.same (n : News H1 H2 obj as xs) (s : Same H2 H3) : News H1 H3 obj as xs := ⟨n.1, n.2.1, fun i p x h h' => ⟨(n.2.2 i p x h h').1, s _ _ (n.2.2 i p x h h').2⟩⟩
theorem News.back (n : News H1 H2 obj as xs) {H0 : Hp} (s : Same H0 H1) : News H0 H2 obj as xs := ⟨n.1, n.2.1, fun i p x h h' => ⟨s.free (n.2.2 i p x h h').1, (n.2.2 i p x h h').2⟩⟩
theorem News.mut (n : News H1 H2 obj as xs) {p : Addr} {o : HO} (h : p ∉ as) : News H1 (upd H2 p o) obj as xs := ⟨n.1, n.2.1, fun i q x hq hx => ⟨(n.2.2 i q x hq hx).1, by
  rw [upd_ne (fun e => h (by rw [← e]; exact List.mem_of_getElem? hq))]; exact (n.2.2 i q x hq hx).2⟩⟩
theorem News.notin (n : News H1 H2 obj as xs) {p : Addr} (h : H2 p = none) : p ∉ as := fun hm => by
  obtain ⟨x, _, _, e⟩ := n.mem hm
  rw [h] at e; cases e
theorem News.notin1 (n : News H1 H2 obj as xs) {p : Addr} {o : HO} (h : H1 p = some o) : p ∉ as := fun hm => by
  obtain ⟨x, _, e, _⟩ := n.mem hm
  rw [h] at e; cases e
theorem News.snoc (n : News H1 H2 obj as xs) {p : Addr} {x : α} (h : p ∉ as) (h1 : H1 p = none) (h2 : H2 p = some (obj x)) : News H1 H2 obj (as ++ [p]) (xs ++ [x]) := by
  refine ⟨by rw [List.length_append, List.length_append, n.1]; rfl, List.nodup_append.mpr ⟨n.2.1, by simp, fun a ha b hb => ?_⟩, fun i q y hq hy => ?_⟩
  · have : b = p := by simpa using hb
    subst this
    exact fun e => h (e ▸ ha)
  · by_cases hi : i < as.length
    · rw [List.getElem?_append_left hi] at hq
      rw [List.getElem?_append_left (by rw [← n.1]; exact hi)] at hy
      exact n.2.2 i q y hq hy
    · rw [List.getElem?_append_right (by omega)] at hq
      rw [List.getElem?_append_right (by rw [← n.1]; omega), ← n.1] at hy
      have e0 : i - as.length = 0 := by
        cases hz : i - as.length with
        | zero => rfl
        | succ m => rw [hz] at hq; simp at hq
      rw [e0] at hq hy
      have e1 : p = q := Option.some.inj hq
      have e2 : x = y := Option.some.inj hy
      subst e1 e2
      exact ⟨h1, h2⟩
theorem News.reverse (n : News H1 H2 obj as xs) : News H1 H2 obj as.reverse xs.reverse := by
  refine ⟨by rw [List.length_reverse, List.length_reverse, n.1], (List.reverse_perm as).nodup_iff.mpr n.2.1, fun i p x hp hx => ?_⟩
  have hi : i < as.length := by have := (List.getElem?_eq_some_iff.mp hp).1; rwa [List.length_reverse] at this
  rw [List.getElem?_reverse hi] at hp
  rw [List.getElem?_reverse (by rw [← n.1]; exact hi), ← n.1] at hx
  exact n.2.2 _ p x hp hx
theorem nm_snoc {p q : Addr} (h : p ∉ as) (ne : p ≠ q) : p ∉ as ++ [q] := fun hm => by
  rcases List.mem_append.mp hm with hm | hm
  · exact h hm
  · exact ne (by simpa using hm)
end
/-- a pair of ints as an object -/
abbrev oP (p : Int × Int) : HO := .tup [.int p.1, .int p.2]
/-- pairs that stand at their places -/
def Tf (H : Hp) (ts : List Addr) (ps : List (Int × Int)) : Prop := ts.length = ps.length ∧ ∀ (i : Nat) (t : Addr) (p : Int × Int), ts[i]? = some t → ps[i]? = some p → H t = some (oP p)
theorem Tf.same {H H' : Hp} {ts : List Addr} {ps : List (Int × Int)} (h : Tf H ts ps) (s : Same H H') : Tf H' ts ps := ⟨h.1, fun i t p a b => s _ _ (h.2 i t p a b)⟩
theorem Tf.of {H0 H : Hp} {ts : List Addr} {ps : List (Int × Int)} (n : News H0 H oP ts ps) : Tf H ts ps := ⟨n.1, fun i t p a b => (n.2.2 i t p a b).2⟩
section
variable {K : PySem.W.Frag} {σ : L2.St} {H : Hp} {D : Ends} {tb : TS} {a : Addr} {ts : List Addr} {ps : List (Int × Int)}
/-- for x, y in a list of pairs -/
theorem k_lstP {j1 j2 : Nat} (Pv : Nat → L2.St → Hp → Prop) (hx : SqL K H a (ts.map V.ref)) (hl : ts.length = ps.length) (h0 : Pv 0 σ H)
    (hk : ∀ (i : Nat) (σ : L2.St) (H : Hp), i ≤ ts.length → Pv i σ H → SqL K H a (ts.map V.ref) ∧ Tf H ts ps)
    (hs : ∀ (i : Nat) (p : Int × Int) (σ : L2.St) (H : Hp), ps[i]? = some p → Pv i σ H → tb { nx := Pv (i + 1), rt := D.rt, ct := Pv (i + 1), bk := D.nx } ((σ.set j1 (some (.int p.1))).set j2 (some (.int p.2))) H) (hd : ∀ σ H, Pv ps.length σ H → D.nx σ H) :
    KL K (gTup K 2 (gCons (gName j1) (gCons (gName j2) gNil))) tb D σ (.ref a) H := by
  refine k_lst (f := V.ref) ts Pv hx h0 (fun i σ H hi p => (hk i σ H hi p).1) (fun i t σ H ht p => ?_) (fun σ H p => hd σ H (by rw [← hl]; exact p))
  have hi : i < ts.length := (List.getElem?_eq_some_iff.mp ht).1
  have hp : ps[i]? = some ps[i] := List.getElem?_eq_getElem (by omega)
  exact ⟨t, _, rfl, SqT.of ((hk i σ H (by omega) p).2.2 i t _ ht hp), rfl, _, _, rfl, _, _, rfl, rfl, hs i _ σ H hp p⟩
end
/-- a list of ints as an object -/
abbrev oL (r : List Int) : HO := .lst (r.map V.int)
/-! ### ifs -/
theorem ite_nT {A B : Prop} (h : B) : if (!true) = true then A else B := iteF h
theorem ite_nF {A B : Prop} (h : A) : if (!false) = true then A else B := iteT h
theorem ite_bl {b : Bool} {A B : Prop} (h1 : b = true → A) (h2 : b = false → B) : if b = true then A else B := by
  cases b with
  | true => exact iteT (h1 rfl)
  | false => exact iteF (h2 rfl)
theorem ite_y {b : Bool} {A B : Prop} (h : b = true) (a : A) : if b = true then A else B := by subst h; exact iteT a
theorem ite_n {b : Bool} {A B : Prop} (h : b = false) (a : B) : if b = true then A else B := by subst h; exact iteF a
theorem ite_dec {c : Prop} [Decidable c] {A B : Prop} (h1 : c → A) (h2 : ¬ c → B) : if decide c = true then A else B := by
  by_cases h : c
  · rw [if_pos (decide_eq_true h)]; exact h1 h
  · rw [if_neg (by rw [decide_eq_false h]; exact Bool.false_ne_true)]; exact h2 h
theorem ite_ndec {c : Prop} [Decidable c] {A B : Prop} (h1 : ¬ c → A) (h2 : c → B) : if (!decide c) = true then A else B := by
  by_cases h : c
  · rw [if_neg (by rw [decide_eq_true h]; exact Bool.false_ne_true)]; exact h2 h
  · rw [if_pos (by rw [decide_eq_false h]; rfl)]; exact h1 h
theorem ite_decY {c : Prop} [Decidable c] {A B : Prop} (h : c) (a : A) : if decide c = true then A else B := ite_dec (fun _ => a) (fun n => absurd h n)
theorem ite_decN {c : Prop} [Decidable c] {A B : Prop} (h : ¬ c) (a : B) : if decide c = true then A else B := ite_dec (fun n => absurd n h) (fun _ => a)
theorem ite_ndecY {c : Prop} [Decidable c] {A B : Prop} (h : ¬ c) (a : A) : if (!decide c) = true then A else B := ite_ndec (fun _ => a) (fun n => absurd n h)
theorem ite_ndecN {c : Prop} [Decidable c] {A B : Prop} (h : c) (a : B) : if (!decide c) = true then A else B := ite_ndec (fun n => absurd h n) (fun _ => a)
/-! ### dicts whose keys are ints -/
section
variable {σ : L2.St} {H : Hp} {D : Ends} {Q : VK} {td ty tv : TE} {a : Addr} {kvs : List (Key × V)} {i : Int} {v : V}
def KDP (D : Ends) (σ : L2.St) (v x y : V) (H : Hp) : Prop := ∃ a H4, x = .ref a ∧ DPut H a y v H4 ∧ D.nx σ H4
theorem r_dput (h : tv σ H fun v H1 => td σ H1 fun x H2 => ty σ H2 fun y H3 => KDP D σ v x y H3) : sDPut td ty tv D σ H := h
theorem k_dput (h : H a = some (.dK kvs)) (z : kvs.length < 1000000) (q : D.nx σ (upd H a (.dK (putK kvs (.inl i) v)))) : KDP D σ v (.ref a) (.int i) H := ⟨a, _, rfl, DPut.k (k := .inl i) h (Nat.lt_of_lt_of_le z (by decide)), q⟩
def KDG (Q : VK) (x y : V) (H : Hp) : Prop := ∃ a v, x = .ref a ∧ DGet H a y (some v) ∧ Q v H
theorem e_dget (h : td σ H fun x H1 => ty σ H1 fun y H2 => KDG Q x y H2) : tDGet td ty σ H Q := h
theorem k_dget (h : H a = some (.dK kvs)) (e : valV kvs (.inl i) = some v) (q : Q v H) : KDG Q (.ref a) (.int i) H := ⟨a, v, rfl, by have := DGet.k (k := .inl i) h; rw [e] at this; exact this, q⟩
def KDN (Q : VK) (y x : V) (H : Hp) : Prop := ∃ a o, x = .ref a ∧ DGet H a y o ∧ Q (.bl (!o.isSome)) H
theorem e_dnin (h : ty σ H fun y H1 => td σ H1 fun x H2 => KDN Q y x H2) : tDNotIn ty td σ H Q := h
theorem k_dnin (h : H a = some (.dK kvs)) (q : Q (.bl (!(valV kvs (.inl i)).isSome)) H) : KDN Q (.int i) (.ref a) H := ⟨a, _, rfl, DGet.k (k := .inl i) h, q⟩
theorem e_dnew (h : ∀ p, H p = none → Q (.ref p) (upd H p (.dK []))) : tDNewK σ H Q := h
end
end Bo

namespace Bo
open PySem PySem.Spec PyProof.Rows L2
def topS (i : Nat) : Stmt := PySem.Challenge.pw_backorder_k08_refused.main.body.getD i (.Pass ⟨0, 0, 0, 0⟩)
abbrev s_is_number : Stmt := topS 10
abbrev N_is_number : List Str := ["thing", "low", "high"]
theorem sc_is_number : FnScope N_is_number ["thing", "low", "high"] (defScope s_is_number) := ⟨rfl, rfl, rfl, by decide +kernel, rfl, by decide +kernel, by decide +kernel⟩
abbrev s_check_row : Stmt := topS 11
abbrev N_check_row : List Str := ["row", "thing"]
theorem sc_check_row : FnScope N_check_row ["row"] (defScope s_check_row) := ⟨rfl, rfl, rfl, by decide +kernel, rfl, by decide +kernel, by decide +kernel⟩
abbrev s_behind : Stmt := topS 12
abbrev N_behind : List Str := ["one", "other", "place"]
theorem sc_behind : FnScope N_behind ["one", "other"] (defScope s_behind) := ⟨rfl, rfl, rfl, by decide +kernel, rfl, by decide +kernel, by decide +kernel⟩
abbrev s_places_of : Stmt := topS 13
abbrev N_places_of : List Str := ["row", "found", "place", "thing"]
theorem sc_places_of : FnScope N_places_of ["row"] (defScope s_places_of) := ⟨rfl, rfl, rfl, by decide +kernel, rfl, by decide +kernel, by decide +kernel⟩
abbrev s_back : Stmt := topS 14
abbrev N_back : List Str := ["row"]
theorem sc_back : FnScope N_back ["row"] (defScope s_back) := ⟨rfl, rfl, rfl, by decide +kernel, rfl, by decide +kernel, by decide +kernel⟩
abbrev s_wrong : Stmt := topS 16
abbrev N_wrong : List Str := ["row", "parts", "total", "fewer", "k", "part", "many", "thing"]
theorem sc_wrong : FnScope N_wrong ["row"] (defScope s_wrong) := ⟨rfl, rfl, rfl, by decide +kernel, rfl, by decide +kernel, by decide +kernel⟩
abbrev s_rings_of : Stmt := topS 18
abbrev N_rings_of : List Str := ["row", "met", "found", "thing", "ring"]
theorem sc_rings_of : FnScope N_rings_of ["row"] (defScope s_rings_of) := ⟨rfl, rfl, rfl, by decide +kernel, rfl, by decide +kernel, by decide +kernel⟩
abbrev s_rings : Stmt := topS 19
abbrev N_rings : List Str := ["row"]
theorem sc_rings : FnScope N_rings ["row"] (defScope s_rings) := ⟨rfl, rfl, rfl, by decide +kernel, rfl, by decide +kernel, by decide +kernel⟩
abbrev s_row_of : Stmt := topS 20
abbrev N_row_of : List Str := ["many", "told", "found", "ring", "k"]
theorem sc_row_of : FnScope N_row_of ["many", "told"] (defScope s_row_of) := ⟨rfl, rfl, rfl, by decide +kernel, rfl, by decide +kernel, by decide +kernel⟩
abbrev s_is_ring : Stmt := topS 21
abbrev N_is_ring : List Str := ["ring", "many", "thing"]
theorem sc_is_ring : FnScope N_is_ring ["ring", "many"] (defScope s_is_ring) := ⟨rfl, rfl, rfl, by decide +kernel, rfl, by decide +kernel, by decide +kernel⟩
abbrev s_of_rings : Stmt := topS 22
abbrev N_of_rings : List Str := ["many", "told", "things", "ring"]
theorem sc_of_rings : FnScope N_of_rings ["many", "told"] (defScope s_of_rings) := ⟨rfl, rfl, rfl, by decide +kernel, rfl, by decide +kernel, by decide +kernel⟩
abbrev s_times : Stmt := topS 23
abbrev N_times : List Str := ["row", "number", "found", "ring", "by", "k"]
theorem sc_times : FnScope N_times ["row", "number"] (defScope s_times) := ⟨rfl, rfl, rfl, by decide +kernel, rfl, by decide +kernel, by decide +kernel⟩
abbrev s_common : Stmt := topS 24
abbrev N_common : List Str := ["one", "other"]
theorem sc_common : FnScope N_common ["one", "other"] (defScope s_common) := ⟨rfl, rfl, rfl, by decide +kernel, rfl, by decide +kernel, by decide +kernel⟩
abbrev s_turns : Stmt := topS 25
abbrev N_turns : List Str := ["row", "found", "ring"]
theorem sc_turns : FnScope N_turns ["row"] (defScope s_turns) := ⟨rfl, rfl, rfl, by decide +kernel, rfl, by decide +kernel, by decide +kernel⟩
abbrev s_exchanged : Stmt := topS 34
abbrev N_exchanged : List Str := ["row", "found", "places", "pairs", "place", "thing", "other"]
theorem sc_exchanged : FnScope N_exchanged ["row"] (defScope s_exchanged) := ⟨rfl, rfl, rfl, by decide +kernel, rfl, by decide +kernel, by decide +kernel⟩
abbrev s_fronted : Stmt := topS 35
abbrev N_fronted : List Str := ["row", "places", "first"]
theorem sc_fronted : FnScope N_fronted ["row"] (defScope s_fronted) := ⟨rfl, rfl, rfl, by decide +kernel, rfl, by decide +kernel, by decide +kernel⟩
abbrev s_ended : Stmt := topS 36
abbrev N_ended : List Str := ["row", "first", "many", "moves", "thing"]
theorem sc_ended : FnScope N_ended ["row"] (defScope s_ended) := ⟨rfl, rfl, rfl, by decide +kernel, rfl, by decide +kernel, by decide +kernel⟩
abbrev s_put : Stmt := topS 39
abbrev N_put : List Str := ["row", "falls", "kept", "stays", "thing", "found", "moves", "place"]
theorem sc_put : FnScope N_put ["row"] (defScope s_put) := ⟨rfl, rfl, rfl, by decide +kernel, rfl, by decide +kernel, by decide +kernel⟩
abbrev s_written : Stmt := topS 41
abbrev N_written : List Str := ["row", "thing"]
theorem sc_written : FnScope N_written ["row"] (defScope s_written) := ⟨rfl, rfl, rfl, by decide +kernel, rfl, by decide +kernel, by decide +kernel⟩
abbrev s__law_cell_at : Stmt := topS 43
abbrev N__law_cell_at : List Str := ["_law_script", "_law_k"]
theorem sc__law_cell_at : FnScope N__law_cell_at ["_law_script", "_law_k"] (defScope s__law_cell_at) := ⟨rfl, rfl, rfl, by decide +kernel, rfl, by decide +kernel, by decide +kernel⟩
abbrev s__law_draw : Stmt := topS 44
abbrev N__law_draw : List Str := ["_law_cell", "_law_k", "_law_many", "_law_primes"]
theorem sc__law_draw : FnScope N__law_draw ["_law_cell", "_law_k", "_law_many"] (defScope s__law_draw) := ⟨rfl, rfl, rfl, by decide +kernel, rfl, by decide +kernel, by decide +kernel⟩
abbrev s__law_row : Stmt := topS 45
abbrev N__law_row : List Str := ["_law_script", "_law_kind", "_law_row_here", "_law_k", "_law_away"]
theorem sc__law_row : FnScope N__law_row ["_law_script"] (defScope s__law_row) := ⟨rfl, rfl, rfl, by decide +kernel, rfl, by decide +kernel, by decide +kernel⟩
abbrev s__law_kinds : Stmt := topS 48
abbrev N__law_kinds : List Str := ["_law_error", "_law_found"]
theorem sc__law_kinds : FnScope N__law_kinds ["_law_error"] (defScope s__law_kinds) := ⟨rfl, rfl, rfl, by decide +kernel, rfl, by decide +kernel, by decide +kernel⟩
abbrev s__law_with_row : Stmt := topS 49
abbrev N__law_with_row : List Str := ["_law_door", "_law_row_here"]
theorem sc__law_with_row : FnScope N__law_with_row ["_law_door", "_law_row_here"] (defScope s__law_with_row) := ⟨rfl, rfl, rfl, by decide +kernel, rfl, by decide +kernel, by decide +kernel⟩
abbrev s__law_with_number : Stmt := topS 50
abbrev N__law_with_number : List Str := ["_law_door", "_law_thing"]
theorem sc__law_with_number : FnScope N__law_with_number ["_law_door", "_law_thing"] (defScope s__law_with_number) := ⟨rfl, rfl, rfl, by decide +kernel, rfl, by decide +kernel, by decide +kernel⟩
abbrev s__law_with_rings : Stmt := topS 51
abbrev N__law_with_rings : List Str := ["_law_door", "_law_thing"]
theorem sc__law_with_rings : FnScope N__law_with_rings ["_law_door", "_law_thing"] (defScope s__law_with_rings) := ⟨rfl, rfl, rfl, by decide +kernel, rfl, by decide +kernel, by decide +kernel⟩
abbrev s__law_with_two : Stmt := topS 52
abbrev N__law_with_two : List Str := ["_law_one", "_law_other"]
theorem sc__law_with_two : FnScope N__law_with_two ["_law_one", "_law_other"] (defScope s__law_with_two) := ⟨rfl, rfl, rfl, by decide +kernel, rfl, by decide +kernel, by decide +kernel⟩
abbrev s__law_told : Stmt := topS 53
abbrev N__law_told : List Str := ["_law_ask", "_law_one", "_law_other", "_law_error"]
theorem sc__law_told : FnScope N__law_told ["_law_ask", "_law_one", "_law_other"] (defScope s__law_told) := ⟨rfl, rfl, rfl, by decide +kernel, rfl, by decide +kernel, by decide +kernel⟩
abbrev s__law_all : Stmt := topS 54
abbrev N__law_all : List Str := ["_law_ask", "_law_doors", "_law_things", "_law_due", "_law_door", "_law_thing"]
theorem sc__law_all : FnScope N__law_all ["_law_ask", "_law_doors", "_law_things", "_law_due"] (defScope s__law_all) := ⟨rfl, rfl, rfl, by decide +kernel, rfl, by decide +kernel, by decide +kernel⟩
abbrev s_law : Stmt := topS 55
abbrev N_law : List Str := ["_law_script", "_law_far", "_law_due", "_law_k", "_law_row_here", "_law_many", "_law_kept", "_law_rows", "_law_at", "_law_numbers_here", "_law_told_here"]
theorem sc_law : FnScope N_law ["_law_script"] (defScope s_law) := ⟨rfl, rfl, rfl, by decide +kernel, rfl, by decide +kernel, by decide +kernel⟩
structure Top (K : PySem.W.Frag) (mg : Str → Option Value) (C_Exchanged C_Fronted C_Ended C_Put C_Answer C_OrderError C_BadRow C_BadNumber C_BadRings C_Unlike C_BadText : Addr) : Prop where
  d_is_number : Df K mg "is_number" s_is_number ["thing", "low", "high"]
  d_check_row : Df K mg "check_row" s_check_row ["row"]
  d_behind : Df K mg "behind" s_behind ["one", "other"]
  d_places_of : Df K mg "places_of" s_places_of ["row"]
  d_back : Df K mg "back" s_back ["row"]
  d_wrong : Df K mg "wrong" s_wrong ["row"]
  d_rings_of : Df K mg "rings_of" s_rings_of ["row"]
  d_rings : Df K mg "rings" s_rings ["row"]
  d_row_of : Df K mg "row_of" s_row_of ["many", "told"]
  d_is_ring : Df K mg "is_ring" s_is_ring ["ring", "many"]
  d_of_rings : Df K mg "of_rings" s_of_rings ["many", "told"]
  d_times : Df K mg "times" s_times ["row", "number"]
  d_common : Df K mg "common" s_common ["one", "other"]
  d_turns : Df K mg "turns" s_turns ["row"]
  d_exchanged : Df K mg "exchanged" s_exchanged ["row"]
  d_fronted : Df K mg "fronted" s_fronted ["row"]
  d_ended : Df K mg "ended" s_ended ["row"]
  d_put : Df K mg "put" s_put ["row"]
  d_written : Df K mg "written" s_written ["row"]
  d__law_cell_at : Df K mg "_law_cell_at" s__law_cell_at ["_law_script", "_law_k"]
  d__law_draw : Df K mg "_law_draw" s__law_draw ["_law_cell", "_law_k", "_law_many"]
  d__law_row : Df K mg "_law_row" s__law_row ["_law_script"]
  d__law_kinds : Df K mg "_law_kinds" s__law_kinds ["_law_error"]
  d__law_with_row : Df K mg "_law_with_row" s__law_with_row ["_law_door", "_law_row_here"]
  d__law_with_number : Df K mg "_law_with_number" s__law_with_number ["_law_door", "_law_thing"]
  d__law_with_rings : Df K mg "_law_with_rings" s__law_with_rings ["_law_door", "_law_thing"]
  d__law_with_two : Df K mg "_law_with_two" s__law_with_two ["_law_one", "_law_other"]
  d__law_told : Df K mg "_law_told" s__law_told ["_law_ask", "_law_one", "_law_other"]
  d__law_all : Df K mg "_law_all" s__law_all ["_law_ask", "_law_doors", "_law_things", "_law_due"]
  d_law : Df K mg "law" s_law ["_law_script"]
  b_ValueError : mg "ValueError" = none
  b_all : mg "all" = none
  b_bool : mg "bool" = none
  b_enumerate : mg "enumerate" = none
  b_int : mg "int" = none
  b_isinstance : mg "isinstance" = none
  b_len : mg "len" = none
  b_list : mg "list" = none
  b_max : mg "max" = none
  b_min : mg "min" = none
  b_range : mg "range" = none
  b_set : mg "set" = none
  g_MOST : ∃ t, mg "MOST" = some (.int 1000000 t)
  c_OrderError : mg "OrderError" = some (.ref C_OrderError)
  c_BadRow : mg "BadRow" = some (.ref C_BadRow)
  c_BadNumber : mg "BadNumber" = some (.ref C_BadNumber)
  c_BadRings : mg "BadRings" = some (.ref C_BadRings)
  c_Unlike : mg "Unlike" = some (.ref C_Unlike)
  c_BadText : mg "BadText" = some (.ref C_BadText)
  x_BadRow : PySem.W.excIn K C_BadRow [.type "ValueError", .type "Exception", .type "BaseException", .type "object"] "ValueError.__new__" = true
  k_BadRow : PySem.W.keepIn K (.ref C_BadRow) = true
  sb_BadRow : PySem.W.subIn K (.ref C_BadRow) (.type "BaseException") = some true
  st_BadRow : PySem.W.typeIn K (.ref C_BadRow) = some (.type "type")
  ec_BadRow : ExcC K C_BadRow
  em_BadRow : PySem.W.exmOne K (.ref C_BadRow) (.ref C_OrderError) = some true
  kq_BadRow_BadRow : PySem.W.kitOne K (.ref C_BadRow) (.ref C_BadRow) = some true
  kq_BadRow_BadNumber : PySem.W.kitOne K (.ref C_BadRow) (.ref C_BadNumber) = some false
  kq_BadRow_BadRings : PySem.W.kitOne K (.ref C_BadRow) (.ref C_BadRings) = some false
  kq_BadRow_Unlike : PySem.W.kitOne K (.ref C_BadRow) (.ref C_Unlike) = some false
  kq_BadRow_BadText : PySem.W.kitOne K (.ref C_BadRow) (.ref C_BadText) = some false
  kv_BadRow : PySem.W.kitOne K (.ref C_BadRow) (.type "ValueError") = some true
  x_BadNumber : PySem.W.excIn K C_BadNumber [.type "ValueError", .type "Exception", .type "BaseException", .type "object"] "ValueError.__new__" = true
  k_BadNumber : PySem.W.keepIn K (.ref C_BadNumber) = true
  sb_BadNumber : PySem.W.subIn K (.ref C_BadNumber) (.type "BaseException") = some true
  st_BadNumber : PySem.W.typeIn K (.ref C_BadNumber) = some (.type "type")
  ec_BadNumber : ExcC K C_BadNumber
  em_BadNumber : PySem.W.exmOne K (.ref C_BadNumber) (.ref C_OrderError) = some true
  kq_BadNumber_BadRow : PySem.W.kitOne K (.ref C_BadNumber) (.ref C_BadRow) = some false
  kq_BadNumber_BadNumber : PySem.W.kitOne K (.ref C_BadNumber) (.ref C_BadNumber) = some true
  kq_BadNumber_BadRings : PySem.W.kitOne K (.ref C_BadNumber) (.ref C_BadRings) = some false
  kq_BadNumber_Unlike : PySem.W.kitOne K (.ref C_BadNumber) (.ref C_Unlike) = some false
  kq_BadNumber_BadText : PySem.W.kitOne K (.ref C_BadNumber) (.ref C_BadText) = some false
  kv_BadNumber : PySem.W.kitOne K (.ref C_BadNumber) (.type "ValueError") = some true
  x_BadRings : PySem.W.excIn K C_BadRings [.type "ValueError", .type "Exception", .type "BaseException", .type "object"] "ValueError.__new__" = true
  k_BadRings : PySem.W.keepIn K (.ref C_BadRings) = true
  sb_BadRings : PySem.W.subIn K (.ref C_BadRings) (.type "BaseException") = some true
  st_BadRings : PySem.W.typeIn K (.ref C_BadRings) = some (.type "type")
  ec_BadRings : ExcC K C_BadRings
  em_BadRings : PySem.W.exmOne K (.ref C_BadRings) (.ref C_OrderError) = some true
  kq_BadRings_BadRow : PySem.W.kitOne K (.ref C_BadRings) (.ref C_BadRow) = some false
  kq_BadRings_BadNumber : PySem.W.kitOne K (.ref C_BadRings) (.ref C_BadNumber) = some false
  kq_BadRings_BadRings : PySem.W.kitOne K (.ref C_BadRings) (.ref C_BadRings) = some true
  kq_BadRings_Unlike : PySem.W.kitOne K (.ref C_BadRings) (.ref C_Unlike) = some false
  kq_BadRings_BadText : PySem.W.kitOne K (.ref C_BadRings) (.ref C_BadText) = some false
  kv_BadRings : PySem.W.kitOne K (.ref C_BadRings) (.type "ValueError") = some true
  x_Unlike : PySem.W.excIn K C_Unlike [.type "ValueError", .type "Exception", .type "BaseException", .type "object"] "ValueError.__new__" = true
  k_Unlike : PySem.W.keepIn K (.ref C_Unlike) = true
  sb_Unlike : PySem.W.subIn K (.ref C_Unlike) (.type "BaseException") = some true
  st_Unlike : PySem.W.typeIn K (.ref C_Unlike) = some (.type "type")
  ec_Unlike : ExcC K C_Unlike
  em_Unlike : PySem.W.exmOne K (.ref C_Unlike) (.ref C_OrderError) = some true
  kq_Unlike_BadRow : PySem.W.kitOne K (.ref C_Unlike) (.ref C_BadRow) = some false
  kq_Unlike_BadNumber : PySem.W.kitOne K (.ref C_Unlike) (.ref C_BadNumber) = some false
  kq_Unlike_BadRings : PySem.W.kitOne K (.ref C_Unlike) (.ref C_BadRings) = some false
  kq_Unlike_Unlike : PySem.W.kitOne K (.ref C_Unlike) (.ref C_Unlike) = some true
  kq_Unlike_BadText : PySem.W.kitOne K (.ref C_Unlike) (.ref C_BadText) = some false
  kv_Unlike : PySem.W.kitOne K (.ref C_Unlike) (.type "ValueError") = some true
end Bo

/-! == of data -/
namespace Bo
open PySem PySem.Spec PyProof.Rows L2
/-- a kind of data: told apart by ==, of a depth -/
structure Emb {α : Type} [DecidableEq α] (f : α → PyData) (k : Nat) : Prop where
  eq : ∀ x y, PyData.eqv (f x) (f y) = decide (x = y)
  lay : ∀ x, (f x).canLay0 = true
  dep : ∀ x, (f x).depth ≤ k
def dI (i : Int) : PyData := .int i
def dB (b : Bool) : PyData := .bool b
def dS (s : Str) : PyData := .str s
def dL {α : Type} (f : α → PyData) (xs : List α) : PyData := .list (xs.map f)
def dP {α β : Type} (f : α → PyData) (g : β → PyData) (p : α × β) : PyData := .tuple [f p.1, g p.2]
theorem emb_I : Emb dI 0 := ⟨fun x y => by
  show PyData.eqv (.int x) (.int y) = _
  rw [PyData.eqv, Bool.eq_iff_iff]; simp, fun x => by show PyData.canLay0 (.int x) = true; simp [PyData.canLay0], fun x => by show PyData.depth (.int x) ≤ 0; simp [PyData.depth]⟩
theorem emb_B : Emb dB 0 := ⟨fun x y => by
  show PyData.eqv (.bool x) (.bool y) = _
  rw [PyData.eqv, Bool.eq_iff_iff]; simp, fun x => by show PyData.canLay0 (.bool x) = true; simp [PyData.canLay0], fun x => by show PyData.depth (.bool x) ≤ 0; simp [PyData.depth]⟩
section
variable {α β : Type} [DecidableEq α] [DecidableEq β] {f : α → PyData} {g : β → PyData} {k l : Nat}
theorem eqvAll_map (E : Emb f k) : ∀ xs ys : List α, PyData.eqvAll (xs.map f) (ys.map f) = decide (xs = ys)
  | [], [] => by rw [Bool.eq_iff_iff]; simp [PyData.eqvAll]
  | [], y :: ys => by rw [Bool.eq_iff_iff]; simp [PyData.eqvAll]
  | x :: xs, [] => by rw [Bool.eq_iff_iff]; simp [PyData.eqvAll]
  | x :: xs, y :: ys => by
    have ih := eqvAll_map E xs ys
    rw [List.map_cons, List.map_cons, PyData.eqvAll, ih, E.eq, Bool.eq_iff_iff]
    simp
theorem layAll_map (E : Emb f k) : ∀ xs : List α, PyData.canLayAll0 (xs.map f) = true
  | [] => by simp [PyData.canLayAll0]
  | x :: xs => by
    rw [List.map_cons]
    simp only [PyData.canLayAll0, E.lay, layAll_map E xs, Bool.and_self]
theorem depAll_map (E : Emb f k) : ∀ xs : List α, PyData.depthAll (xs.map f) ≤ k
  | [] => by simp [PyData.depthAll]
  | x :: xs => by
    rw [List.map_cons]
    have h1 := E.dep x
    have h2 := depAll_map E xs
    simp only [PyData.depthAll]
    omega
theorem emb_L (E : Emb f k) : Emb (dL f) (k + 1) := ⟨fun x y => by
  show PyData.eqv (.list _) (.list _) = _
  rw [PyData.eqv]; exact eqvAll_map E x y, fun x => by
  show PyData.canLay0 (.list _) = true
  rw [PyData.canLay0]; exact layAll_map E x, fun x => by
  show PyData.depth (.list _) ≤ _
  rw [PyData.depth]
  have := depAll_map E x
  omega⟩
theorem emb_P (E : Emb f k) (F : Emb g l) : Emb (dP f g) (max k l + 1) := ⟨fun x y => by
  show PyData.eqv (.tuple _) (.tuple _) = _
  rw [PyData.eqv, PyData.eqvAll, PyData.eqvAll, PyData.eqvAll, E.eq, F.eq, Bool.eq_iff_iff]
  obtain ⟨a, b⟩ := x
  obtain ⟨c, d⟩ := y
  simp, fun x => by
  show PyData.canLay0 (.tuple _) = true
  rw [PyData.canLay0, PyData.canLayAll0, PyData.canLayAll0, PyData.canLayAll0, E.lay, F.lay]; rfl, fun x => by
  show PyData.depth (.tuple _) ≤ _
  have h1 := E.dep x.1
  have h2 := F.dep x.2
  rw [PyData.depth, PyData.depthAll, PyData.depthAll, PyData.depthAll]
  omega⟩
variable {K : PySem.W.Frag} {H : Hp} {x y : V} {Q : VK} {a b : α}
theorem Emb.shaped (E : Emb f k) (hk : k ≤ 60) (a : α) : SeqAt.shaped (f a) = true := by
  unfold SeqAt.shaped
  rw [E.lay, Bool.true_and]
  have := E.dep a
  exact decide_eq_true (by omega)
theorem o_eqD (E : Emb f k) (hk : k ≤ 60) (h1 : Dp K H x (f a)) (h2 : Dp K H y (f b)) (q : Q (.bl (decide (a = b))) H) : rEqD K x y H Q :=
  ⟨_, _, h1, h2, E.shaped hk a, E.shaped hk b, by rw [E.eq]; exact q⟩
theorem o_neD (E : Emb f k) (hk : k ≤ 60) (h1 : Dp K H x (f a)) (h2 : Dp K H y (f b)) (q : Q (.bl (!decide (a = b))) H) : rNeD K x y H Q :=
  ⟨_, _, h1, h2, E.shaped hk a, E.shaped hk b, by rw [E.eq]; exact q⟩
end
section
variable {K : PySem.W.Frag} {H : Hp} {Q : VK}
theorem dpAll_ints : ∀ ns : List Int, DpAll K H (ns.map V.int) (ns.map dI)
  | [] => .nil
  | n :: r => .cons (.int n) (dpAll_ints r)
theorem dpAll_bls : ∀ ns : List Bool, DpAll K H (ns.map V.bl) (ns.map dB)
  | [] => .nil
  | n :: r => .cons (.bl n) (dpAll_bls r)
theorem dp_ints {p : Addr} {ns : List Int} (h : SqL K H p (ns.map V.int)) : Dp K H (.ref p) (dL dI ns) := .lst h (dpAll_ints ns)
theorem dp_bls {p : Addr} {ns : List Bool} (h : SqL K H p (ns.map V.bl)) : Dp K H (.ref p) (dL dB ns) := .lst h (dpAll_bls ns)
theorem dpAll_of {α : Type} {f : α → PyData} : ∀ {vs : List V} {xs : List α}, vs.length = xs.length → (∀ (i : Nat) (v : V) (x : α), vs[i]? = some v → xs[i]? = some x → Dp K H v (f x)) → DpAll K H vs (xs.map f)
  | [], [], _, _ => .nil
  | v :: vs, x :: xs, hl, h => .cons (h 0 v x rfl rfl) (dpAll_of (by simpa using hl) fun i v x hv hx => h (i + 1) v x (by simpa using hv) (by simpa using hx))
  | [], _ :: _, hl, _ => by simp at hl
  | _ :: _, [], hl, _ => by simp at hl
theorem dp_lists {p : Addr} {as : List Addr} {xss : List (List Int)} (h : SqL K H p (as.map V.ref)) (hl : as.length = xss.length) (hh : ∀ (i : Nat) (a : Addr) (x : List Int), as[i]? = some a → xss[i]? = some x → SqL K H a (x.map V.int)) : Dp K H (.ref p) (dL (dL dI) xss) :=
  .lst h (dpAll_of (by rw [List.length_map]; exact hl) fun i v x hv hx => by
    obtain ⟨a, ha, rfl⟩ := map_get hv
    exact dp_ints (hh i a x ha hx))
theorem dp_news {H0 : Hp} {p : Addr} {as : List Addr} {xss : List (List Int)} (h : SqL K H p (as.map V.ref)) (n : News H0 H oL as xss) : Dp K H (.ref p) (dL (dL dI) xss) :=
  dp_lists h n.len fun i a x ha hx => SqL.of (n.2.2 i a x ha hx).2
/-- == of two lists of ints -/
theorem o_eqL {p q : Addr} {ns ms : List Int} (h1 : SqL K H p (ns.map V.int)) (h2 : SqL K H q (ms.map V.int)) (k : Q (.bl (decide (ns = ms))) H) : rEqD K (.ref p) (.ref q) H Q := o_eqD (emb_L emb_I) (by decide) (dp_ints h1) (dp_ints h2) k
theorem o_neL {p q : Addr} {ns ms : List Int} (h1 : SqL K H p (ns.map V.int)) (h2 : SqL K H q (ms.map V.int)) (k : Q (.bl (!decide (ns = ms))) H) : rNeD K (.ref p) (.ref q) H Q := o_neD (emb_L emb_I) (by decide) (dp_ints h1) (dp_ints h2) k
theorem o_eqBs {p q : Addr} {ns ms : List Bool} (h1 : SqL K H p (ns.map V.bl)) (h2 : SqL K H q (ms.map V.bl)) (k : Q (.bl (decide (ns = ms))) H) : rEqD K (.ref p) (.ref q) H Q := o_eqD (emb_L emb_B) (by decide) (dp_bls h1) (dp_bls h2) k
theorem o_eqLL {p q : Addr} {as bs : List Addr} {H0 H1 : Hp} {xs ys : List (List Int)} (h1 : SqL K H p (as.map V.ref)) (h2 : SqL K H q (bs.map V.ref)) (n1 : News H0 H oL as xs) (n2 : News H1 H oL bs ys) (k : Q (.bl (decide (xs = ys))) H) : rEqD K (.ref p) (.ref q) H Q :=
  o_eqD (emb_L (emb_L emb_I)) (by decide) (dp_news h1 n1) (dp_news h2 n2) k
theorem o_neLL {p q : Addr} {as bs : List Addr} {H0 H1 : Hp} {xs ys : List (List Int)} (h1 : SqL K H p (as.map V.ref)) (h2 : SqL K H q (bs.map V.ref)) (n1 : News H0 H oL as xs) (n2 : News H1 H oL bs ys) (k : Q (.bl (!decide (xs = ys))) H) : rNeD K (.ref p) (.ref q) H Q :=
  o_neD (emb_L (emb_L emb_I)) (by decide) (dp_news h1 n1) (dp_news h2 n2) k
end
/-! ### what sorted gives, against 0, 1, .. -/
theorem upTo_get {n i : Nat} (h : i < n) : (upTo n)[i]? = some (i : Int) := by
  unfold upTo
  rw [List.getElem?_map, List.getElem?_range h]; rfl
theorem mem_upTo {n : Nat} {x : Int} : x ∈ upTo n ↔ 0 ≤ x ∧ x < n := by
  unfold upTo
  rw [List.mem_map]
  constructor
  · rintro ⟨i, hi, rfl⟩
    have := List.mem_range.mp hi
    show (0 : Int) ≤ (i : Int) ∧ (i : Int) < n
    omega
  · rintro ⟨h0, h1⟩
    exact ⟨x.toNat, List.mem_range.mpr (by omega), by show ((x.toNat : Nat) : Int) = x; omega⟩
theorem upTo_nodup (n : Nat) : (upTo n).Nodup := by
  unfold upTo
  refine List.Pairwise.map _ (fun a b h => ?_) List.nodup_range
  show (a : Int) ≠ (b : Int)
  omega
theorem upTo_succ (n : Nat) : upTo (n + 1) = upTo n ++ [(n : Int)] := by
  unfold upTo
  rw [List.range_succ, List.map_append]; rfl
theorem upTo_sorted (n : Nat) : (upTo n).Pairwise (· ≤ ·) := by
  unfold upTo
  refine List.Pairwise.map (R := (· < ·)) _ (fun a b h => ?_) List.pairwise_lt_range
  show (a : Int) ≤ (b : Int)
  omega
theorem sorted_unique : ∀ {l m : List Int}, l.Perm m → l.Pairwise (· ≤ ·) → m.Pairwise (· ≤ ·) → l = m
  | [], m, h, _, _ => (List.nil_perm.mp h).symm
  | a :: l, m, h, hl, hm => by
    cases m with
    | nil => exact absurd h.length_eq (by simp)
    | cons b m =>
      have hab : a ≤ b := by
        have : b ∈ a :: l := h.mem_iff.mpr (by simp)
        rcases List.mem_cons.mp this with e | e
        · omega
        · exact (List.pairwise_cons.mp hl).1 b e
      have hba : b ≤ a := by
        have : a ∈ b :: m := h.mem_iff.mp (by simp)
        rcases List.mem_cons.mp this with e | e
        · omega
        · exact (List.pairwise_cons.mp hm).1 a e
      have e : a = b := by omega
      subst e
      rw [sorted_unique (List.Perm.cons_inv h) (List.pairwise_cons.mp hl).2 (List.pairwise_cons.mp hm).2]
/-- sorted(things) == list(range(n)) -/
def isAll (things : List Int) (n : Nat) : Bool := decide (things.Perm (upTo n))
theorem sorted_isAll {things ns : List Int} {n : Nat} (p : ns.Perm things) (s : ns.Pairwise (· ≤ ·)) : decide (ns = upTo n) = isAll things n := by
  unfold isAll
  rw [Bool.eq_iff_iff, decide_eq_true_eq, decide_eq_true_eq]
  constructor
  · rintro rfl; exact p.symm
  · intro h; exact sorted_unique (p.trans h) s (upTo_sorted n)
end Bo

/-! what rings.py and rows.py compute, as plain functions -/
namespace Bo
open PySem L2
/-- from t on, as long as t isn't met -/
def ringFrom (row : List Int) : Nat → List Bool → Int → List Int → List Bool × List Int
  | 0, met, _, ring => (met, ring)
  | n + 1, met, t, ring => if gb met t = true then (met, ring) else ringFrom row n (met.set t.toNat true) (gt row t) (ring ++ [t])
def ringAt (row : List Int) (met : List Bool) (t : Int) (ring : List Int) : List Bool × List Int := ringFrom row (met.count false) met t ring
theorem count_set : ∀ {met : List Bool} {k : Nat}, met[k]? = some false → (met.set k true).count false + 1 = met.count false
  | [], k, h => by simp at h
  | b :: r, 0, h => by
    have e : b = false := by simpa using h
    subst e
    simp
  | b :: r, k + 1, h => by
    have ih := count_set (met := r) (k := k) (by simpa using h)
    cases b <;> simp <;> omega
theorem gb_get {met : List Bool} {t : Int} (h0 : 0 ≤ t ∧ t < met.length) : met[t.toNat]? = some (gb met t) := by
  unfold gb
  rw [List.getD_eq_getElem?_getD, List.getElem?_eq_getElem (by omega)]; rfl
theorem ringAt_met {row : List Int} {met : List Bool} {t : Int} {ring : List Int} (h : gb met t = true) : ringAt row met t ring = (met, ring) := by
  unfold ringAt
  cases met.count false with
  | zero => rfl
  | succ n => unfold ringFrom; rw [if_pos h]
theorem ringAt_next {row : List Int} {met : List Bool} {t : Int} {ring : List Int} (h : gb met t = false) (h0 : 0 ≤ t ∧ t < met.length) :
    ringAt row met t ring = ringAt row (met.set t.toNat true) (gt row t) (ring ++ [t]) := by
  have hg := gb_get h0
  rw [h] at hg
  have hc := count_set hg
  unfold ringAt
  rw [← hc]
  conv => lhs; unfold ringFrom
  rw [if_neg (by rw [h]; exact Bool.false_ne_true)]
def ringsAux (row : List Int) : Nat → List Bool × List (List Int)
  | 0 => (row.map fun _ => false, [])
  | i + 1 => ((ringAt row (ringsAux row i).1 (i : Int) []).1, if (ringAt row (ringsAux row i).1 (i : Int) []).2 = [] then (ringsAux row i).2 else (ringsAux row i).2 ++ [(ringAt row (ringsAux row i).1 (i : Int) []).2])
/-- the rings of a row, as rings_of makes them -/
def ringsOf (row : List Int) : List (List Int) := (ringsAux row row.length).2
theorem ringFrom_length (row : List Int) : ∀ (n : Nat) (met : List Bool) (t : Int) (ring : List Int), (ringFrom row n met t ring).1.length = met.length
  | 0, met, t, ring => rfl
  | n + 1, met, t, ring => by
    unfold ringFrom
    split
    · rfl
    · rw [ringFrom_length row n, List.length_set]
theorem ringsAux_length (row : List Int) : ∀ i, (ringsAux row i).1.length = row.length
  | 0 => by simp [ringsAux]
  | i + 1 => by
    show (ringAt row (ringsAux row i).1 (i : Int) []).1.length = row.length
    unfold ringAt
    rw [ringFrom_length, ringsAux_length row i]
theorem ringsAux_count (row : List Int) : ∀ i, (ringsAux row i).2.length ≤ i
  | 0 => Nat.le_refl _
  | i + 1 => by
    have ih := ringsAux_count row i
    show (if _ then (ringsAux row i).2 else (ringsAux row i).2 ++ [_]).length ≤ i + 1
    split
    · omega
    · rw [List.length_append]; simp; exact ih
def primesL : List Int := [1000003, 1000033, 1000037, 1000039, 1000081, 1000099, 1000117, 1000121, 1000133, 1000151, 1000159, 1000171, 1000183, 1000187, 1000193, 1000199]
theorem primes_at (k : Int) : ∃ p, 0 < p ∧ atI (primesL.map V.int) (k % 16) = some (.int p) := by
  have h0 : 0 ≤ k % 16 := Int.emod_nonneg _ (by decide)
  have h1 : k % 16 < 16 := Int.emod_lt_of_pos _ (by decide)
  refine ⟨gt primesL (k % 16), ?_, at_gt (by show -(16 : Int) ≤ _; omega) (by show _ < (16 : Int); omega)⟩
  have hm := gt_mem (ns := primesL) (i := k % 16) (by show -(16 : Int) ≤ _; omega) (by show _ < (16 : Int); omega)
  have ha : ∀ x ∈ primesL, 0 < x := by decide
  exact ha _ hm
theorem ins_row {ns : List Int} {i : Nat} {k : Int} (hl : ns.length = i) (hb : ∀ x ∈ ns, 0 ≤ x ∧ x < i) (hn : ns.Nodup) : (ins ns k (i : Int)).length = i + 1 ∧ (∀ x ∈ ins ns k (i : Int), 0 ≤ x ∧ x < ((i + 1 : Nat) : Int)) ∧ (ins ns k (i : Int)).Nodup := by
  have hp : (ins ns k (i : Int)).Perm ((i : Int) :: ns) := by
    unfold ins
    rw [List.append_assoc, List.singleton_append]
    refine List.perm_middle.trans ?_
    rw [List.take_append_drop]
  refine ⟨by rw [hp.length_eq, List.length_cons, hl], fun x hx => ?_, hp.nodup_iff.mpr (List.nodup_cons.mpr ⟨fun h => ?_, hn⟩)⟩
  · rcases List.mem_cons.mp (hp.mem_iff.mp hx) with e | e
    · omega
    · have := hb x e; omega
  · have := hb _ h; omega
/-- lists that stand at their places -/
def Lf (H : Hp) (as : List Addr) (xss : List (List Int)) : Prop := as.length = xss.length ∧ ∀ (i : Nat) (p : Addr) (x : List Int), as[i]? = some p → xss[i]? = some x → H p = some (oL x)
theorem Lf.same {H H' : Hp} {as : List Addr} {xss : List (List Int)} (h : Lf H as xss) (s : Same H H') : Lf H' as xss := ⟨h.1, fun i p x a b => s _ _ (h.2 i p x a b)⟩
theorem Lf.of {H0 H : Hp} {as : List Addr} {xss : List (List Int)} (n : News H0 H oL as xss) : Lf H as xss := ⟨n.1, fun i p x a b => (n.2.2 i p x a b).2⟩
/-! ### rings told -/
def isRing (ring : List Int) (many : Int) : Bool := !ring.isEmpty && ring.all fun x => isNum (.int x) 0 (many - 1)
def setRing (ring : List Int) : Nat → List Int → List Int
  | 0, f => f
  | k + 1, f => st (setRing ring k f) (gt ring ((k : Int) - 1)) (gt ring (k : Int))
theorem setRing_length (ring : List Int) : ∀ k f, (setRing ring k f).length = f.length
  | 0, f => rfl
  | k + 1, f => by
    show (st _ _ _).length = _
    rw [st_length, setRing_length ring k]
def rowOf (many : Nat) (told : List (List Int)) : List Int := told.foldl (fun f r => setRing r r.length f) (upTo many)
theorem foldl_take {α β : Type} {g : β → α → β} {b : β} {xs : List α} {i : Nat} {x : α} (h : xs[i]? = some x) : (xs.take (i + 1)).foldl g b = g ((xs.take i).foldl g b) x := by
  rw [List.take_add_one, h, List.foldl_append]; rfl
theorem rowOf_len (told : List (List Int)) : ∀ f : List Int, (told.foldl (fun f r => setRing r r.length f) f).length = f.length := by
  induction told with
  | nil => intro f; rfl
  | cons r t ih => intro f; rw [List.foldl_cons, ih, setRing_length]
theorem flatten_take {α : Type} {xs : List (List α)} {i : Nat} {x : List α} (h : xs[i]? = some x) : (xs.take (i + 1)).flatten = (xs.take i).flatten ++ x := by
  rw [List.take_add_one, h, List.flatten_append]; simp
theorem flatten_take_le {α : Type} (xs : List (List α)) (i : Nat) : (xs.take i).flatten.length ≤ xs.flatten.length := by
  conv => rhs; rw [← List.take_append_drop i xs, List.flatten_append, List.length_append]
  omega
/-- a ring of a row -/
def okRing (row ring : List Int) : Bool := (!ring.isEmpty && ring.all fun x => decide (0 ≤ x) && decide (x < row.length)) && (List.range ring.length).all fun k => decide (gt row (gt ring ((k : Int) - 1)) = gt ring (k : Int))
def ringed (row : List Int) (told : List (List Int)) : Bool := told.all (okRing row) && isAll told.flatten row.length
theorem any_not {α : Type} (P : α → Bool) (l : List α) : (l.map fun x => !P x).any id = !(l.all P) := by
  induction l with
  | nil => rfl
  | cons x r ih => rw [List.map_cons, List.any_cons, List.all_cons, ih]; cases P x <;> rfl
end Bo

namespace Bo
open PySem PySem.Spec PyProof.Rows L2
/-! ### steps of a reading: each a row of its own -/
local macro_rules | `(tactic| walk_at "ne") => `(tactic| first
  | assumption
  | (apply Ne.symm; assumption)
  | (apply neo; assumption; walk_at "hp")
  | (apply Ne.symm; apply neo; assumption; walk_at "hp"))
local macro_rules | `(tactic| walk_at "hp") => `(tactic| first
  | assumption
  | exact upd_same
  | (apply lift_ne; walk_at "hp"; walk_at "ne")
  | (apply Same.up; assumption; walk_at "hp"))
local macro_rules | `(tactic| walk_at "same") => `(tactic| first
  | assumption
  | exact Same.refl _
  | (apply Same.new; walk_at "same"; walk_at "fr")
  | (apply same_trans; assumption; walk_at "same"))
local macro_rules | `(tactic| walk_at "fr") => `(tactic| first
  | assumption
  | (apply same_free; assumption; walk_at "same"))
local macro_rules | `(tactic| walk_at "sq") => `(tactic| first
  | assumption
  | (apply SqL.of; walk_at "hp")
  | (apply same_seq; assumption; walk_at "same"))
local macro_rules | `(tactic| walk_at "sqt") => `(tactic| first
  | assumption
  | (apply SqT.of; walk_at "hp")
  | (apply same_sqt; assumption; walk_at "same"))
local macro_rules | `(tactic| walk_at "nw") => `(tactic| first
  | assumption
  | (apply News.mut; walk_at "nw"; (first | assumption | (refine News.notin (by assumption) ?_; assumption)))
  | (apply News.same; walk_at "nw"; walk_at "same"))
/-! one step -/
local macro_rules | `(tactic| walk_at "go1") => `(tactic| first
  | with_reducible refine r_seq ?_
  | with_reducible refine r_asgN ?_
  | with_reducible refine r_set ?_
  | with_reducible refine r_ret ?_
  | with_reducible refine r_drop ?_
  | with_reducible refine r_if ?_
  | with_reducible refine r_next ?_
  | ((with_reducible apply r_nxD); with_reducible refine r_nx ?_)
  | ((with_reducible apply r_rtD); with_reducible refine r_rt ?_)
  | with_reducible refine r_par ?_
  | with_reducible refine k_par ?_
  | with_reducible refine r_fld ?_
  | ((with_reducible apply r_aug); exact rfl)
  | with_reducible refine i_ip ?_
  | ((with_reducible apply e_var); exact rfl)
  | with_reducible refine e_c ?_
  | with_reducible refine e_op ?_
  | with_reducible refine e_un ?_
  | with_reducible refine o_I0 ?_
  | with_reducible refine o_neg ?_
  | with_reducible refine o_eqI ?_
  | with_reducible refine o_neI ?_
  | with_reducible refine o_eqB ?_
  | with_reducible refine o_neB ?_
  | with_reducible refine o_eqS ?_
  | with_reducible refine o_neS ?_
  | with_reducible refine a_nil ?_
  | with_reducible refine a_cons ?_
  | with_reducible refine e_cb ?_
  | with_reducible refine e_call ?_
  | with_reducible refine e_make ?_
  | with_reducible refine e_meth ?_
  | with_reducible refine e_fld ?_
  | with_reducible refine e_lst ?_
  | with_reducible refine e_tup ?_
  | with_reducible refine e_bm ?_
  | with_reducible refine e_bm0 ?_
  | with_reducible refine e_rev ?_
  | with_reducible refine e_sl ?_
  | with_reducible refine e_nopart ?_
  | with_reducible refine e_part ?_
  | with_reducible refine i_ok ?_
  | with_reducible refine e_lenset ?_
  | with_reducible refine e_listRg1 ?_
  | with_reducible refine t_test ?_
  | with_reducible refine t_B ?_
  | with_reducible refine b_ok ?_
  | with_reducible refine t_and ?_
  | with_reducible refine t_or ?_
  | with_reducible refine t_not ?_
  | with_reducible refine v_and ?_
  | with_reducible refine v_or ?_
  | with_reducible refine v_not ?_
  | with_reducible refine e_if ?_
  | with_reducible refine e_chain ?_
  | with_reducible refine e_chain3 ?_
  | with_reducible refine iteT ?_
  | with_reducible refine iteF ?_
  | with_reducible refine ite_nT ?_
  | with_reducible refine ite_nF ?_
  | with_reducible refine r_forL ?_
  | with_reducible refine r_forT ?_
  | with_reducible refine r_forE ?_
  | with_reducible refine r_forR1 ?_
  | with_reducible refine r_forR2 ?_
  | with_reducible refine e_lcL ?_
  | with_reducible refine e_lcR1 ?_
  | with_reducible refine e_lcR2 ?_
  | with_reducible refine r_dput ?_
  | with_reducible refine e_dget ?_
  | with_reducible refine e_dnin ?_
  | with_reducible refine c_max2 ?_
  | with_reducible refine c_min2 ?_
  | ((with_reducible apply c_isiI); (first | exact (show kitB "int" _ = some true by decide +kernel) | exact (show kitB "int" _ = some false by decide +kernel)))
  | ((with_reducible apply m_ty); walk_at "sq"))
local macro_rules | `(tactic| walk_at "go2") => `(tactic| first
  | ((with_reducible apply o_ixI); walk_at "sq"; omega)
  | ((with_reducible refine o_mod ?_ ?_); omega)
  | ((with_reducible refine o_fdiv ?_ ?_); omega)
  | ((with_reducible refine o_mulR ?_ ?_); omega)
  | ((with_reducible refine o_mulL ?_ ?_); omega)
  | ((with_reducible apply c_lenM); walk_at "sq")
  | ((with_reducible apply c_all); walk_at "sq")
  | ((with_reducible apply c_any); walk_at "sq")
  | ((with_reducible apply o_in); walk_at "sq")
  | ((with_reducible apply o_nin); walk_at "sq")
  | ((with_reducible apply o_ixB); walk_at "sq"; omega)
  | ((with_reducible apply m_setB); walk_at "hp"; omega)
  | ((with_reducible apply m_appR); walk_at "hp"; omega)
  | ((with_reducible apply m_ins); walk_at "hp"; omega; omega)
  | ((with_reducible apply m_appM); walk_at "hp"; exact rfl; omega)
  | ((with_reducible apply m_setI); walk_at "hp"; omega))
local macro_rules | `(tactic| walk_at "d") => `(tactic| try dsimp only)
local macro_rules | `(tactic| walk_at "k") => `(tactic| try dsimp only [cxOf, Cx.nox, Cx.blk])
local macro_rules | `(tactic| walk_at "go") => `(tactic| repeat (first | walk_at "go1" | walk_at "go2"))

section
variable {P : Program} {w : World} {K : PySem.W.Frag} {mg : Str → Option Value} {base : Heap} {C_Exchanged C_Fronted C_Ended C_Put C_Answer C_OrderError C_BadRow C_BadNumber C_BadRings C_Unlike C_BadText : Addr} (T : Top K mg C_Exchanged C_Fronted C_Ended C_Put C_Answer C_OrderError C_BadRow C_BadNumber C_BadRings C_Unlike C_BadText)
include T
def sp_is_number (K : PySem.W.Frag) : Sp := fun vs H Q _ => ∃ (x : V) (lo hi : Int) (t : String), vs = [x, .int lo, .int hi] ∧ TyX K H x (.type t) ∧ Q (.bl (isNum x lo hi)) H
theorem ok_is_number : Cc P w K mg base 1 "is_number" (sp_is_number K) := by
  refine Cc.mk' T.d_is_number sc_is_number ?_ ?_
  · rintro vs H Q E ⟨x, lo, hi, t, rfl, _⟩; rfl
  · rintro f cdv A outer s H vs Q E hr ⟨x, lo, hi, t, rfl, ty, q⟩
    refine ⟨_, (pss_one (ps_ret (pe_and (pe_callB (r := rIsi K) call_isi (by rfl) T.b_isinstance PyProof.Rows.boot_isinstance (pa_cons (pv 0) (pa_cons (pe_bltn (v := .ty "int") (by rfl) T.b_int PyProof.Rows.boot_int rfl) pa_nil))) (pe_and (pe_not (pe_callB (r := rIsi K) call_isi (by rfl) T.b_isinstance PyProof.Rows.boot_isinstance (pa_cons (pv 0) (pa_cons (pe_bltn (v := .ty "bool") (by rfl) T.b_bool PyProof.Rows.boot_bool rfl) pa_nil)))) (pe_one (pe_chain op_le op_le (pv 1) (pv 0) (pv 2))))))), ?_⟩
    walk_at "k"
    walk_at "go"
    refine c_isi ty (kit_int ty) ?_
    walk_at "go"
    refine ite_bl (fun h1 => ?_) (fun h1 => ?_)
    · walk_at "go"
      refine c_isi ty (kit_bool ty) ?_
      walk_at "go"
      refine ite_bl (fun h2 => ?_) (fun h2 => ?_)
      · obtain ⟨i, rfl⟩ : ∃ i, x = .int i := by
          cases x <;> simp [isIntV, isBlV] at h1 h2 ⊢
        walk_at "go"
        rw [isNum_int] at q
        refine ite_dec (fun h3 => ?_) (fun h3 => ?_)
        · walk_at "go"
          rw [decide_eq_true h3, Bool.true_and] at q
          exact q
        · walk_at "go"
          rw [decide_eq_false h3, Bool.false_and] at q
          exact q
      · walk_at "go"
        have e : isNum x lo hi = false := by
          cases x <;> simp [isIntV, isBlV, isNum] at h1 h2 ⊢
        rw [e] at q; exact q
    · walk_at "go"
      have e : isNum x lo hi = false := by
        cases x <;> simp [isIntV, isNum] at h1 ⊢
      rw [e] at q; exact q
def sp_check_row (K : PySem.W.Frag) : Sp := fun vs H Q _ => ∃ (a : Addr) (ns : List Int), vs = [.ref a] ∧ SqL K H a (ns.map V.int) ∧ IsRow ns ∧ ∀ H', Same H H' → Q .non H'
theorem ok_check_row : Cc P w K mg base 2 "check_row" (sp_check_row K) := by
  have c_is_number := ok_is_number (P := P) (w := w) (base := base) T
  obtain ⟨tM, g_MOST⟩ := T.g_MOST
  refine Cc.mk' T.d_check_row sc_check_row ?_ ?_
  · rintro vs H Q E ⟨a, ns, rfl, _⟩; rfl
  · rintro f cdv A outer s H vs Q E hr ⟨a, ns, rfl, hS, R, q⟩
    have hl := R.len
    refine ⟨_, (pss_cons (ps_if (PW.pt (pw_or (pt_not (pt_val (pe_callB (r := rIsi K) call_isi (by rfl) T.b_isinstance PyProof.Rows.boot_isinstance (pa_cons (pv 0) (pa_cons (pe_bltn (v := .ty "list") (by rfl) T.b_list PyProof.Rows.boot_list rfl) pa_nil))))) (pw_or (pt_cmpR op_gt (pe_callB (r := rLen2 K) call_len_seq (by rfl) T.b_len PySem.boot_len (pa_cons (pv 0) pa_nil)) (pe_glob (v := .int 1000000) (by rfl) g_MOST ⟨_, rfl⟩) (nomark _)) (pw_or1 (pt_not (pt_val (pe_callB (r := rAll K) (cr_all rfl) (by rfl) T.b_all PyProof.Rows.boot_all (pa_cons (pe_lc (own := [("thing", 1)]) (g := gName 1) (tt := tYes) rfl sc_check_row.nd (pi_list (pv 0)) (blkOk_by (own := [("thing", 1)]) (N := N_check_row) (sc := defScope s_check_row) (by decide +kernel)) (fun _ _ _ _ _ => (pg_name (i := 1) sc_check_row.nd rfl (Or.inl rfl))) (fun _ _ _ _ _ => pts_nil) (fun _ _ _ _ _ => (pe_cc c_is_number (hr.mono (by decide)) (by rfl) (pa_cons (pv 1) (pa_cons pe_int (pa_cons (pe_op op_sub (pe_callB (r := rLen2 K) call_len_seq (by rfl) T.b_len PySem.boot_len (pa_cons (pv 0) pa_nil)) pe_int) pa_nil)))))) pa_nil)))))))) pss_never pss_nil)
      (pss_one (ps_if (pt_cmpR op_ne (pe_lenSetG (by rfl) T.b_len (by rfl) T.b_set (pv 0)) (pe_callB (r := rLen2 K) call_len_seq (by rfl) T.b_len PySem.boot_len (pa_cons (pv 0) pa_nil)) (nomark _)) pss_never pss_nil))), ?_⟩
    walk_at "k"
    walk_at "go"
    refine c_isiL hS (show kitB "list" "list" = some true by decide +kernel) ?_
    walk_at "go"
    refine ite_decN (by omega) ?_
    walk_at "go"
    refine k_lcV (xs := ns) (f := V.int) (h := V.bl) (fun x => isNum (.int x) 0 ((ns.length : Int) - 1)) (by walk_at "sq") (by omega) (fun _ => rfl) ?_ ?_
    · intro i x H2 R' hx s2 k2
      walk_at "go"
      refine ⟨.int x, 0, _, "int", rfl, .base (.int x), ?_⟩
      exact k2 H2 (Same.refl _)
    · intro D H2 nD s2 hD
      walk_at "go"
      rw [R.all_num]
      walk_at "go"
      refine c_lenset (by walk_at "sq") (by omega) ?_
      walk_at "go"
      rw [(nodup_len_eq ns).mpr R.nd]
      refine ite_ndecN rfl ?_
      walk_at "go"
      exact q _ s2
def sp_rings_of (K : PySem.W.Frag) : Sp := fun vs H Q _ => ∃ (a : Addr) (ns : List Int), vs = [.ref a] ∧ SqL K H a (ns.map V.int) ∧ IsRow ns ∧
  ∀ p as H', Same H H' → H p = none → News H H' oL as (ringsOf ns) → p ∉ as → H' p = some (.lst (as.map V.ref)) → Q (.ref p) H'
theorem ok_rings_of : Cc P w K mg base 1 "rings_of" (sp_rings_of K) := by
  refine Cc.mk' T.d_rings_of sc_rings_of ?_ ?_
  · rintro vs H Q E ⟨a, ns, rfl, _⟩; rfl
  · rintro f cdv A outer s H vs Q E hr ⟨a, ns, rfl, hS, R, q⟩
    have hl := R.len
    refine ⟨_, (pss_cons (ps_setLc (i := 1) (own := [("thing", 3)]) (g := gName 3) (tt := tYes) rfl sc_rings_of.nd rfl rfl (sw_true rfl rfl rfl (by decide +kernel)) (pi_list (pv 0)) (blkOk_by (own := [("thing", 3)]) (N := N_rings_of) (sc := defScope s_rings_of) (by decide +kernel)) (fun _ _ _ _ _ => (pg_name (i := 3) sc_rings_of.nd rfl (Or.inl rfl))) (fun _ _ _ _ _ => pts_nil) (fun _ _ _ _ _ => pe_bl))
      (pss_cons (ps_set (i := 2) sc_rings_of.nd rfl (by first | exact Or.inl rfl | exact Or.inr rfl) (pe_lst pa_nil))
      (pss_cons (ps_for PassesOwn.never rfl (pi_range1 (by rfl) T.b_range (pa_cons (pe_callB (r := rLen2 K) call_len_seq (by rfl) T.b_len PySem.boot_len (pa_cons (pv 0) pa_nil)) pa_nil)) (pg_name (i := 3) sc_rings_of.nd rfl (by first | exact Or.inl rfl | exact Or.inr rfl)) (pss_cons (ps_set (i := 4) sc_rings_of.nd rfl (by first | exact Or.inl rfl | exact Or.inr rfl) (pe_lst pa_nil))
      (pss_cons (ps_while PassesOwn.never (pt_not (pt_val (pe_ix (r := rIxL K) ix_list (pv 1) (pv 3) (fun _ _ => rfl)))) (pss_cons (ps_asg pe_bl (pg_sub (pv 1) (pv 3) set_list))
      (pss_cons (ps_expr (pe_bm PySem.F.plainAttrs_list PySem.F.slot_list_append PySem.F.type_list_append mt_append (pv 4) (pa_cons (pv 3) pa_nil)))
      (pss_one (ps_set (i := 3) sc_rings_of.nd rfl (by first | exact Or.inl rfl | exact Or.inr rfl) (pe_ix (r := rIxL K) ix_list (pv 0) (pv 3) (fun _ _ => rfl)))))))
      (pss_one (ps_if (pt_cmpR op_gt (pe_callB (r := rLen2 K) call_len_seq (by rfl) T.b_len PySem.boot_len (pa_cons (pv 4) pa_nil)) pe_int (nomark _)) (pss_one (ps_expr (pe_bm PySem.F.plainAttrs_list PySem.F.slot_list_append PySem.F.type_list_append mt_append (pv 2) (pa_cons (pv 4) pa_nil)))) pss_nil)))))
      (pss_one (ps_ret (pv 2)))))), ?_⟩
    walk_at "k"
    walk_at "go"
    refine k_lcV (xs := ns) (f := V.int) (h := V.bl) (fun _ => false) (by walk_at "sq") (by omega) (fun _ => rfl) (fun i x H2 R' hx s2 k2 => k2 H2 (Same.refl _)) ?_
    intro pm H1 npm s1 hpm
    walk_at "go"
    refine ⟨Nat.zero_le _, fun pf npf => ?_⟩
    have hmf : pm ≠ pf := by walk_at "ne"
    have npf0 : H pf = none := by walk_at "fr"
    walk_at "go"
    refine k_rng1 (fun i σ H' => ∃ as th rg, σ = [some (.ref a), some (.ref pm), some (.ref pf), th, rg] ∧ Same H H' ∧ H' pm = some (.lst ((ringsAux ns i).1.map V.bl)) ∧ H' pf = some (.lst (as.map V.ref)) ∧ News H H' oL as (ringsAux ns i).2 ∧ pm ∉ as ∧ pf ∉ as)
      (by omega) ⟨[], none, none, rfl, by walk_at "same", by walk_at "hp", by walk_at "hp", News.nil, by simp, by simp⟩ ?_ ?_
    · rintro i σ H' hi ⟨as, th, rg, rfl, s2, h1, h2, n2, m1, m2⟩
      walk_at "go"
      refine ⟨Nat.zero_le _, fun pr npr => ?_⟩
      walk_at "go"
      walk_at "d"
      have prm : pr ≠ pm := by walk_at "ne"
      have prf : pr ≠ pf := by walk_at "ne"
      have hpr0 : H pr = none := by walk_at "fr"
      have pra : pr ∉ as := n2.notin npr
      have ml := ringsAux_length ns i
      refine r_while (fun m σ H'' => ∃ met ring t, m = met.count false ∧ σ = [some (.ref a), some (.ref pm), some (.ref pf), some (.int t), some (.ref pr)] ∧ Same H H'' ∧ H'' pm = some (.lst (met.map V.bl)) ∧ H'' pf = some (.lst (as.map V.ref)) ∧
          News H H'' oL as (ringsAux ns i).2 ∧ H'' pr = some (.lst (ring.map V.int)) ∧ met.length = ns.length ∧ (0 ≤ t ∧ t < ns.length) ∧ ring.length + met.count false = (ringsAux ns i).1.count false ∧ ringAt ns met t ring = ringAt ns (ringsAux ns i).1 i [])
        _ ⟨(ringsAux ns i).1, [], i, rfl, rfl, by walk_at "same", by walk_at "hp", by walk_at "hp", by walk_at "nw", by walk_at "hp", ml, by omega, by simp, rfl⟩ ?_
      rintro m σ H'' ⟨met, ring, t, rfl, rfl, s3, h3, h4, n3, h5, l3, bt, lr, e3⟩
      have hcl : (ringsAux ns i).1.count false ≤ ns.length := by rw [← ml]; exact List.count_le_length ..
      walk_at "go"
      cases hb : gb met t with
      | false =>
        walk_at "go"
        refine ⟨_, fun σ2 H2 h => h, ?_⟩
        walk_at "go"
        have hc := count_set (by rw [← hb]; exact gb_get (met := met) (t := t) (by omega))
        have bt2 := R.bd (gt ns t) (gt_mem (by omega) (by omega))
        refine ⟨_, ?_, met.set t.toNat true, ring ++ [t], gt ns t, rfl, rfl, by walk_at "same", by walk_at "hp", by walk_at "hp", by walk_at "nw", by walk_at "hp", by rw [List.length_set]; exact l3, bt2, by rw [List.length_append]; simp; omega, ?_⟩
        · omega
        · rw [← e3]
          exact (ringAt_next hb (by omega)).symm
      | true =>
        walk_at "go"
        rw [ringAt_met hb] at e3
        have e4 : ringsAux ns (i + 1) = (met, if ring = [] then (ringsAux ns i).2 else (ringsAux ns i).2 ++ [ring]) := by
          show ((ringAt ns (ringsAux ns i).1 (i : Int) []).1, if (ringAt ns (ringsAux ns i).1 (i : Int) []).2 = [] then _ else _) = _
          rw [← e3]
        refine ite_dec (fun h6 => ?_) (fun h6 => ?_)
        · have hn : ring ≠ [] := by rintro rfl; simp at h6
          rw [if_neg hn] at e4
          have la : as.length = (ringsAux ns i).2.length := n3.len
          have lb : (ringsAux ns i).2.length ≤ i := ringsAux_count ns i
          walk_at "go"
          refine ⟨as ++ [pr], _, _, rfl, by walk_at "same", ?_, by walk_at "hp", ?_, nm_snoc m1 prm.symm, nm_snoc m2 prf.symm⟩
          · rw [e4]; walk_at "hp"
          · rw [e4]
            refine News.snoc (by walk_at "nw") pra hpr0 ?_
            walk_at "hp"
        · have hn : ring = [] := by
            cases ring with
            | nil => rfl
            | cons x r => exact absurd (by simp) h6
          rw [if_pos hn] at e4
          walk_at "go"
          refine ⟨as, _, _, rfl, by walk_at "same", ?_, by walk_at "hp", ?_, m1, m2⟩
          · rw [e4]; walk_at "hp"
          · rw [e4]; walk_at "nw"
    · rintro σ H' ⟨as, th, rg, rfl, s2, h1, h2, n2, m1, m2⟩
      walk_at "go"
      rw [Int.toNat_natCast] at n2
      exact q pf as H' s2 npf0 n2 m2 h2
end
end Bo

/-! defs that raise (an exception whose context is None), a caught exception handed to a def -/
namespace Bo
open PySem PySem.Spec PyProof.Rows L2
section
variable {P : Program} {w : World} {K : PySem.W.Frag} {mg : Str → Option Value} {base : Heap}
/-- a def of the module that may let exceptions out, as CXp tells -/
structure Cq (CXp : CXT) (P : Program) (w : World) (K : PySem.W.Frag) (mg : Str → Option Value) (base : Heap) (k : Nat) (x : Str) (sp : Sp) : Prop where
  ex : ∃ (f : Addr) (fd : FuncData) (ps : List Str), FnOk P w K mg base CXp k f fd ps sp ∧ mg x = some (.ref f) ∧ PySem.W.keepIn K (.ref f) = true ∧ Binds K fd ps []
abbrev CqN (P : Program) (w : World) (K : PySem.W.Frag) (mg : Str → Option Value) (base : Heap) (k : Nat) (x : Str) (sp : Sp) : Prop := Cq (L2N.CX P w) P w K mg base k x sp
theorem okN {x qual : Str} {st : Stmt} {f : Addr} {fd : FuncData} {N ps : List Str} {k : Nat} {sp : Sp} (F : L2.Fun K x qual st f fd) (S : FnScope N ps (defScope st)) (len : ∀ vs H Q E, sp vs H Q E → vs.length = ps.length)
    (body : ∀ (cdv : Value) (A : Around) (outer : List Env) (s : Shared) (H : Hp) (vs : List V) (Q : VK) (E : XK), Room k (A.deeper (envOfC qual (defScope st) s.heap.objs.size f cdv)) →
      L2N.Takes (cxOf (L2N.CX P w) P w K mg base N qual (defScope st) f cdv A outer s H E) (fun cls d _ H => E cls d H) → sp vs H Q E →
      ∃ t, PSs (cxOf (L2N.CX P w) P w K mg base N qual (defScope st) f cdv A outer s H E) (defBody st) t ∧ t { nx := fun _ H' => Q .non H', rt := Q } (start N vs) H) : FnOk P w K mg base (L2N.CX P w) (k + 1) f fd ps sp := by
  obtain ⟨oc, od, kV, doc, pm, an, cdv, ct, osl, rfl, lk, hcd⟩ := F.ex
  exact fn_of lk hcd S len fun A outer s H vs Q E hr h => body cdv A outer s H vs Q E hr (L2N.takes_of rfl rfl rfl rfl) h
theorem Cq.mkN {x : Str} {st : Stmt} {N ps : List Str} {k : Nat} {sp : Sp} (D : Df K mg x st ps) (S : FnScope N ps (defScope st)) (len : ∀ vs H Q E, sp vs H Q E → vs.length = ps.length)
    (body : ∀ (f : Addr) (cdv : Value) (A : Around) (outer : List Env) (s : Shared) (H : Hp) (vs : List V) (Q : VK) (E : XK), Room k (A.deeper (envOfC x (defScope st) s.heap.objs.size f cdv)) →
      L2N.Takes (cxOf (L2N.CX P w) P w K mg base N x (defScope st) f cdv A outer s H E) (fun cls d _ H => E cls d H) → sp vs H Q E →
      ∃ t, PSs (cxOf (L2N.CX P w) P w K mg base N x (defScope st) f cdv A outer s H E) (defBody st) t ∧ t { nx := fun _ H' => Q .non H', rt := Q } (start N vs) H) : CqN P w K mg base (k + 1) x sp := by
  obtain ⟨f, fd, h1, F, b⟩ := D.ex
  exact ⟨f, fd, ps, okN F S len (body f), h1, F.kp, b⟩
/-- a promise: it raises -/
def spR (pre : List V → Hp → Addr → Prop) : Sp := fun vs H _ E => ∃ D, pre vs H D ∧ ∀ H', Same H H' → E (.ref D) none H'
/-- the def at f raises where pre holds -/
structure HeldR (P : Program) (w : World) (K : PySem.W.Frag) (mg : Str → Option Value) (base : Heap) (k : Nat) (f : Addr) (pre : List V → Hp → Addr → Prop) : Prop where
  ex : ∃ (fd : FuncData) (ps : List Str), FnOk P w K mg base (L2N.CX P w) k f fd ps (spR pre) ∧ PySem.W.keepIn K (.ref f) = true ∧ Binds K fd ps []
theorem Cq.held {x : Str} {k : Nat} {pre : List V → Hp → Addr → Prop} (c : CqN P w K mg base k x (spR pre)) : ∃ f, mg x = some (.ref f) ∧ HeldR P w K mg base k f pre := by
  obtain ⟨f, fd, ps, F, hm, kp, b⟩ := c.ex
  exact ⟨f, hm, fd, ps, F, kp, b⟩
end
section
variable {X : Cx} {k i : Nat} {x : Str} {sp : Sp} {E : L2.St → XK} {p pos : Pos} {e : Expr} {es : List Expr} {t : TA}
theorem pe_cqS (c : CqN X.prog X.w X.K X.mg X.base k x sp) (hr : Room k X.A) (hg : Gl X x) (hx : ∀ σ, PassesAt (L2N.CX X.prog X.w) X σ (E σ)) (ha : PA X (e :: es) t)
    (hdb : (x == ("__debug__" : Str)) = false := by decide) (he : starEach (e :: es) X.env = (false, eval e X.env) :: starEach es X.env := by rfl) (hpl : (backTo pos (starEach es X.env)).any (·.1) = false := by rfl) :
    PE X (.Call (.Name x p) (e :: es) [] pos) (tCallS sp E t) := by
  obtain ⟨f, fd, ps, F, hm, kp, b⟩ := c.ex
  exact pe_callS F hr hg hm kp b hx ha hdb he hpl
theorem e_callS {σ : L2.St} {H : Hp} {Q : VK} (h : t σ H fun vs H1 => sp vs H1 Q (E σ)) : tCallS sp E t σ H Q := h
/-- a call of what a slot holds -/
def tCallR (i : Nat) (P : Program) (w : World) (K : PySem.W.Frag) (mg : Str → Option Value) (base : Heap) (k : Nat) (E : L2.St → XK) (t : TA) : TE := fun σ H _ => ∃ f pre, σ[i]? = some (some (.ref f)) ∧ HeldR P w K mg base k f pre ∧ t σ H fun vs H1 => ∃ D, pre vs H1 D ∧ ∀ H', Same H1 H' → E σ (.ref D) none H'
theorem pe_callR (hr : Room k X.A) (hN : X.N[i]? = some x) (hv : Vis X.env.scope x) (hx : ∀ σ, PassesAt (L2N.CX X.prog X.w) X σ (E σ)) (ha : PA X (e :: es) t)
    (hdb : (x == ("__debug__" : Str)) = false := by decide) (hcd : (x == ("__classdict__" : Str)) = false := by decide)
    (he : starEach (e :: es) X.env = (false, eval e X.env) :: starEach es X.env := by rfl) (hpl : (backTo pos (starEach es X.env)).any (·.1) = false := by rfl) :
    PE X (.Call (.Name x p) (e :: es) [] pos) (tCallR i X.prog X.w X.K X.mg X.base k E t) := by
  refine ⟨fun pins s σ H Q I h => ?_⟩
  obtain ⟨f, pre, hs, B, ht⟩ := h
  obtain ⟨fd, ps, F, kp, b⟩ := B.ex
  refine wpAny_Call_Name_kw (thn ((pe_var (pos := p) hN hv hdb hcd).run pins s σ H (fun v H1 => v = .ref f ∧ H1 = H) I ⟨.ref f, hs, rfl, rfl⟩) fun u s1 ⟨v, H1, I1, r1, q1⟩ => ?_)
  obtain ⟨rfl, rfl⟩ := q1
  cases r1
  refine PySem.W.callWith_K (h₀ := X.base) I.ok.mod.kin kp (thn (ha.run pos pins s1 σ _ _ I1 ht) fun us s2 ⟨vs, H2, I2, r, q⟩ => ⟨I2.kIn, ?_⟩) he hpl
  exact run_fnS F hr b (hx σ) I2 r q
/-- isinstance of the exception that stands at a -/
theorem call_isP {a D : Addr} {oe : Obj} (C : ExcC X.K D) (hz : Zc (.ref D) none oe) (hf : ∃ vs, oe.data = .fields vs) (hm : (a, oe) ∈ X.pn) : CallR X (.builtin "isinstance") (rIsE X.K D a) := by
  intro pins s σ H xs us Q I r h
  obtain ⟨c, cv, b, rfl, hcv, e, q⟩ := h
  cases r with
  | cons rx rr => cases rr with
    | cons rt rr =>
      cases rr
      cases rx
      have ec := hcv _ rt
      subst ec
      have hget := (I.pin (a, oe) (List.mem_append_left _ hm)).1
      obtain ⟨vs, hv⟩ := hf
      have J : PySem.W.InstAt s.heap a oe D none := by
        obtain ⟨oc, od, oda, osl⟩ := oe
        obtain ⟨h1, h2⟩ := hz
        dsimp only at h1 h2 hv
        subst h1 h2 hv
        exact ⟨hget, rfl, rfl, trivial⟩
      exact PySem.W.kia_one (PySem.W.handS_kitx_exc C.hg C.hk C.hs C.hd C.ha C.hn C.ht C.hm) I.kIn J e (fun z => nomatch z) fun tk => ⟨.bl b, H, I.kept (t' := tk) fun _ _ z => z, rfl, q⟩
end
theorem takesN0 {X : Cx} : L2N.Takes X (fun _ _ _ _ => False) := fun _ _ x => by
  obtain ⟨_, _, _, _, _, _, _, _, _, _, _, _, _, _, _, _, z⟩ := x
  exact z.elim
/-! ### a def that is called within an except suite, the exception handed on: sp by its address, class, dict -/
structure FnP (P : Program) (w : World) (K : PySem.W.Frag) (mg : Str → Option Value) (base : Heap) (k : Nat) (f : Addr) (fd : FuncData) (ps : List Str) (sp : Addr → Value → Option Addr → Sp) : Prop where
  len : ∀ a cls d vs H Q E, sp a cls d vs H Q E → vs.length = ps.length
  run : ∀ (A : Around) (outer : List Env) (s : Shared) (H : Hp) (args : Args) (us : List Value) (vs : List V) (Q : VK) (E : XK) (p : Addr × Obj) (cls : Value) (d : Option Addr), L2H.RoomH k A → L2H.Hot1 A p → L2N.Zn cls d p.2 → L2H.PinOk outer H s p →
    Env0 P w K mg base A outer s H → BindsTo s fd args (ps.zip us) → Vals vs us → sp p.1 cls d vs H Q E → codeAny (model P w) A (.call (.ref f) args) (CR L2.CX0 outer P w H s Q E) s
section
variable {P : Program} {w : World} {K : PySem.W.Frag} {mg : Str → Option Value} {base : Heap}
theorem fnP_of {x qual : Str} {st : Stmt} {f : Addr} {fd : FuncData} {N ps : List Str} {k : Nat} {sp : Addr → Value → Option Addr → Sp} (F : L2.Fun K x qual st f fd) (S : FnScope N ps (defScope st)) (len : ∀ a cls d vs H Q E, sp a cls d vs H Q E → vs.length = ps.length)
    (body : ∀ (cdv : Value) (A : Around) (outer : List Env) (s : Shared) (H : Hp) (vs : List V) (Q : VK) (E : XK) (p : Addr × Obj) (cls : Value) (d : Option Addr), L2H.Hot1 A p → L2N.Zn cls d p.2 → sp p.1 cls d vs H Q E →
      ∃ t, PSs (L2H.cxH L2.CX0 P w K mg base N qual (defScope st) f cdv A outer s H E p).nox (defBody st) t ∧ t { nx := fun _ H' => Q .non H', rt := Q } (L2.start N vs) H) : FnP P w K mg base (k + 1) f fd ps sp := by
  obtain ⟨oc, od, kV, doc, pm, an, cdv, ct, osl, rfl, lk, hcd⟩ := F.ex
  refine ⟨len, fun A outer s H args us vs Q E p cls d hr hot hz hpin e0 hb r hsp => ?_⟩
  have hl := len _ _ _ _ _ _ _ hsp
  have KX : K.In s.heap := e0.mod.kin.keeps fun b o e => (e0.bs b o e).1
  have lim : s.heap.NoLimit := e0.mod.nolimit.keeps fun b o e => (e0.bs b o e).1
  have kinds : ∀ y ∈ ps.zip us, (defScope st).names.lookup y.1 = some .local ∨ ((defScope st).names.lookup y.1 = some .cell ∧ ((cellsFrom (s.heap.objs.size + 1) (defScope st).names []).lookup y.1).isSome = true) := fun y hy =>
    (S.par y.1 (List.of_mem_zip (a := y.1) (b := y.2) hy).1).elim .inl fun q => .inr ⟨q, PySem.W.cellsFrom_some _ _ _ (.inl q)⟩
  refine codeAny_call_function hr.depth (KX _ _ lk) rfl S.co S.gen rfl (PySem.W.codeRec_of KX hcd) (hb _ _ _ _ ?_)
  refine wpAny_newFunctionEnv_cells S.kind kinds fun env he s1 z => ?_
  subst he
  refine ⟨lim.keeps z.toInCall.keep, codeAny_func ?_⟩
  obtain ⟨t, ht, hq⟩ := body cdv A outer s H vs Q E p cls d hot hz hsp
  have I := L2H.inv_startH (CX := L2.CX0) (E := E) (qual := qual) (f := f) (cd := cdv) S hpin e0 hl r z
  refine wpAny_mono (ht.nox.run [] s1 (L2.start N vs) H _ I hq) (fun fl s' hs => ?_) fun e s' hs => hs
  cases fl with
  | ret u =>
    obtain ⟨v, σ', H', J, rv, q⟩ := hs
    exact ⟨v, H', J.os, J.bare, J.base, J.hok, rv, q⟩
  | next =>
    obtain ⟨σ', H', J, q⟩ := hs
    exact ⟨V.non, H', J.os, J.bare, J.base, J.hok, rfl, q⟩
  | brk => obtain ⟨_, _, _, q⟩ := hs; exact q.elim
  | cont => obtain ⟨_, _, _, q⟩ := hs; exact q.elim
structure CcP (P : Program) (w : World) (K : PySem.W.Frag) (mg : Str → Option Value) (base : Heap) (k : Nat) (x : Str) (sp : Addr → Value → Option Addr → Sp) : Prop where
  ex : ∃ (f : Addr) (fd : FuncData) (ps : List Str), FnP P w K mg base k f fd ps sp ∧ mg x = some (.ref f) ∧ PySem.W.keepIn K (.ref f) = true ∧ Binds K fd ps []
theorem CcP.mk' {x : Str} {st : Stmt} {N ps : List Str} {k : Nat} {sp : Addr → Value → Option Addr → Sp} (D : Df K mg x st ps) (S : FnScope N ps (defScope st)) (len : ∀ a cls d vs H Q E, sp a cls d vs H Q E → vs.length = ps.length)
    (body : ∀ (f : Addr) (cdv : Value) (A : Around) (outer : List Env) (s : Shared) (H : Hp) (vs : List V) (Q : VK) (E : XK) (p : Addr × Obj) (cls : Value) (d : Option Addr), L2H.Hot1 A p → L2N.Zn cls d p.2 → sp p.1 cls d vs H Q E →
      ∃ t, PSs (L2H.cxH L2.CX0 P w K mg base N x (defScope st) f cdv A outer s H E p).nox (defBody st) t ∧ t { nx := fun _ H' => Q .non H', rt := Q } (L2.start N vs) H) : CcP P w K mg base (k + 1) x sp := by
  obtain ⟨f, fd, h1, F, b⟩ := D.ex
  exact ⟨f, fd, ps, fnP_of F S len (body f), h1, F.kp, b⟩
end
section
variable {X : Cx} {k : Nat} {x : Str} {sp : Addr → Value → Option Addr → Sp} {a : Addr} {oe : Obj} {cls : Value} {d : Option Addr} {pn : List (Addr × Obj)} {p pos : Pos} {e : Expr} {es : List Expr} {t : TA}
/-- such a call, within the suite -/
theorem pe_callP (c : CcP X.prog X.w X.K X.mg X.base k x sp) (hr : Room k X.A) (hz : L2N.Zn cls d oe) (hf : ∃ vs, oe.data = .fields vs) (hg : Gl (X.suite a ((a, oe) :: pn)) x) (ha : PA (X.suite a ((a, oe) :: pn)) (e :: es) t)
    (hdb : (x == ("__debug__" : Str)) = false := by decide) (he : starEach (e :: es) X.env = (false, eval e X.env) :: starEach es X.env := by rfl) (hpl : (backTo pos (starEach es X.env)).any (·.1) = false := by rfl) :
    PE (X.suite a ((a, oe) :: pn)) (.Call (.Name x p) (e :: es) [] pos) (tCall (sp a cls d) [] L2.E0 t) := by
  obtain ⟨f, fd, ps, F, hm, kp, b⟩ := c.ex
  obtain ⟨vs0, hv0⟩ := hf
  refine ⟨fun pins s σ H Q I h => ?_⟩
  refine wpAny_Call_Name_kw (ld_glob I hg hm ?_ hdb)
  refine PySem.W.callWith_K (h₀ := X.base) I.ok.mod.kin kp (thn (ha.run pos pins s σ H _ I h) fun us s1 ⟨vs, H1, I1, r, q⟩ => ⟨I1.kIn, ?_⟩) he hpl
  have q : sp a cls d (vs ++ []) H1 Q L2.E0 := q
  rw [List.append_nil] at q
  have hl : us.length = ps.length := by rw [← r.length]; exact F.len _ _ _ _ _ _ _ q
  have bd := b s1 us I1.kIn (by rw [List.append_nil]; exact hl)
  rw [List.append_nil] at bd
  have P1 := I1.pin (a, oe) (List.mem_append_left _ List.mem_cons_self)
  have hpin : L2H.PinOk X.stack H1 s1 (a, oe) := ⟨P1.1, P1.2.1, fun hm => (List.mem_cons.mp (I1.stkSub a hm)).elim P1.2.2.1 P1.2.2.2.1, P1.2.2.2.2⟩
  have hot : L2H.Hot1 (X.suite a ((a, oe) :: pn)).A (a, oe) := ⟨rfl, vs0, hv0, hz.2.2 vs0 hv0⟩
  refine wpAny_call (codeAny_mono (F.run _ X.stack s1 H1 ⟨us, []⟩ us vs Q L2.E0 (a, oe) cls d ⟨hr.dp, hr.un⟩ hot hz hpin I1.env0 bd r q) fun r s' hq => ?_)
  cases r with
  | error e => exact False.elim hq
  | ok fl =>
    cases fl with
    | ret u => exact I1.after hq
    | next => exact False.elim hq
    | brk => exact False.elim hq
    | cont => exact False.elim hq
end
end Bo

namespace Bo
open PySem PySem.Spec PyProof.Rows L2
/-! kinds of values, what is no row -/
theorem tyX_same {K : PySem.W.Frag} {H H' : Hp} {x : V} {t : Value} (s : Same H H') (h : TyX K H x t) : TyX K H' x t := by
  cases h with
  | base b =>
    refine .base ?_
    cases b with
    | non => exact .non
    | bl b => exact .bl b
    | int i => exact .int i
    | str y => exact .str y
    | flt y => exact .flt y
    | lst e => exact .lst (s _ _ e)
    | frz e => exact .frz (s _ _ e)
    | tup e => exact .tup (s _ _ e)
    | dK e => exact .dK (s _ _ e)
    | dT e => exact .dT (s _ _ e)
    | ins e cl ha hn ht hm => exact .ins (s _ _ e) cl ha hn ht hm
  | byt b => exact .byt b
  | set e => exact .set (s _ _ e)
  | kList e c => exact .kList e c
  | kTuple e c => exact .kTuple e c
  | kDict e c => exact .kDict e c
  | fTuple e => exact .fTuple (s _ _ e)
  | fDict e => exact .fDict (s _ _ e)
/-- of some built-in kind -/
def Kd (K : PySem.W.Frag) (H : Hp) (x : V) : Prop := ∃ t, TyX K H x (.type t)
theorem Kd.same {K : PySem.W.Frag} {H H' : Hp} {x : V} (s : Same H H') (h : Kd K H x) : Kd K H' x := h.elim fun t ht => ⟨t, tyX_same s ht⟩
theorem Kd.int {K : PySem.W.Frag} {H : Hp} (i : Int) : Kd K H (.int i) := ⟨"int", .base (.int i)⟩
theorem Kd.bl {K : PySem.W.Frag} {H : Hp} (i : Bool) : Kd K H (.bl i) := ⟨"bool", .base (.bl i)⟩
theorem Kd.str {K : PySem.W.Frag} {H : Hp} (i : Str) : Kd K H (.str i) := ⟨"str", .base (.str i)⟩
theorem Kd.non {K : PySem.W.Frag} {H : Hp} : Kd K H .non := ⟨"NoneType", .base .non⟩
theorem Kd.lst {K : PySem.W.Frag} {H : Hp} {a : Addr} {xs : List V} (h : H a = some (.lst xs)) : Kd K H (.ref a) := ⟨"list", .base (.lst h)⟩
theorem Kd.tup {K : PySem.W.Frag} {H : Hp} {a : Addr} {xs : List V} (h : H a = some (.tup xs)) : Kd K H (.ref a) := ⟨"tuple", .base (.tup h)⟩
/-- no list -/
def NoL (K : PySem.W.Frag) (H : Hp) (x : V) : Prop := ∃ t, TyX K H x (.type t) ∧ kitB t "list" = some false
theorem NoL.same {K : PySem.W.Frag} {H H' : Hp} {x : V} (s : Same H H') (h : NoL K H x) : NoL K H' x := h.elim fun t ht => ⟨t, tyX_same s ht.1, ht.2⟩
theorem NoL.int {K : PySem.W.Frag} {H : Hp} (i : Int) : NoL K H (.int i) := ⟨"int", .base (.int i), by decide +kernel⟩
theorem NoL.str {K : PySem.W.Frag} {H : Hp} (i : Str) : NoL K H (.str i) := ⟨"str", .base (.str i), by decide +kernel⟩
theorem NoL.non {K : PySem.W.Frag} {H : Hp} : NoL K H .non := ⟨"NoneType", .base .non, by decide +kernel⟩
theorem NoL.tup {K : PySem.W.Frag} {H : Hp} {a : Addr} {xs : List V} (h : H a = some (.tup xs)) : NoL K H (.ref a) := ⟨"tuple", .base (.tup h), by decide +kernel⟩
theorem NoL.dic {K : PySem.W.Frag} {H : Hp} {a : Addr} {xs : List (Key × V)} (h : H a = some (.dK xs)) : NoL K H (.ref a) := ⟨"dict", .base (.dK h), by decide +kernel⟩
def allNum (vs : List V) (hi : Int) : Bool := (vs.map fun v => isNum v 0 hi).all id
theorem allNum_int {vs : List V} {hi : Int} (h : allNum vs hi = true) : ∃ ns : List Int, vs = ns.map V.int := by
  unfold allNum at h
  rw [List.all_map, List.all_eq_true] at h
  induction vs with
  | nil => exact ⟨[], rfl⟩
  | cons v r ih =>
    obtain ⟨ns, e⟩ := ih fun x hx => h x (List.mem_cons_of_mem _ hx)
    have hv : isNum v 0 hi = true := h v (by simp)
    cases v with
    | int i => exact ⟨i :: ns, by rw [e]; rfl⟩
    | _ => simp [isNum] at hv
/-- what is no row -/
def BadV (K : PySem.W.Frag) (H : Hp) (x : V) : Prop := NoL K H x ∨ ∃ (l : Addr) (vs : List V), x = .ref l ∧ SqL K H l vs ∧ vs.length ≤ 1000 ∧ (∀ v ∈ vs, Kd K H v) ∧
  (allNum vs ((vs.length : Int) - 1) = false ∨ ∃ ns : List Int, vs = ns.map V.int ∧ ¬ ns.Nodup)
theorem BadV.same {K : PySem.W.Frag} {H H' : Hp} {x : V} (s : Same H H') (h : BadV K H x) : BadV K H' x := by
  rcases h with h | ⟨l, vs, e, h1, h2, h3, h4⟩
  · exact .inl (h.same s)
  · exact .inr ⟨l, vs, e, s.seq h1, h2, fun v hv => (h3 v hv).same s, h4⟩
/-- isinstance(x, list) of a list -/
theorem c_isiSq {K : PySem.W.Frag} {H : Hp} {Q : VK} {p : Addr} {xs : List V} (h : SqL K H p xs) (q : Q (.bl true) H) : rIsi K [.ref p, .ty "list"] H Q := c_isiL h (show kitB "list" "list" = some true by decide +kernel) q
/-! ### steps of a reading: each a row of its own -/
local macro_rules | `(tactic| walk_at "ne") => `(tactic| first
  | assumption
  | (apply Ne.symm; assumption)
  | (apply neo; assumption; walk_at "hp")
  | (apply Ne.symm; apply neo; assumption; walk_at "hp"))
local macro_rules | `(tactic| walk_at "hp") => `(tactic| first
  | assumption
  | exact upd_same
  | (apply lift_ne; walk_at "hp"; walk_at "ne")
  | (apply Same.up; assumption; walk_at "hp"))
local macro_rules | `(tactic| walk_at "same") => `(tactic| first
  | assumption
  | exact Same.refl _
  | (apply Same.new; walk_at "same"; walk_at "fr")
  | (apply same_trans; assumption; walk_at "same"))
local macro_rules | `(tactic| walk_at "fr") => `(tactic| first
  | assumption
  | (apply same_free; assumption; walk_at "same"))
local macro_rules | `(tactic| walk_at "sq") => `(tactic| first
  | assumption
  | (apply SqL.of; walk_at "hp")
  | (apply same_seq; assumption; walk_at "same"))
local macro_rules | `(tactic| walk_at "sqt") => `(tactic| first
  | assumption
  | (apply SqT.of; walk_at "hp")
  | (apply same_sqt; assumption; walk_at "same"))
local macro_rules | `(tactic| walk_at "nw") => `(tactic| first
  | assumption
  | (apply News.mut; walk_at "nw"; (first | assumption | (refine News.notin (by assumption) ?_; assumption)))
  | (apply News.same; walk_at "nw"; walk_at "same"))
/-! one step -/
local macro_rules | `(tactic| walk_at "go1") => `(tactic| first
  | with_reducible refine r_seq ?_
  | with_reducible refine r_asgN ?_
  | with_reducible refine r_set ?_
  | with_reducible refine r_ret ?_
  | with_reducible refine r_drop ?_
  | with_reducible refine r_if ?_
  | with_reducible refine r_next ?_
  | ((with_reducible apply r_nxD); with_reducible refine r_nx ?_)
  | ((with_reducible apply r_rtD); with_reducible refine r_rt ?_)
  | with_reducible refine r_par ?_
  | with_reducible refine k_par ?_
  | with_reducible refine r_fld ?_
  | ((with_reducible apply r_aug); exact rfl)
  | with_reducible refine i_ip ?_
  | ((with_reducible apply e_var); exact rfl)
  | with_reducible refine e_c ?_
  | with_reducible refine e_op ?_
  | with_reducible refine e_un ?_
  | with_reducible refine o_I0 ?_
  | with_reducible refine o_neg ?_
  | with_reducible refine o_eqI ?_
  | with_reducible refine o_neI ?_
  | with_reducible refine o_eqB ?_
  | with_reducible refine o_neB ?_
  | with_reducible refine o_eqS ?_
  | with_reducible refine o_neS ?_
  | with_reducible refine a_nil ?_
  | with_reducible refine a_cons ?_
  | with_reducible refine e_cb ?_
  | with_reducible refine e_call ?_
  | with_reducible refine e_make ?_
  | with_reducible refine e_meth ?_
  | with_reducible refine e_fld ?_
  | with_reducible refine e_lst ?_
  | with_reducible refine e_tup ?_
  | with_reducible refine e_bm ?_
  | with_reducible refine e_bm0 ?_
  | with_reducible refine e_rev ?_
  | with_reducible refine e_sl ?_
  | with_reducible refine e_nopart ?_
  | with_reducible refine e_part ?_
  | with_reducible refine i_ok ?_
  | with_reducible refine e_lenset ?_
  | with_reducible refine e_listRg1 ?_
  | with_reducible refine t_test ?_
  | with_reducible refine t_B ?_
  | with_reducible refine b_ok ?_
  | with_reducible refine t_and ?_
  | with_reducible refine t_or ?_
  | with_reducible refine t_not ?_
  | with_reducible refine v_and ?_
  | with_reducible refine v_or ?_
  | with_reducible refine v_not ?_
  | with_reducible refine e_if ?_
  | with_reducible refine e_chain ?_
  | with_reducible refine e_chain3 ?_
  | with_reducible refine iteT ?_
  | with_reducible refine iteF ?_
  | with_reducible refine ite_nT ?_
  | with_reducible refine ite_nF ?_
  | with_reducible refine r_forL ?_
  | with_reducible refine r_forT ?_
  | with_reducible refine r_forE ?_
  | with_reducible refine r_forR1 ?_
  | with_reducible refine r_forR2 ?_
  | with_reducible refine e_lcL ?_
  | with_reducible refine e_lcR1 ?_
  | with_reducible refine e_lcR2 ?_
  | with_reducible refine r_dput ?_
  | with_reducible refine e_dget ?_
  | with_reducible refine e_dnin ?_
  | with_reducible refine c_max2 ?_
  | with_reducible refine c_min2 ?_
  | ((with_reducible apply c_isiI); (first | exact (show kitB "int" _ = some true by decide +kernel) | exact (show kitB "int" _ = some false by decide +kernel)))
  | ((with_reducible apply m_ty); walk_at "sq"))
local macro_rules | `(tactic| walk_at "go2") => `(tactic| first
  | ((with_reducible apply o_ixI); walk_at "sq"; omega)
  | ((with_reducible refine o_mod ?_ ?_); omega)
  | ((with_reducible refine o_fdiv ?_ ?_); omega)
  | ((with_reducible refine o_mulR ?_ ?_); omega)
  | ((with_reducible refine o_mulL ?_ ?_); omega)
  | ((with_reducible apply c_lenM); walk_at "sq")
  | ((with_reducible apply c_all); walk_at "sq")
  | ((with_reducible apply c_any); walk_at "sq")
  | ((with_reducible apply o_in); walk_at "sq")
  | ((with_reducible apply o_nin); walk_at "sq")
  | ((with_reducible apply o_ixB); walk_at "sq"; omega)
  | ((with_reducible apply m_setB); walk_at "hp"; omega)
  | ((with_reducible apply m_appR); walk_at "hp"; omega)
  | ((with_reducible apply m_ins); walk_at "hp"; omega; omega)
  | ((with_reducible apply m_appM); walk_at "hp"; exact rfl; omega)
  | ((with_reducible apply m_setI); walk_at "hp"; omega))
local macro_rules | `(tactic| walk_at "d") => `(tactic| try dsimp only)
local macro_rules | `(tactic| walk_at "k") => `(tactic| try dsimp only [cxOf, Cx.nox, Cx.blk])
local macro_rules | `(tactic| walk_at "go") => `(tactic| repeat (first | walk_at "go1" | walk_at "go2"))

section
variable {P : Program} {w : World} {K : PySem.W.Frag} {mg : Str → Option Value} {base : Heap} {C_Exchanged C_Fronted C_Ended C_Put C_Answer C_OrderError C_BadRow C_BadNumber C_BadRings C_Unlike C_BadText : Addr} (T : Top K mg C_Exchanged C_Fronted C_Ended C_Put C_Answer C_OrderError C_BadRow C_BadNumber C_BadRings C_Unlike C_BadText)
include T
def preRow (K : PySem.W.Frag) (C : Addr) : List V → Hp → Addr → Prop := fun vs H D => D = C ∧ ∃ x, vs = [x] ∧ BadV K H x
theorem okX_check_row : CqN P w K mg base 2 "check_row" (spR (preRow K C_BadRow)) := by
  have c_is_number := ok_is_number (P := P) (w := w) (base := base) T
  obtain ⟨tM, g_MOST⟩ := T.g_MOST
  refine Cq.mkN T.d_check_row sc_check_row ?_ ?_
  · rintro vs H Q E ⟨D, ⟨rfl, x, rfl, _⟩, _⟩; rfl
  · rintro f cdv A outer s H vs Q E hr tk ⟨D, ⟨rfl, x, rfl, bad⟩, q⟩
    refine ⟨_, pss_cons (ps_if (PW.pt (pw_or (pt_not (pt_val (pe_callB (r := rIsi K) call_isi (by rfl) T.b_isinstance PyProof.Rows.boot_isinstance (pa_cons (pv 0) (pa_cons (pe_bltn (v := .ty "list") (by rfl) T.b_list PyProof.Rows.boot_list rfl) pa_nil))))) (pw_or (pt_cmpR op_gt (pe_callB (r := rLen2 K) call_len_seq (by rfl) T.b_len PySem.boot_len (pa_cons (pv 0) pa_nil)) (pe_glob (v := .int 1000000) (by rfl) g_MOST ⟨_, rfl⟩) (nomark _)) (pw_or1 (pt_not (pt_val (pe_callB (r := rAll K) (cr_all rfl) (by rfl) T.b_all PyProof.Rows.boot_all (pa_cons (pe_lc (own := [("thing", 1)]) (g := gName 1) (tt := tYes) rfl sc_check_row.nd (pi_list (pv 0)) (blkOk_by (own := [("thing", 1)]) (N := N_check_row) (sc := defScope s_check_row) (by decide +kernel)) (fun _ _ _ _ _ => (pg_name (i := 1) sc_check_row.nd rfl (Or.inl rfl))) (fun _ _ _ _ _ => pts_nil) (fun _ _ _ _ _ => (pe_cc c_is_number (hr.mono (by decide)) (by rfl) (pa_cons (pv 1) (pa_cons pe_int (pa_cons (pe_op op_sub (pe_callB (r := rLen2 K) call_len_seq (by rfl) T.b_len PySem.boot_len (pa_cons (pv 0) pa_nil)) pe_int) pa_nil)))))) pa_nil)))))))) (pss_one (L2N.ps_raise rfl tk (L2N.pmk_own PySem.F.excBase_ValueError T.x_BadRow T.c_BadRow T.k_BadRow (raises_own T.sb_BadRow T.st_BadRow) rfl))) pss_nil) (pss_one (ps_if (pt_cmpR op_ne (pe_lenSetG (by rfl) T.b_len (by rfl) T.b_set (pv 0)) (pe_callB (r := rLen2 K) call_len_seq (by rfl) T.b_len PySem.boot_len (pa_cons (pv 0) pa_nil)) (nomark _)) (pss_one (L2N.ps_raise rfl tk (L2N.pmk_own PySem.F.excBase_ValueError T.x_BadRow T.c_BadRow T.k_BadRow (raises_own T.sb_BadRow T.st_BadRow) rfl))) pss_nil)), ?_⟩
    walk_at "k"
    walk_at "go"
    rcases bad with ⟨t, ty, kl⟩ | ⟨l, vs, rfl, hS, hl, hT, bad⟩
    · refine c_isi ty kl ?_
      walk_at "go"
      exact q H (Same.refl _)
    · have hS' : SqL K H l (vs.map id) := by rw [List.map_id]; exact hS
      refine c_isiSq hS ?_
      walk_at "go"
      refine ite_decN (by omega) ?_
      walk_at "go"
      refine k_lcV (xs := vs) (f := id) (h := V.bl) (fun x => isNum x 0 ((vs.length : Int) - 1)) hS' (by omega) (fun _ => rfl) ?_ ?_
      · intro i x H2 R' hx s2 k2
        have hS2 := s2.seq hS'
        walk_at "go"
        obtain ⟨t, ty⟩ := (hT x (List.mem_of_getElem? hx)).same s2
        exact ⟨x, 0, _, t, rfl, ty, k2 H2 (Same.refl _)⟩
      · intro D H2 nD s2 hD
        walk_at "go"
        show if (!allNum vs ((vs.length : Int) - 1)) = true then _ else _
        cases hb : allNum vs ((vs.length : Int) - 1) with
        | false =>
          refine ite_nF ?_
          exact q H2 s2
        | true =>
          refine ite_nT ?_
          obtain ⟨ns, e, nd⟩ : ∃ ns : List Int, vs = ns.map V.int ∧ ¬ ns.Nodup := by
            rcases bad with b | b
            · rw [hb] at b; cases b
            · exact b
          have ln : vs.length = ns.length := by rw [e, List.length_map]
          have hS2 : SqL K H2 l (ns.map V.int) := by rw [← e]; exact s2.seq hS
          walk_at "go"
          refine c_lenset hS2 (by omega) ?_
          walk_at "go"
          refine ite_ndecY (fun z => nd ((nodup_len_eq ns).mp (by omega))) ?_
          exact q H2 s2

theorem okX_back : CqN P w K mg base 3 "back" (spR (preRow K C_BadRow)) := by
  have x_check_row := okX_check_row (P := P) (w := w) (base := base) T
  refine Cq.mkN T.d_back sc_back ?_ ?_
  · rintro vs H Q E ⟨D, ⟨rfl, x, rfl, _⟩, _⟩; rfl
  · rintro f cdv A outer s H vs Q E hr tk ⟨D, ⟨rfl, x, rfl, bad⟩, q⟩
    refine ⟨_, pss_cons (ps_expr (Bo.pe_cqS x_check_row (hr.mono (by decide)) (by rfl) (fun σ => L2N.passAt tk σ) (pa_cons (pv 0) pa_nil))) pss_never, ?_⟩
    walk_at "k"
    walk_at "go"
    refine e_callS ?_
    walk_at "go"
    exact ⟨_, ⟨rfl, x, rfl, bad⟩, q⟩

theorem okX_wrong : CqN P w K mg base 3 "wrong" (spR (preRow K C_BadRow)) := by
  have x_check_row := okX_check_row (P := P) (w := w) (base := base) T
  refine Cq.mkN T.d_wrong sc_wrong ?_ ?_
  · rintro vs H Q E ⟨D, ⟨rfl, x, rfl, _⟩, _⟩; rfl
  · rintro f cdv A outer s H vs Q E hr tk ⟨D, ⟨rfl, x, rfl, bad⟩, q⟩
    refine ⟨_, pss_cons (ps_expr (Bo.pe_cqS x_check_row (hr.mono (by decide)) (by rfl) (fun σ => L2N.passAt tk σ) (pa_cons (pv 0) pa_nil))) pss_never, ?_⟩
    walk_at "k"
    walk_at "go"
    refine e_callS ?_
    walk_at "go"
    exact ⟨_, ⟨rfl, x, rfl, bad⟩, q⟩

theorem okX_rings : CqN P w K mg base 3 "rings" (spR (preRow K C_BadRow)) := by
  have x_check_row := okX_check_row (P := P) (w := w) (base := base) T
  refine Cq.mkN T.d_rings sc_rings ?_ ?_
  · rintro vs H Q E ⟨D, ⟨rfl, x, rfl, _⟩, _⟩; rfl
  · rintro f cdv A outer s H vs Q E hr tk ⟨D, ⟨rfl, x, rfl, bad⟩, q⟩
    refine ⟨_, pss_cons (ps_expr (Bo.pe_cqS x_check_row (hr.mono (by decide)) (by rfl) (fun σ => L2N.passAt tk σ) (pa_cons (pv 0) pa_nil))) pss_never, ?_⟩
    walk_at "k"
    walk_at "go"
    refine e_callS ?_
    walk_at "go"
    exact ⟨_, ⟨rfl, x, rfl, bad⟩, q⟩

theorem okX_turns : CqN P w K mg base 3 "turns" (spR (preRow K C_BadRow)) := by
  have x_check_row := okX_check_row (P := P) (w := w) (base := base) T
  refine Cq.mkN T.d_turns sc_turns ?_ ?_
  · rintro vs H Q E ⟨D, ⟨rfl, x, rfl, _⟩, _⟩; rfl
  · rintro f cdv A outer s H vs Q E hr tk ⟨D, ⟨rfl, x, rfl, bad⟩, q⟩
    refine ⟨_, pss_cons (ps_expr (Bo.pe_cqS x_check_row (hr.mono (by decide)) (by rfl) (fun σ => L2N.passAt tk σ) (pa_cons (pv 0) pa_nil))) pss_never, ?_⟩
    walk_at "k"
    walk_at "go"
    refine e_callS ?_
    walk_at "go"
    exact ⟨_, ⟨rfl, x, rfl, bad⟩, q⟩

theorem okX_written : CqN P w K mg base 3 "written" (spR (preRow K C_BadRow)) := by
  have x_check_row := okX_check_row (P := P) (w := w) (base := base) T
  refine Cq.mkN T.d_written sc_written ?_ ?_
  · rintro vs H Q E ⟨D, ⟨rfl, x, rfl, _⟩, _⟩; rfl
  · rintro f cdv A outer s H vs Q E hr tk ⟨D, ⟨rfl, x, rfl, bad⟩, q⟩
    refine ⟨_, pss_cons (ps_expr (Bo.pe_cqS x_check_row (hr.mono (by decide)) (by rfl) (fun σ => L2N.passAt tk σ) (pa_cons (pv 0) pa_nil))) pss_never, ?_⟩
    walk_at "k"
    walk_at "go"
    refine e_callS ?_
    walk_at "go"
    exact ⟨_, ⟨rfl, x, rfl, bad⟩, q⟩

theorem okX_exchanged : CqN P w K mg base 3 "exchanged" (spR (preRow K C_BadRow)) := by
  have x_check_row := okX_check_row (P := P) (w := w) (base := base) T
  refine Cq.mkN T.d_exchanged sc_exchanged ?_ ?_
  · rintro vs H Q E ⟨D, ⟨rfl, x, rfl, _⟩, _⟩; rfl
  · rintro f cdv A outer s H vs Q E hr tk ⟨D, ⟨rfl, x, rfl, bad⟩, q⟩
    refine ⟨_, pss_cons (ps_expr (Bo.pe_cqS x_check_row (hr.mono (by decide)) (by rfl) (fun σ => L2N.passAt tk σ) (pa_cons (pv 0) pa_nil))) pss_never, ?_⟩
    walk_at "k"
    walk_at "go"
    refine e_callS ?_
    walk_at "go"
    exact ⟨_, ⟨rfl, x, rfl, bad⟩, q⟩

theorem okX_fronted : CqN P w K mg base 3 "fronted" (spR (preRow K C_BadRow)) := by
  have x_check_row := okX_check_row (P := P) (w := w) (base := base) T
  refine Cq.mkN T.d_fronted sc_fronted ?_ ?_
  · rintro vs H Q E ⟨D, ⟨rfl, x, rfl, _⟩, _⟩; rfl
  · rintro f cdv A outer s H vs Q E hr tk ⟨D, ⟨rfl, x, rfl, bad⟩, q⟩
    refine ⟨_, pss_cons (ps_expr (Bo.pe_cqS x_check_row (hr.mono (by decide)) (by rfl) (fun σ => L2N.passAt tk σ) (pa_cons (pv 0) pa_nil))) pss_never, ?_⟩
    walk_at "k"
    walk_at "go"
    refine e_callS ?_
    walk_at "go"
    exact ⟨_, ⟨rfl, x, rfl, bad⟩, q⟩

theorem okX_ended : CqN P w K mg base 3 "ended" (spR (preRow K C_BadRow)) := by
  have x_check_row := okX_check_row (P := P) (w := w) (base := base) T
  refine Cq.mkN T.d_ended sc_ended ?_ ?_
  · rintro vs H Q E ⟨D, ⟨rfl, x, rfl, _⟩, _⟩; rfl
  · rintro f cdv A outer s H vs Q E hr tk ⟨D, ⟨rfl, x, rfl, bad⟩, q⟩
    refine ⟨_, pss_cons (ps_expr (Bo.pe_cqS x_check_row (hr.mono (by decide)) (by rfl) (fun σ => L2N.passAt tk σ) (pa_cons (pv 0) pa_nil))) pss_never, ?_⟩
    walk_at "k"
    walk_at "go"
    refine e_callS ?_
    walk_at "go"
    exact ⟨_, ⟨rfl, x, rfl, bad⟩, q⟩

theorem okX_put : CqN P w K mg base 3 "put" (spR (preRow K C_BadRow)) := by
  have x_check_row := okX_check_row (P := P) (w := w) (base := base) T
  refine Cq.mkN T.d_put sc_put ?_ ?_
  · rintro vs H Q E ⟨D, ⟨rfl, x, rfl, _⟩, _⟩; rfl
  · rintro f cdv A outer s H vs Q E hr tk ⟨D, ⟨rfl, x, rfl, bad⟩, q⟩
    refine ⟨_, pss_cons (ps_expr (Bo.pe_cqS x_check_row (hr.mono (by decide)) (by rfl) (fun σ => L2N.passAt tk σ) (pa_cons (pv 0) pa_nil))) pss_never, ?_⟩
    walk_at "k"
    walk_at "go"
    refine e_callS ?_
    walk_at "go"
    exact ⟨_, ⟨rfl, x, rfl, bad⟩, q⟩

/-- a row and a thing, or two rows -/
def preBehind (K : PySem.W.Frag) (C U : Addr) : List V → Hp → Addr → Prop := fun vs H D => ∃ x y, vs = [x, y] ∧ ((D = C ∧ BadV K H x) ∨ (D = C ∧ (∃ a ns, x = .ref a ∧ SqL K H a (ns.map V.int) ∧ IsRow ns) ∧ BadV K H y) ∨
  (D = U ∧ ∃ a b ns ms, x = .ref a ∧ y = .ref b ∧ SqL K H a (ns.map V.int) ∧ SqL K H b (ms.map V.int) ∧ IsRow ns ∧ IsRow ms ∧ ns.length ≠ ms.length))
theorem okX_behind : CqN P w K mg base 3 "behind" (spR (preBehind K C_BadRow C_Unlike)) := by
  have x_check_row := okX_check_row (P := P) (w := w) (base := base) T
  have c_check_row := ok_check_row (P := P) (w := w) (base := base) T
  refine Cq.mkN T.d_behind sc_behind ?_ ?_
  · rintro vs H Q E ⟨D, ⟨x, y, rfl, _⟩, _⟩; rfl
  · rintro f cdv A outer s H vs Q E hr tk ⟨D, ⟨x, y, rfl, h⟩, q⟩
    rcases h with ⟨rfl, bad⟩ | ⟨rfl, ⟨a, ns, rfl, hS, R⟩, bad⟩ | ⟨rfl, a, b, ns, ms, rfl, rfl, hA, hB, RA, RB, ne⟩
    · refine ⟨_, pss_cons (ps_expr (Bo.pe_cqS x_check_row (hr.mono (by decide)) (by rfl) (fun σ => L2N.passAt tk σ) (pa_cons (pv 0) pa_nil))) pss_never, ?_⟩
      walk_at "k"
      walk_at "go"
      refine e_callS ?_
      walk_at "go"
      exact ⟨_, ⟨rfl, x, rfl, bad⟩, q⟩
    · refine ⟨_, pss_cons (ps_expr (pe_cc c_check_row (hr.mono (by decide)) (by rfl) (pa_cons (pv 0) pa_nil))) (pss_cons (ps_expr (Bo.pe_cqS x_check_row (hr.mono (by decide)) (by rfl) (fun σ => L2N.passAt tk σ) (pa_cons (pv 1) pa_nil))) pss_never), ?_⟩
      walk_at "k"
      walk_at "go"
      refine ⟨a, ns, rfl, hS, R, fun H1 s1 => ?_⟩
      walk_at "go"
      refine e_callS ?_
      walk_at "go"
      exact ⟨_, ⟨rfl, y, rfl, bad.same s1⟩, fun H2 s2 => q H2 (s1.trans s2)⟩
    · refine ⟨_, pss_cons (ps_expr (pe_cc c_check_row (hr.mono (by decide)) (by rfl) (pa_cons (pv 0) pa_nil))) (pss_cons (ps_expr (pe_cc c_check_row (hr.mono (by decide)) (by rfl) (pa_cons (pv 1) pa_nil))) (pss_cons (ps_if (pt_cmpR op_ne (pe_callB (r := rLen2 K) call_len_seq (by rfl) T.b_len PySem.boot_len (pa_cons (pv 0) pa_nil)) (pe_callB (r := rLen2 K) call_len_seq (by rfl) T.b_len PySem.boot_len (pa_cons (pv 1) pa_nil)) (nomark _)) (pss_one (L2N.ps_raise rfl tk (L2N.pmk_own PySem.F.excBase_ValueError T.x_Unlike T.c_Unlike T.k_Unlike (raises_own T.sb_Unlike T.st_Unlike) rfl))) pss_nil) pss_never)), ?_⟩
      walk_at "k"
      walk_at "go"
      refine ⟨a, ns, rfl, hA, RA, fun H1 s1 => ?_⟩
      walk_at "go"
      refine ⟨b, ms, rfl, s1.seq hB, RB, fun H2 s2 => ?_⟩
      have s02 := s1.trans s2
      have hA2 := s02.seq hA
      have hB2 := s02.seq hB
      walk_at "go"
      refine ite_ndecY (by omega) ?_
      exact q H2 s02
/-- a row, a number -/
def preTimes (K : PySem.W.Frag) (C U : Addr) : List V → Hp → Addr → Prop := fun vs H D => ∃ x y, vs = [x, y] ∧ ((D = C ∧ BadV K H x) ∨ (D = U ∧ (∃ a ns, x = .ref a ∧ SqL K H a (ns.map V.int) ∧ IsRow ns) ∧ Kd K H y ∧ (∀ i, y ≠ .int i)))
theorem okX_times : CqN P w K mg base 3 "times" (spR (preTimes K C_BadRow C_BadNumber)) := by
  have x_check_row := okX_check_row (P := P) (w := w) (base := base) T
  have c_check_row := ok_check_row (P := P) (w := w) (base := base) T
  refine Cq.mkN T.d_times sc_times ?_ ?_
  · rintro vs H Q E ⟨D, ⟨x, y, rfl, _⟩, _⟩; rfl
  · rintro f cdv A outer s H vs Q E hr tk ⟨D, ⟨x, y, rfl, h⟩, q⟩
    rcases h with ⟨rfl, bad⟩ | ⟨rfl, ⟨a, ns, rfl, hS, R⟩, ky, ny⟩
    · refine ⟨_, pss_cons (ps_expr (Bo.pe_cqS x_check_row (hr.mono (by decide)) (by rfl) (fun σ => L2N.passAt tk σ) (pa_cons (pv 0) pa_nil))) pss_never, ?_⟩
      walk_at "k"
      walk_at "go"
      refine e_callS ?_
      walk_at "go"
      exact ⟨_, ⟨rfl, x, rfl, bad⟩, q⟩
    · refine ⟨_, pss_cons (ps_expr (pe_cc c_check_row (hr.mono (by decide)) (by rfl) (pa_cons (pv 0) pa_nil))) (pss_cons (ps_if (PW.pt (pw_or (pt_not (pt_val (pe_callB (r := rIsi K) call_isi (by rfl) T.b_isinstance PyProof.Rows.boot_isinstance (pa_cons (pv 1) (pa_cons (pe_bltn (v := .ty "int") (by rfl) T.b_int PyProof.Rows.boot_int rfl) pa_nil))))) (pw_or1 (pt_val (pe_callB (r := rIsi K) call_isi (by rfl) T.b_isinstance PyProof.Rows.boot_isinstance (pa_cons (pv 1) (pa_cons (pe_bltn (v := .ty "bool") (by rfl) T.b_bool PyProof.Rows.boot_bool rfl) pa_nil))))))) (pss_one (L2N.ps_raise rfl tk (L2N.pmk_own PySem.F.excBase_ValueError T.x_BadNumber T.c_BadNumber T.k_BadNumber (raises_own T.sb_BadNumber T.st_BadNumber) rfl))) pss_nil) pss_never), ?_⟩
      walk_at "k"
      walk_at "go"
      refine ⟨a, ns, rfl, hS, R, fun H1 s1 => ?_⟩
      obtain ⟨t, ty⟩ := ky.same s1
      walk_at "go"
      refine c_isi ty (kit_int ty) ?_
      walk_at "go"
      cases h1 : isIntV y with
      | false =>
        refine ite_nF ?_
        walk_at "go"
        exact q H1 s1
      | true =>
        refine ite_nT ?_
        walk_at "go"
        refine c_isi ty (kit_bool ty) ?_
        walk_at "go"
        cases h2 : isBlV y with
        | true =>
          refine iteT ?_
          exact q H1 s1
        | false =>
          exfalso
          cases y <;> simp [isIntV, isBlV] at h1 h2
          exact ny _ rfl
end
end Bo

namespace Bo
open PySem PySem.Spec PyProof.Rows L2
/-! ### steps of a reading: each a row of its own -/
local macro_rules | `(tactic| walk_at "ne") => `(tactic| first
  | assumption
  | (apply Ne.symm; assumption)
  | (apply neo; assumption; walk_at "hp")
  | (apply Ne.symm; apply neo; assumption; walk_at "hp"))
local macro_rules | `(tactic| walk_at "hp") => `(tactic| first
  | assumption
  | exact upd_same
  | (apply lift_ne; walk_at "hp"; walk_at "ne")
  | (apply Same.up; assumption; walk_at "hp"))
local macro_rules | `(tactic| walk_at "same") => `(tactic| first
  | assumption
  | exact Same.refl _
  | (apply Same.new; walk_at "same"; walk_at "fr")
  | (apply same_trans; assumption; walk_at "same"))
local macro_rules | `(tactic| walk_at "fr") => `(tactic| first
  | assumption
  | (apply same_free; assumption; walk_at "same"))
local macro_rules | `(tactic| walk_at "sq") => `(tactic| first
  | assumption
  | (apply SqL.of; walk_at "hp")
  | (apply same_seq; assumption; walk_at "same"))
local macro_rules | `(tactic| walk_at "sqt") => `(tactic| first
  | assumption
  | (apply SqT.of; walk_at "hp")
  | (apply same_sqt; assumption; walk_at "same"))
local macro_rules | `(tactic| walk_at "nw") => `(tactic| first
  | assumption
  | (apply News.mut; walk_at "nw"; (first | assumption | (refine News.notin (by assumption) ?_; assumption)))
  | (apply News.same; walk_at "nw"; walk_at "same"))
/-! one step -/
local macro_rules | `(tactic| walk_at "go1") => `(tactic| first
  | with_reducible refine r_seq ?_
  | with_reducible refine r_asgN ?_
  | with_reducible refine r_set ?_
  | with_reducible refine r_ret ?_
  | with_reducible refine r_drop ?_
  | with_reducible refine r_if ?_
  | with_reducible refine r_next ?_
  | ((with_reducible apply r_nxD); with_reducible refine r_nx ?_)
  | ((with_reducible apply r_rtD); with_reducible refine r_rt ?_)
  | with_reducible refine r_par ?_
  | with_reducible refine k_par ?_
  | with_reducible refine r_fld ?_
  | ((with_reducible apply r_aug); exact rfl)
  | with_reducible refine i_ip ?_
  | ((with_reducible apply e_var); exact rfl)
  | with_reducible refine e_c ?_
  | with_reducible refine e_op ?_
  | with_reducible refine e_un ?_
  | with_reducible refine o_I0 ?_
  | with_reducible refine o_neg ?_
  | with_reducible refine o_eqI ?_
  | with_reducible refine o_neI ?_
  | with_reducible refine o_eqB ?_
  | with_reducible refine o_neB ?_
  | with_reducible refine o_eqS ?_
  | with_reducible refine o_neS ?_
  | with_reducible refine a_nil ?_
  | with_reducible refine a_cons ?_
  | with_reducible refine e_cb ?_
  | with_reducible refine e_call ?_
  | with_reducible refine e_make ?_
  | with_reducible refine e_meth ?_
  | with_reducible refine e_fld ?_
  | with_reducible refine e_lst ?_
  | with_reducible refine e_tup ?_
  | with_reducible refine e_bm ?_
  | with_reducible refine e_bm0 ?_
  | with_reducible refine e_rev ?_
  | with_reducible refine e_sl ?_
  | with_reducible refine e_nopart ?_
  | with_reducible refine e_part ?_
  | with_reducible refine i_ok ?_
  | with_reducible refine e_lenset ?_
  | with_reducible refine e_listRg1 ?_
  | with_reducible refine t_test ?_
  | with_reducible refine t_B ?_
  | with_reducible refine b_ok ?_
  | with_reducible refine t_and ?_
  | with_reducible refine t_or ?_
  | with_reducible refine t_not ?_
  | with_reducible refine v_and ?_
  | with_reducible refine v_or ?_
  | with_reducible refine v_not ?_
  | with_reducible refine e_if ?_
  | with_reducible refine e_chain ?_
  | with_reducible refine e_chain3 ?_
  | with_reducible refine iteT ?_
  | with_reducible refine iteF ?_
  | with_reducible refine ite_nT ?_
  | with_reducible refine ite_nF ?_
  | with_reducible refine r_forL ?_
  | with_reducible refine r_forT ?_
  | with_reducible refine r_forE ?_
  | with_reducible refine r_forR1 ?_
  | with_reducible refine r_forR2 ?_
  | with_reducible refine e_lcL ?_
  | with_reducible refine e_lcR1 ?_
  | with_reducible refine e_lcR2 ?_
  | with_reducible refine r_dput ?_
  | with_reducible refine e_dget ?_
  | with_reducible refine e_dnin ?_
  | with_reducible refine c_max2 ?_
  | with_reducible refine c_min2 ?_
  | ((with_reducible apply c_isiI); (first | exact (show kitB "int" _ = some true by decide +kernel) | exact (show kitB "int" _ = some false by decide +kernel)))
  | ((with_reducible apply m_ty); walk_at "sq"))
local macro_rules | `(tactic| walk_at "go2") => `(tactic| first
  | ((with_reducible apply o_ixI); walk_at "sq"; omega)
  | ((with_reducible refine o_mod ?_ ?_); omega)
  | ((with_reducible refine o_fdiv ?_ ?_); omega)
  | ((with_reducible refine o_mulR ?_ ?_); omega)
  | ((with_reducible refine o_mulL ?_ ?_); omega)
  | ((with_reducible apply c_lenM); walk_at "sq")
  | ((with_reducible apply c_all); walk_at "sq")
  | ((with_reducible apply c_any); walk_at "sq")
  | ((with_reducible apply o_in); walk_at "sq")
  | ((with_reducible apply o_nin); walk_at "sq")
  | ((with_reducible apply o_ixB); walk_at "sq"; omega)
  | ((with_reducible apply m_setB); walk_at "hp"; omega)
  | ((with_reducible apply m_appR); walk_at "hp"; omega)
  | ((with_reducible apply m_ins); walk_at "hp"; omega; omega)
  | ((with_reducible apply m_appM); walk_at "hp"; exact rfl; omega)
  | ((with_reducible apply m_setI); walk_at "hp"; omega))
local macro_rules | `(tactic| walk_at "d") => `(tactic| try dsimp only)
local macro_rules | `(tactic| walk_at "k") => `(tactic| try dsimp only [cxOf, Cx.nox, Cx.blk])
local macro_rules | `(tactic| walk_at "go") => `(tactic| repeat (first | walk_at "go1" | walk_at "go2"))

section
variable {P : Program} {w : World} {K : PySem.W.Frag} {mg : Str → Option Value} {base : Heap} {C_Exchanged C_Fronted C_Ended C_Put C_Answer C_OrderError C_BadRow C_BadNumber C_BadRings C_Unlike C_BadText : Addr} (T : Top K mg C_Exchanged C_Fronted C_Ended C_Put C_Answer C_OrderError C_BadRow C_BadNumber C_BadRings C_Unlike C_BadText)
include T

def sp_cell_at (K : PySem.W.Frag) : Sp := fun vs H Q _ => ∃ (a : Addr) (ns : List Int) (k : Int), vs = [.ref a, .int k] ∧ SqL K H a (ns.map V.int) ∧ 0 ≤ k ∧ ∀ r, Q (.int r) H
theorem ok__law_cell_at : Cc P w K mg base 1 "_law_cell_at" (sp_cell_at K) := by
  refine Cc.mk' T.d__law_cell_at sc__law_cell_at ?_ ?_
  · rintro vs H Q E ⟨a, ns, k, rfl, _⟩; rfl
  · rintro f cdv A outer s H vs Q E hr ⟨a, ns, k, rfl, hS, h0, q⟩
    refine ⟨_, (pss_cons (ps_if (pt_cmpR op_lt (pv 1) (pe_callB (r := rLen2 K) call_len_seq (by rfl) T.b_len PySem.boot_len (pa_cons (pv 0) pa_nil)) (nomark _)) (pss_one (ps_ret (pe_ix (r := rIxL K) ix_list (pv 0) (pv 1) (fun _ _ => rfl)))) pss_nil)
      (pss_one (ps_ret pe_int))), ?_⟩
    walk_at "k"
    walk_at "go"
    refine ite_dec (fun h => ?_) (fun h => ?_)
    · walk_at "go"
      exact q _
    · walk_at "go"
      exact q _
def sp_draw (K : PySem.W.Frag) : Sp := fun vs H Q _ => ∃ (c k m : Int), vs = [.int c, .int k, .int m] ∧ 0 < m ∧ ∀ r H', 0 ≤ r → r < m → Same H H' → Q (.int r) H'
theorem ok__law_draw : Cc P w K mg base 1 "_law_draw" (sp_draw K) := by
  refine Cc.mk' T.d__law_draw sc__law_draw ?_ ?_
  · rintro vs H Q E ⟨c, k, m, rfl, _⟩; rfl
  · rintro f cdv A outer s H vs Q E hr ⟨c, k, m, rfl, h0, q⟩
    refine ⟨_, (pss_cons (ps_set (i := 3) sc__law_draw.nd rfl (by first | exact Or.inl rfl | exact Or.inr rfl) (pe_tup (pa_cons pe_int (pa_cons pe_int (pa_cons pe_int (pa_cons pe_int (pa_cons pe_int (pa_cons pe_int (pa_cons pe_int (pa_cons pe_int (pa_cons pe_int (pa_cons pe_int (pa_cons pe_int (pa_cons pe_int (pa_cons pe_int (pa_cons pe_int (pa_cons pe_int (pa_cons pe_int pa_nil))))))))))))))))))
      (pss_one (ps_ret (pe_op op_mod (pe_op op_mod (pe_op op_add (pe_op op_mul (pv 0) pe_int) (pe_op op_mul (pv 1) pe_int)) (pe_ix (r := rIxT K) ix_tup (pv 3) (pe_op op_mod (pv 1) pe_int) (fun _ _ => rfl))) (pv 2))))), ?_⟩
    walk_at "k"
    walk_at "go"
    refine ⟨by show 16 ≤ sizeLine; decide, fun p np => ?_⟩
    walk_at "go"
    obtain ⟨pr, hp, e⟩ := primes_at k
    refine o_ixT (SqT.of upd_same) e ?_
    walk_at "go"
    exact q _ _ (Int.emod_nonneg _ (by omega)) (Int.emod_lt_of_pos _ h0) (Same.one np)
/-- the row that a law builds of its script: some row of as many things -/
def sp_law_row (K : PySem.W.Frag) : Sp := fun vs H Q _ => ∃ (a : Addr) (ns : List Int), vs = [.ref a] ∧ SqL K H a (ns.map V.int) ∧ ns.length ≤ 63 ∧
  ∀ p r H', Same H H' → H p = none → IsRow r → r.length = ns.length → H' p = some (.lst (r.map V.int)) → Q (.ref p) H'
theorem ok__law_row : Cc P w K mg base 2 "_law_row" (sp_law_row K) := by
  have c__law_draw := ok__law_draw (P := P) (w := w) (base := base) T
  have c__law_cell_at := ok__law_cell_at (P := P) (w := w) (base := base) T
  refine Cc.mk' T.d__law_row sc__law_row ?_ ?_
  · rintro vs H Q E ⟨a, ns, rfl, _⟩; rfl
  · rintro f cdv A outer s H vs Q E hr ⟨a, ns, rfl, hS, hl, q⟩
    refine ⟨_, (pss_cons (ps_par (i := 1) (j := 2) rfl sc__law_row.nd rfl rfl (by decide) rfl rfl (pa_cons (pe_cc c__law_draw (hr.mono (by decide)) (by rfl) (pa_cons (pe_cc c__law_cell_at (hr.mono (by decide)) (by rfl) (pa_cons (pv 0) (pa_cons pe_int pa_nil))) (pa_cons pe_int (pa_cons pe_int pa_nil)))) (pa_cons (pe_lst pa_nil) pa_nil)) (by rfl))
      (pss_cons (ps_for PassesOwn.never rfl (pi_range1 (by rfl) T.b_range (pa_cons (pe_callB (r := rLen2 K) call_len_seq (by rfl) T.b_len PySem.boot_len (pa_cons (pv 0) pa_nil)) pa_nil)) (pg_name (i := 3) sc__law_row.nd rfl (by first | exact Or.inl rfl | exact Or.inr rfl)) (pss_cons (ps_set (i := 4) sc__law_row.nd rfl (by first | exact Or.inl rfl | exact Or.inr rfl) (pe_cc c__law_draw (hr.mono (by decide)) (by rfl) (pa_cons (pe_ix (r := rIxL K) ix_list (pv 0) (pv 3) (fun _ _ => rfl)) (pa_cons (pe_op op_add (pe_op op_mod (pv 3) pe_int) pe_int) (pa_cons (pe_op op_add (pv 3) pe_int) pa_nil)))))
      (Bo.pss_cut (ps_if (pt_cmpR op_eq (pv 1) pe_int (nomark _)) (pss_one (ps_set (i := 4) sc__law_row.nd rfl (by first | exact Or.inl rfl | exact Or.inr rfl) (pe_callB (r := rMin2) (call_min2 rfl) (by rfl) T.b_min PyProof.Rows.boot_min (pa_cons (pv 4) (pa_cons (pe_cc c__law_draw (hr.mono (by decide)) (by rfl) (pa_cons (pe_ix (r := rIxL K) ix_list (pv 0) (pv 3) (fun _ _ => rfl)) (pa_cons (pe_op op_add (pe_op op_mod (pv 3) pe_int) pe_int) (pa_cons pe_int pa_nil)))) pa_nil))))) pss_nil)
      (Bo.pss_cut (ps_if (pt_cmpR op_eq (pv 1) pe_int (nomark _)) (pss_one (ps_set (i := 4) sc__law_row.nd rfl (by first | exact Or.inl rfl | exact Or.inr rfl) (pe_callB (r := rMax2) (call_max2 rfl) (by rfl) T.b_max PyProof.Rows.boot_max (pa_cons (pv 4) (pa_cons (pe_op op_sub (pv 3) (pe_cc c__law_draw (hr.mono (by decide)) (by rfl) (pa_cons (pe_ix (r := rIxL K) ix_list (pv 0) (pv 3) (fun _ _ => rfl)) (pa_cons (pe_op op_add (pe_op op_mod (pv 3) pe_int) pe_int) (pa_cons pe_int pa_nil))))) pa_nil))))) pss_nil)
      (Bo.pss_cut (ps_if (PW.pt (pw_and (pt_cmpR op_eq (pv 1) pe_int (nomark _)) (pw_and1 (pt_cmpR op_gt (pe_op op_mod (pv 4) pe_int) pe_int (nomark _))))) (pss_one (ps_set (i := 4) sc__law_row.nd rfl (by first | exact Or.inl rfl | exact Or.inr rfl) pe_int)) pss_nil)
      (pss_one (ps_expr (pe_bm (r := rIns) PySem.F.plainAttrs_list PySem.F.slot_list_insert PySem.F.type_list_insert mt_insert (pv 2) (pa_cons (pe_op op_sub (pv 3) (pv 4)) (pa_cons (pv 3) pa_nil))))))))))
      (pss_one (ps_ret (pv 2))))), ?_⟩
    walk_at "k"
    walk_at "go"
    refine ⟨a, ns, 0, rfl, hS, by decide, fun c => ?_⟩
    walk_at "go"
    refine ⟨c, 6, 4, rfl, by decide, fun kind H1 k0 k1 s1 => ?_⟩
    walk_at "go"
    refine ⟨Nat.zero_le _, fun p np => ?_⟩
    have np0 : H p = none := by walk_at "fr"
    walk_at "go"
    refine k_rng1 (fun i σ H' => ∃ r kk aw, σ = [some (.ref a), some (.int kind), some (.ref p), kk, aw] ∧ Same H H' ∧ H' p = some (.lst (r.map V.int)) ∧ r.length = i ∧ (∀ x ∈ r, 0 ≤ x ∧ x < (i : Int)) ∧ r.Nodup)
      (by omega) ⟨[], none, none, rfl, by walk_at "same", by walk_at "hp", rfl, by simp, List.nodup_nil⟩ ?_ ?_
    · rintro i σ H' hi ⟨r, kk, aw, rfl, s2, h1, l1, b1, n1⟩
      walk_at "d"
      walk_at "go"
      -- the last step, once how far is known
      have fin : ∀ (away : Int) (H3 : Hp), 0 ≤ away → away ≤ i → Same H H3 → H3 p = some (.lst (r.map V.int)) → ∃ (r' : List Int) (kk' aw' : Option V), ([some (.ref a), some (.int kind), some (.ref p), some (.int (i : Int)), some (.int away)] : L2.St) = [some (.ref a), some (.int kind), some (.ref p), kk', aw'] ∧
          Same H (upd H3 p (.lst ((ins r ((i : Int) - away) (i : Int)).map V.int))) ∧ (upd H3 p (.lst ((ins r ((i : Int) - away) (i : Int)).map V.int))) p = some (.lst (r'.map V.int)) ∧ r'.length = i + 1 ∧ (∀ x ∈ r', 0 ≤ x ∧ x < ((i + 1 : Nat) : Int)) ∧ r'.Nodup := by
        intro away H3 a0 a1 s3 h3
        obtain ⟨e1, e2, e3⟩ := ins_row (k := (i : Int) - away) l1 b1 n1
        exact ⟨_, _, _, rfl, by walk_at "same", upd_same, e1, e2, e3⟩
      refine ⟨_, _, _, rfl, by omega, fun a0 H3 a1 a2 s3 => ?_⟩
      walk_at "go"
      refine c_nocut ?_
      walk_at "go"
      refine ite_dec (fun hk => ?_) (fun hk => ?_)
      · walk_at "go"
        refine ⟨_, _, _, rfl, by omega, fun b H4 b1 b2 s4 => ?_⟩
        walk_at "go"
        refine c_nocut ?_
        walk_at "go"
        refine ite_decN (by omega) ?_
        walk_at "go"
        refine c_nocut ?_
        walk_at "go"
        refine ite_decN (by omega) ?_
        walk_at "go"
        exact fin _ _ (by omega) (by omega) (by walk_at "same") (by walk_at "hp")
      · walk_at "go"
        refine c_nocut ?_
        walk_at "go"
        refine ite_dec (fun hk2 => ?_) (fun hk2 => ?_)
        · walk_at "go"
          refine ⟨_, _, _, rfl, by omega, fun b H4 b1 b2 s4 => ?_⟩
          walk_at "go"
          refine c_nocut ?_
          walk_at "go"
          refine ite_decN (by omega) ?_
          walk_at "go"
          exact fin _ _ (by omega) (by omega) (by walk_at "same") (by walk_at "hp")
        · walk_at "go"
          refine c_nocut ?_
          walk_at "go"
          refine ite_dec (fun hk3 => ?_) (fun hk3 => ?_)
          · walk_at "go"
            refine ite_dec (fun hk4 => ?_) (fun hk4 => ?_)
            · walk_at "go"
              exact fin _ _ (by omega) (by omega) (by walk_at "same") (by walk_at "hp")
            · walk_at "go"
              exact fin _ _ (by omega) (by omega) (by walk_at "same") (by walk_at "hp")
          · walk_at "go"
            exact fin _ _ (by omega) (by omega) (by walk_at "same") (by walk_at "hp")
    · rintro σ H' ⟨r, kk, aw, rfl, s2, h1, l1, b1, n1⟩
      walk_at "go"
      rw [Int.toNat_natCast] at l1 b1
      exact q p r H' s2 np0 ⟨by omega, by rw [l1]; exact b1, n1⟩ l1 h1
end
end Bo

namespace Bo
open PySem PySem.Spec PyProof.Rows L2
/-! ### steps of a reading: each a row of its own -/
local macro_rules | `(tactic| walk_at "ne") => `(tactic| first
  | assumption
  | (apply Ne.symm; assumption)
  | (apply neo; assumption; walk_at "hp")
  | (apply Ne.symm; apply neo; assumption; walk_at "hp"))
local macro_rules | `(tactic| walk_at "hp") => `(tactic| first
  | assumption
  | exact upd_same
  | (apply lift_ne; walk_at "hp"; walk_at "ne")
  | (apply Same.up; assumption; walk_at "hp"))
local macro_rules | `(tactic| walk_at "same") => `(tactic| first
  | assumption
  | exact Same.refl _
  | (apply Same.new; walk_at "same"; walk_at "fr")
  | (apply same_trans; assumption; walk_at "same"))
local macro_rules | `(tactic| walk_at "fr") => `(tactic| first
  | assumption
  | (apply same_free; assumption; walk_at "same"))
local macro_rules | `(tactic| walk_at "sq") => `(tactic| first
  | assumption
  | (apply SqL.of; walk_at "hp")
  | (apply same_seq; assumption; walk_at "same"))
local macro_rules | `(tactic| walk_at "sqt") => `(tactic| first
  | assumption
  | (apply SqT.of; walk_at "hp")
  | (apply same_sqt; assumption; walk_at "same"))
local macro_rules | `(tactic| walk_at "nw") => `(tactic| first
  | assumption
  | (apply News.mut; walk_at "nw"; (first | assumption | (refine News.notin (by assumption) ?_; assumption)))
  | (apply News.same; walk_at "nw"; walk_at "same"))
/-! one step -/
local macro_rules | `(tactic| walk_at "go1") => `(tactic| first
  | with_reducible refine r_seq ?_
  | with_reducible refine r_asgN ?_
  | with_reducible refine r_set ?_
  | with_reducible refine r_ret ?_
  | with_reducible refine r_drop ?_
  | with_reducible refine r_if ?_
  | with_reducible refine r_next ?_
  | ((with_reducible apply r_nxD); with_reducible refine r_nx ?_)
  | ((with_reducible apply r_rtD); with_reducible refine r_rt ?_)
  | with_reducible refine r_par ?_
  | with_reducible refine k_par ?_
  | with_reducible refine r_fld ?_
  | ((with_reducible apply r_aug); exact rfl)
  | with_reducible refine i_ip ?_
  | ((with_reducible apply e_var); exact rfl)
  | with_reducible refine e_c ?_
  | with_reducible refine e_op ?_
  | with_reducible refine e_un ?_
  | with_reducible refine o_I0 ?_
  | with_reducible refine o_neg ?_
  | with_reducible refine o_eqI ?_
  | with_reducible refine o_neI ?_
  | with_reducible refine o_eqB ?_
  | with_reducible refine o_neB ?_
  | with_reducible refine o_eqS ?_
  | with_reducible refine o_neS ?_
  | with_reducible refine a_nil ?_
  | with_reducible refine a_cons ?_
  | with_reducible refine e_cb ?_
  | with_reducible refine e_call ?_
  | with_reducible refine e_make ?_
  | with_reducible refine e_meth ?_
  | with_reducible refine e_fld ?_
  | with_reducible refine e_lst ?_
  | with_reducible refine e_tup ?_
  | with_reducible refine e_bm ?_
  | with_reducible refine e_bm0 ?_
  | with_reducible refine e_rev ?_
  | with_reducible refine e_sl ?_
  | with_reducible refine e_nopart ?_
  | with_reducible refine e_part ?_
  | with_reducible refine i_ok ?_
  | with_reducible refine e_lenset ?_
  | with_reducible refine e_listRg1 ?_
  | with_reducible refine t_test ?_
  | with_reducible refine t_B ?_
  | with_reducible refine b_ok ?_
  | with_reducible refine t_and ?_
  | with_reducible refine t_or ?_
  | with_reducible refine t_not ?_
  | with_reducible refine v_and ?_
  | with_reducible refine v_or ?_
  | with_reducible refine v_not ?_
  | with_reducible refine e_if ?_
  | with_reducible refine e_chain ?_
  | with_reducible refine e_chain3 ?_
  | with_reducible refine iteT ?_
  | with_reducible refine iteF ?_
  | with_reducible refine ite_nT ?_
  | with_reducible refine ite_nF ?_
  | with_reducible refine r_forL ?_
  | with_reducible refine r_forT ?_
  | with_reducible refine r_forE ?_
  | with_reducible refine r_forR1 ?_
  | with_reducible refine r_forR2 ?_
  | with_reducible refine e_lcL ?_
  | with_reducible refine e_lcR1 ?_
  | with_reducible refine e_lcR2 ?_
  | with_reducible refine r_dput ?_
  | with_reducible refine e_dget ?_
  | with_reducible refine e_dnin ?_
  | with_reducible refine c_max2 ?_
  | with_reducible refine c_min2 ?_
  | ((with_reducible apply c_isiI); (first | exact (show kitB "int" _ = some true by decide +kernel) | exact (show kitB "int" _ = some false by decide +kernel)))
  | ((with_reducible apply m_ty); walk_at "sq"))
local macro_rules | `(tactic| walk_at "go2") => `(tactic| first
  | ((with_reducible apply o_ixI); walk_at "sq"; omega)
  | ((with_reducible refine o_mod ?_ ?_); omega)
  | ((with_reducible refine o_fdiv ?_ ?_); omega)
  | ((with_reducible refine o_mulR ?_ ?_); omega)
  | ((with_reducible refine o_mulL ?_ ?_); omega)
  | ((with_reducible apply c_lenM); walk_at "sq")
  | ((with_reducible apply c_all); walk_at "sq")
  | ((with_reducible apply c_any); walk_at "sq")
  | ((with_reducible apply o_in); walk_at "sq")
  | ((with_reducible apply o_nin); walk_at "sq")
  | ((with_reducible apply o_ixB); walk_at "sq"; omega)
  | ((with_reducible apply m_setB); walk_at "hp"; omega)
  | ((with_reducible apply m_appR); walk_at "hp"; omega)
  | ((with_reducible apply m_ins); walk_at "hp"; omega; omega)
  | ((with_reducible apply m_appM); walk_at "hp"; exact rfl; omega)
  | ((with_reducible apply m_setI); walk_at "hp"; omega))
local macro_rules | `(tactic| walk_at "d") => `(tactic| try dsimp only)
local macro_rules | `(tactic| walk_at "k") => `(tactic| try dsimp only [cxOf, Cx.nox, Cx.blk])
local macro_rules | `(tactic| walk_at "go") => `(tactic| repeat (first | walk_at "go1" | walk_at "go2"))

section
variable {P : Program} {w : World} {K : PySem.W.Frag} {mg : Str → Option Value} {base : Heap} {C_Exchanged C_Fronted C_Ended C_Put C_Answer C_OrderError C_BadRow C_BadNumber C_BadRings C_Unlike C_BadText : Addr} (T : Top K mg C_Exchanged C_Fronted C_Ended C_Put C_Answer C_OrderError C_BadRow C_BadNumber C_BadRings C_Unlike C_BadText)
include T

theorem ok_rings : Cc P w K mg base 3 "rings" (sp_rings_of K) := by
  have c_check_row := ok_check_row (P := P) (w := w) (base := base) T
  have c_rings_of := ok_rings_of (P := P) (w := w) (base := base) T
  refine Cc.mk' T.d_rings sc_rings ?_ ?_
  · rintro vs H Q E ⟨a, ns, rfl, _⟩; rfl
  · rintro f cdv A outer s H vs Q E hr ⟨a, ns, rfl, hS, R, q⟩
    refine ⟨_, (pss_cons (ps_expr (pe_cc c_check_row (hr.mono (by decide)) (by rfl) (pa_cons (pv 0) pa_nil)))
      (pss_one (ps_ret (pe_cc c_rings_of (hr.mono (by decide)) (by rfl) (pa_cons (pv 0) pa_nil))))), ?_⟩
    walk_at "k"
    walk_at "go"
    refine ⟨a, ns, rfl, hS, R, fun H1 s1 => ?_⟩
    walk_at "go"
    refine ⟨a, ns, rfl, by walk_at "sq", R, fun p as H2 s2 np n2 m2 h2 => ?_⟩
    exact q p as H2 (s1.trans s2) (s1.free np) (n2.back s1) m2 h2
def sp_is_ring (K : PySem.W.Frag) : Sp := fun vs H Q _ => ∃ (a : Addr) (ns : List Int) (many : Int), vs = [.ref a, .int many] ∧ SqL K H a (ns.map V.int) ∧ ns.length ≤ 1000 ∧ ∀ H', Same H H' → Q (.bl (isRing ns many)) H'
theorem ok_is_ring : Cc P w K mg base 2 "is_ring" (sp_is_ring K) := by
  have c_is_number := ok_is_number (P := P) (w := w) (base := base) T
  refine Cc.mk' T.d_is_ring sc_is_ring ?_ ?_
  · rintro vs H Q E ⟨a, ns, many, rfl, _⟩; rfl
  · rintro f cdv A outer s H vs Q E hr ⟨a, ns, many, rfl, hS, hl, q⟩
    refine ⟨_, (pss_one (ps_ret (pe_and (pe_callB (r := rIsi K) call_isi (by rfl) T.b_isinstance PyProof.Rows.boot_isinstance (pa_cons (pv 0) (pa_cons (pe_bltn (v := .ty "list") (by rfl) T.b_list PyProof.Rows.boot_list rfl) pa_nil))) (pe_and (pe_cmpR op_gt (pe_callB (r := rLen2 K) call_len_seq (by rfl) T.b_len PySem.boot_len (pa_cons (pv 0) pa_nil)) pe_int (nomark _)) (pe_one (pe_callB (r := rAll K) (cr_all rfl) (by rfl) T.b_all PyProof.Rows.boot_all (pa_cons (pe_lc (own := [("thing", 2)]) (g := gName 2) (tt := tYes) rfl sc_is_ring.nd (pi_list (pv 0)) (blkOk_by (own := [("thing", 2)]) (N := N_is_ring) (sc := defScope s_is_ring) (by decide +kernel)) (fun _ _ _ _ _ => (pg_name (i := 2) sc_is_ring.nd rfl (Or.inl rfl))) (fun _ _ _ _ _ => pts_nil) (fun _ _ _ _ _ => (pe_cc c_is_number (hr.mono (by decide)) (by rfl) (pa_cons (pv 2) (pa_cons pe_int (pa_cons (pe_op op_sub (pv 1) pe_int) pa_nil)))))) pa_nil))))))), ?_⟩
    walk_at "k"
    walk_at "go"
    refine c_isiL hS (show kitB "list" "list" = some true by decide +kernel) ?_
    walk_at "go"
    refine ite_dec (fun h => ?_) (fun h => ?_)
    · walk_at "go"
      refine k_lcV (xs := ns) (f := V.int) (h := V.bl) (fun x => isNum (.int x) 0 (many - 1)) (by walk_at "sq") (by omega) (fun _ => rfl) ?_ ?_
      · intro i x H2 R' hx s2 k2
        walk_at "go"
        exact ⟨.int x, 0, _, "int", rfl, .base (.int x), k2 H2 (Same.refl _)⟩
      · intro D H2 nD s2 hD
        walk_at "go"
        have e : isRing ns many = (ns.map fun x => isNum (.int x) 0 (many - 1)).all id := by
          unfold isRing
          rw [List.all_map]
          cases ns with
          | nil => simp at h
          | cons x r => rfl
        rw [← e]
        exact q _ s2
    · walk_at "go"
      have e : isRing ns many = false := by
        cases ns with
        | nil => rfl
        | cons x r => simp at h
      have := q H (Same.refl _)
      rw [e] at this
      exact this
def sp_row_of (K : PySem.W.Frag) : Sp := fun vs H Q _ => ∃ (a : Addr) (as : List Addr) (many : Nat) (told : List (List Int)), vs = [.int (many : Nat), .ref a] ∧ SqL K H a (as.map V.ref) ∧ Lf H as told ∧ many ≤ 1000 ∧ (∀ r ∈ told, r.length ≤ 1000 ∧ r ≠ [] ∧ ∀ x ∈ r, 0 ≤ x ∧ x < many) ∧
  ∀ p H', Same H H' → H p = none → H' p = some (.lst ((rowOf many told).map V.int)) → Q (.ref p) H'
theorem ok_row_of : Cc P w K mg base 1 "row_of" (sp_row_of K) := by
  skip
  refine Cc.mk' T.d_row_of sc_row_of ?_ ?_
  · rintro vs H Q E ⟨a, as, many, told, rfl, _⟩; rfl
  · rintro f cdv A outer s H vs Q E hr ⟨a, as, many, told, rfl, hS, hL, hm, hb, q⟩
    refine ⟨_, (pss_cons (ps_set (i := 2) sc_row_of.nd rfl (by first | exact Or.inl rfl | exact Or.inr rfl) (pe_listRg rfl (by rfl) T.b_list (prg_1 (by rfl) T.b_range (pv 0))))
      (pss_cons (ps_for PassesOwn.never rfl (pi_list (pv 1)) (pg_name (i := 3) sc_row_of.nd rfl (by first | exact Or.inl rfl | exact Or.inr rfl)) (pss_one (ps_for PassesOwn.never rfl (pi_range1 (by rfl) T.b_range (pa_cons (pe_callB (r := rLen2 K) call_len_seq (by rfl) T.b_len PySem.boot_len (pa_cons (pv 3) pa_nil)) pa_nil)) (pg_name (i := 4) sc_row_of.nd rfl (by first | exact Or.inl rfl | exact Or.inr rfl)) (pss_one (ps_asg (pe_ix (r := rIxL K) ix_list (pv 3) (pv 4) (fun _ _ => rfl)) (pg_sub (pv 2) (pe_ix (r := rIxL K) ix_list (pv 3) (pe_op op_sub (pv 4) pe_int) (fun _ _ => rfl)) set_list))))))
      (pss_one (ps_ret (pv 2))))), ?_⟩
    walk_at "k"
    walk_at "go"
    refine k_listRg (by omega) fun p np => ?_
    walk_at "go"
    refine k_lstN (f := V.ref) as (fun i σ H' => ∃ rr kk, σ = [some (.int (many : Nat)), some (.ref a), some (.ref p), rr, kk] ∧ Same H H' ∧ H' p = some (.lst (((told.take i).foldl (fun f r => setRing r r.length f) (upTo many)).map V.int)))
      (by walk_at "sq") ⟨none, none, rfl, by walk_at "same", by walk_at "hp"⟩ (fun i σ H' _ ⟨_, _, _, s2, _⟩ => s2.seq hS) ?_ ?_
    · rintro i pr σ H' hi ⟨rr, kk, rfl, s2, h1⟩
      walk_at "d"
      obtain ⟨r, hr1, hr2⟩ : ∃ r, told[i]? = some r ∧ H pr = some (oL r) := by
        have hlt : i < told.length := by rw [← hL.1]; exact (List.getElem?_eq_some_iff.mp hi).1
        exact ⟨_, List.getElem?_eq_getElem hlt, hL.2 i pr _ hi (List.getElem?_eq_getElem hlt)⟩
      obtain ⟨b1, b2, b3⟩ := hb r (List.mem_of_getElem? hr1)
      have l1 : ((told.take i).foldl (fun f r => setRing r r.length f) (upTo many)).length = many := by rw [rowOf_len, upTo_length]
      walk_at "go"
      refine k_rng1 (fun k σ H'' => ∃ kk, σ = [some (.int (many : Nat)), some (.ref a), some (.ref p), some (.ref pr), kk] ∧ Same H H'' ∧ H'' p = some (.lst ((setRing r k ((told.take i).foldl (fun f r => setRing r r.length f) (upTo many))).map V.int)))
        (by omega) ⟨_, rfl, by walk_at "same", by walk_at "hp"⟩ ?_ ?_
      · rintro k σ H'' hk ⟨kk, rfl, s3, h3⟩
        walk_at "d"
        have hx1 := b3 (gt r ((k : Int) - 1)) (gt_mem (by omega) (by omega))
        have l2 : (setRing r k ((told.take i).foldl (fun f r => setRing r r.length f) (upTo many))).length = many := by rw [setRing_length, l1]
        walk_at "go"
        exact ⟨_, rfl, by walk_at "same", by walk_at "hp"⟩
      · rintro σ H'' ⟨kk, rfl, s3, h3⟩
        walk_at "go"
        refine ⟨_, _, rfl, s3, ?_⟩
        rw [foldl_take hr1]
        exact h3
    · rintro σ H' ⟨rr, kk, rfl, s2, h1⟩
      walk_at "go"
      rw [hL.1, List.take_length] at h1
      exact q p H' s2 np h1
end
end Bo

namespace Bo
open PySem PySem.Spec PyProof.Rows L2
/-! ### steps of a reading: each a row of its own -/
local macro_rules | `(tactic| walk_at "ne") => `(tactic| first
  | assumption
  | (apply Ne.symm; assumption)
  | (apply neo; assumption; walk_at "hp")
  | (apply Ne.symm; apply neo; assumption; walk_at "hp"))
local macro_rules | `(tactic| walk_at "hp") => `(tactic| first
  | assumption
  | exact upd_same
  | (apply lift_ne; walk_at "hp"; walk_at "ne")
  | (apply Same.up; assumption; walk_at "hp"))
local macro_rules | `(tactic| walk_at "same") => `(tactic| first
  | assumption
  | exact Same.refl _
  | (apply Same.new; walk_at "same"; walk_at "fr")
  | (apply same_trans; assumption; walk_at "same"))
local macro_rules | `(tactic| walk_at "fr") => `(tactic| first
  | assumption
  | (apply same_free; assumption; walk_at "same"))
local macro_rules | `(tactic| walk_at "sq") => `(tactic| first
  | assumption
  | (apply SqL.of; walk_at "hp")
  | (apply same_seq; assumption; walk_at "same"))
local macro_rules | `(tactic| walk_at "sqt") => `(tactic| first
  | assumption
  | (apply SqT.of; walk_at "hp")
  | (apply same_sqt; assumption; walk_at "same"))
local macro_rules | `(tactic| walk_at "nw") => `(tactic| first
  | assumption
  | (apply News.mut; walk_at "nw"; (first | assumption | (refine News.notin (by assumption) ?_; assumption)))
  | (apply News.same; walk_at "nw"; walk_at "same"))
/-! one step -/
local macro_rules | `(tactic| walk_at "go1") => `(tactic| first
  | with_reducible refine r_seq ?_
  | with_reducible refine r_asgN ?_
  | with_reducible refine r_set ?_
  | with_reducible refine r_ret ?_
  | with_reducible refine r_drop ?_
  | with_reducible refine r_if ?_
  | with_reducible refine r_next ?_
  | ((with_reducible apply r_nxD); with_reducible refine r_nx ?_)
  | ((with_reducible apply r_rtD); with_reducible refine r_rt ?_)
  | with_reducible refine r_par ?_
  | with_reducible refine k_par ?_
  | with_reducible refine r_fld ?_
  | ((with_reducible apply r_aug); exact rfl)
  | with_reducible refine i_ip ?_
  | ((with_reducible apply e_var); exact rfl)
  | with_reducible refine e_c ?_
  | with_reducible refine e_op ?_
  | with_reducible refine e_un ?_
  | with_reducible refine o_I0 ?_
  | with_reducible refine o_neg ?_
  | with_reducible refine o_eqI ?_
  | with_reducible refine o_neI ?_
  | with_reducible refine o_eqB ?_
  | with_reducible refine o_neB ?_
  | with_reducible refine o_eqS ?_
  | with_reducible refine o_neS ?_
  | with_reducible refine a_nil ?_
  | with_reducible refine a_cons ?_
  | with_reducible refine e_cb ?_
  | with_reducible refine e_call ?_
  | with_reducible refine e_make ?_
  | with_reducible refine e_meth ?_
  | with_reducible refine e_fld ?_
  | with_reducible refine e_lst ?_
  | with_reducible refine e_tup ?_
  | with_reducible refine e_bm ?_
  | with_reducible refine e_bm0 ?_
  | with_reducible refine e_rev ?_
  | with_reducible refine e_sl ?_
  | with_reducible refine e_nopart ?_
  | with_reducible refine e_part ?_
  | with_reducible refine i_ok ?_
  | with_reducible refine e_lenset ?_
  | with_reducible refine e_listRg1 ?_
  | with_reducible refine t_test ?_
  | with_reducible refine t_B ?_
  | with_reducible refine b_ok ?_
  | with_reducible refine t_and ?_
  | with_reducible refine t_or ?_
  | with_reducible refine t_not ?_
  | with_reducible refine v_and ?_
  | with_reducible refine v_or ?_
  | with_reducible refine v_not ?_
  | with_reducible refine e_if ?_
  | with_reducible refine e_chain ?_
  | with_reducible refine e_chain3 ?_
  | with_reducible refine iteT ?_
  | with_reducible refine iteF ?_
  | with_reducible refine ite_nT ?_
  | with_reducible refine ite_nF ?_
  | with_reducible refine r_forL ?_
  | with_reducible refine r_forT ?_
  | with_reducible refine r_forE ?_
  | with_reducible refine r_forR1 ?_
  | with_reducible refine r_forR2 ?_
  | with_reducible refine e_lcL ?_
  | with_reducible refine e_lcR1 ?_
  | with_reducible refine e_lcR2 ?_
  | with_reducible refine r_dput ?_
  | with_reducible refine e_dget ?_
  | with_reducible refine e_dnin ?_
  | with_reducible refine c_max2 ?_
  | with_reducible refine c_min2 ?_
  | ((with_reducible apply c_isiI); (first | exact (show kitB "int" _ = some true by decide +kernel) | exact (show kitB "int" _ = some false by decide +kernel)))
  | ((with_reducible apply m_ty); walk_at "sq"))
local macro_rules | `(tactic| walk_at "go2") => `(tactic| first
  | ((with_reducible apply o_ixI); walk_at "sq"; omega)
  | ((with_reducible refine o_mod ?_ ?_); omega)
  | ((with_reducible refine o_fdiv ?_ ?_); omega)
  | ((with_reducible refine o_mulR ?_ ?_); omega)
  | ((with_reducible refine o_mulL ?_ ?_); omega)
  | ((with_reducible apply c_lenM); walk_at "sq")
  | ((with_reducible apply c_all); walk_at "sq")
  | ((with_reducible apply c_any); walk_at "sq")
  | ((with_reducible apply o_in); walk_at "sq")
  | ((with_reducible apply o_nin); walk_at "sq")
  | ((with_reducible apply o_ixB); walk_at "sq"; omega)
  | ((with_reducible apply m_setB); walk_at "hp"; omega)
  | ((with_reducible apply m_appR); walk_at "hp"; omega)
  | ((with_reducible apply m_ins); walk_at "hp"; omega; omega)
  | ((with_reducible apply m_appM); walk_at "hp"; exact rfl; omega)
  | ((with_reducible apply m_setI); walk_at "hp"; omega))
local macro_rules | `(tactic| walk_at "d") => `(tactic| try dsimp only)
local macro_rules | `(tactic| walk_at "k") => `(tactic| try dsimp only [cxOf, Cx.nox, Cx.blk])
local macro_rules | `(tactic| walk_at "go") => `(tactic| repeat (first | walk_at "go1" | walk_at "go2"))

section
variable {P : Program} {w : World} {K : PySem.W.Frag} {mg : Str → Option Value} {base : Heap} {C_Exchanged C_Fronted C_Ended C_Put C_Answer C_OrderError C_BadRow C_BadNumber C_BadRings C_Unlike C_BadText : Addr} (T : Top K mg C_Exchanged C_Fronted C_Ended C_Put C_Answer C_OrderError C_BadRow C_BadNumber C_BadRings C_Unlike C_BadText)
include T

def sp_of_rings (K : PySem.W.Frag) : Sp := fun vs H Q _ => ∃ (a : Addr) (as : List Addr) (many : Nat) (told : List (List Int)), vs = [.int (many : Nat), .ref a] ∧ SqL K H a (as.map V.ref) ∧ Lf H as told ∧ many ≤ 1000 ∧ (∀ r ∈ told, r.length ≤ 1000 ∧ isRing r many = true) ∧
  told.flatten.Nodup ∧ told.flatten.length ≤ 1000 ∧ told.length ≤ 1000 ∧ ∀ p H', Same H H' → H p = none → H' p = some (.lst ((rowOf many told).map V.int)) → Q (.ref p) H'
theorem ok_of_rings : Cc P w K mg base 3 "of_rings" (sp_of_rings K) := by
  have c_is_number := ok_is_number (P := P) (w := w) (base := base) T
  have c_is_ring := ok_is_ring (P := P) (w := w) (base := base) T
  have c_row_of := ok_row_of (P := P) (w := w) (base := base) T
  obtain ⟨tM, g_MOST⟩ := T.g_MOST
  refine Cc.mk' T.d_of_rings sc_of_rings ?_ ?_
  · rintro vs H Q E ⟨a, as, many, told, rfl, _⟩; rfl
  · rintro f cdv A outer s H vs Q E hr ⟨a, as, many, told, rfl, hS, hL, hm, hb, hn, hl, hl2, q⟩
    refine ⟨_, (pss_cons (ps_if (pt_not (pt_val (pe_cc c_is_number (hr.mono (by decide)) (by rfl) (pa_cons (pv 0) (pa_cons pe_int (pa_cons (pe_glob (v := .int 1000000) (by rfl) g_MOST ⟨_, rfl⟩) pa_nil)))))) pss_never pss_nil)
      (pss_cons (ps_if (PW.pt (pw_or (pt_not (pt_val (pe_callB (r := rIsi K) call_isi (by rfl) T.b_isinstance PyProof.Rows.boot_isinstance (pa_cons (pv 1) (pa_cons (pe_bltn (v := .ty "list") (by rfl) T.b_list PyProof.Rows.boot_list rfl) pa_nil))))) (pw_or1 (pt_not (pt_val (pe_callB (r := rAll K) (cr_all rfl) (by rfl) T.b_all PyProof.Rows.boot_all (pa_cons (pe_lc (own := [("ring", 3)]) (g := gName 3) (tt := tYes) rfl sc_of_rings.nd (pi_list (pv 1)) (blkOk_by (own := [("ring", 3)]) (N := N_of_rings) (sc := defScope s_of_rings) (by decide +kernel)) (fun _ _ _ _ _ => (pg_name (i := 3) sc_of_rings.nd rfl (Or.inl rfl))) (fun _ _ _ _ _ => pts_nil) (fun _ _ _ _ _ => (pe_cc c_is_ring (hr.mono (by decide)) (by rfl) (pa_cons (pv 3) (pa_cons (pv 0) pa_nil))))) pa_nil))))))) pss_never pss_nil)
      (pss_cons (ps_set (i := 2) sc_of_rings.nd rfl (by first | exact Or.inl rfl | exact Or.inr rfl) (pe_lst pa_nil))
      (pss_cons (ps_for PassesOwn.never rfl (pi_list (pv 1)) (pg_name (i := 3) sc_of_rings.nd rfl (by first | exact Or.inl rfl | exact Or.inr rfl)) (pss_one (ps_expr (pe_bm PySem.F.plainAttrs_list PySem.F.slot_list_extend PySem.F.type_list_extend mt_extend (pv 2) (pa_cons (pv 3) pa_nil)))))
      (pss_cons (ps_if (pt_cmpR op_ne (pe_lenSetG (by rfl) T.b_len (by rfl) T.b_set (pv 2)) (pe_callB (r := rLen2 K) call_len_seq (by rfl) T.b_len PySem.boot_len (pa_cons (pv 2) pa_nil)) (nomark _)) pss_never pss_nil)
      (pss_one (ps_ret (pe_cc c_row_of (hr.mono (by decide)) (by rfl) (pa_cons (pv 0) (pa_cons (pv 1) pa_nil)))))))))), ?_⟩
    walk_at "k"
    walk_at "go"
    refine ⟨.int (many : Nat), 0, _, "int", rfl, .base (.int _), ?_⟩
    walk_at "go"
    rw [isNum_int, decide_eq_true (show (0 : Int) ≤ (many : Nat) by omega), decide_eq_true (show ((many : Nat) : Int) ≤ 1000000 by omega), Bool.and_self]
    walk_at "go"
    refine c_isiL hS (show kitB "list" "list" = some true by decide +kernel) ?_
    walk_at "go"
    have la := hL.1
    refine k_lcLf (as := as) (xss := told) (h := V.bl) (fun r => isRing r many) (by walk_at "sq") la (by omega) (fun _ => rfl) ?_ ?_
    · intro i p x H2 R' hp hx s2 k2
      walk_at "go"
      exact ⟨p, x, many, rfl, SqL.of (s2 _ _ (hL.2 i p x hp hx)), (hb x (List.mem_of_getElem? hx)).1, fun H3 s3 => k2 H3 s3⟩
    · intro D H2 nD s2 hD
      walk_at "go"
      have e : (told.map fun r => isRing r many).all id = true := by
        rw [List.all_map]
        exact List.all_eq_true.mpr fun r hr => (hb r hr).2
      rw [e]
      walk_at "go"
      refine ⟨Nat.zero_le _, fun p np => ?_⟩
      have np0 : H p = none := by walk_at "fr"
      walk_at "go"
      refine k_lstN (f := V.ref) as (fun i σ H' => ∃ rr, σ = [some (.int (many : Nat)), some (.ref a), some (.ref p), rr] ∧ Same H H' ∧ H' p = some (.lst (((told.take i).flatten).map V.int)))
        (by walk_at "sq") ⟨none, rfl, by walk_at "same", by walk_at "hp"⟩ (fun i σ H' _ ⟨_, _, s2, _⟩ => s2.seq hS) ?_ ?_
      · rintro i pr σ H' hi ⟨rr, rfl, s3, h1⟩
        walk_at "d"
        obtain ⟨r, hr1, hr2⟩ : ∃ r, told[i]? = some r ∧ H pr = some (oL r) := by
          have hlt : i < told.length := by rw [← hL.1]; exact (List.getElem?_eq_some_iff.mp hi).1
          exact ⟨_, List.getElem?_eq_getElem hlt, hL.2 i pr _ hi (List.getElem?_eq_getElem hlt)⟩
        have z1 := flatten_take_le told (i + 1)
        rw [flatten_take hr1, List.length_append] at z1
        walk_at "go"
        refine m_ext h1 (s3 _ _ hr2) (by omega) ?_
        walk_at "go"
        refine ⟨_, rfl, by walk_at "same", ?_⟩
        rw [flatten_take hr1]
        exact upd_same
      · rintro σ H' ⟨rr, rfl, s3, h1⟩
        rw [la, List.take_length] at h1
        walk_at "d"
        walk_at "go"
        refine c_lenset (by walk_at "sq") (by omega) ?_
        walk_at "go"
        rw [(nodup_len_eq told.flatten).mpr hn]
        refine ite_ndecN rfl ?_
        walk_at "go"
        refine ⟨a, as, many, told, rfl, by walk_at "sq", hL.same s3, hm, fun r hr => ?_, fun p' H3 s4 np' h4 => ?_⟩
        · obtain ⟨b1, b2⟩ := hb r hr
          unfold isRing at b2
          rw [Bool.and_eq_true, List.all_eq_true] at b2
          refine ⟨b1, fun e => by subst e; simp at b2, fun x hx => ?_⟩
          have := b2.2 x hx
          rw [isNum_int, Bool.and_eq_true, decide_eq_true_eq, decide_eq_true_eq] at this
          omega
        · exact q p' H3 (s3.trans s4) (s3.free np') h4
end
end Bo

namespace Bo
open PySem PySem.Spec PyProof.Rows L2
/-- whether a thing is a ring of so many -/
def RV (K : PySem.W.Frag) (H : Hp) (x : V) (many : Int) (b : Bool) : Prop := (NoL K H x ∧ b = false) ∨ ∃ (l : Addr) (vs : List V), x = .ref l ∧ SqL K H l vs ∧ vs.length ≤ 1000 ∧ (∀ v ∈ vs, Kd K H v) ∧ b = (!vs.isEmpty && allNum vs (many - 1))
theorem RV.same {K : PySem.W.Frag} {H H' : Hp} {x : V} {many : Int} {b : Bool} (s : Same H H') (h : RV K H x many b) : RV K H' x many b := by
  rcases h with ⟨h, e⟩ | ⟨l, vs, e, h1, h2, h3, h4⟩
  · exact .inl ⟨h.same s, e⟩
  · exact .inr ⟨l, vs, e, s.seq h1, h2, fun v hv => (h3 v hv).same s, h4⟩
/-- what are no rings -/
def BadR (K : PySem.W.Frag) (H : Hp) (n : Int) (x : V) : Prop := NoL K H x ∨
  (∃ (l : Addr) (xs : List V) (bs : List Bool), x = .ref l ∧ SqL K H l xs ∧ xs.length = bs.length ∧ xs.length ≤ 1000 ∧ (∀ (i : Nat) (y : V) (b : Bool), xs[i]? = some y → bs[i]? = some b → RV K H y n b) ∧ bs.all id = false) ∨
  ∃ (l : Addr) (as : List Addr) (rs : List (List Int)), x = .ref l ∧ SqL K H l (as.map V.ref) ∧ Lf H as rs ∧ rs.length ≤ 1000 ∧ (∀ r ∈ rs, r.length ≤ 1000 ∧ isRing r n = true) ∧ rs.flatten.length ≤ 4000 ∧ ¬ rs.flatten.Nodup
theorem BadR.same {K : PySem.W.Frag} {H H' : Hp} {n : Int} {x : V} (s : Same H H') (h : BadR K H n x) : BadR K H' n x := by
  rcases h with h | ⟨l, xs, bs, e, h1, h2, h3, h4, h5⟩ | ⟨l, as, rs, e, h1, h2, h3⟩
  · exact .inl (h.same s)
  · exact .inr (.inl ⟨l, xs, bs, e, s.seq h1, h2, h3, fun i y b hy hb => (h4 i y b hy hb).same s, h5⟩)
  · exact .inr (.inr ⟨l, as, rs, e, s.seq h1, h2.same s, h3⟩)
theorem RV.ring {K : PySem.W.Frag} {H : Hp} {a : Addr} {r : List Int} {n : Int} (h : H a = some (oL r)) (z : r.length ≤ 1000) : RV K H (.ref a) n (isRing r n) := by
  refine .inr ⟨a, r.map V.int, rfl, SqL.of h, by rw [List.length_map]; exact z, fun v hv => ?_, ?_⟩
  · obtain ⟨i, _, rfl⟩ := List.mem_map.mp hv
    exact Kd.int i
  · unfold isRing allNum
    rw [List.map_map, List.all_map, List.isEmpty_map]; rfl
theorem SqL.tyL {K : PySem.W.Frag} {H : Hp} {p : Addr} {xs : List V} (h : SqL K H p xs) : TyX K H (.ref p) (.type "list") := by
  rcases h with (h | ⟨o, h⟩) | ⟨o, its, k, h1, h2, _⟩
  · exact .base (.lst h)
  · exact .base (.frz h)
  · exact .kList h1 h2
theorem take_flat {rs : List (List Int)} {i : Nat} {r : List Int} (h : rs[i]? = some r) : (rs.take (i + 1)).flatten = (rs.take i).flatten ++ r := by
  rw [List.take_add_one, h, List.flatten_append]
  simp
theorem take_flat_len {rs : List (List Int)} (i : Nat) : (rs.take i).flatten.length ≤ rs.flatten.length := by
  conv => rhs; rw [← List.take_append_drop i rs, List.flatten_append, List.length_append]
  omega
theorem e_callR {i : Nat} {P : Program} {w : World} {K : PySem.W.Frag} {mg : Str → Option Value} {base : Heap} {k : Nat} {E : L2.St → XK} {t : TA} {σ : L2.St} {H : Hp} {Q : VK} {f : Addr} {pre : List V → Hp → Addr → Prop}
    (h1 : σ[i]? = some (some (.ref f))) (B : HeldR P w K mg base k f pre) (h : t σ H fun vs H1 => ∃ D, pre vs H1 D ∧ ∀ H', Same H1 H' → E σ (.ref D) none H') : tCallR i P w K mg base k E t σ H Q := ⟨f, pre, h1, B, h⟩
theorem c_isE {K : PySem.W.Frag} {D a C : Addr} {H : Hp} {Q : VK} {b : Bool} (e : PySem.W.kitOne K (.ref D) (.ref C) = some b) (q : Q (.bl b) H) : rIsE K D a [.ref a, .ref C] H Q := ⟨.ref C, .ref C, b, rfl, fun _ h => h, e, q⟩
theorem c_isET {K : PySem.W.Frag} {D a : Addr} {H : Hp} {Q : VK} {n : String} {b : Bool} (e : PySem.W.kitOne K (.ref D) (.type n) = some b) (q : Q (.bl b) H) : rIsE K D a [.ref a, .ty n] H Q := ⟨.ty n, .type n, b, rfl, fun _ h => h, e, q⟩
/-! ### steps of a reading: each a row of its own -/
local macro_rules | `(tactic| walk_at "ne") => `(tactic| first
  | assumption
  | (apply Ne.symm; assumption)
  | (apply neo; assumption; walk_at "hp")
  | (apply Ne.symm; apply neo; assumption; walk_at "hp"))
local macro_rules | `(tactic| walk_at "hp") => `(tactic| first
  | assumption
  | exact upd_same
  | (apply lift_ne; walk_at "hp"; walk_at "ne")
  | (apply Same.up; assumption; walk_at "hp"))
local macro_rules | `(tactic| walk_at "same") => `(tactic| first
  | assumption
  | exact Same.refl _
  | (apply Same.new; walk_at "same"; walk_at "fr")
  | (apply same_trans; assumption; walk_at "same"))
local macro_rules | `(tactic| walk_at "fr") => `(tactic| first
  | assumption
  | (apply same_free; assumption; walk_at "same"))
local macro_rules | `(tactic| walk_at "sq") => `(tactic| first
  | assumption
  | (apply SqL.of; walk_at "hp")
  | (apply same_seq; assumption; walk_at "same"))
local macro_rules | `(tactic| walk_at "sqt") => `(tactic| first
  | assumption
  | (apply SqT.of; walk_at "hp")
  | (apply same_sqt; assumption; walk_at "same"))
local macro_rules | `(tactic| walk_at "nw") => `(tactic| first
  | assumption
  | (apply News.mut; walk_at "nw"; (first | assumption | (refine News.notin (by assumption) ?_; assumption)))
  | (apply News.same; walk_at "nw"; walk_at "same"))
/-! one step -/
local macro_rules | `(tactic| walk_at "go1") => `(tactic| first
  | with_reducible refine r_seq ?_
  | with_reducible refine r_asgN ?_
  | with_reducible refine r_set ?_
  | with_reducible refine r_ret ?_
  | with_reducible refine r_drop ?_
  | with_reducible refine r_if ?_
  | with_reducible refine r_next ?_
  | ((with_reducible apply r_nxD); with_reducible refine r_nx ?_)
  | ((with_reducible apply r_rtD); with_reducible refine r_rt ?_)
  | with_reducible refine r_par ?_
  | with_reducible refine k_par ?_
  | with_reducible refine r_fld ?_
  | ((with_reducible apply r_aug); exact rfl)
  | with_reducible refine i_ip ?_
  | ((with_reducible apply e_var); exact rfl)
  | with_reducible refine e_c ?_
  | with_reducible refine e_op ?_
  | with_reducible refine e_un ?_
  | with_reducible refine o_I0 ?_
  | with_reducible refine o_neg ?_
  | with_reducible refine o_eqI ?_
  | with_reducible refine o_neI ?_
  | with_reducible refine o_eqB ?_
  | with_reducible refine o_neB ?_
  | with_reducible refine o_eqS ?_
  | with_reducible refine o_neS ?_
  | with_reducible refine a_nil ?_
  | with_reducible refine a_cons ?_
  | with_reducible refine e_cb ?_
  | with_reducible refine e_call ?_
  | with_reducible refine e_make ?_
  | with_reducible refine e_meth ?_
  | with_reducible refine e_fld ?_
  | with_reducible refine e_lst ?_
  | with_reducible refine e_tup ?_
  | with_reducible refine e_bm ?_
  | with_reducible refine e_bm0 ?_
  | with_reducible refine e_rev ?_
  | with_reducible refine e_sl ?_
  | with_reducible refine e_nopart ?_
  | with_reducible refine e_part ?_
  | with_reducible refine i_ok ?_
  | with_reducible refine e_lenset ?_
  | with_reducible refine e_listRg1 ?_
  | with_reducible refine t_test ?_
  | with_reducible refine t_B ?_
  | with_reducible refine b_ok ?_
  | with_reducible refine t_and ?_
  | with_reducible refine t_or ?_
  | with_reducible refine t_not ?_
  | with_reducible refine v_and ?_
  | with_reducible refine v_or ?_
  | with_reducible refine v_not ?_
  | with_reducible refine e_if ?_
  | with_reducible refine e_chain ?_
  | with_reducible refine e_chain3 ?_
  | with_reducible refine iteT ?_
  | with_reducible refine iteF ?_
  | with_reducible refine ite_nT ?_
  | with_reducible refine ite_nF ?_
  | with_reducible refine r_forL ?_
  | with_reducible refine r_forT ?_
  | with_reducible refine r_forE ?_
  | with_reducible refine r_forR1 ?_
  | with_reducible refine r_forR2 ?_
  | with_reducible refine e_lcL ?_
  | with_reducible refine e_lcR1 ?_
  | with_reducible refine e_lcR2 ?_
  | with_reducible refine r_dput ?_
  | with_reducible refine e_dget ?_
  | with_reducible refine e_dnin ?_
  | with_reducible refine c_max2 ?_
  | with_reducible refine c_min2 ?_
  | ((with_reducible apply c_isiI); (first | exact (show kitB "int" _ = some true by decide +kernel) | exact (show kitB "int" _ = some false by decide +kernel)))
  | ((with_reducible apply m_ty); walk_at "sq"))
local macro_rules | `(tactic| walk_at "go2") => `(tactic| first
  | ((with_reducible apply o_ixI); walk_at "sq"; omega)
  | ((with_reducible refine o_mod ?_ ?_); omega)
  | ((with_reducible refine o_fdiv ?_ ?_); omega)
  | ((with_reducible refine o_mulR ?_ ?_); omega)
  | ((with_reducible refine o_mulL ?_ ?_); omega)
  | ((with_reducible apply c_lenM); walk_at "sq")
  | ((with_reducible apply c_all); walk_at "sq")
  | ((with_reducible apply c_any); walk_at "sq")
  | ((with_reducible apply o_in); walk_at "sq")
  | ((with_reducible apply o_nin); walk_at "sq")
  | ((with_reducible apply o_ixB); walk_at "sq"; omega)
  | ((with_reducible apply m_setB); walk_at "hp"; omega)
  | ((with_reducible apply m_appR); walk_at "hp"; omega)
  | ((with_reducible apply m_ins); walk_at "hp"; omega; omega)
  | ((with_reducible apply m_appM); walk_at "hp"; exact rfl; omega)
  | ((with_reducible apply m_setI); walk_at "hp"; omega))
local macro_rules | `(tactic| walk_at "d") => `(tactic| try dsimp only)
local macro_rules | `(tactic| walk_at "k") => `(tactic| try dsimp only [cxOf, Cx.nox, Cx.blk])
local macro_rules | `(tactic| walk_at "go") => `(tactic| repeat (first | walk_at "go1" | walk_at "go2"))

section
variable {P : Program} {w : World} {K : PySem.W.Frag} {mg : Str → Option Value} {base : Heap} {C_Exchanged C_Fronted C_Ended C_Put C_Answer C_OrderError C_BadRow C_BadNumber C_BadRings C_Unlike C_BadText : Addr} (T : Top K mg C_Exchanged C_Fronted C_Ended C_Put C_Answer C_OrderError C_BadRow C_BadNumber C_BadRings C_Unlike C_BadText)
include T
def sp_is_ringV (K : PySem.W.Frag) : Sp := fun vs H Q _ => ∃ (x : V) (many : Int) (b : Bool), vs = [x, .int many] ∧ RV K H x many b ∧ ∀ H', Same H H' → Q (.bl b) H'
theorem okV_is_ring : Cc P w K mg base 2 "is_ring" (sp_is_ringV K) := by
  have c_is_number := ok_is_number (P := P) (w := w) (base := base) T
  refine Cc.mk' T.d_is_ring sc_is_ring ?_ ?_
  · rintro vs H Q E ⟨x, many, b, rfl, _⟩; rfl
  · rintro f cdv A outer s H vs Q E hr ⟨x, many, b, rfl, rv, q⟩
    refine ⟨_, (pss_one (ps_ret (pe_and (pe_callB (r := rIsi K) call_isi (by rfl) T.b_isinstance PyProof.Rows.boot_isinstance (pa_cons (pv 0) (pa_cons (pe_bltn (v := .ty "list") (by rfl) T.b_list PyProof.Rows.boot_list rfl) pa_nil))) (pe_and (pe_cmpR op_gt (pe_callB (r := rLen2 K) call_len_seq (by rfl) T.b_len PySem.boot_len (pa_cons (pv 0) pa_nil)) pe_int (nomark _)) (pe_one (pe_callB (r := rAll K) (cr_all rfl) (by rfl) T.b_all PyProof.Rows.boot_all (pa_cons (pe_lc (own := [("thing", 2)]) (g := gName 2) (tt := tYes) rfl sc_is_ring.nd (pi_list (pv 0)) (blkOk_by (own := [("thing", 2)]) (N := N_is_ring) (sc := defScope s_is_ring) (by decide +kernel)) (fun _ _ _ _ _ => (pg_name (i := 2) sc_is_ring.nd rfl (Or.inl rfl))) (fun _ _ _ _ _ => pts_nil) (fun _ _ _ _ _ => (pe_cc c_is_number (hr.mono (by decide)) (by rfl) (pa_cons (pv 2) (pa_cons pe_int (pa_cons (pe_op op_sub (pv 1) pe_int) pa_nil)))))) pa_nil))))))), ?_⟩
    walk_at "k"
    walk_at "go"
    rcases rv with ⟨⟨t, ty, kl⟩, rfl⟩ | ⟨l, vs, rfl, hS, hl, hT, rfl⟩
    · refine c_isi ty kl ?_
      walk_at "go"
      exact q H (Same.refl _)
    · have hS' : SqL K H l (vs.map id) := by rw [List.map_id]; exact hS
      refine c_isiSq hS ?_
      walk_at "go"
      refine ite_dec (fun c => ?_) (fun c => ?_)
      · walk_at "go"
        refine k_lcV (xs := vs) (f := id) (h := V.bl) (fun x => isNum x 0 (many - 1)) hS' (by omega) (fun _ => rfl) ?_ ?_
        · intro i x H2 R' hx s2 k2
          walk_at "go"
          obtain ⟨t, ty⟩ := (hT x (List.mem_of_getElem? hx)).same s2
          exact ⟨x, 0, _, t, rfl, ty, k2 H2 (Same.refl _)⟩
        · intro D H2 nD s2 hD
          walk_at "go"
          have qs := q H2 s2
          have e : vs.isEmpty = false := by
            cases vs with
            | nil => simp at c
            | cons x r => rfl
          rw [e] at qs
          exact qs
      · walk_at "go"
        have qs := q H (Same.refl _)
        have e : vs.isEmpty = true := by
          cases vs with
          | nil => rfl
          | cons x r => simp at c
        rw [e] at qs
        exact qs
def preOf (K : PySem.W.Frag) (C U : Addr) : List V → Hp → Addr → Prop := fun vs H D => ∃ x y, vs = [x, y] ∧ ((D = C ∧ Kd K H x ∧ isNum x 0 1000000 = false) ∨ (D = U ∧ ∃ n : Int, x = .int n ∧ 0 ≤ n ∧ n ≤ 1000 ∧ BadR K H n y))
theorem okX_of_rings : CqN P w K mg base 3 "of_rings" (spR (preOf K C_BadNumber C_BadRings)) := by
  have c_is_number := ok_is_number (P := P) (w := w) (base := base) T
  have c_is_ring := okV_is_ring (P := P) (w := w) (base := base) T
  obtain ⟨tM, g_MOST⟩ := T.g_MOST
  refine Cq.mkN T.d_of_rings sc_of_rings ?_ ?_
  · rintro vs H Q E ⟨D, ⟨x, y, rfl, _⟩, _⟩; rfl
  · rintro f cdv A outer s H vs Q E hr tk ⟨D, ⟨x, y, rfl, h⟩, q⟩
    rcases h with ⟨rfl, ⟨t, ty⟩, hb⟩ | ⟨rfl, n, rfl, n0, n1, bad⟩
    · refine ⟨_, pss_cons (ps_if (pt_not (pt_val (pe_cc c_is_number (hr.mono (by decide)) (by rfl) (pa_cons (pv 0) (pa_cons pe_int (pa_cons (pe_glob (v := .int 1000000) (by rfl) g_MOST ⟨_, rfl⟩) pa_nil)))))) (pss_one (L2N.ps_raise rfl tk (L2N.pmk_own PySem.F.excBase_ValueError T.x_BadNumber T.c_BadNumber T.k_BadNumber (raises_own T.sb_BadNumber T.st_BadNumber) rfl))) pss_nil) pss_never, ?_⟩
      walk_at "k"
      walk_at "go"
      refine ⟨x, 0, 1000000, t, rfl, ty, ?_⟩
      rw [hb]
      walk_at "go"
      exact q H (Same.refl _)
    · have hn : isNum (.int n) 0 1000000 = true := by rw [isNum_int, decide_eq_true n0, decide_eq_true (by omega)]; rfl
      rcases bad with ⟨t, ty, kl⟩ | ⟨l, xs, bs, rfl, hS, lb, hl, hR, hb⟩ | ⟨l, as, rs, rfl, hS, hL, hl, hR, hf, nd⟩
      · refine ⟨_, pss_cons (ps_if (pt_not (pt_val (pe_cc c_is_number (hr.mono (by decide)) (by rfl) (pa_cons (pv 0) (pa_cons pe_int (pa_cons (pe_glob (v := .int 1000000) (by rfl) g_MOST ⟨_, rfl⟩) pa_nil)))))) pss_never pss_nil) (pss_cons (ps_if (PW.pt (pw_or (pt_not (pt_val (pe_callB (r := rIsi K) call_isi (by rfl) T.b_isinstance PyProof.Rows.boot_isinstance (pa_cons (pv 1) (pa_cons (pe_bltn (v := .ty "list") (by rfl) T.b_list PyProof.Rows.boot_list rfl) pa_nil))))) (pw_or1 (pt_not (pt_val (pe_callB (r := rAll K) (cr_all rfl) (by rfl) T.b_all PyProof.Rows.boot_all (pa_cons (pe_lc (own := [("ring", 3)]) (g := gName 3) (tt := tYes) rfl sc_of_rings.nd (pi_list (pv 1)) (blkOk_by (own := [("ring", 3)]) (N := N_of_rings) (sc := defScope s_of_rings) (by decide +kernel)) (fun _ _ _ _ _ => (pg_name (i := 3) sc_of_rings.nd rfl (Or.inl rfl))) (fun _ _ _ _ _ => pts_nil) (fun _ _ _ _ _ => (pe_cc c_is_ring (hr.mono (by decide)) (by rfl) (pa_cons (pv 3) (pa_cons (pv 0) pa_nil))))) pa_nil))))))) (pss_one (L2N.ps_raise rfl tk (L2N.pmk_own PySem.F.excBase_ValueError T.x_BadRings T.c_BadRings T.k_BadRings (raises_own T.sb_BadRings T.st_BadRings) rfl))) pss_nil) pss_never), ?_⟩
        walk_at "k"
        walk_at "go"
        refine ⟨.int n, 0, 1000000, "int", rfl, .base (.int n), ?_⟩
        rw [hn]
        walk_at "go"
        refine c_isi ty kl ?_
        walk_at "go"
        exact q H (Same.refl _)
      · refine ⟨_, pss_cons (ps_if (pt_not (pt_val (pe_cc c_is_number (hr.mono (by decide)) (by rfl) (pa_cons (pv 0) (pa_cons pe_int (pa_cons (pe_glob (v := .int 1000000) (by rfl) g_MOST ⟨_, rfl⟩) pa_nil)))))) pss_never pss_nil) (pss_cons (ps_if (PW.pt (pw_or (pt_not (pt_val (pe_callB (r := rIsi K) call_isi (by rfl) T.b_isinstance PyProof.Rows.boot_isinstance (pa_cons (pv 1) (pa_cons (pe_bltn (v := .ty "list") (by rfl) T.b_list PyProof.Rows.boot_list rfl) pa_nil))))) (pw_or1 (pt_not (pt_val (pe_callB (r := rAll K) (cr_all rfl) (by rfl) T.b_all PyProof.Rows.boot_all (pa_cons (pe_lc (own := [("ring", 3)]) (g := gName 3) (tt := tYes) rfl sc_of_rings.nd (pi_list (pv 1)) (blkOk_by (own := [("ring", 3)]) (N := N_of_rings) (sc := defScope s_of_rings) (by decide +kernel)) (fun _ _ _ _ _ => (pg_name (i := 3) sc_of_rings.nd rfl (Or.inl rfl))) (fun _ _ _ _ _ => pts_nil) (fun _ _ _ _ _ => (pe_cc c_is_ring (hr.mono (by decide)) (by rfl) (pa_cons (pv 3) (pa_cons (pv 0) pa_nil))))) pa_nil))))))) (pss_one (L2N.ps_raise rfl tk (L2N.pmk_own PySem.F.excBase_ValueError T.x_BadRings T.c_BadRings T.k_BadRings (raises_own T.sb_BadRings T.st_BadRings) rfl))) pss_nil) pss_never), ?_⟩
        walk_at "k"
        walk_at "go"
        refine ⟨.int n, 0, 1000000, "int", rfl, .base (.int n), ?_⟩
        rw [hn]
        walk_at "go"
        refine c_isiSq hS ?_
        walk_at "go"
        have e1 : (xs.zip bs).map (fun p => p.1) = xs := List.map_fst_zip (by omega)
        have e2 : (xs.zip bs).map (fun p => p.2) = bs := List.map_snd_zip (by omega)
        refine k_lcV (xs := xs.zip bs) (f := fun p => p.1) (h := V.bl) (fun p => p.2) (by rw [e1]; exact hS) (by rw [List.length_zip]; omega) (fun _ => rfl) ?_ ?_
        · intro i x H2 R' hx s2 k2
          obtain ⟨y, b⟩ := x
          obtain ⟨z1, z2⟩ := List.getElem?_zip_eq_some.mp hx
          walk_at "go"
          exact ⟨y, n, b, rfl, (hR i y b z1 z2).same s2, fun H3 s3 => k2 H3 s3⟩
        · intro D H2 nD s2 hD
          rw [e2] at hD
          walk_at "go"
          rw [hb]
          walk_at "go"
          exact q H2 s2
      · refine ⟨_, pss_cons (ps_if (pt_not (pt_val (pe_cc c_is_number (hr.mono (by decide)) (by rfl) (pa_cons (pv 0) (pa_cons pe_int (pa_cons (pe_glob (v := .int 1000000) (by rfl) g_MOST ⟨_, rfl⟩) pa_nil)))))) pss_never pss_nil) (pss_cons (ps_if (PW.pt (pw_or (pt_not (pt_val (pe_callB (r := rIsi K) call_isi (by rfl) T.b_isinstance PyProof.Rows.boot_isinstance (pa_cons (pv 1) (pa_cons (pe_bltn (v := .ty "list") (by rfl) T.b_list PyProof.Rows.boot_list rfl) pa_nil))))) (pw_or1 (pt_not (pt_val (pe_callB (r := rAll K) (cr_all rfl) (by rfl) T.b_all PyProof.Rows.boot_all (pa_cons (pe_lc (own := [("ring", 3)]) (g := gName 3) (tt := tYes) rfl sc_of_rings.nd (pi_list (pv 1)) (blkOk_by (own := [("ring", 3)]) (N := N_of_rings) (sc := defScope s_of_rings) (by decide +kernel)) (fun _ _ _ _ _ => (pg_name (i := 3) sc_of_rings.nd rfl (Or.inl rfl))) (fun _ _ _ _ _ => pts_nil) (fun _ _ _ _ _ => (pe_cc c_is_ring (hr.mono (by decide)) (by rfl) (pa_cons (pv 3) (pa_cons (pv 0) pa_nil))))) pa_nil))))))) pss_never pss_nil) (pss_cons (ps_set (i := 2) sc_of_rings.nd rfl (by first | exact Or.inl rfl | exact Or.inr rfl) (pe_lst pa_nil)) (pss_cons (ps_for (L2.passes_of rfl) rfl (pi_list (pv 1)) (pg_name (i := 3) sc_of_rings.nd rfl (by first | exact Or.inl rfl | exact Or.inr rfl)) (pss_one (ps_expr (pe_bm PySem.F.plainAttrs_list PySem.F.slot_list_extend PySem.F.type_list_extend mt_extend (pv 2) (pa_cons (pv 3) pa_nil))))) (pss_cons (ps_if (pt_cmpR op_ne (pe_lenSetG (by rfl) T.b_len (by rfl) T.b_set (pv 2)) (pe_callB (r := rLen2 K) call_len_seq (by rfl) T.b_len PySem.boot_len (pa_cons (pv 2) pa_nil)) (nomark _)) (pss_one (L2N.ps_raise rfl tk (L2N.pmk_own PySem.F.excBase_ValueError T.x_BadRings T.c_BadRings T.k_BadRings (raises_own T.sb_BadRings T.st_BadRings) rfl))) pss_nil) pss_never)))), ?_⟩
        have la := hL.1
        walk_at "k"
        walk_at "go"
        refine ⟨.int n, 0, 1000000, "int", rfl, .base (.int n), ?_⟩
        rw [hn]
        walk_at "go"
        refine c_isiSq hS ?_
        walk_at "go"
        refine k_lcLf (as := as) (xss := rs) (h := V.bl) (fun _ => true) hS la (by omega) (fun _ => rfl) ?_ ?_
        · intro i p x H2 R' hp hx s2 k2
          have hm := List.mem_of_getElem? hx
          have rv := RV.ring (K := K) (n := n) (s2 _ _ (hL.2 i p x hp hx)) (hR x hm).1
          rw [(hR x hm).2] at rv
          walk_at "go"
          exact ⟨.ref p, n, true, rfl, rv, fun H3 s3 => k2 H3 s3⟩
        · intro D H2 nD s2 hD
          walk_at "go"
          rw [show ((rs.map fun _ => true).all id) = true from by rw [List.all_map]; exact List.all_eq_true.mpr fun _ _ => rfl]
          walk_at "go"
          refine l_new (Nat.zero_le _) fun pt npt => ?_
          have npt0 := s2.free npt
          walk_at "go"
          refine k_lstN (f := V.ref) as (fun i σ H' => ∃ v3, σ = [some (.int n), some (.ref l), some (.ref pt), v3] ∧ Same H H' ∧ H' pt = some (.lst ((rs.take i).flatten.map V.int)))
            (by walk_at "sq") ⟨none, rfl, by walk_at "same", upd_same⟩ (fun i σ H' _ ⟨_, _, s, _⟩ => s.seq hS) ?_ ?_
          · rintro i p σ H' hp ⟨v3, rfl, s3, h3⟩
            have hi : i < rs.length := by rw [← la]; exact (List.getElem?_eq_some_iff.mp hp).1
            have hx : rs[i]? = some rs[i] := List.getElem?_eq_getElem hi
            have f1 := take_flat hx
            have f2 := take_flat_len (rs := rs) (i + 1)
            rw [f1, List.length_append] at f2
            walk_at "d"
            walk_at "go"
            refine m_ext (f := V.int) h3 (s3 _ _ (hL.2 i p _ hp hx)) (by omega) ?_
            walk_at "go"
            exact ⟨_, rfl, Same.new s3 npt0, by rw [f1]; exact upd_same⟩
          · rintro σ H' ⟨v3, rfl, s3, h3⟩
            rw [la, List.take_length] at h3
            walk_at "d"
            walk_at "go"
            refine c_lenset (SqL.of h3) (by omega) ?_
            walk_at "go"
            refine ite_ndecY (fun z => nd ((nodup_len_eq _).mp (by omega))) ?_
            exact q H' s3
/-! ### the law's own defs -/
def preWR (K : PySem.W.Frag) (C : Addr) : List V → Hp → Addr → Prop := fun vs H D => D = C ∧ ∃ (d : Int) (x : V), vs = [.int d, x] ∧ BadV K H x
def preWN (K : PySem.W.Frag) (C : Addr) : List V → Hp → Addr → Prop := fun vs H D => D = C ∧ ∃ (d : Int) (x : V), vs = [.int d, x] ∧ Kd K H x ∧ ((d = 0 ∧ ∀ i, x ≠ .int i) ∨ (d ≠ 0 ∧ isNum x 0 1000000 = false))
def preWG (K : PySem.W.Frag) (C : Addr) : List V → Hp → Addr → Prop := fun vs H D => D = C ∧ ∃ (d : Int) (x : V), vs = [.int d, x] ∧ BadR K H 3 x
theorem okX__law_with_two : CqN P w K mg base 4 "_law_with_two" (spR (preBehind K C_BadRow C_Unlike)) := by
  have x_behind := okX_behind (P := P) (w := w) (base := base) T
  refine Cq.mkN T.d__law_with_two sc__law_with_two ?_ ?_
  · rintro vs H Q E ⟨D, ⟨x, y, rfl, _⟩, _⟩; rfl
  · rintro f cdv A outer s H vs Q E hr tk ⟨D, ⟨x, y, rfl, h⟩, q⟩
    refine ⟨_, pss_one (ps_ret (Bo.pe_cqS x_behind (hr.mono (by decide)) (by rfl) (fun σ => L2N.passAt tk σ) (pa_cons (pv 0) (pa_cons (pv 1) pa_nil)))), ?_⟩
    walk_at "k"
    walk_at "go"
    refine e_callS ?_
    walk_at "go"
    exact ⟨_, ⟨x, y, rfl, h⟩, q⟩
theorem okX__law_with_rings : CqN P w K mg base 4 "_law_with_rings" (spR (preWG K C_BadRings)) := by
  have x_of_rings := okX_of_rings (P := P) (w := w) (base := base) T
  refine Cq.mkN T.d__law_with_rings sc__law_with_rings ?_ ?_
  · rintro vs H Q E ⟨D, ⟨rfl, d, x, rfl, _⟩, _⟩; rfl
  · rintro f cdv A outer s H vs Q E hr tk ⟨D, ⟨rfl, d, x, rfl, h⟩, q⟩
    refine ⟨_, pss_one (ps_ret (Bo.pe_cqS x_of_rings (hr.mono (by decide)) (by rfl) (fun σ => L2N.passAt tk σ) (pa_cons pe_int (pa_cons (pv 1) pa_nil)))), ?_⟩
    walk_at "k"
    walk_at "go"
    refine e_callS ?_
    walk_at "go"
    exact ⟨_, ⟨_, _, rfl, .inr ⟨rfl, 3, rfl, by decide, by decide, h⟩⟩, q⟩
theorem okX__law_with_number : CqN P w K mg base 4 "_law_with_number" (spR (preWN K C_BadNumber)) := by
  have x_of_rings := okX_of_rings (P := P) (w := w) (base := base) T
  have x_times := okX_times (P := P) (w := w) (base := base) T
  refine Cq.mkN T.d__law_with_number sc__law_with_number ?_ ?_
  · rintro vs H Q E ⟨D, ⟨rfl, d, x, rfl, _⟩, _⟩; rfl
  · rintro f cdv A outer s H vs Q E hr tk ⟨D, ⟨rfl, d, x, rfl, kx, h⟩, q⟩
    refine ⟨_, pss_one (ps_ret (pe_ifExp (pt_cmpR op_eq (pv 0) pe_int (nomark _)) (Bo.pe_cqS x_times (hr.mono (by decide)) (by rfl) (fun σ => L2N.passAt tk σ) (pa_cons (pe_lst (pa_cons pe_int (pa_cons pe_int pa_nil))) (pa_cons (pv 1) pa_nil))) (Bo.pe_cqS x_of_rings (hr.mono (by decide)) (by rfl) (fun σ => L2N.passAt tk σ) (pa_cons (pv 1) (pa_cons pe_non pa_nil))))), ?_⟩
    walk_at "k"
    walk_at "go"
    refine ite_dec (fun c => ?_) (fun c => ?_)
    · refine e_callS ?_
      walk_at "go"
      refine l_new (by show 2 ≤ sizeLine; decide) fun p np => ?_
      walk_at "go"
      have nx : ∀ i, x ≠ .int i := by
        rcases h with ⟨_, h⟩ | ⟨h, _⟩
        · exact h
        · exact absurd c h
      refine ⟨_, ⟨_, _, rfl, .inr ⟨rfl, ⟨p, [1, 0], rfl, SqL.of upd_same, ⟨by decide, by decide, by decide⟩⟩, kx.same (Same.one np), nx⟩⟩, fun H2 s2 => q H2 ((Same.one np).trans s2)⟩
    · refine e_callS ?_
      walk_at "go"
      have nx : isNum x 0 1000000 = false := by
        rcases h with ⟨h, _⟩ | ⟨_, h⟩
        · exact absurd h c
        · exact h
      exact ⟨_, ⟨_, _, rfl, .inl ⟨rfl, kx, nx⟩⟩, q⟩
theorem okX__law_with_row : CqN P w K mg base 4 "_law_with_row" (spR (preWR K C_BadRow)) := by
  have x_behind := okX_behind (P := P) (w := w) (base := base) T
  have x_times := okX_times (P := P) (w := w) (base := base) T
  have x_back := okX_back (P := P) (w := w) (base := base) T
  have x_wrong := okX_wrong (P := P) (w := w) (base := base) T
  have x_rings := okX_rings (P := P) (w := w) (base := base) T
  have x_turns := okX_turns (P := P) (w := w) (base := base) T
  have x_written := okX_written (P := P) (w := w) (base := base) T
  have x_exchanged := okX_exchanged (P := P) (w := w) (base := base) T
  have x_fronted := okX_fronted (P := P) (w := w) (base := base) T
  have x_ended := okX_ended (P := P) (w := w) (base := base) T
  have x_put := okX_put (P := P) (w := w) (base := base) T
  refine Cq.mkN T.d__law_with_row sc__law_with_row ?_ ?_
  · rintro vs H Q E ⟨D, ⟨rfl, d, x, rfl, _⟩, _⟩; rfl
  · rintro f cdv A outer s H vs Q E hr tk ⟨D, ⟨rfl, d, x, rfl, bad⟩, q⟩
    refine ⟨_, pss_cons (ps_if (pt_cmpR op_lt (pv 0) pe_int (nomark _)) (pss_one (ps_ret (pe_ifExp (pt_cmpR op_eq (pv 0) pe_int (nomark _)) (Bo.pe_cqS x_behind (hr.mono (by decide)) (by rfl) (fun σ => L2N.passAt tk σ) (pa_cons (pv 1) (pa_cons (pe_lst (pa_cons pe_int pa_nil)) pa_nil))) (Bo.pe_cqS x_behind (hr.mono (by decide)) (by rfl) (fun σ => L2N.passAt tk σ) (pa_cons (pe_lst (pa_cons pe_int pa_nil)) (pa_cons (pv 1) pa_nil)))))) pss_nil) (pss_cons (ps_if (pt_cmpR op_lt (pv 0) pe_int (nomark _)) (pss_one (ps_ret (pe_ifExp (pt_cmpR op_eq (pv 0) pe_int (nomark _)) (Bo.pe_cqS x_back (hr.mono (by decide)) (by rfl) (fun σ => L2N.passAt tk σ) (pa_cons (pv 1) pa_nil)) (Bo.pe_cqS x_wrong (hr.mono (by decide)) (by rfl) (fun σ => L2N.passAt tk σ) (pa_cons (pv 1) pa_nil))))) pss_nil) (pss_cons (ps_if (pt_cmpR op_lt (pv 0) pe_int (nomark _)) (pss_one (ps_ret (pe_ifExp (pt_cmpR op_eq (pv 0) pe_int (nomark _)) (Bo.pe_cqS x_rings (hr.mono (by decide)) (by rfl) (fun σ => L2N.passAt tk σ) (pa_cons (pv 1) pa_nil)) (pe_ifExp (pt_cmpR op_eq (pv 0) pe_int (nomark _)) (Bo.pe_cqS x_times (hr.mono (by decide)) (by rfl) (fun σ => L2N.passAt tk σ) (pa_cons (pv 1) (pa_cons pe_non pa_nil))) (pe_ifExp (pt_cmpR op_eq (pv 0) pe_int (nomark _)) (Bo.pe_cqS x_turns (hr.mono (by decide)) (by rfl) (fun σ => L2N.passAt tk σ) (pa_cons (pv 1) pa_nil)) (Bo.pe_cqS x_written (hr.mono (by decide)) (by rfl) (fun σ => L2N.passAt tk σ) (pa_cons (pv 1) pa_nil))))))) pss_nil) (pss_one (ps_ret (pe_ifExp (pt_cmpR op_eq (pv 0) pe_int (nomark _)) (Bo.pe_cqS x_exchanged (hr.mono (by decide)) (by rfl) (fun σ => L2N.passAt tk σ) (pa_cons (pv 1) pa_nil)) (pe_ifExp (pt_cmpR op_eq (pv 0) pe_int (nomark _)) (Bo.pe_cqS x_fronted (hr.mono (by decide)) (by rfl) (fun σ => L2N.passAt tk σ) (pa_cons (pv 1) pa_nil)) (pe_ifExp (pt_cmpR op_eq (pv 0) pe_int (nomark _)) (Bo.pe_cqS x_ended (hr.mono (by decide)) (by rfl) (fun σ => L2N.passAt tk σ) (pa_cons (pv 1) pa_nil)) (Bo.pe_cqS x_put (hr.mono (by decide)) (by rfl) (fun σ => L2N.passAt tk σ) (pa_cons (pv 1) pa_nil))))))))), ?_⟩
    walk_at "k"
    walk_at "go"
    refine ite_dec (fun c => ?_) (fun c => ?_)
    · walk_at "go"
      refine ite_dec (fun c1 => ?_) (fun c1 => ?_)
      · refine e_callS ?_
        walk_at "go"
        refine l_new (by show 1 ≤ sizeLine; decide) fun p np => ?_
        walk_at "go"
        exact ⟨_, ⟨x, .ref p, rfl, .inl ⟨rfl, bad.same (Same.one np)⟩⟩, fun H2 s2 => q H2 ((Same.one np).trans s2)⟩
      · refine e_callS ?_
        walk_at "go"
        refine l_new (by show 1 ≤ sizeLine; decide) fun p np => ?_
        walk_at "go"
        exact ⟨_, ⟨.ref p, x, rfl, .inr (.inl ⟨rfl, ⟨p, [0], rfl, SqL.of upd_same, ⟨by decide, by decide, by decide⟩⟩, bad.same (Same.one np)⟩)⟩, fun H2 s2 => q H2 ((Same.one np).trans s2)⟩
    walk_at "go"
    refine ite_dec (fun c => ?_) (fun c => ?_)
    · walk_at "go"
      refine ite_dec (fun c1 => ?_) (fun c1 => ?_)
      · refine e_callS ?_
        walk_at "go"
        exact ⟨_, ⟨rfl, x, rfl, bad⟩, q⟩
      · refine e_callS ?_
        walk_at "go"
        exact ⟨_, ⟨rfl, x, rfl, bad⟩, q⟩
    walk_at "go"
    refine ite_dec (fun c => ?_) (fun c => ?_)
    · walk_at "go"
      refine ite_dec (fun c1 => ?_) (fun c1 => ?_)
      · refine e_callS ?_
        walk_at "go"
        exact ⟨_, ⟨rfl, x, rfl, bad⟩, q⟩
      walk_at "go"
      refine ite_dec (fun c1 => ?_) (fun c1 => ?_)
      · refine e_callS ?_
        walk_at "go"
        exact ⟨_, ⟨x, .non, rfl, .inl ⟨rfl, bad⟩⟩, q⟩
      walk_at "go"
      refine ite_dec (fun c1 => ?_) (fun c1 => ?_)
      · refine e_callS ?_
        walk_at "go"
        exact ⟨_, ⟨rfl, x, rfl, bad⟩, q⟩
      · refine e_callS ?_
        walk_at "go"
        exact ⟨_, ⟨rfl, x, rfl, bad⟩, q⟩
    walk_at "go"
    refine ite_dec (fun c1 => ?_) (fun c1 => ?_)
    · refine e_callS ?_
      walk_at "go"
      exact ⟨_, ⟨rfl, x, rfl, bad⟩, q⟩
    walk_at "go"
    refine ite_dec (fun c1 => ?_) (fun c1 => ?_)
    · refine e_callS ?_
      walk_at "go"
      exact ⟨_, ⟨rfl, x, rfl, bad⟩, q⟩
    walk_at "go"
    refine ite_dec (fun c1 => ?_) (fun c1 => ?_)
    · refine e_callS ?_
      walk_at "go"
      exact ⟨_, ⟨rfl, x, rfl, bad⟩, q⟩
    · refine e_callS ?_
      walk_at "go"
      exact ⟨_, ⟨rfl, x, rfl, bad⟩, q⟩
end
end Bo

namespace Bo
open PySem PySem.Spec PyProof.Rows L2
/-- what is known of the class of a refusal -/
structure Kinds (K : PySem.W.Frag) (C1 C2 C3 C4 C5 C0 D : Addr) (bs : List Bool) : Prop where
  ec : ExcC K D
  em : PySem.W.exmOne K (.ref D) (.ref C0) = some true
  ks : ∃ b1 b2 b3 b4 b5 b6, bs = [b1, b2, b3, b4, b5, b6] ∧ PySem.W.kitOne K (.ref D) (.ref C1) = some b1 ∧ PySem.W.kitOne K (.ref D) (.ref C2) = some b2 ∧ PySem.W.kitOne K (.ref D) (.ref C3) = some b3 ∧
    PySem.W.kitOne K (.ref D) (.ref C4) = some b4 ∧ PySem.W.kitOne K (.ref D) (.ref C5) = some b5 ∧ PySem.W.kitOne K (.ref D) (.type "ValueError") = some b6
/-! ### steps of a reading: each a row of its own -/
local macro_rules | `(tactic| walk_at "ne") => `(tactic| first
  | assumption
  | (apply Ne.symm; assumption)
  | (apply neo; assumption; walk_at "hp")
  | (apply Ne.symm; apply neo; assumption; walk_at "hp"))
local macro_rules | `(tactic| walk_at "hp") => `(tactic| first
  | assumption
  | exact upd_same
  | (apply lift_ne; walk_at "hp"; walk_at "ne")
  | (apply Same.up; assumption; walk_at "hp"))
local macro_rules | `(tactic| walk_at "same") => `(tactic| first
  | assumption
  | exact Same.refl _
  | (apply Same.new; walk_at "same"; walk_at "fr")
  | (apply same_trans; assumption; walk_at "same"))
local macro_rules | `(tactic| walk_at "fr") => `(tactic| first
  | assumption
  | (apply same_free; assumption; walk_at "same"))
local macro_rules | `(tactic| walk_at "sq") => `(tactic| first
  | assumption
  | (apply SqL.of; walk_at "hp")
  | (apply same_seq; assumption; walk_at "same"))
local macro_rules | `(tactic| walk_at "sqt") => `(tactic| first
  | assumption
  | (apply SqT.of; walk_at "hp")
  | (apply same_sqt; assumption; walk_at "same"))
local macro_rules | `(tactic| walk_at "nw") => `(tactic| first
  | assumption
  | (apply News.mut; walk_at "nw"; (first | assumption | (refine News.notin (by assumption) ?_; assumption)))
  | (apply News.same; walk_at "nw"; walk_at "same"))
/-! one step -/
local macro_rules | `(tactic| walk_at "go1") => `(tactic| first
  | with_reducible refine r_seq ?_
  | with_reducible refine r_asgN ?_
  | with_reducible refine r_set ?_
  | with_reducible refine r_ret ?_
  | with_reducible refine r_drop ?_
  | with_reducible refine r_if ?_
  | with_reducible refine r_next ?_
  | ((with_reducible apply r_nxD); with_reducible refine r_nx ?_)
  | ((with_reducible apply r_rtD); with_reducible refine r_rt ?_)
  | with_reducible refine r_par ?_
  | with_reducible refine k_par ?_
  | with_reducible refine r_fld ?_
  | ((with_reducible apply r_aug); exact rfl)
  | with_reducible refine i_ip ?_
  | ((with_reducible apply e_var); exact rfl)
  | with_reducible refine e_c ?_
  | with_reducible refine e_op ?_
  | with_reducible refine e_un ?_
  | with_reducible refine o_I0 ?_
  | with_reducible refine o_neg ?_
  | with_reducible refine o_eqI ?_
  | with_reducible refine o_neI ?_
  | with_reducible refine o_eqB ?_
  | with_reducible refine o_neB ?_
  | with_reducible refine o_eqS ?_
  | with_reducible refine o_neS ?_
  | with_reducible refine a_nil ?_
  | with_reducible refine a_cons ?_
  | with_reducible refine e_cb ?_
  | with_reducible refine e_call ?_
  | with_reducible refine e_make ?_
  | with_reducible refine e_meth ?_
  | with_reducible refine e_fld ?_
  | with_reducible refine e_lst ?_
  | with_reducible refine e_tup ?_
  | with_reducible refine e_bm ?_
  | with_reducible refine e_bm0 ?_
  | with_reducible refine e_rev ?_
  | with_reducible refine e_sl ?_
  | with_reducible refine e_nopart ?_
  | with_reducible refine e_part ?_
  | with_reducible refine i_ok ?_
  | with_reducible refine e_lenset ?_
  | with_reducible refine e_listRg1 ?_
  | with_reducible refine t_test ?_
  | with_reducible refine t_B ?_
  | with_reducible refine b_ok ?_
  | with_reducible refine t_and ?_
  | with_reducible refine t_or ?_
  | with_reducible refine t_not ?_
  | with_reducible refine v_and ?_
  | with_reducible refine v_or ?_
  | with_reducible refine v_not ?_
  | with_reducible refine e_if ?_
  | with_reducible refine e_chain ?_
  | with_reducible refine e_chain3 ?_
  | with_reducible refine iteT ?_
  | with_reducible refine iteF ?_
  | with_reducible refine ite_nT ?_
  | with_reducible refine ite_nF ?_
  | with_reducible refine r_forL ?_
  | with_reducible refine r_forT ?_
  | with_reducible refine r_forE ?_
  | with_reducible refine r_forR1 ?_
  | with_reducible refine r_forR2 ?_
  | with_reducible refine e_lcL ?_
  | with_reducible refine e_lcR1 ?_
  | with_reducible refine e_lcR2 ?_
  | with_reducible refine r_dput ?_
  | with_reducible refine e_dget ?_
  | with_reducible refine e_dnin ?_
  | with_reducible refine c_max2 ?_
  | with_reducible refine c_min2 ?_
  | ((with_reducible apply c_isiI); (first | exact (show kitB "int" _ = some true by decide +kernel) | exact (show kitB "int" _ = some false by decide +kernel)))
  | ((with_reducible apply m_ty); walk_at "sq"))
local macro_rules | `(tactic| walk_at "go2") => `(tactic| first
  | ((with_reducible apply o_ixI); walk_at "sq"; omega)
  | ((with_reducible refine o_mod ?_ ?_); omega)
  | ((with_reducible refine o_fdiv ?_ ?_); omega)
  | ((with_reducible refine o_mulR ?_ ?_); omega)
  | ((with_reducible refine o_mulL ?_ ?_); omega)
  | ((with_reducible apply c_lenM); walk_at "sq")
  | ((with_reducible apply c_all); walk_at "sq")
  | ((with_reducible apply c_any); walk_at "sq")
  | ((with_reducible apply o_in); walk_at "sq")
  | ((with_reducible apply o_nin); walk_at "sq")
  | ((with_reducible apply o_ixB); walk_at "sq"; omega)
  | ((with_reducible apply m_setB); walk_at "hp"; omega)
  | ((with_reducible apply m_appR); walk_at "hp"; omega)
  | ((with_reducible apply m_ins); walk_at "hp"; omega; omega)
  | ((with_reducible apply m_appM); walk_at "hp"; exact rfl; omega)
  | ((with_reducible apply m_setI); walk_at "hp"; omega))
local macro_rules | `(tactic| walk_at "d") => `(tactic| try dsimp only)
local macro_rules | `(tactic| walk_at "k") => `(tactic| try dsimp only [cxOf, Cx.nox, Cx.blk])
local macro_rules | `(tactic| walk_at "go") => `(tactic| repeat (first | walk_at "go1" | walk_at "go2"))

section
variable {P : Program} {w : World} {K : PySem.W.Frag} {mg : Str → Option Value} {base : Heap} {C_Exchanged C_Fronted C_Ended C_Put C_Answer C_OrderError C_BadRow C_BadNumber C_BadRings C_Unlike C_BadText : Addr} (T : Top K mg C_Exchanged C_Fronted C_Ended C_Put C_Answer C_OrderError C_BadRow C_BadNumber C_BadRings C_Unlike C_BadText)
include T
def sp_kinds (K : PySem.W.Frag) (C1 C2 C3 C4 C5 C0 : Addr) : Addr → Value → Option Addr → Sp := fun a cls d vs H Q _ => ∃ D bs, vs = [.ref a] ∧ cls = .ref D ∧ d = none ∧ Kinds K C1 C2 C3 C4 C5 C0 D bs ∧ ∀ p H', Same H H' → H p = none → H' p = some (.lst (bs.map V.bl)) → Q (.ref p) H'
theorem okP__law_kinds : CcP P w K mg base 1 "_law_kinds" (sp_kinds K C_BadRow C_BadNumber C_BadRings C_Unlike C_BadText C_OrderError) := by
  refine CcP.mk' T.d__law_kinds sc__law_kinds ?_ ?_
  · rintro a cls d vs H Q E ⟨D, bs, rfl, _⟩; rfl
  · rintro f cdv A outer s H vs Q E ⟨a, oe⟩ cls d hot hz ⟨D, bs, rfl, rfl, rfl, ⟨ec, em, b1, b2, b3, b4, b5, b6, rfl, k1, k2, k3, k4, k5, k6⟩, q⟩
    obtain ⟨hh, v1, hv, hc⟩ := hot
    refine ⟨_, pss_cons (ps_set (i := 1) sc__law_kinds.nd rfl (by first | exact Or.inl rfl | exact Or.inr rfl) (pe_lst (pa_cons (pe_callB (r := rIsE K D a) (call_isP ec hz.zc ⟨v1, hv⟩ (List.mem_cons_self)) (by rfl) T.b_isinstance PyProof.Rows.boot_isinstance (pa_cons (pv 0) (pa_cons (pe_glob (v := .ref C_BadRow) (by rfl) T.c_BadRow rfl) pa_nil))) (pa_cons (pe_callB (r := rIsE K D a) (call_isP ec hz.zc ⟨v1, hv⟩ (List.mem_cons_self)) (by rfl) T.b_isinstance PyProof.Rows.boot_isinstance (pa_cons (pv 0) (pa_cons (pe_glob (v := .ref C_BadNumber) (by rfl) T.c_BadNumber rfl) pa_nil))) (pa_cons (pe_callB (r := rIsE K D a) (call_isP ec hz.zc ⟨v1, hv⟩ (List.mem_cons_self)) (by rfl) T.b_isinstance PyProof.Rows.boot_isinstance (pa_cons (pv 0) (pa_cons (pe_glob (v := .ref C_BadRings) (by rfl) T.c_BadRings rfl) pa_nil))) pa_nil))))) (pss_one (ps_ret (pe_op op_cat (pv 1) (pe_lst (pa_cons (pe_callB (r := rIsE K D a) (call_isP ec hz.zc ⟨v1, hv⟩ (List.mem_cons_self)) (by rfl) T.b_isinstance PyProof.Rows.boot_isinstance (pa_cons (pv 0) (pa_cons (pe_glob (v := .ref C_Unlike) (by rfl) T.c_Unlike rfl) pa_nil))) (pa_cons (pe_callB (r := rIsE K D a) (call_isP ec hz.zc ⟨v1, hv⟩ (List.mem_cons_self)) (by rfl) T.b_isinstance PyProof.Rows.boot_isinstance (pa_cons (pv 0) (pa_cons (pe_glob (v := .ref C_BadText) (by rfl) T.c_BadText rfl) pa_nil))) (pa_cons (pe_callB (r := rIsE K D a) (call_isP ec hz.zc ⟨v1, hv⟩ (List.mem_cons_self)) (by rfl) T.b_isinstance PyProof.Rows.boot_isinstance (pa_cons (pv 0) (pa_cons (pe_bltn (v := .ty "ValueError") (by rfl) T.b_ValueError boot_ValueError rfl) pa_nil))) pa_nil))))))), ?_⟩
    walk_at "d"
    walk_at "go"
    refine c_isE k1 ?_
    walk_at "go"
    refine c_isE k2 ?_
    walk_at "go"
    refine c_isE k3 ?_
    walk_at "go"
    refine l_new (by show 3 ≤ sizeLine; decide) fun p1 n1 => ?_
    have h1 : (upd H p1 (.lst [.bl b1, .bl b2, .bl b3])) p1 = some (.lst ([b1, b2, b3].map V.bl)) := upd_same
    have s1 : Same H (upd H p1 (.lst [.bl b1, .bl b2, .bl b3])) := Same.one n1
    generalize upd H p1 (.lst [.bl b1, .bl b2, .bl b3]) = H1 at h1 s1
    walk_at "go"
    refine c_isE k4 ?_
    walk_at "go"
    refine c_isE k5 ?_
    walk_at "go"
    refine c_isET k6 ?_
    walk_at "go"
    refine l_new (by show 3 ≤ sizeLine; decide) fun p2 n2 => ?_
    have h2 : (upd H1 p2 (.lst [.bl b4, .bl b5, .bl b6])) p2 = some (.lst ([b4, b5, b6].map V.bl)) := upd_same
    have s2 : Same H1 (upd H1 p2 (.lst [.bl b4, .bl b5, .bl b6])) := Same.one n2
    generalize upd H1 p2 (.lst [.bl b4, .bl b5, .bl b6]) = H2 at h2 s2
    refine o_cat (f := V.bl) (xs := [b1, b2, b3]) (zs := [b4, b5, b6]) (s2 _ _ h1) h2 (by simp) fun p3 n3 => ?_
    have s02 := s1.trans s2
    walk_at "go"
    exact q p3 _ (Same.new s02 (s02.free n3)) (s02.free n3) upd_same
def sp_told (P : Program) (w : World) (K : PySem.W.Frag) (mg : Str → Option Value) (base : Heap) (C1 C2 C3 C4 C5 C0 : Addr) : Sp := fun vs H Q _ => ∃ (f : Addr) (pre : List V → Hp → Addr → Prop) (x y : V) (D : Addr) (bs : List Bool), vs = [.ref f, x, y] ∧ HeldR P w K mg base 4 f pre ∧ pre [x, y] H D ∧ Kinds K C1 C2 C3 C4 C5 C0 D bs ∧
  ∀ p H', Same H H' → H p = none → H' p = some (.lst (bs.map V.bl)) → Q (.ref p) H'
theorem ok__law_told : Cc P w K mg base 5 "_law_told" (sp_told P w K mg base C_BadRow C_BadNumber C_BadRings C_Unlike C_BadText C_OrderError) := by
  have x_kinds := okP__law_kinds (P := P) (w := w) (base := base) T
  refine Cc.mk' T.d__law_told sc__law_told ?_ ?_
  · rintro vs H Q E ⟨f, pre, x, y, D, bs, rfl, _⟩; rfl
  · rintro f' cdv A outer s H vs Q E hr ⟨f, pre, x, y, D, bs, rfl, B, hp, kn, q⟩
    refine ⟨_, pss_cons (L2N.ps_try_as (i := 3) (tb := fun W => tDrop (tCallR 0 P w K mg base 4 (WE W) (tCons (tVar 1) (tCons (tVar 2) tNil)))) (ts := fun a cls d => tRet (tCall (sp_kinds K C_BadRow C_BadNumber C_BadRings C_Unlike C_BadText C_OrderError a cls d) [] L2.E0 (tCons (tVar 3) tNil))) (Wout := fun _ _ _ _ => False)
        rfl rfl sc__law_told.nd rfl rfl ⟨rfl, by decide, .inl T.c_OrderError⟩ takesN0
        (fun W pn xe tk _ => pss_one (ps_expr (by exact (pe_callR (i := 0) hr rfl (.inl rfl) (fun σ => L2N.passAt tk σ) (pa_cons (pv 1) (pa_cons (pv 2) pa_nil))))))
        (fun a oe cls d pn hz hf => pss_one (ps_ret (by exact (pe_callP x_kinds (hr.mono (by decide)) hz hf (by rfl) (pa_cons (pv 3) pa_nil))))))
      (pss_one (ps_ret (pe_lst pa_nil))), ?_⟩
    walk_at "k"
    refine r_seq ?_
    refine r_drop ?_
    refine e_callR rfl B ?_
    walk_at "go"
    refine ⟨D, hp, fun H1 s1 => ⟨true, kn.em, fun _ a na => ?_, fun z => nomatch z⟩⟩
    walk_at "go"
    exact ⟨D, bs, rfl, rfl, rfl, kn, fun p H2 s2 np h2 => q p H2 (s1.trans s2) (s1.free np) h2⟩
def sp_all (P : Program) (w : World) (K : PySem.W.Frag) (mg : Str → Option Value) (base : Heap) (C1 C2 C3 C4 C5 C0 : Addr) : Sp := fun vs H Q _ => ∃ (f ad at_ au : Addr) (pre : List V → Hp → Addr → Prop) (ds : List Int) (xs : List V) (D : Addr) (bs : List Bool), vs = [.ref f, .ref ad, .ref at_, .ref au] ∧ HeldR P w K mg base 4 f pre ∧
  SqL K H ad (ds.map V.int) ∧ SqL K H at_ xs ∧ SqL K H au (bs.map V.bl) ∧ xs.length ≤ 1000 ∧ (∀ d ∈ ds, ∀ x ∈ xs, ∀ H', Same H H' → pre [.int d, x] H' D) ∧ Kinds K C1 C2 C3 C4 C5 C0 D bs ∧ ∀ H', Same H H' → Q (.bl true) H'
theorem ok__law_all : Cc P w K mg base 6 "_law_all" (sp_all P w K mg base C_BadRow C_BadNumber C_BadRings C_Unlike C_BadText C_OrderError) := by
  have c__law_told := ok__law_told (P := P) (w := w) (base := base) T
  refine Cc.mk' T.d__law_all sc__law_all ?_ ?_
  · rintro vs H Q E ⟨f, ad, at_, au, pre, ds, xs, D, bs, rfl, _⟩; rfl
  · rintro f' cdv A outer s H vs Q E hr ⟨f, ad, at_, au, pre, ds, xs, D, bs, rfl, B, hD, hX, hU, hl, hp, kn, q⟩
    refine ⟨_, (pss_cons (ps_for PassesOwn.never rfl (pi_list (pv 1)) (pg_name (i := 4) sc__law_all.nd rfl (by first | exact Or.inl rfl | exact Or.inr rfl)) (pss_one (ps_if (pt_not (pt_val (pe_callB (r := rAll K) (cr_all rfl) (by rfl) T.b_all PyProof.Rows.boot_all (pa_cons (pe_lc (own := [("_law_thing", 5)]) (g := gName 5) (tt := tYes) rfl sc__law_all.nd (pi_list (pv 2)) (blkOk_by (own := [("_law_thing", 5)]) (N := N__law_all) (sc := defScope s__law_all) (by decide +kernel)) (fun _ _ _ _ _ => (pg_name (i := 5) sc__law_all.nd rfl (Or.inl rfl))) (fun _ _ _ _ _ => pts_nil) (fun _ _ _ _ _ => (pe_cmpR (r := rEqD K) (op_eqD hr.units) (pe_cc c__law_told (hr.mono (by decide)) (by rfl) (pa_cons (pv 0) (pa_cons (pv 4) (pa_cons (pv 5) pa_nil)))) (pv 3) (nomark _)))) pa_nil)))) (pss_one (ps_ret pe_bl)) pss_nil)))
      (pss_one (ps_ret pe_bl))), ?_⟩
    walk_at "k"
    walk_at "go"
    refine k_lstN (f := V.int) ds (fun i σ H' => ∃ v4, σ = [some (.ref f), some (.ref ad), some (.ref at_), some (.ref au), v4, none] ∧ Same H H') hD ⟨none, rfl, Same.refl _⟩ (fun i σ H' _ ⟨_, _, s⟩ => s.seq hD) ?_ ?_
    · rintro i d σ H' hd ⟨v4, rfl, s1⟩
      walk_at "d"
      walk_at "go"
      refine k_lcV (xs := xs) (f := id) (h := V.bl) (fun _ => true) (by rw [List.map_id]; exact s1.seq hX) (by omega) (fun _ => rfl) ?_ ?_
      · intro j x H2 R' hx s2 k2
        walk_at "go"
        refine ⟨f, pre, .int d, x, D, bs, rfl, B, hp d (List.mem_of_getElem? hd) x (List.mem_of_getElem? hx) H2 (s1.trans s2), kn, fun p H3 s3 np h3 => ?_⟩
        walk_at "go"
        refine o_eqBs (ns := bs) (ms := bs) (SqL.of h3) (((s1.trans s2).trans s3).seq hU) ?_
        rw [decide_eq_true rfl]
        exact k2 H3 s3
      · intro pd H2 nD s2 hD2
        walk_at "go"
        rw [show ((xs.map fun _ => true).all id) = true from by rw [List.all_map]; exact List.all_eq_true.mpr fun _ _ => rfl]
        walk_at "go"
        exact ⟨_, rfl, s1.trans s2⟩
    · rintro σ H' ⟨v4, rfl, s1⟩
      walk_at "d"
      walk_at "go"
      exact q _ s1
end
end Bo

/-! the rings of a row: the mathematics -/
namespace Bo
open PySem L2
theorem perm_of_mem : ∀ {l m : List Int}, l.Nodup → m.Nodup → (∀ x, x ∈ l ↔ x ∈ m) → l.Perm m
  | [], m, _, _, h => by
    have : m = [] := List.eq_nil_iff_forall_not_mem.mpr fun x hx => by simpa using (h x).mpr hx
    subst this; exact .nil
  | a :: l, m, hl, hm, h => by
    have ha : a ∈ m := (h a).mp (by simp)
    have hl' := List.nodup_cons.mp hl
    have p := List.perm_cons_erase ha
    refine .trans (.cons a ?_) p.symm
    refine perm_of_mem hl'.2 (hm.erase a) fun x => ?_
    rw [hm.mem_erase_iff]
    constructor
    · intro hx
      exact ⟨fun e => hl'.1 (e ▸ hx), (h x).mp (List.mem_cons_of_mem _ hx)⟩
    · rintro ⟨n, hx⟩
      rcases List.mem_cons.mp ((h x).mpr hx) with e | e
      · exact absurd e n
      · exact e
theorem gb_false_get {met : List Bool} {t : Int} (h : gb met t = false) (h0 : 0 ≤ t) : t < met.length := by
  unfold gb at h
  rw [List.getD_eq_getElem?_getD] at h
  by_cases c : t.toNat < met.length
  · omega
  · rw [List.getElem?_eq_none (by omega)] at h
    cases h
theorem gb_set {met : List Bool} {t x : Int} (h0 : 0 ≤ t) (h1 : t < met.length) (hx : 0 ≤ x) : gb (met.set t.toNat true) x = true ↔ gb met x = true ∨ x = t := by
  unfold gb
  rw [List.getD_eq_getElem?_getD, List.getD_eq_getElem?_getD]
  by_cases c : x = t
  · subst c
    rw [List.getElem?_set_self (by omega)]
    simp
  · rw [List.getElem?_set_ne (by omega)]
    simp [c]
theorem gt_inj {row : List Int} (R : IsRow row) {x y : Int} (hx : 0 ≤ x ∧ x < row.length) (hy : 0 ≤ y ∧ y < row.length) (e : gt row x = gt row y) : x = y := by
  have h1 : row[x.toNat]? = some (gt row x) := by
    have := gt_some (ns := row) (i := x.toNat) (by omega)
    rwa [show ((x.toNat : Nat) : Int) = x by omega] at this
  have h2 : row[y.toNat]? = some (gt row y) := by
    have := gt_some (ns := row) (i := y.toNat) (by omega)
    rwa [show ((y.toNat : Nat) : Int) = y by omega] at this
  rw [e] at h1
  have := nd_ix R.nd h1 h2
  omega
theorem gt_bd {row : List Int} (R : IsRow row) {x : Int} (hx : 0 ≤ x ∧ x < row.length) : 0 ≤ gt row x ∧ gt row x < row.length := R.bd _ (gt_mem (by omega) (by omega))
/-- on the way round a ring -/
structure RI (row : List Int) (met0 : List Bool) (t0 : Int) (met : List Bool) (t : Int) (ring : List Int) : Prop where
  len : met.length = row.length
  mem : ∀ x : Int, 0 ≤ x → (gb met x = true ↔ gb met0 x = true ∨ x ∈ ring)
  nd : ring.Nodup
  out : ∀ x ∈ ring, gb met0 x = false
  bd : ∀ x ∈ ring, 0 ≤ x ∧ x < row.length
  bt : 0 ≤ t ∧ t < row.length
  ch : ∀ k, k + 1 < ring.length → gt row (ring.getD k 0) = ring.getD (k + 1) 0
  st : ring = [] ∧ t = t0 ∨ ring ≠ [] ∧ ring.getD 0 0 = t0 ∧ t = gt row (ring.getD (ring.length - 1) 0)
theorem getD_app {l : List Int} {x : Int} {k : Nat} (h : k < l.length) : (l ++ [x]).getD k 0 = l.getD k 0 := by
  rw [List.getD_eq_getElem?_getD, List.getD_eq_getElem?_getD, List.getElem?_append_left h]
theorem getD_last {l : List Int} {x : Int} : (l ++ [x]).getD l.length 0 = x := by
  rw [List.getD_eq_getElem?_getD, List.getElem?_append_right (Nat.le_refl _)]; simp
theorem RI.next {row : List Int} (R : IsRow row) {met0 met : List Bool} {t0 t : Int} {ring : List Int} (I : RI row met0 t0 met t ring) (h : gb met t = false) : RI row met0 t0 (met.set t.toNat true) (gt row t) (ring ++ [t]) := by
  have hl := I.len
  have bt := I.bt
  have nt : ¬ (gb met0 t = true ∨ t ∈ ring) := fun z => by
    have := (I.mem t bt.1).mpr z
    rw [h] at this; cases this
  refine ⟨by rw [List.length_set]; exact I.len, fun x hx => ?_, ?_, fun x hx => ?_, fun x hx => ?_, gt_bd R bt, fun k hk => ?_, .inr ⟨by simp, ?_, ?_⟩⟩
  · rw [gb_set bt.1 (by omega) hx, I.mem x hx, List.mem_append, List.mem_singleton, or_assoc]
  · exact List.nodup_append.mpr ⟨I.nd, by simp, fun a ha b hb => by
      have : b = t := by simpa using hb
      subst this
      exact fun e => nt (.inr (e ▸ ha))⟩
  · rcases List.mem_append.mp hx with hx | hx
    · exact I.out x hx
    · have : x = t := by simpa using hx
      subst this
      cases e : gb met0 x with
      | false => rfl
      | true => exact absurd (.inl e) nt
  · rcases List.mem_append.mp hx with hx | hx
    · exact I.bd x hx
    · have : x = t := by simpa using hx
      subst this; exact bt
  · rw [List.length_append, List.length_singleton] at hk
    by_cases c : k + 1 < ring.length
    · rw [getD_app (by omega), getD_app c]; exact I.ch k c
    · have e : k + 1 = ring.length := by omega
      rw [getD_app (by omega), e, getD_last]
      rcases I.st with ⟨e1, _⟩ | ⟨_, _, e2⟩
      · subst e1; simp at e
      · rw [e2, ← e]; rfl
  · rcases I.st with ⟨e1, e2⟩ | ⟨e1, e2, _⟩
    · subst e1 e2; rfl
    · rw [getD_app (List.length_pos_iff.mpr e1)]; exact e2
  · rw [List.length_append, List.length_singleton, Nat.add_sub_cancel, getD_last]
theorem gb_all {met : List Bool} (h : met.count false = 0) (t : Int) : gb met t = true := by
  unfold gb
  rw [List.getD_eq_getElem?_getD]
  cases e : met[t.toNat]? with
  | none => rfl
  | some b =>
    cases b with
    | true => rfl
    | false =>
      have : false ∈ met := List.mem_of_getElem? e
      exact absurd (List.count_pos_iff.mpr this) (by omega)
theorem RI.run {row : List Int} (R : IsRow row) {met0 : List Bool} {t0 : Int} : ∀ (n : Nat) (met : List Bool) (t : Int) (ring : List Int), met.count false = n → RI row met0 t0 met t ring →
    ∃ t', RI row met0 t0 (ringFrom row n met t ring).1 t' (ringFrom row n met t ring).2 ∧ gb (ringFrom row n met t ring).1 t' = true
  | 0, met, t, ring, hn, I => ⟨t, I, gb_all hn t⟩
  | n + 1, met, t, ring, hn, I => by
    by_cases c : gb met t = true
    · have e : ringFrom row (n + 1) met t ring = (met, ring) := by unfold ringFrom; rw [if_pos c]
      rw [e]; exact ⟨t, I, c⟩
    · have c' : gb met t = false := by simpa using c
      have e : ringFrom row (n + 1) met t ring = ringFrom row n (met.set t.toNat true) (gt row t) (ring ++ [t]) := by
        conv => lhs; unfold ringFrom
        rw [if_neg c]
      rw [e]
      have hg := gb_get (met := met) (t := t) (by rw [I.len]; exact I.bt)
      rw [c'] at hg
      have := count_set hg
      exact RI.run R n _ _ _ (by omega) (I.next R c')
/-- a whole ring -/
structure Ring (row r : List Int) : Prop where
  ne : r ≠ []
  bd : ∀ x ∈ r, 0 ≤ x ∧ x < row.length
  ch : ∀ k, k + 1 < r.length → gt row (r.getD k 0) = r.getD (k + 1) 0
  cl : gt row (r.getD (r.length - 1) 0) = r.getD 0 0
theorem getD_mem {l : List Int} {k : Nat} (h : k < l.length) : l.getD k 0 ∈ l := List.mem_of_getElem? (getD_some h)
theorem mem_getD {l : List Int} {x : Int} (h : x ∈ l) : ∃ k, k < l.length ∧ l.getD k 0 = x := by
  obtain ⟨k, hk, e⟩ := List.mem_iff_getElem.mp h
  exact ⟨k, hk, by rw [List.getD_eq_getElem?_getD, List.getElem?_eq_getElem hk]; exact e⟩
theorem getD_inj {l : List Int} (hn : l.Nodup) {i j : Nat} (hi : i < l.length) (hj : j < l.length) (e : l.getD i 0 = l.getD j 0) : i = j :=
  nd_ix hn (getD_some hi) (by rw [e]; exact getD_some hj)
/-- what a turn of the outer loop gives -/
theorem RI.done {row : List Int} (R : IsRow row) {met0 met : List Bool} {t0 t : Int} {ring : List Int} (I : RI row met0 t0 met t ring) (h : gb met t = true) (bk : ∀ y : Int, 0 ≤ y ∧ y < row.length → gb met0 (gt row y) = true → gb met0 y = true) :
    (ring = [] ∧ gb met0 t0 = true ∧ (∀ x : Int, 0 ≤ x → (gb met x = true ↔ gb met0 x = true))) ∨ (Ring row ring ∧ ring.getD 0 0 = t0 ∧ (∀ y : Int, 0 ≤ y ∧ y < row.length → gb met (gt row y) = true → gb met y = true)) := by
  rcases I.st with ⟨e1, e2⟩ | ⟨e1, e2, e3⟩
  · subst e1 e2
    refine .inl ⟨rfl, ?_, fun x hx => by rw [I.mem x hx]; simp⟩
    have := (I.mem t I.bt.1).mp h
    simpa using this
  · have hp := List.length_pos_iff.mpr e1
    have hlast := getD_mem (l := ring) (k := ring.length - 1) (by omega)
    have bl := I.bd _ hlast
    have et : t = t0 := by
      rcases (I.mem t I.bt.1).mp h with z | z
      · rw [e3] at z
        have := bk _ bl z
        rw [I.out _ hlast] at this; cases this
      · obtain ⟨k, hk, ek⟩ := mem_getD z
        cases k with
        | zero => rw [← ek, e2]
        | succ k =>
          have c := I.ch k hk
          rw [ek, e3] at c
          have hk' := getD_mem (l := ring) (k := k) (by omega)
          have := getD_inj I.nd (by omega) (by omega) (gt_inj R (I.bd _ hk') bl c)
          omega
    refine .inr ⟨⟨e1, I.bd, I.ch, by rw [← e3, et, e2]⟩, e2, fun y hy z => ?_⟩
    rcases (I.mem _ (gt_bd R hy).1).mp z with z | z
    · exact (I.mem y hy.1).mpr (.inl (bk y hy z))
    · refine (I.mem y hy.1).mpr (.inr ?_)
      obtain ⟨k, hk, ek⟩ := mem_getD z
      cases k with
      | zero =>
        have : y = ring.getD (ring.length - 1) 0 := gt_inj R hy bl (by rw [← ek, e2, ← et, e3])
        rw [this]; exact hlast
      | succ k =>
        have hk' := getD_mem (l := ring) (k := k) (by omega)
        have : y = ring.getD k 0 := gt_inj R hy (I.bd _ hk') (by rw [I.ch k hk, ek])
        rw [this]; exact hk'
/-- behind i turns of the outer loop -/
structure RO (row : List Int) (i : Nat) (met : List Bool) (found : List (List Int)) : Prop where
  len : met.length = row.length
  mem : ∀ x : Int, 0 ≤ x → x < row.length → (gb met x = true ↔ x ∈ found.flatten)
  nd : found.flatten.Nodup
  rg : ∀ r ∈ found, Ring row r
  below : ∀ x : Int, 0 ≤ x → x < i → x < row.length → gb met x = true
  bk : ∀ y : Int, 0 ≤ y ∧ y < row.length → gb met (gt row y) = true → gb met y = true
  least : ∀ r ∈ found, ∀ x ∈ r, r.getD 0 0 ≤ x
  up : (found.map fun r => r.getD 0 0).Pairwise (· < ·)
  heads : ∀ r ∈ found, r.getD 0 0 < i
theorem RO.all {row : List Int} (R : IsRow row) : ∀ i, i ≤ row.length → RO row i (ringsAux row i).1 (ringsAux row i).2
  | 0, _ => by
    have e : ∀ x : Int, 0 ≤ x → x < row.length → gb (row.map fun _ => false) x = false := fun x h0 h1 => by
      unfold gb
      rw [List.getD_eq_getElem?_getD, List.getElem?_map, List.getElem?_eq_getElem (by omega)]; rfl
    refine ⟨by simp [ringsAux], fun x h0 h1 => ?_, by simp [ringsAux], by simp [ringsAux], fun x h0 h1 _ => by omega, fun y hy z => ?_, by simp [ringsAux], by simp [ringsAux], by simp [ringsAux]⟩
    · show gb (row.map fun _ => false) x = true ↔ x ∈ ([] : List (List Int)).flatten
      rw [e x h0 h1]; simp
    · have z' : gb (row.map fun _ => false) (gt row y) = true := z
      have := gt_bd R hy
      rw [e _ this.1 this.2] at z'; cases z'
  | i + 1, hi => by
    have O := RO.all R i (by omega)
    have I0 : RI row (ringsAux row i).1 i (ringsAux row i).1 i [] := ⟨O.len, fun x _ => by simp, List.nodup_nil, by simp, by simp, by omega, fun k hk => by simp at hk, .inl ⟨rfl, rfl⟩⟩
    obtain ⟨t', I, ht⟩ := RI.run R _ _ _ _ rfl I0
    have e1 : (ringsAux row (i + 1)).1 = (ringFrom row ((ringsAux row i).1.count false) (ringsAux row i).1 i []).1 := rfl
    have e2 : (ringsAux row (i + 1)).2 = if (ringFrom row ((ringsAux row i).1.count false) (ringsAux row i).1 i []).2 = [] then (ringsAux row i).2 else (ringsAux row i).2 ++ [(ringFrom row ((ringsAux row i).1.count false) (ringsAux row i).1 i []).2] := rfl
    rw [e1, e2]
    generalize (ringFrom row ((ringsAux row i).1.count false) (ringsAux row i).1 i []).1 = met at *
    generalize (ringFrom row ((ringsAux row i).1.count false) (ringsAux row i).1 i []).2 = ring at *
    rcases I.done R ht O.bk with ⟨z1, z2, z3⟩ | ⟨z1, z2, z3⟩
    · rw [if_pos z1]
      refine ⟨I.len, fun x h0 h1 => by rw [z3 x h0, O.mem x h0 h1], O.nd, O.rg, fun x h0 h1 h2 => ?_, fun y hy z => ?_, O.least, O.up, fun r hr => by have := O.heads r hr; omega⟩
      · rw [z3 x h0]
        by_cases c : x < i
        · exact O.below x h0 c h2
        · have : x = i := by omega
          subst this; exact z2
      · rw [z3 _ (gt_bd R hy).1] at z
        rw [z3 y hy.1]
        exact O.bk y hy z
    · rw [if_neg z1.ne]
      have lst : ∀ x ∈ ring, (i : Int) ≤ x := fun x hx => by
        have bx := I.bd x hx
        by_cases c : x < i
        · have := O.below x bx.1 c bx.2
          rw [I.out x hx] at this; cases this
        · omega
      refine ⟨I.len, fun x h0 h1 => ?_, ?_, fun r hr => ?_, fun x h0 h1 h2 => ?_, z3, fun r hr => ?_, ?_, fun r hr => ?_⟩
      · rw [I.mem x h0, O.mem x h0 h1, List.flatten_append, List.mem_append]; simp
      · rw [List.flatten_append]
        refine List.nodup_append.mpr ⟨O.nd, by simpa using I.nd, fun a ha b hb e => ?_⟩
        have hb' : b ∈ ring := by simpa using hb
        subst e
        have bx := I.bd a hb'
        have := (O.mem a bx.1 bx.2).mpr ha
        rw [I.out a hb'] at this; cases this
      · rcases List.mem_append.mp hr with hr | hr
        · exact O.rg r hr
        · have : r = ring := by simpa using hr
          subst this; exact z1
      · rw [I.mem x h0]
        by_cases c : x < i
        · exact .inl (O.below x h0 c h2)
        · have : x = i := by omega
          subst this
          exact .inr (by rw [← z2]; exact getD_mem (List.length_pos_iff.mpr z1.ne))
      · rcases List.mem_append.mp hr with hr | hr
        · exact O.least r hr
        · have : r = ring := by simpa using hr
          subst this
          intro x hx; rw [z2]; exact lst x hx
      · rw [List.map_append]
        refine List.pairwise_append.mpr ⟨O.up, by simp, fun a ha b hb => ?_⟩
        obtain ⟨r, hr, rfl⟩ := List.mem_map.mp ha
        have hb' : b = ring.getD 0 0 := by simpa using hb
        rw [hb', z2]
        exact O.heads r hr
      · rcases List.mem_append.mp hr with hr | hr
        · have := O.heads r hr; omega
        · have : r = ring := by simpa using hr
          subst this; rw [z2]; omega
theorem RO.of {row : List Int} (R : IsRow row) : RO row row.length (ringsAux row row.length).1 (ringsOf row) := RO.all R _ (Nat.le_refl _)
theorem Ring.ok {row r : List Int} (h : Ring row r) : okRing row r = true := by
  unfold okRing
  rw [Bool.and_eq_true, Bool.and_eq_true, List.all_eq_true, List.all_eq_true]
  refine ⟨⟨?_, fun x hx => ?_⟩, fun k hk => ?_⟩
  · cases r with
    | nil => exact absurd rfl h.ne
    | cons _ _ => rfl
  · have := h.bd x hx
    rw [Bool.and_eq_true, decide_eq_true_eq, decide_eq_true_eq]; exact this
  · have hk' := List.mem_range.mp hk
    rw [decide_eq_true_eq, gt_nat]
    cases k with
    | zero =>
      have e : gt r (((0 : Nat) : Int) - 1) = r.getD (r.length - 1) 0 := by
        unfold gt
        rw [if_neg (by omega)]
        congr 1; omega
      rw [e]; exact h.cl
    | succ k =>
      have e : gt r (((k + 1 : Nat) : Int) - 1) = r.getD k 0 := by
        rw [show ((k + 1 : Nat) : Int) - 1 = (k : Int) by omega, gt_nat]
      rw [e]; exact h.ch k hk'
theorem ringsOf_perm {row : List Int} (R : IsRow row) : (ringsOf row).flatten.Perm (upTo row.length) := by
  have O := RO.of R
  refine perm_of_mem O.nd (upTo_nodup _) fun x => ?_
  rw [mem_upTo]
  constructor
  · intro hx
    obtain ⟨r, hr, hx⟩ := List.mem_flatten.mp hx
    exact (O.rg r hr).bd x hx
  · rintro ⟨h0, h1⟩
    exact (O.mem x h0 h1).mp (O.below x h0 h1 h1)
theorem ringsOf_ringed {row : List Int} (R : IsRow row) : ringed row (ringsOf row) = true := by
  unfold ringed isAll
  rw [Bool.and_eq_true, List.all_eq_true, decide_eq_true_eq]
  exact ⟨fun r hr => ((RO.of R).rg r hr).ok, ringsOf_perm R⟩
end Bo

/-! of rings the row -/
namespace Bo
open PySem L2
theorem gt_st {f : List Int} {i x y : Int} (hi : 0 ≤ i ∧ i < f.length) (hy : 0 ≤ y) : gt (st f i x) y = if y = i then x else gt f y := by
  unfold gt st
  rw [if_pos hy, if_pos hy, List.getD_eq_getElem?_getD, List.getD_eq_getElem?_getD]
  by_cases c : y = i
  · subst c
    rw [if_pos rfl, List.getElem?_set_self (by omega)]; rfl
  · rw [if_neg c, List.getElem?_set_ne (by omega)]
theorem gt_upTo {n : Nat} {y : Int} (h : 0 ≤ y ∧ y < n) : gt (upTo n) y = y := by
  have := gt_get (upTo_get (n := n) (i := y.toNat) (by omega))
  rw [show ((y.toNat : Nat) : Int) = y by omega] at this
  exact this
theorem okRing_ne {row r : List Int} (h : okRing row r = true) : r ≠ [] := by
  intro e; subst e; simp [okRing] at h
theorem okRing_bd {row r : List Int} (h : okRing row r = true) : ∀ x ∈ r, 0 ≤ x ∧ x < row.length := fun x hx => by
  unfold okRing at h
  rw [Bool.and_eq_true, Bool.and_eq_true, List.all_eq_true] at h
  have := h.1.2 x hx
  rw [Bool.and_eq_true, decide_eq_true_eq, decide_eq_true_eq] at this
  exact this
theorem okRing_at {row r : List Int} (h : okRing row r = true) {k : Nat} (hk : k < r.length) : gt row (gt r ((k : Int) - 1)) = gt r (k : Int) := by
  unfold okRing at h
  rw [Bool.and_eq_true] at h
  exact of_decide_eq_true (List.all_eq_true.mp h.2 k (List.mem_range.mpr hk))
theorem okRing_isRing {row r : List Int} (h : okRing row r = true) : isRing r (row.length : Nat) = true := by
  unfold isRing
  rw [Bool.and_eq_true, List.all_eq_true]
  refine ⟨?_, fun x hx => ?_⟩
  · cases r with
    | nil => exact absurd rfl (okRing_ne h)
    | cons _ _ => rfl
  · have := okRing_bd h x hx
    rw [isNum_int, decide_eq_true this.1, decide_eq_true (by omega)]; rfl
/-- a row on the way: each place as in order or as in row -/
structure Half (row f : List Int) : Prop where
  len : f.length = row.length
  at_ : ∀ y : Int, 0 ≤ y ∧ y < row.length → gt f y = y ∨ gt f y = gt row y
theorem Half.step {row f : List Int} (h : Half row f) {i : Int} (hi : 0 ≤ i ∧ i < row.length) : Half row (st f i (gt row i)) ∧ gt (st f i (gt row i)) i = gt row i ∧ ∀ y : Int, 0 ≤ y ∧ y < row.length → gt f y = gt row y → gt (st f i (gt row i)) y = gt row y := by
  have hl := h.len
  refine ⟨⟨by rw [st_length, h.len], fun y hy => ?_⟩, ?_, fun y hy e => ?_⟩
  · rw [gt_st (by omega) hy.1]
    by_cases c : y = i
    · rw [if_pos c, c]; exact .inr rfl
    · rw [if_neg c]; exact h.at_ y hy
  · rw [gt_st (by omega) hi.1, if_pos rfl]
  · rw [gt_st (by omega) hy.1]
    by_cases c : y = i
    · rw [if_pos c, c]
    · rw [if_neg c]; exact e
theorem gt_pred_bd {row r : List Int} (h : okRing row r = true) {k : Nat} (hk : k < r.length) : 0 ≤ gt r ((k : Int) - 1) ∧ gt r ((k : Int) - 1) < row.length :=
  okRing_bd h _ (gt_mem (by omega) (by omega))
theorem setRing_half {row r : List Int} (h : okRing row r = true) : ∀ (k : Nat) (f : List Int), k ≤ r.length → Half row f → Half row (setRing r k f) ∧ (∀ j, j < k → gt (setRing r k f) (gt r ((j : Int) - 1)) = gt row (gt r ((j : Int) - 1))) ∧
    ∀ y : Int, 0 ≤ y ∧ y < row.length → gt f y = gt row y → gt (setRing r k f) y = gt row y
  | 0, f, _, hf => ⟨hf, fun j hj => absurd hj (Nat.not_lt_zero _), fun y _ e => e⟩
  | k + 1, f, hk, hf => by
    obtain ⟨h1, h2, h3⟩ := setRing_half h k f (by omega) hf
    have hb := gt_pred_bd h (k := k) (by omega)
    have e : setRing r (k + 1) f = st (setRing r k f) (gt r ((k : Int) - 1)) (gt row (gt r ((k : Int) - 1))) := by
      show st _ _ _ = _
      rw [okRing_at h (by omega)]
    rw [e]
    obtain ⟨s1, s2, s3⟩ := h1.step hb
    refine ⟨s1, fun j hj => ?_, fun y hy e => s3 y hy (h3 y hy e)⟩
    by_cases c : j = k
    · subst c; exact s2
    · exact s3 _ (gt_pred_bd h (by omega)) (h2 j (by omega))
theorem setRing_all {row r : List Int} (h : okRing row r = true) {f : List Int} (hf : Half row f) : Half row (setRing r r.length f) ∧ (∀ y ∈ r, gt (setRing r r.length f) y = gt row y) ∧ ∀ y : Int, 0 ≤ y ∧ y < row.length → gt f y = gt row y → gt (setRing r r.length f) y = gt row y := by
  obtain ⟨h1, h2, h3⟩ := setRing_half h r.length f (Nat.le_refl _) hf
  refine ⟨h1, fun y hy => ?_, h3⟩
  obtain ⟨k, hk, e⟩ := mem_getD hy
  by_cases c : k + 1 < r.length
  · have := h2 (k + 1) c
    rw [show ((k + 1 : Nat) : Int) - 1 = (k : Int) by omega, gt_nat, e] at this
    exact this
  · have := h2 0 (by omega)
    have e0 : gt r (((0 : Nat) : Int) - 1) = y := by
      unfold gt
      rw [if_neg (by omega), ← e]
      congr 1; omega
    rw [e0] at this
    exact this
theorem rowOf_half {row : List Int} : ∀ (told : List (List Int)) (f : List Int), (∀ r ∈ told, okRing row r = true) → Half row f → Half row (told.foldl (fun f r => setRing r r.length f) f) ∧
    (∀ y ∈ told.flatten, gt (told.foldl (fun f r => setRing r r.length f) f) y = gt row y) ∧ ∀ y : Int, 0 ≤ y ∧ y < row.length → gt f y = gt row y → gt (told.foldl (fun f r => setRing r r.length f) f) y = gt row y
  | [], f, _, hf => ⟨hf, by simp, fun y _ e => e⟩
  | r :: t, f, h, hf => by
    obtain ⟨a1, a2, a3⟩ := setRing_all (h r (by simp)) hf
    obtain ⟨b1, b2, b3⟩ := rowOf_half t _ (fun r hr => h r (List.mem_cons_of_mem _ hr)) a1
    rw [List.foldl_cons]
    refine ⟨b1, fun y hy => ?_, fun y hy e => b3 y hy (a3 y hy e)⟩
    rw [List.flatten_cons] at hy
    rcases List.mem_append.mp hy with hy | hy
    · exact b3 y (okRing_bd (h r (by simp)) y hy) (a2 y hy)
    · exact b2 y hy
theorem ext_gt {f g : List Int} (hl : f.length = g.length) (h : ∀ y : Int, 0 ≤ y ∧ y < g.length → gt f y = gt g y) : f = g := by
  apply List.ext_getElem hl
  intro i h1 h2
  have := h i (by omega)
  rw [gt_nat, gt_nat, List.getD_eq_getElem?_getD, List.getD_eq_getElem?_getD, List.getElem?_eq_getElem h1, List.getElem?_eq_getElem h2] at this
  exact this
/-- rings of a row that hold all that doesn't stand at its place tell the row -/
theorem rowOf_is {row : List Int} {told : List (List Int)} (h : ∀ r ∈ told, okRing row r = true) (hm : ∀ y : Int, 0 ≤ y ∧ y < row.length → gt row y ≠ y → y ∈ told.flatten) : rowOf row.length told = row := by
  have h0 : Half row (upTo row.length) := ⟨upTo_length _, fun y hy => .inl (gt_upTo hy)⟩
  obtain ⟨b1, b2, _⟩ := rowOf_half told _ h h0
  refine ext_gt b1.len fun y hy => ?_
  by_cases c : gt row y = y
  · rcases b1.at_ y hy with e | e
    · show gt (rowOf _ _) y = _
      rw [c]; exact e
    · exact e
  · exact b2 y (hm y hy c)
theorem okRing_one {row r : List Int} (h : okRing row r = true) (hl : r.length ≤ 1) {x : Int} (hx : x ∈ r) : gt row x = x := by
  obtain ⟨k, hk, e⟩ := mem_getD hx
  have hk0 : k = 0 := by omega
  subst hk0
  have := okRing_at h (k := 0) hk
  have e1 : gt r (((0 : Nat) : Int) - 1) = x := by
    unfold gt
    rw [if_neg (by omega), ← e]
    congr 1; omega
  rw [e1, gt_nat, e] at this
  exact this
/-- .. as rings_of tells them -/
theorem rowOf_ringsOf {row : List Int} (R : IsRow row) : rowOf row.length (ringsOf row) = row := by
  have h := ringsOf_ringed R
  unfold ringed at h
  rw [Bool.and_eq_true, List.all_eq_true] at h
  exact rowOf_is h.1 fun y hy _ => ((ringsOf_perm R).mem_iff).mpr (mem_upTo.mpr hy)
/-! ### a ring begun elsewhere -/
theorem rot_perm (r : List Int) (a : Nat) : (r.drop a ++ r.take a).Perm r := by
  refine List.perm_append_comm.trans ?_
  rw [List.take_append_drop]
theorem rot_getD (r : List Int) (a k : Nat) (ha : a < r.length) (hk : k < r.length) : (r.drop a ++ r.take a).getD k 0 = if k < r.length - a then r.getD (a + k) 0 else r.getD (k - (r.length - a)) 0 := by
  rw [List.getD_eq_getElem?_getD]
  by_cases c : k < r.length - a
  · rw [if_pos c, List.getElem?_append_left (by rw [List.length_drop]; exact c), List.getElem?_drop, List.getD_eq_getElem?_getD]
  · rw [if_neg c, List.getElem?_append_right (by rw [List.length_drop]; omega), List.length_drop, List.getElem?_take_of_lt (by omega), List.getD_eq_getElem?_getD]
theorem okRing_iff {row r : List Int} : okRing row r = true ↔ r ≠ [] ∧ (∀ x ∈ r, 0 ≤ x ∧ x < row.length) ∧ ∀ k, k < r.length → gt row (r.getD k 0) = if k + 1 < r.length then r.getD (k + 1) 0 else r.getD 0 0 := by
  constructor
  · intro h
    refine ⟨okRing_ne h, okRing_bd h, fun k hk => ?_⟩
    by_cases c : k + 1 < r.length
    · rw [if_pos c]
      have := okRing_at h c
      rw [show ((k + 1 : Nat) : Int) - 1 = (k : Int) by omega, gt_nat, gt_nat] at this
      exact this
    · rw [if_neg c]
      have := okRing_at h (k := 0) (by omega)
      have e : gt r (((0 : Nat) : Int) - 1) = r.getD k 0 := by
        unfold gt
        rw [if_neg (by omega)]
        congr 1; omega
      rw [e, gt_nat] at this
      exact this
  · rintro ⟨h1, h2, h3⟩
    unfold okRing
    rw [Bool.and_eq_true, Bool.and_eq_true, List.all_eq_true, List.all_eq_true]
    have hp := List.length_pos_iff.mpr h1
    refine ⟨⟨?_, fun x hx => ?_⟩, fun k hk => ?_⟩
    · cases r with
      | nil => exact absurd rfl h1
      | cons _ _ => rfl
    · have := h2 x hx
      rw [Bool.and_eq_true, decide_eq_true_eq, decide_eq_true_eq]; exact this
    · have hk' := List.mem_range.mp hk
      rw [decide_eq_true_eq, gt_nat]
      cases k with
      | zero =>
        have e : gt r (((0 : Nat) : Int) - 1) = r.getD (r.length - 1) 0 := by
          unfold gt
          rw [if_neg (by omega)]
          congr 1; omega
        have := h3 (r.length - 1) (by omega)
        rw [if_neg (by omega)] at this
        rw [e]; exact this
      | succ k =>
        have := h3 k (by omega)
        rw [if_pos hk'] at this
        rw [show ((k + 1 : Nat) : Int) - 1 = (k : Int) by omega, gt_nat]
        exact this
theorem okRing_rot {row r : List Int} (h : okRing row r = true) {a : Nat} (ha : a < r.length) : okRing row (r.drop a ++ r.take a) = true := by
  obtain ⟨h1, h2, h3⟩ := okRing_iff.mp h
  have p := rot_perm r a
  have hl : (r.drop a ++ r.take a).length = r.length := p.length_eq
  refine okRing_iff.mpr ⟨fun e => h1 (by rw [e] at p; exact List.nil_perm.mp p), fun x hx => h2 x (p.mem_iff.mp hx), fun k hk => ?_⟩
  rw [hl] at hk ⊢
  rw [rot_getD r a k ha hk]
  by_cases c : k + 1 < r.length
  · rw [if_pos c, rot_getD r a (k + 1) ha c]
    by_cases d : k < r.length - a
    · rw [if_pos d, h3 _ (by omega)]
      by_cases e : k + 1 < r.length - a
      · rw [if_pos e, if_pos (by omega)]; rfl
      · rw [if_neg e, if_neg (by omega)]
        congr 1; omega
    · rw [if_neg d, if_neg (by omega), h3 _ (by omega), if_pos (by omega)]
      congr 1; omega
  · rw [if_neg c, rot_getD r a 0 ha (by omega)]
    by_cases d : k < r.length - a
    · have ha0 : a = 0 := by omega
      subst ha0
      rw [if_pos d, if_pos (by omega), h3 _ (by omega), if_neg (by omega)]
    · rw [if_neg d, h3 _ (by omega), if_pos (by omega), if_pos (by omega)]
      congr 1; omega
/-- the two last of n + 2 change places -/
theorem rowOf_two (n : Nat) : (rowOf (n + 2) [[(n : Int), (n : Int) + 1]]).drop n = [(n : Int) + 1, (n : Int)] := by
  have e : rowOf (n + 2) [[(n : Int), (n : Int) + 1]] = st (st (upTo (n + 2)) ((n : Int) + 1) n) n ((n : Int) + 1) := rfl
  rw [e]
  apply List.ext_getElem?
  intro i
  unfold st
  rw [List.getElem?_drop]
  have h1 : ((n : Int) + 1).toNat = n + 1 := by omega
  have h2 : (n : Int).toNat = n := by omega
  rw [h1, h2]
  have hl : (upTo (n + 2)).length = n + 2 := upTo_length _
  cases i with
  | zero =>
    show (((upTo (n + 2)).set (n + 1) (n : Int)).set n ((n : Int) + 1))[n]? = _
    rw [List.getElem?_set_self (by rw [List.length_set]; omega)]; rfl
  | succ i =>
    cases i with
    | zero =>
      show (((upTo (n + 2)).set (n + 1) (n : Int)).set n ((n : Int) + 1))[n + 1]? = _
      rw [List.getElem?_set_ne (by omega), List.getElem?_set_self (by omega)]; rfl
    | succ i =>
      rw [List.getElem?_eq_none (by rw [List.length_set, List.length_set]; omega)]; rfl
theorem mem_le_flatten {α : Type} : ∀ {l : List (List α)} {r : List α}, r ∈ l → r.length ≤ l.flatten.length
  | a :: l, r, h => by
    rw [List.flatten_cons, List.length_append]
    rcases List.mem_cons.mp h with e | h
    · subst e; omega
    · have := mem_le_flatten h; omega
theorem ringsOf_flat {row : List Int} (R : IsRow row) : (ringsOf row).flatten.length = row.length := by
  rw [(ringsOf_perm R).length_eq, upTo_length]
theorem ringsOf_len {row : List Int} (R : IsRow row) {r : List Int} (h : r ∈ ringsOf row) : r.length ≤ row.length := by
  rw [← ringsOf_flat R]; exact mem_le_flatten h
theorem ringsOf_okR {row : List Int} (R : IsRow row) {r : List Int} (h : r ∈ ringsOf row) : okRing row r = true := ((RO.of R).rg r h).ok
theorem getD_gt0 (r : List Int) : gt r 0 = r.getD 0 0 := by
  exact gt_nat r 0
theorem heads_up {row : List Int} (R : IsRow row) : ((ringsOf row).map fun x => gt x 0).Pairwise (· ≤ ·) := by
  have := (RO.of R).up
  have e : ((ringsOf row).map fun x => gt x 0) = (ringsOf row).map fun r => r.getD 0 0 := List.map_congr_left fun r _ => getD_gt0 r
  rw [e]
  exact this.imp fun h => by omega
/-- rings of a row told otherwise, behind i of them -/
structure Told (row : List Int) (found : List (List Int)) (i : Nat) (told : List (List Int)) : Prop where
  ok : ∀ t ∈ told, okRing row t = true
  nd : told.flatten.Nodup
  sub : ∀ x ∈ told.flatten, x ∈ (found.take i).flatten
  big : ∀ r ∈ found.take i, 1 < r.length → ∀ x ∈ r, x ∈ told.flatten
  len : told.length ≤ i
theorem Told.zero (row : List Int) (found : List (List Int)) : Told row found 0 [] := ⟨by simp, by simp, by simp, by simp, Nat.le_refl _⟩
theorem Told.put {row : List Int} {found told : List (List Int)} {i : Nat} {r : List Int} (h : Told row found i told) (hn : found.flatten.Nodup) (hr : found[i]? = some r) (ho : okRing row r = true) {a : Nat} (ha : a < r.length) : Told row found (i + 1) (told ++ [r.drop a ++ r.take a]) := by
  have p := rot_perm r a
  have e : (told ++ [r.drop a ++ r.take a]).flatten = told.flatten ++ (r.drop a ++ r.take a) := by rw [List.flatten_append]; simp
  have hn2 : ((found.take (i + 1)).flatten).Nodup := by
    have : found.flatten = (found.take (i + 1)).flatten ++ (found.drop (i + 1)).flatten := by rw [← List.flatten_append, List.take_append_drop]
    rw [this] at hn
    exact (List.nodup_append.mp hn).1
  rw [flatten_take hr] at hn2
  obtain ⟨_, n2, n3⟩ := List.nodup_append.mp hn2
  refine ⟨fun t ht => ?_, ?_, fun x hx => ?_, fun s hs hl x hx => ?_, by rw [List.length_append]; simp; exact h.len⟩
  · rcases List.mem_append.mp ht with ht | ht
    · exact h.ok t ht
    · have : t = r.drop a ++ r.take a := by simpa using ht
      subst this; exact okRing_rot ho ha
  · rw [e]
    exact List.nodup_append.mpr ⟨h.nd, p.nodup_iff.mpr n2, fun x hx y hy z => n3 x (h.sub x hx) y (p.mem_iff.mp hy) z⟩
  · rw [flatten_take hr]
    rw [e] at hx
    rcases List.mem_append.mp hx with hx | hx
    · exact List.mem_append_left _ (h.sub x hx)
    · exact List.mem_append_right _ (p.mem_iff.mp hx)
  · rw [e]
    rw [List.take_add_one, hr] at hs
    rcases List.mem_append.mp hs with hs | hs
    · exact List.mem_append_left _ (h.big s hs hl x hx)
    · have : s = r := by simpa using hs
      subst this
      exact List.mem_append_right _ (p.mem_iff.mpr hx)
theorem Told.skip {row : List Int} {found told : List (List Int)} {i : Nat} {r : List Int} (h : Told row found i told) (hr : found[i]? = some r) (hl : ¬ 1 < r.length) : Told row found (i + 1) told := by
  refine ⟨h.ok, h.nd, fun x hx => ?_, fun s hs hl' x hx => ?_, Nat.le_succ_of_le h.len⟩
  · rw [flatten_take hr]; exact List.mem_append_left _ (h.sub x hx)
  · rw [List.take_add_one, hr] at hs
    rcases List.mem_append.mp hs with hs | hs
    · exact h.big s hs hl' x hx
    · have : s = r := by simpa using hs
      subst this; exact absurd hl' hl
/-- what of_rings asks of rings, and that they tell the row -/
structure Tells (row : List Int) (told : List (List Int)) : Prop where
  ok : ∀ t ∈ told, okRing row t = true
  nd : told.flatten.Nodup
  len : told.length ≤ 1000
  flat : told.flatten.length ≤ 1000
  is : rowOf row.length told = row
theorem nodup_sub_len : ∀ {l m : List Int}, l.Nodup → (∀ x ∈ l, x ∈ m) → l.length ≤ m.length
  | [], m, _, _ => Nat.zero_le _
  | a :: l, m, hn, hs => by
    have ha : a ∈ m := hs a (by simp)
    have hn' := List.nodup_cons.mp hn
    have ih := nodup_sub_len (l := l) (m := m.erase a) hn'.2 fun x hx => by
      have ne : x ≠ a := fun e => hn'.1 (by rw [← e]; exact hx)
      exact (List.mem_erase_of_ne ne).mpr (hs x (List.mem_cons_of_mem _ hx))
    rw [List.length_erase_of_mem ha] at ih
    have := List.length_pos_iff.mpr (List.ne_nil_of_mem ha)
    rw [List.length_cons]; omega
theorem nodup_le {row l : List Int} (hn : l.Nodup) (hb : ∀ x ∈ l, 0 ≤ x ∧ x < row.length) : l.length ≤ row.length := by
  have : l.length ≤ (upTo row.length).length := by
    have hs : l ⊆ upTo row.length := fun x hx => mem_upTo.mpr (hb x hx)
    exact nodup_sub_len hn hs
  rwa [upTo_length] at this
theorem Told.tells {row : List Int} {told : List (List Int)} (R : IsRow row) (h : Told row (ringsOf row) (ringsOf row).length told) : Tells row told ∧ Tells row told.reverse := by
  have hl := R.len
  have ob : ∀ x ∈ told.flatten, 0 ≤ x ∧ x < row.length := fun x hx => by
    obtain ⟨t, ht, hx⟩ := List.mem_flatten.mp hx
    exact okRing_bd (h.ok t ht) x hx
  have fl := nodup_le h.nd ob
  have big : ∀ y : Int, 0 ≤ y ∧ y < row.length → gt row y ≠ y → y ∈ told.flatten := fun y hy ny => by
    have hm : y ∈ (ringsOf row).flatten := ((ringsOf_perm R).mem_iff).mpr (mem_upTo.mpr hy)
    obtain ⟨r, hr, hy'⟩ := List.mem_flatten.mp hm
    have ho := ringsOf_okR R hr
    refine h.big r (by rw [List.take_length]; exact hr) ?_ y hy'
    by_cases c : 1 < r.length
    · exact c
    · exact absurd (okRing_one ho (by omega) hy') ny
  have cnt : (ringsOf row).length ≤ row.length := ringsAux_count row row.length
  have hlen := h.len
  have pr : told.reverse.flatten.Perm told.flatten := (List.reverse_perm told).flatten
  refine ⟨⟨h.ok, h.nd, by omega, by omega, rowOf_is h.ok big⟩, ⟨fun t ht => h.ok t (List.mem_reverse.mp ht), pr.nodup_iff.mpr h.nd, by rw [List.length_reverse]; omega, by rw [pr.length_eq]; omega, rowOf_is (fun t ht => h.ok t (List.mem_reverse.mp ht)) fun y hy ny => (pr.mem_iff).mpr (big y hy ny)⟩⟩
theorem ringsOf_tells {row : List Int} (R : IsRow row) : Tells row (ringsOf row) := by
  have hl := R.len
  have cnt : (ringsOf row).length ≤ row.length := ringsAux_count row row.length
  exact ⟨fun t ht => ringsOf_okR R ht, (RO.of R).nd, by omega, by rw [ringsOf_flat R]; omega, rowOf_ringsOf R⟩
end Bo

/-! places, exchanges -/
namespace Bo
open PySem L2
/-- for each thing its place, as places_of makes it -/
def plAux (ns : List Int) : Nat → List Int
  | 0 => ns.map fun _ => 0
  | i + 1 => st (plAux ns i) (gt ns (i : Int)) (i : Int)
def placesOf (ns : List Int) : List Int := plAux ns ns.length
theorem plAux_length (ns : List Int) : ∀ i, (plAux ns i).length = ns.length
  | 0 => by simp [plAux]
  | i + 1 => by show (st _ _ _).length = _; rw [st_length, plAux_length ns i]
theorem placesOf_length (ns : List Int) : (placesOf ns).length = ns.length := plAux_length ns _
theorem plAux_at {ns : List Int} (R : IsRow ns) : ∀ i, i ≤ ns.length → ∀ k : Nat, k < i → gt (plAux ns i) (gt ns (k : Int)) = (k : Int)
  | 0, _, k, hk => absurd hk (Nat.not_lt_zero _)
  | i + 1, hi, k, hk => by
    show gt (st (plAux ns i) (gt ns (i : Int)) (i : Int)) (gt ns (k : Int)) = k
    have bi := gt_bd R (x := (i : Int)) (by omega)
    have bk := gt_bd R (x := (k : Int)) (by omega)
    rw [gt_st (by rw [plAux_length]; exact bi) bk.1]
    by_cases c : k = i
    · subst c; rw [if_pos rfl]
    · have : gt ns (k : Int) ≠ gt ns (i : Int) := fun e => c (by have := gt_inj R (by omega) (by omega) e; omega)
      rw [if_neg this]
      exact plAux_at R i (by omega) k (by omega)
/-- the place of the thing that stands at a place -/
theorem placesOf_gt {ns : List Int} (R : IsRow ns) {x : Int} (h : 0 ≤ x ∧ x < ns.length) : gt (placesOf ns) (gt ns x) = x := by
  have := plAux_at R ns.length (Nat.le_refl _) x.toNat (by omega)
  rwa [show ((x.toNat : Nat) : Int) = x by omega] at this
theorem row_surj {ns : List Int} (R : IsRow ns) {y : Int} (h : 0 ≤ y ∧ y < ns.length) : ∃ x : Int, (0 ≤ x ∧ x < ns.length) ∧ gt ns x = y := by
  have hm : y ∈ (ringsOf ns).flatten := ((ringsOf_perm R).mem_iff).mpr (mem_upTo.mpr h)
  obtain ⟨r, hr, hy⟩ := List.mem_flatten.mp hm
  have ho := ringsOf_okR R hr
  obtain ⟨k, hk, e⟩ := mem_getD hy
  refine ⟨gt r ((k : Int) - 1), gt_pred_bd ho hk, ?_⟩
  rw [okRing_at ho hk, gt_nat, e]
theorem gt_placesOf {ns : List Int} (R : IsRow ns) {y : Int} (h : 0 ≤ y ∧ y < ns.length) : (0 ≤ gt (placesOf ns) y ∧ gt (placesOf ns) y < ns.length) ∧ gt ns (gt (placesOf ns) y) = y := by
  obtain ⟨x, hx, e⟩ := row_surj R h
  rw [← e, placesOf_gt R hx]
  exact ⟨hx, rfl⟩
theorem row_mem {ns : List Int} (R : IsRow ns) {y : Int} (h : 0 ≤ y ∧ y < ns.length) : y ∈ ns := by
  obtain ⟨x, hx, e⟩ := row_surj R h
  rw [← e]; exact gt_mem (by omega) (by omega)
theorem row_perm {ns : List Int} (R : IsRow ns) : ns.Perm (upTo ns.length) :=
  perm_of_mem R.nd (upTo_nodup _) fun x => ⟨fun h => mem_upTo.mpr (R.bd x h), fun h => row_mem R (mem_upTo.mp h)⟩
theorem order_all (ns : List Int) : ((List.range ns.length).map fun i : Nat => decide (gt ns (i : Int) = (i : Int))).all id = decide (ns = upTo ns.length) := by
  rw [List.all_map, Bool.eq_iff_iff, List.all_eq_true, decide_eq_true_eq]
  constructor
  · intro h
    refine ext_gt (upTo_length _).symm fun y hy => ?_
    rw [upTo_length] at hy
    have := h y.toNat (List.mem_range.mpr (by omega))
    have := of_decide_eq_true this
    rw [show ((y.toNat : Nat) : Int) = y by omega] at this
    rw [this, gt_upTo hy]
  · intro h i hi
    have hi' := List.mem_range.mp hi
    show decide (gt ns (i : Int) = (i : Int)) = true
    rw [h, decide_eq_true_eq]
    exact gt_upTo (by omega)
/-! ### exchanges -/
def swap (f : List Int) (p : Int × Int) : List Int := st (st f p.1 (gt f p.2)) p.2 (gt f p.1)
def swapOk (n : Nat) (p : Int × Int) : Bool := decide (0 ≤ p.1) && (decide (p.1 < p.2) && decide (p.2 < n))
theorem swap_length (f : List Int) (p : Int × Int) : (swap f p).length = f.length := by unfold swap; rw [st_length, st_length]
theorem swaps_length : ∀ (ps : List (Int × Int)) (f : List Int), (ps.foldl swap f).length = f.length
  | [], f => rfl
  | p :: ps, f => by rw [List.foldl_cons, swaps_length ps, swap_length]
/-- the row behind exchanges; an empty one for what are none -/
def exL (ns : List Int) (ps : List (Int × Int)) : List Int := if ps.all (swapOk ns.length) = true then ps.foldl swap ns else []
/-- what Exchanged's shows says -/
def exShows (ns : List Int) (ps : List (Int × Int)) (rs : List (List Int)) : Bool := ps.all (swapOk ns.length) && (decide (ps.foldl swap ns = upTo ns.length) && (ringed ns rs && decide ((rs.length : Int) + ps.length = ns.length)))
theorem exDue {ns : List Int} {ps : List (Int × Int)} {rs : List (List Int)} : exShows ns ps rs = ((decide (exL ns ps = upTo ns.length) || decide (ns = [])) && (ringed ns rs && decide ((ps.length : Int) + rs.length = ns.length))) := by
  unfold exShows exL
  have e : decide ((rs.length : Int) + ps.length = ns.length) = decide ((ps.length : Int) + rs.length = ns.length) := by
    rw [Int.add_comm]
  rw [e]
  cases hA : ps.all (swapOk ns.length) with
  | true =>
    rw [if_pos rfl, Bool.true_and]
    by_cases hn : ns = []
    · subst hn
      have : ps.foldl swap [] = upTo ([] : List Int).length := List.eq_nil_of_length_eq_zero (by rw [swaps_length]; rfl)
      rw [decide_eq_true this]; rfl
    · rw [decide_eq_false hn, Bool.or_false]
  | false =>
    rw [if_neg Bool.false_ne_true, Bool.false_and]
    by_cases hn : ns = []
    · subst hn
      have hp : ps ≠ [] := by rintro rfl; simp at hA
      have : decide ((ps.length : Int) + rs.length = (([] : List Int).length : Nat)) = false := decide_eq_false (by
        have := List.length_pos_iff.mpr hp
        simp; omega)
      rw [this, Bool.and_false, Bool.and_false]
    · have : ([] : List Int) ≠ upTo ns.length := fun e => hn (List.eq_nil_of_length_eq_zero (by rw [← upTo_length ns.length, ← e]; rfl))
      rw [decide_eq_false this, decide_eq_false hn]; rfl
end Bo

namespace Bo
open PySem PySem.Spec PyProof.Rows L2
/-! ### steps of a reading: each a row of its own -/
local macro_rules | `(tactic| walk_at "ne") => `(tactic| first
  | assumption
  | (apply Ne.symm; assumption)
  | (apply neo; assumption; walk_at "hp")
  | (apply Ne.symm; apply neo; assumption; walk_at "hp"))
local macro_rules | `(tactic| walk_at "hp") => `(tactic| first
  | assumption
  | exact upd_same
  | (apply lift_ne; walk_at "hp"; walk_at "ne")
  | (apply Same.up; assumption; walk_at "hp"))
local macro_rules | `(tactic| walk_at "same") => `(tactic| first
  | assumption
  | exact Same.refl _
  | (apply Same.new; walk_at "same"; walk_at "fr")
  | (apply same_trans; assumption; walk_at "same"))
local macro_rules | `(tactic| walk_at "fr") => `(tactic| first
  | assumption
  | (apply same_free; assumption; walk_at "same"))
local macro_rules | `(tactic| walk_at "sq") => `(tactic| first
  | assumption
  | (apply SqL.of; walk_at "hp")
  | (apply same_seq; assumption; walk_at "same"))
local macro_rules | `(tactic| walk_at "sqt") => `(tactic| first
  | assumption
  | (apply SqT.of; walk_at "hp")
  | (apply same_sqt; assumption; walk_at "same"))
local macro_rules | `(tactic| walk_at "nw") => `(tactic| first
  | assumption
  | (apply News.mut; walk_at "nw"; (first | assumption | (refine News.notin (by assumption) ?_; assumption)))
  | (apply News.same; walk_at "nw"; walk_at "same"))
/-! one step -/
local macro_rules | `(tactic| walk_at "go1") => `(tactic| first
  | with_reducible refine r_seq ?_
  | with_reducible refine r_asgN ?_
  | with_reducible refine r_set ?_
  | with_reducible refine r_ret ?_
  | with_reducible refine r_drop ?_
  | with_reducible refine r_if ?_
  | with_reducible refine r_next ?_
  | ((with_reducible apply r_nxD); with_reducible refine r_nx ?_)
  | ((with_reducible apply r_rtD); with_reducible refine r_rt ?_)
  | with_reducible refine r_par ?_
  | with_reducible refine k_par ?_
  | with_reducible refine r_fld ?_
  | ((with_reducible apply r_aug); exact rfl)
  | with_reducible refine i_ip ?_
  | ((with_reducible apply e_var); exact rfl)
  | with_reducible refine e_c ?_
  | with_reducible refine e_op ?_
  | with_reducible refine e_un ?_
  | with_reducible refine o_I0 ?_
  | with_reducible refine o_neg ?_
  | with_reducible refine o_eqI ?_
  | with_reducible refine o_neI ?_
  | with_reducible refine o_eqB ?_
  | with_reducible refine o_neB ?_
  | with_reducible refine o_eqS ?_
  | with_reducible refine o_neS ?_
  | with_reducible refine a_nil ?_
  | with_reducible refine a_cons ?_
  | with_reducible refine e_cb ?_
  | with_reducible refine e_call ?_
  | with_reducible refine e_make ?_
  | with_reducible refine e_meth ?_
  | with_reducible refine e_fld ?_
  | with_reducible refine e_lst ?_
  | with_reducible refine e_tup ?_
  | with_reducible refine e_bm ?_
  | with_reducible refine e_bm0 ?_
  | with_reducible refine e_rev ?_
  | with_reducible refine e_sl ?_
  | with_reducible refine e_nopart ?_
  | with_reducible refine e_part ?_
  | with_reducible refine i_ok ?_
  | with_reducible refine e_lenset ?_
  | with_reducible refine e_listRg1 ?_
  | with_reducible refine t_test ?_
  | with_reducible refine t_B ?_
  | with_reducible refine b_ok ?_
  | with_reducible refine t_and ?_
  | with_reducible refine t_or ?_
  | with_reducible refine t_not ?_
  | with_reducible refine v_and ?_
  | with_reducible refine v_or ?_
  | with_reducible refine v_not ?_
  | with_reducible refine e_if ?_
  | with_reducible refine e_chain ?_
  | with_reducible refine e_chain3 ?_
  | with_reducible refine iteT ?_
  | with_reducible refine iteF ?_
  | with_reducible refine ite_nT ?_
  | with_reducible refine ite_nF ?_
  | with_reducible refine r_forL ?_
  | with_reducible refine r_forT ?_
  | with_reducible refine r_forE ?_
  | with_reducible refine r_forR1 ?_
  | with_reducible refine r_forR2 ?_
  | with_reducible refine e_lcL ?_
  | with_reducible refine e_lcR1 ?_
  | with_reducible refine e_lcR2 ?_
  | with_reducible refine r_dput ?_
  | with_reducible refine e_dget ?_
  | with_reducible refine e_dnin ?_
  | with_reducible refine c_max2 ?_
  | with_reducible refine c_min2 ?_
  | ((with_reducible apply c_isiI); (first | exact (show kitB "int" _ = some true by decide +kernel) | exact (show kitB "int" _ = some false by decide +kernel)))
  | ((with_reducible apply m_ty); walk_at "sq"))
local macro_rules | `(tactic| walk_at "go2") => `(tactic| first
  | ((with_reducible apply o_ixI); walk_at "sq"; omega)
  | ((with_reducible refine o_mod ?_ ?_); omega)
  | ((with_reducible refine o_fdiv ?_ ?_); omega)
  | ((with_reducible refine o_mulR ?_ ?_); omega)
  | ((with_reducible refine o_mulL ?_ ?_); omega)
  | ((with_reducible apply c_lenM); walk_at "sq")
  | ((with_reducible apply c_all); walk_at "sq")
  | ((with_reducible apply c_any); walk_at "sq")
  | ((with_reducible apply o_in); walk_at "sq")
  | ((with_reducible apply o_nin); walk_at "sq")
  | ((with_reducible apply o_ixB); walk_at "sq"; omega)
  | ((with_reducible apply m_setB); walk_at "hp"; omega)
  | ((with_reducible apply m_appR); walk_at "hp"; omega)
  | ((with_reducible apply m_ins); walk_at "hp"; omega; omega)
  | ((with_reducible apply m_appM); walk_at "hp"; exact rfl; omega)
  | ((with_reducible apply m_setI); walk_at "hp"; omega))
local macro_rules | `(tactic| walk_at "d") => `(tactic| try dsimp only)
local macro_rules | `(tactic| walk_at "k") => `(tactic| try dsimp only [cxOf, Cx.nox, Cx.blk])
local macro_rules | `(tactic| walk_at "go") => `(tactic| repeat (first | walk_at "go1" | walk_at "go2"))

section
variable {P : Program} {w : World} {K : PySem.W.Frag} {mg : Str → Option Value} {base : Heap} {C_Exchanged C_Fronted C_Ended C_Put C_Answer C_OrderError C_BadRow C_BadNumber C_BadRings C_Unlike C_BadText : Addr} (T : Top K mg C_Exchanged C_Fronted C_Ended C_Put C_Answer C_OrderError C_BadRow C_BadNumber C_BadRings C_Unlike C_BadText)
include T

def sp_places_of (K : PySem.W.Frag) : Sp := fun vs H Q _ => ∃ (a : Addr) (ns : List Int), vs = [.ref a] ∧ SqL K H a (ns.map V.int) ∧ IsRow ns ∧ ∀ p H', Same H H' → H p = none → H' p = some (.lst ((placesOf ns).map V.int)) → Q (.ref p) H'
theorem ok_places_of : Cc P w K mg base 1 "places_of" (sp_places_of K) := by
  skip
  refine Cc.mk' T.d_places_of sc_places_of ?_ ?_
  · rintro vs H Q E ⟨a, ns, rfl, _⟩; rfl
  · rintro f cdv A outer s H vs Q E hr ⟨a, ns, rfl, hS, R, q⟩
    have hl := R.len
    refine ⟨_, (pss_cons (ps_setLc (i := 1) (own := [("thing", 3)]) (g := gName 3) (tt := tYes) rfl sc_places_of.nd rfl rfl (sw_true rfl rfl rfl (by decide +kernel)) (pi_list (pv 0)) (blkOk_by (own := [("thing", 3)]) (N := N_places_of) (sc := defScope s_places_of) (by decide +kernel)) (fun _ _ _ _ _ => (pg_name (i := 3) sc_places_of.nd rfl (Or.inl rfl))) (fun _ _ _ _ _ => pts_nil) (fun _ _ _ _ _ => pe_int))
      (pss_cons (ps_for PassesOwn.never rfl (pi_enum (by rfl) T.b_enumerate (pa_cons (pv 0) pa_nil)) (pg_tup rfl (pgs_cons (pg_name (i := 2) sc_places_of.nd rfl (by first | exact Or.inl rfl | exact Or.inr rfl)) (pgs_cons (pg_name (i := 3) sc_places_of.nd rfl (by first | exact Or.inl rfl | exact Or.inr rfl)) pgs_nil))) (pss_one (ps_asg (pv 2) (pg_sub (pv 1) (pv 3) set_list))))
      (pss_one (ps_ret (pv 1))))), ?_⟩
    walk_at "k"
    walk_at "go"
    refine k_lcV (xs := ns) (f := V.int) (h := V.int) (fun _ => 0) (by walk_at "sq") (by omega) (fun _ => rfl) (fun i x H2 R' hx s2 k2 => k2 H2 (Same.refl _)) ?_
    intro p H1 np s1 hp
    walk_at "go"
    refine k_enum (f := V.int) ns (fun i σ H' => ∃ v2 v3, σ = [some (.ref a), some (.ref p), v2, v3] ∧ Same H H' ∧ H' p = some (.lst ((plAux ns i).map V.int)))
      (by walk_at "sq") ⟨_, _, rfl, by walk_at "same", by walk_at "hp"⟩ (fun i σ H' _ ⟨_, _, _, s2, _⟩ => s2.seq hS) ?_ ?_
    · rintro i x σ H' T' hx ⟨v2, v3, rfl, s2, h2⟩ nT
      walk_at "d"
      have hi : i < ns.length := (List.getElem?_eq_some_iff.mp hx).1
      have e := gt_get hx
      have b := R.bd x (List.mem_of_getElem? hx)
      have l := plAux_length ns i
      have pT : p ≠ T' := by walk_at "ne"
      walk_at "go"
      refine ⟨_, _, rfl, by walk_at "same", ?_⟩
      show _ = some (HO.lst ((st (plAux ns i) (gt ns (i : Int)) (i : Int)).map V.int))
      rw [e]; exact upd_same
    · rintro σ H' ⟨v2, v3, rfl, s2, h2⟩
      walk_at "go"
      exact q p H' s2 np h2
end
end Bo

/-! a row done often; the fewest exchanges -/
namespace Bo
open PySem L2
def it (ns : List Int) : Nat → Int → Int
  | 0, x => x
  | m + 1, x => gt ns (it ns m x)
theorem it_add (ns : List Int) : ∀ (a b : Nat) (x : Int), it ns (a + b) x = it ns a (it ns b x)
  | 0, b, x => by rw [Nat.zero_add]; rfl
  | a + 1, b, x => by
    rw [Nat.succ_add]
    show gt ns (it ns (a + b) x) = gt ns (it ns a (it ns b x))
    rw [it_add ns a b x]
theorem it_mod (ns : List Int) {k : Nat} {x : Int} (hk : 0 < k) (e : it ns k x = x) : ∀ m, it ns m x = it ns (m % k) x := by
  intro m
  induction m using Nat.strongRecOn with
  | _ m ih =>
    by_cases c : m < k
    · rw [Nat.mod_eq_of_lt c]
    · have h := ih (m - k) (by omega)
      rw [show m = (m - k) + k by omega, it_add, e, h, Nat.add_mod_right]
theorem ring_it {row r : List Int} (h : okRing row r = true) {a : Nat} (ha : a < r.length) : ∀ m, it row m (r.getD a 0) = r.getD ((a + m) % r.length) 0
  | 0 => by rw [Nat.add_zero, Nat.mod_eq_of_lt ha]; rfl
  | m + 1 => by
    show gt row (it row m _) = _
    have hm : (a + m) % r.length < r.length := Nat.mod_lt _ (by omega)
    rw [ring_it h ha m, (okRing_iff.mp h).2.2 _ hm, ← Nat.add_assoc, ← Nat.mod_add_mod (a + m) r.length 1]
    by_cases c : (a + m) % r.length + 1 < r.length
    · rw [if_pos c, Nat.mod_eq_of_lt c]
    · rw [if_neg c, show (a + m) % r.length + 1 = r.length by omega, Nat.mod_self]
/-- the greatest of its ring -/
def isTop (ns : List Int) (x : Int) : Prop := ∀ m, it ns m x ≤ x
def topOf (l : List Int) : Int := l.foldr max 0
theorem topOf_le : ∀ {l : List Int} {x : Int}, x ∈ l → x ≤ topOf l
  | [], x, h => by simp at h
  | a :: r, x, h => by
    show x ≤ max a (topOf r)
    rcases List.mem_cons.mp h with rfl | h
    · omega
    · have := topOf_le h; omega
theorem topOf_mem : ∀ {l : List Int}, l ≠ [] → (∀ x ∈ l, 0 ≤ x) → topOf l ∈ l
  | [], h, _ => absurd rfl h
  | [a], _, h => by
    show max a 0 ∈ [a]
    have := h a (by simp)
    rw [show max a 0 = a by omega]; simp
  | a :: b :: r, _, h => by
    show max a (topOf (b :: r)) ∈ a :: b :: r
    have ih := topOf_mem (l := b :: r) (by simp) fun x hx => h x (List.mem_cons_of_mem _ hx)
    by_cases c : a ≤ topOf (b :: r)
    · rw [show max a (topOf (b :: r)) = topOf (b :: r) by omega]; exact List.mem_cons_of_mem _ ih
    · rw [show max a (topOf (b :: r)) = a by omega]; simp
theorem tops_nodup : ∀ {rs : List (List Int)}, rs.flatten.Nodup → (∀ r ∈ rs, topOf r ∈ r) → (rs.map topOf).Nodup
  | [], _, _ => List.nodup_nil
  | r :: rs, hn, h => by
    rw [List.flatten_cons, List.nodup_append] at hn
    rw [List.map_cons, List.nodup_cons]
    refine ⟨fun hm => ?_, tops_nodup hn.2.1 fun x hx => h x (List.mem_cons_of_mem _ hx)⟩
    obtain ⟨r', hr', e⟩ := List.mem_map.mp hm
    have h1 := h r (by simp)
    have h2 := h r' (List.mem_cons_of_mem _ hr')
    exact hn.2.2 _ h1 _ (List.mem_flatten.mpr ⟨r', hr', h2⟩) e.symm
theorem tops_mem {ns : List Int} (R : IsRow ns) (x : Int) : x ∈ (ringsOf ns).map topOf ↔ (0 ≤ x ∧ x < ns.length) ∧ isTop ns x := by
  have tm : ∀ r ∈ ringsOf ns, topOf r ∈ r := fun r hr => topOf_mem (okRing_ne (ringsOf_okR R hr)) fun x hx => (okRing_bd (ringsOf_okR R hr) x hx).1
  constructor
  · intro h
    obtain ⟨r, hr, rfl⟩ := List.mem_map.mp h
    have ok := ringsOf_okR R hr
    refine ⟨okRing_bd ok _ (tm r hr), fun m => ?_⟩
    obtain ⟨a, ha, e⟩ := mem_getD (tm r hr)
    have := ring_it ok ha m
    rw [e] at this
    rw [this]
    exact topOf_le (getD_mem (Nat.mod_lt _ (by omega)))
  · rintro ⟨hb, ht⟩
    have hm : x ∈ (ringsOf ns).flatten := ((ringsOf_perm R).mem_iff).mpr (mem_upTo.mpr hb)
    obtain ⟨r, hr, hx⟩ := List.mem_flatten.mp hm
    have ok := ringsOf_okR R hr
    obtain ⟨a, ha, e⟩ := mem_getD hx
    obtain ⟨b, hb2, e2⟩ := mem_getD (tm r hr)
    have := ring_it ok ha (b + r.length - a)
    rw [show a + (b + r.length - a) = b + r.length by omega, Nat.add_mod_right, Nat.mod_eq_of_lt hb2, e, e2] at this
    have h1 := ht (b + r.length - a)
    rw [this] at h1
    have h2 := topOf_le hx
    exact List.mem_map.mpr ⟨r, hr, by omega⟩
theorem tops_count {ns tops : List Int} (R : IsRow ns) (hn : tops.Nodup) (hm : ∀ x, x ∈ tops ↔ (0 ≤ x ∧ x < ns.length) ∧ isTop ns x) : (ringsOf ns).length = tops.length := by
  have fl : (ringsOf ns).flatten.Nodup := (ringsOf_perm R).symm.nodup (upTo_nodup _)
  have tm : ∀ r ∈ ringsOf ns, topOf r ∈ r := fun r hr => topOf_mem (okRing_ne (ringsOf_okR R hr)) fun x hx => (okRing_bd (ringsOf_okR R hr) x hx).1
  have := (perm_of_mem (tops_nodup fl tm) hn fun x => (tops_mem R x).trans (hm x).symm).length_eq
  rw [List.length_map] at this
  exact this
/-- found, places, pairs, after so many turns of exchanged -/
structure XS where
  f : List Int
  pl : List Int
  ps : List (Int × Int)
def exStep (i : Int) (s : XS) : XS := if gt s.f i = i then s else ⟨st s.f (gt s.pl i) (gt s.f i), st s.pl (gt s.f i) (gt s.pl i), s.ps ++ [(i, gt s.pl i)]⟩
def exAux (ns : List Int) : Nat → XS
  | 0 => ⟨ns, placesOf ns, []⟩
  | i + 1 => exStep i (exAux ns i)
def exPairs (ns : List Int) : List (Int × Int) := (exAux ns ns.length).ps
structure XI (ns : List Int) (i : Nat) (s : XS) : Prop where
  fl : s.f.length = ns.length
  pll : s.pl.length = ns.length
  ok : s.ps.all (swapOk ns.length) = true
  dn : ∀ j : Int, 0 ≤ j ∧ j < i → gt (s.ps.foldl swap ns) j = j
  ff : ∀ j : Int, i ≤ j ∧ j < ns.length → gt s.f j = gt (s.ps.foldl swap ns) j
  pp : ∀ x : Int, i ≤ x ∧ x < ns.length → (i ≤ gt s.pl x ∧ gt s.pl x < ns.length) ∧ gt (s.ps.foldl swap ns) (gt s.pl x) = x
  qq : ∀ x : Int, i ≤ x ∧ x < ns.length → (i ≤ gt (s.ps.foldl swap ns) x ∧ gt (s.ps.foldl swap ns) x < ns.length) ∧ gt s.pl (gt (s.ps.foldl swap ns) x) = x
  fr : ∀ x : Int, i ≤ x ∧ x < ns.length → ∃ k, 0 < k ∧ it ns k x = gt (s.ps.foldl swap ns) x ∧ ∀ m, 0 < m → m < k → it ns m x < i
  ct : ∃ tops : List Int, tops.Nodup ∧ (∀ x, x ∈ tops ↔ (0 ≤ x ∧ x < i) ∧ isTop ns x) ∧ s.ps.length + tops.length = i
theorem XI.zero {ns : List Int} (R : IsRow ns) : XI ns 0 ⟨ns, placesOf ns, []⟩ where
  fl := rfl
  pll := placesOf_length ns
  ok := rfl
  dn := fun j h => by omega
  ff := fun j h => rfl
  pp := fun x h => by
    have := gt_placesOf R (y := x) (by omega)
    exact ⟨⟨by simpa using this.1.1, this.1.2⟩, this.2⟩
  qq := fun x h => by
    have := gt_bd R (x := x) (by omega)
    exact ⟨⟨by simpa using this.1, this.2⟩, placesOf_gt R (by omega)⟩
  fr := fun x h => ⟨1, by omega, rfl, fun m h1 h2 => by omega⟩
  ct := ⟨[], List.nodup_nil, fun x => by simp; omega, rfl⟩
theorem XI.step {ns : List Int} {i : Nat} {s : XS} (I : XI ns i s) (hi : i < ns.length) : XI ns (i + 1) (exStep i s) := by
  obtain ⟨f, pl, ps⟩ := s
  obtain ⟨fl, pll, ok, dn, ff, pp, qq, fr, ct⟩ := I
  dsimp only at fl pll ok dn ff pp qq fr ct
  generalize hg : ps.foldl swap ns = g at dn ff pp qq fr
  have gl : g.length = ns.length := by rw [← hg]; exact swaps_length _ _
  have hfi : gt f (i : Int) = gt g (i : Int) := ff i (by omega)
  obtain ⟨tops, tn, tm, tl⟩ := ct
  unfold exStep
  by_cases c : gt f (i : Int) = i
  · rw [if_pos c]
    rw [hfi] at c
    refine ⟨fl, pll, ok, ?_, ?_, ?_, ?_, ?_, ?_⟩ <;> dsimp only <;> (try rw [hg])
    · intro j hj
      by_cases e : j = i
      · rw [e]; exact c
      · exact dn j (by omega)
    · intro j hj; exact ff j (by omega)
    · intro x hx
      obtain ⟨a, b⟩ := pp x (by omega)
      refine ⟨⟨?_, a.2⟩, b⟩
      have : gt pl x ≠ i := fun e => by rw [e, c] at b; omega
      omega
    · intro x hx
      obtain ⟨a, b⟩ := qq x (by omega)
      refine ⟨⟨?_, a.2⟩, b⟩
      have : gt g x ≠ i := fun e => by
        have h1 := (qq i (by omega)).2
        rw [c] at h1
        rw [e, h1] at b; omega
      omega
    · intro x hx
      obtain ⟨k, k0, e, h⟩ := fr x (by omega)
      exact ⟨k, k0, e, fun m h1 h2 => by have := h m h1 h2; omega⟩
    · refine ⟨tops ++ [(i : Int)], ?_, ?_, by simp; omega⟩
      · rw [List.nodup_append]
        refine ⟨tn, by simp, fun a ha b hb e => ?_⟩
        have := ((tm a).mp ha).1
        simp at hb; omega
      · obtain ⟨k, k0, e, h⟩ := fr i (by omega)
        rw [c] at e
        have top : isTop ns i := fun m => by
          rw [it_mod ns k0 e m]
          have := Nat.mod_lt m k0
          by_cases z : m % k = 0
          · rw [z]; exact Int.le_refl _
          · have := h (m % k) (by omega) this; omega
        intro x
        rw [List.mem_append, tm x]
        constructor
        · rintro (⟨a, b⟩ | a)
          · exact ⟨by omega, b⟩
          · have : x = i := by simpa using a
            subst this
            exact ⟨by omega, top⟩
        · rintro ⟨a, b⟩
          by_cases e : x = i
          · right; simp [e]
          · left; exact ⟨by omega, b⟩
  · rw [if_neg c]
    rw [hfi] at c
    obtain ⟨ob, og⟩ := pp i (by omega)
    obtain ⟨tb, tg⟩ := qq i (by omega)
    have on : gt pl (i : Int) ≠ i := fun e => by rw [e] at og; exact c og
    have ne2 : ∀ x : Int, x ≠ i → gt g x = i → i ≤ x ∧ x < ns.length → x = gt pl (i : Int) := fun x _ e hx => by
      have := (qq x hx).2; rw [e] at this; exact this.symm
    rw [hfi]
    generalize ho : gt pl (i : Int) = o at *
    generalize ht : gt g (i : Int) = t at *
    have hg' : (ps ++ [((i : Int), o)]).foldl swap ns = st (st g i i) o t := by
      rw [List.foldl_append, hg]
      show st (st g i (gt g o)) o (gt g i) = _
      rw [og, ht]
    have g' : ∀ y : Int, 0 ≤ y → gt (st (st g i i) o t) y = if y = o then t else if y = i then (i : Int) else gt g y := fun y hy => by
      rw [gt_st (by rw [st_length]; omega) hy, gt_st (by omega) hy]
    have f' : ∀ y : Int, 0 ≤ y → gt (st f o t) y = if y = o then t else gt f y := fun y hy => gt_st (by omega) hy
    have p' : ∀ y : Int, 0 ≤ y → gt (st pl t o) y = if y = t then o else gt pl y := fun y hy => gt_st (by omega) hy
    refine ⟨?_, ?_, ?_, ?_, ?_, ?_, ?_, ?_, ?_⟩ <;> dsimp only <;> (try rw [hg'])
    · rw [st_length]; exact fl
    · rw [st_length]; exact pll
    · rw [List.all_append, ok]
      show (true && (swapOk ns.length ((i : Int), o) && true)) = true
      unfold swapOk
      rw [decide_eq_true (show (0 : Int) ≤ i by omega), decide_eq_true (show (i : Int) < o by omega), decide_eq_true (show o < ns.length by omega)]; rfl
    · intro j hj
      rw [g' j hj.1, if_neg (by omega)]
      by_cases e : j = i
      · rw [if_pos e, e]
      · rw [if_neg e]; exact dn j (by omega)
    · intro j hj
      rw [g' j (by omega), f' j (by omega), if_neg (show j ≠ i by omega)]
      by_cases e : j = o
      · rw [if_pos e, if_pos e]
      · rw [if_neg e, if_neg e]; exact ff j (by omega)
    · intro x hx
      rw [p' x (by omega)]
      by_cases e : x = t
      · rw [if_pos e, g' o (by omega), if_pos rfl]
        exact ⟨⟨by omega, by omega⟩, e.symm⟩
      · rw [if_neg e]
        obtain ⟨a, b⟩ := pp x (by omega)
        have h1 : gt pl x ≠ i := fun z => by rw [z, ht] at b; exact e b.symm
        have h2 : gt pl x ≠ o := fun z => by rw [z, og] at b; omega
        rw [g' _ (by omega), if_neg h2, if_neg h1]
        exact ⟨⟨by omega, a.2⟩, b⟩
    · intro x hx
      rw [g' x (by omega), if_neg (show x ≠ i by omega)]
      by_cases e : x = o
      · rw [if_pos e, p' t (by omega), if_pos rfl]
        exact ⟨⟨by omega, by omega⟩, e.symm⟩
      · rw [if_neg e]
        obtain ⟨a, b⟩ := qq x (by omega)
        have h1 : gt g x ≠ i := fun z => e (ne2 x (by omega) z (by omega))
        have h2 : gt g x ≠ t := fun z => by rw [z, tg] at b; omega
        rw [p' _ (by omega), if_neg h2]
        exact ⟨⟨by omega, a.2⟩, b⟩
    · intro x hx
      rw [g' x (by omega), if_neg (show x ≠ i by omega)]
      by_cases e : x = o
      · rw [if_pos e]
        obtain ⟨k1, k10, e1, h1⟩ := fr x (by omega)
        obtain ⟨k2, k20, e2, h2⟩ := fr i (by omega)
        rw [e, og] at e1
        rw [ht] at e2
        refine ⟨k2 + k1, by omega, by rw [it_add, e, e1, e2], fun m m0 hm => ?_⟩
        by_cases c1 : m < k1
        · have := h1 m m0 c1; omega
        · by_cases c2 : m = k1
          · rw [c2, e, e1]; omega
          · have := h2 (m - k1) (by omega) (by omega)
            rw [show m = (m - k1) + k1 by omega, it_add, e, e1]; omega
      · rw [if_neg e]
        obtain ⟨k, k0, e, h⟩ := fr x (by omega)
        exact ⟨k, k0, e, fun m h1 h2 => by have := h m h1 h2; omega⟩
    · refine ⟨tops, tn, fun x => ?_, by simp; omega⟩
      rw [tm x]
      constructor
      · rintro ⟨a, b⟩; exact ⟨by omega, b⟩
      · rintro ⟨a, b⟩
        refine ⟨?_, b⟩
        have : x ≠ i := fun e => by
          subst e
          obtain ⟨k, k0, e, h⟩ := fr i (by omega)
          have := b k
          rw [e, ht] at this; omega
        omega
theorem XI.all {ns : List Int} (R : IsRow ns) : ∀ i, i ≤ ns.length → XI ns i (exAux ns i)
  | 0, _ => XI.zero R
  | i + 1, h => (XI.all R i (by omega)).step (by omega)
theorem exPairs_len {ns : List Int} (R : IsRow ns) : (ringsOf ns).length + (exPairs ns).length = ns.length := by
  obtain ⟨tops, tn, tm, tl⟩ := (XI.all R _ (Nat.le_refl _)).ct
  rw [tops_count R tn tm]
  unfold exPairs; omega
theorem exPairs_shows {ns : List Int} (R : IsRow ns) : exShows ns (exPairs ns) (ringsOf ns) = true := by
  have I := XI.all R _ (Nat.le_refl _)
  have e : (exPairs ns).foldl swap ns = upTo ns.length := ext_gt (by rw [swaps_length, upTo_length]) fun y hy => by
    rw [upTo_length] at hy
    rw [gt_upTo hy]; exact I.dn y hy
  have l := exPairs_len R
  unfold exShows
  rw [show (exPairs ns).all (swapOk ns.length) = true from I.ok, decide_eq_true e, ringsOf_ringed R, decide_eq_true (by omega)]
  rfl
theorem isAll_len {l : List Int} {n : Nat} (h : isAll l n = true) : l.length = n := by
  unfold isAll at h
  have := (of_decide_eq_true h).length_eq
  rwa [upTo_length] at this
theorem ringed_len {row : List Int} {told : List (List Int)} (h : told.flatten.length ≠ row.length) : ringed row told = false := by
  unfold ringed
  rw [show isAll told.flatten row.length = false from Bool.eq_false_iff.mpr fun z => h (isAll_len z), Bool.and_false]
theorem exShows_len {row : List Int} {ps : List (Int × Int)} {told : List (List Int)} (h : told.flatten.length ≠ row.length) : exShows row ps told = false := by
  unfold exShows
  rw [ringed_len h, Bool.false_and, Bool.and_false, Bool.and_false]
end Bo

/-! answers as objects -/
namespace Bo
open PySem PySem.Spec PyProof.Rows L2
theorem okRing_split (ns r : List Int) : okRing ns r = (isRing r (ns.length : Nat) && (List.range r.length).all fun k => decide (gt ns (gt r ((k : Int) - 1)) = gt r (k : Int))) := by
  unfold okRing isRing
  have e : (fun x : Int => decide (0 ≤ x) && decide (x < (ns.length : Int))) = fun x => isNum (.int x) 0 ((ns.length : Int) - 1) := by
    funext x
    rw [isNum_int, show decide (x ≤ (ns.length : Int) - 1) = decide (x < (ns.length : Int)) from decide_eq_decide.mpr (by omega)]
  rw [e]
theorem isRing_bd {r : List Int} {n : Nat} (h : isRing r (n : Nat) = true) : ∀ x ∈ r, 0 ≤ x ∧ x < (n : Int) := fun x hx => by
  unfold isRing at h
  rw [Bool.and_eq_true, List.all_eq_true] at h
  have := h.2 x hx
  rw [isNum_int, Bool.and_eq_true, decide_eq_true_eq, decide_eq_true_eq] at this
  omega
theorem exAux_skip {ns : List Int} {i : Nat} (h : gt (exAux ns i).f (i : Int) = i) : exAux ns (i + 1) = exAux ns i := if_pos h
theorem exAux_go {ns : List Int} {i : Nat} (h : ¬ gt (exAux ns i).f (i : Int) = i) : exAux ns (i + 1) = ⟨st (exAux ns i).f (gt (exAux ns i).pl i) (gt (exAux ns i).f i), st (exAux ns i).pl (gt (exAux ns i).f i) (gt (exAux ns i).pl i), (exAux ns i).ps ++ [((i : Int), gt (exAux ns i).pl i)]⟩ := if_neg h
theorem News.nlst {H1 H2 : Hp} {ts : List Addr} {ps : List (Int × Int)} (n : News H1 H2 oP ts ps) {p : Addr} {xs : List V} (h : H2 p = some (.lst xs)) : p ∉ ts := fun hm => by
  obtain ⟨x, _, _, e⟩ := n.mem hm
  rw [h] at e; cases e
theorem Tf.nlst {H : Hp} {ts : List Addr} {ps : List (Int × Int)} (n : Tf H ts ps) {p : Addr} {xs : List V} (h : H p = some (.lst xs)) : p ∉ ts := fun hm => by
  obtain ⟨i, hi, e⟩ := List.getElem_of_mem hm
  have hj : i < ps.length := by rw [← n.1]; exact hi
  have := n.2 i p ps[i] (by rw [List.getElem?_eq_getElem hi, e]) (List.getElem?_eq_getElem hj)
  rw [h] at this; cases this
theorem Tf.mut {H : Hp} {ts : List Addr} {ps : List (Int × Int)} (n : Tf H ts ps) {p : Addr} {xs : List V} {o : HO} (h : H p = some (.lst xs)) : Tf (upd H p o) ts ps := ⟨n.1, fun i t q a b => by
  have ne : t ≠ p := fun e => n.nlst h (by rw [← e]; exact List.mem_of_getElem? a)
  rw [upd_ne ne]; exact n.2 i t q a b⟩
theorem Lf.mut {H : Hp} {bs : List Addr} {rs : List (List Int)} (n : Lf H bs rs) {p : Addr} {o : HO} (h : p ∉ bs) : Lf (upd H p o) bs rs := ⟨n.1, fun i t q a b => by
  have ne : t ≠ p := fun e => h (by rw [← e]; exact List.mem_of_getElem? a)
  rw [upd_ne ne]; exact n.2 i t q a b⟩
theorem Lf.snoc {H : Hp} {bs : List Addr} {rs : List (List Int)} (n : Lf H bs rs) {p : Addr} {r : List Int} (h : H p = some (oL r)) : Lf H (bs ++ [p]) (rs ++ [r]) := ⟨by rw [List.length_append, List.length_append, n.1]; rfl, fun i t q a b => by
  by_cases c : i < bs.length
  · rw [List.getElem?_append_left c] at a
    rw [List.getElem?_append_left (by rw [← n.1]; exact c)] at b
    exact n.2 i t q a b
  · rw [List.getElem?_append_right (by omega)] at a
    rw [List.getElem?_append_right (by rw [← n.1]; omega)] at b
    have e : i - bs.length = 0 := by
      cases z : i - bs.length with
      | zero => rfl
      | succ m => rw [z] at a; simp at a
    rw [e] at a
    rw [← n.1, e] at b
    have a' : p = t := by simpa using a
    have b' : r = q := by simpa using b
    rw [← a', ← b']; exact h⟩
theorem Lf.put {H : Hp} {bs : List Addr} {rs : List (List Int)} (n : Lf H bs rs) (nd : bs.Nodup) {k : Nat} {p : Addr} {r' : List Int} (hk : bs[k]? = some p) : Lf (upd H p (oL r')) bs (rs.set k r') := ⟨by rw [List.length_set]; exact n.1, fun i t q a b => by
  have hkl : k < rs.length := by rw [← n.1]; exact (List.getElem?_eq_some_iff.mp hk).1
  by_cases c : i = k
  · subst c
    rw [List.getElem?_set_self hkl] at b
    rw [hk] at a
    have a' : p = t := Option.some.inj a
    have b' : r' = q := Option.some.inj b
    rw [← a', ← b']; exact upd_same
  · rw [List.getElem?_set_ne (Ne.symm c)] at b
    have ne : t ≠ p := fun e => by
      subst e
      exact c (nd_ix nd a hk)
    rw [upd_ne ne]; exact n.2 i t q a b⟩
theorem flat_put : ∀ {rs : List (List Int)} {k : Nat} {r : List Int}, rs[k]? = some r → (rs.set k (r ++ [0])).flatten.length = rs.flatten.length + 1
  | [], k, r, h => by simp at h
  | x :: rs, 0, r, h => by
    have : x = r := Option.some.inj h
    subst this
    simp; omega
  | x :: rs, k + 1, r, h => by
    have := flat_put (rs := rs) (k := k) (r := r) h
    rw [List.set_cons_succ, List.flatten_cons, List.flatten_cons, List.length_append, List.length_append, this]; omega
theorem ne_kind {H : Hp} {x y : Addr} {o o' : HO} (h : H x = some o) (h' : H y = some o') (n : o ≠ o') : x ≠ y := fun e => by
  subst e; rw [h] at h'; exact n (Option.some.inj h')
theorem m_popS {α : Type} {H : Hp} {Q : VK} {l : Addr} {f : α → V} {xs : List α} {y : α} (h : H l = some (.lst ((xs ++ [y]).map f))) (q : Q (f y) (upd H l (.lst (xs.map f)))) : rPop (.ref l) [] H Q :=
  ⟨l, (xs ++ [y]).map f, f y, rfl, rfl, h, by simp, by rw [List.map_append]; show Q (f y) (upd H l (.lst ((xs.map f ++ [f y]).dropLast))); rw [List.dropLast_concat]; exact q⟩
theorem o_notB {H : Hp} {Q : VK} {a b : Bool} (q : Q (.bl (!decide (a = b))) H) : rNotB (.bl a) (.bl b) H Q := ⟨a, b, rfl, rfl, q⟩
theorem c_isiO {K : PySem.W.Frag} {H : Hp} {Q : VK} {x : V} {C D : Addr} {b : Bool} (ty : TyX K H x (.ref C)) (e : PySem.W.kitOne K (.ref C) (.ref D) = some b) (q : Q (.bl b) H) : rIsi K [x, .ref D] H Q := ⟨x, .ref D, _, _, b, rfl, .own D, ty, e, q⟩
/-! ### what an Exchanged holds -/
def exF (pp pr : Addr) : List (Str × V) := putF "rings" (.ref pr) (putF "pairs" (.ref pp) [])
theorem exF_pairs (pp pr : Addr) : (exF pp pr).lookup ("pairs" : Str) = some (V.ref pp) := by unfold exF; rw [lookup_putF, if_neg (by decide), lookup_putF, if_pos rfl]
theorem exF_rings (pp pr : Addr) : (exF pp pr).lookup ("rings" : Str) = some (V.ref pr) := by unfold exF; rw [lookup_putF, if_pos rfl]
theorem exF_none {m : Str} (pp pr : Addr) (h1 : m ≠ ("rings" : Str)) (h2 : m ≠ ("pairs" : Str)) : (exF pp pr).lookup m = none := by unfold exF; rw [lookup_putF, if_neg h1, lookup_putF, if_neg h2]; rfl
structure ExA (C : Addr) (H : Hp) (x pp pr : Addr) (ts bs : List Addr) (ps : List (Int × Int)) (rs : List (List Int)) : Prop where
  ob : ∃ dx, H x = some (.ins C dx (exF pp pr))
  hp : H pp = some (.lst (ts.map V.ref))
  hr : H pr = some (.lst (bs.map V.ref))
  tf : Tf H ts ps
  lf : Lf H bs rs
theorem ExA.same {C : Addr} {H H' : Hp} {x pp pr : Addr} {ts bs : List Addr} {ps : List (Int × Int)} {rs : List (List Int)} (h : ExA C H x pp pr ts bs ps rs) (s : Same H H') : ExA C H' x pp pr ts bs ps rs where
  ob := by obtain ⟨dx, e⟩ := h.ob; exact ⟨dx, s _ _ e⟩
  hp := s _ _ h.hp
  hr := s _ _ h.hr
  tf := h.tf.same s
  lf := h.lf.same s
section
variable {C : Addr} {H : Hp} {x pp pr : Addr} {ts bs : List Addr} {ps : List (Int × Int)} {rs : List (List Int)}
theorem ExA.setR (O : ExA C H x pp pr ts bs ps rs) (npe : pp ≠ pr) {bs' : List Addr} {rs' : List (List Int)} (L : Lf H bs' rs') (nm : pr ∉ bs') : ExA C (upd H pr (.lst (bs'.map V.ref))) x pp pr ts bs' ps rs' where
  ob := by obtain ⟨dx, e⟩ := O.ob; exact ⟨dx, lift_ne e (ne_kind e O.hr (fun z => by cases z))⟩
  hp := lift_ne O.hp npe
  hr := upd_same
  tf := O.tf.mut O.hr
  lf := L.mut nm
theorem ExA.setB (O : ExA C H x pp pr ts bs ps rs) (m1 : pp ∉ bs) (m2 : pr ∉ bs) (nd : bs.Nodup) {k : Nat} {p : Addr} {r r' : List Int} (hk : bs[k]? = some p) (hr : H p = some (oL r)) : ExA C (upd H p (oL r')) x pp pr ts bs ps (rs.set k r') where
  ob := by obtain ⟨dx, e⟩ := O.ob; exact ⟨dx, lift_ne e (ne_kind e hr (fun z => by cases z))⟩
  hp := lift_ne O.hp (fun e => m1 (by rw [e]; exact List.mem_of_getElem? hk))
  hr := lift_ne O.hr (fun e => m2 (by rw [e]; exact List.mem_of_getElem? hk))
  tf := O.tf.mut hr
  lf := O.lf.put nd hk
end
end Bo

namespace Bo
open PySem PySem.Spec PyProof.Rows L2
section
variable {K : PySem.W.Frag} {σ : L2.St} {H : Hp} {Q : VK} {te : TE} {j : Nat} {vs : List Nat}
/-- elements that are new objects, over a range -/
theorem k_lcR2N {lo n : Int} (obj : Int → HO) (z : 0 ≤ lo ∧ lo ≤ 1000000 ∧ -1 ≤ n ∧ n < 1000000) (hw : ∀ v : V, wipe ((wipe σ vs).set j (some v)) vs = wipe σ vs)
    (hs : ∀ (i : Nat) (H2 : Hp) (R : VK), lo + (i : Int) < n → Same H H2 → (∀ p H3, H2 p = none → Same H2 H3 → H3 p = some (obj (lo + i)) → R (.ref p) H3) → te ((wipe σ vs).set j (some (.int (lo + (i : Nat))))) H2 R)
    (hd : ∀ D as H2, H D = none → Same H H2 → News H H2 obj as ((List.range (n - lo).toNat).map fun i : Nat => lo + i) → D ∉ as → H2 D = some (.lst (as.map V.ref)) → Q (.ref D) H2) : KCR2 (gName j) tYes te vs σ Q [.int lo, .int n] H := by
  refine ⟨lo, n, rfl, by omega, fun D nD => ?_⟩
  refine lc_range (lo := lo) (n := (n - lo).toNat) (fun i H2 => Same H H2 ∧ ∃ as, News H H2 obj as ((List.range i).map fun i : Nat => lo + i) ∧ D ∉ as ∧ H2 D = some (.lst (as.map V.ref))) ⟨Same.one nD, [], News.nil, by simp, upd_same⟩ (fun i H2 hi p => ⟨hw _, ?_⟩) (fun H2 ⟨p1, as, n1, p2, p3⟩ => hd D as H2 nD p1 n1 p2 p3)
  obtain ⟨p1, as, n1, p2, p3⟩ := p
  have la := n1.len
  rw [List.length_map, List.length_range] at la
  refine tYes_ok (iteT ?_)
  refine hs i H2 _ (by omega) p1 fun p H4 np s4 hp => ?_
  have e : D ≠ p := neo np p3
  refine ⟨_, s4 _ _ p3, ?_, Same.new (p1.trans s4) nD, as ++ [p], ?_, nm_snoc p2 e, by rw [upd_same, List.map_append]; rfl⟩
  · rw [List.length_map, la]
    exact Nat.lt_of_lt_of_le (show i < 1000002 by omega) (by decide)
  · rw [List.range_succ, List.map_append]
    exact ((n1.same s4).snoc (n1.notin np) (p1.free np) hp).mut (nm_snoc p2 e)
theorem k_lcR1N {n : Int} (obj : Int → HO) (z : 0 ≤ n ∧ n < 1000000) (hw : ∀ v : V, wipe ((wipe σ vs).set j (some v)) vs = wipe σ vs)
    (hs : ∀ (i : Nat) (H2 : Hp) (R : VK), (i : Int) < n → Same H H2 → (∀ p H3, H2 p = none → Same H2 H3 → H3 p = some (obj (i : Int)) → R (.ref p) H3) → te ((wipe σ vs).set j (some (.int (i : Nat)))) H2 R)
    (hd : ∀ D as H2, H D = none → Same H H2 → News H H2 obj as ((List.range n.toNat).map Int.ofNat) → D ∉ as → H2 D = some (.lst (as.map V.ref)) → Q (.ref D) H2) : KCR1 (gName j) tYes te vs σ Q [.int n] H := by
  refine ⟨n, rfl, by omega, by omega, fun D nD => ?_⟩
  refine lc_range (lo := 0) (n := n.toNat) (fun i H2 => Same H H2 ∧ ∃ as, News H H2 obj as ((List.range i).map Int.ofNat) ∧ D ∉ as ∧ H2 D = some (.lst (as.map V.ref))) ⟨Same.one nD, [], News.nil, by simp, upd_same⟩ (fun i H2 hi p => ⟨hw _, ?_⟩) (fun H2 ⟨p1, as, n1, p2, p3⟩ => hd D as H2 nD p1 n1 p2 p3)
  obtain ⟨p1, as, n1, p2, p3⟩ := p
  have la := n1.len
  rw [List.length_map, List.length_range] at la
  have e0 : (0 : Int) + (i : Int) = (i : Int) := Int.zero_add _
  rw [e0]
  refine tYes_ok (iteT ?_)
  refine hs i H2 _ (by omega) p1 fun p H4 np s4 hp => ?_
  have e : D ≠ p := neo np p3
  refine ⟨_, s4 _ _ p3, ?_, Same.new (p1.trans s4) nD, as ++ [p], ?_, nm_snoc p2 e, by rw [upd_same, List.map_append]; rfl⟩
  · rw [List.length_map, la]
    exact Nat.lt_of_lt_of_le (show i < 1000002 by omega) (by decide)
  · rw [List.range_succ, List.map_append]
    exact ((n1.same s4).snoc (n1.notin np) (p1.free np) hp).mut (nm_snoc p2 e)
/-- a pair taken apart -/
theorem k_tup2 {K : PySem.W.Frag} {j1 j2 : Nat} {p : Addr} {u v : V} {R : L2.St → Hp → Prop} (h : SqT K H p [u, v]) (q : R ((σ.set j1 (some u)).set j2 (some v)) H) : gTup K 2 (gCons (gName j1) (gCons (gName j2) gNil)) (.ref p) σ H R :=
  ⟨p, _, rfl, h, rfl, _, _, rfl, _, _, rfl, rfl, q⟩
theorem o_ninT {K : PySem.W.Frag} {l : Addr} {ns : List Int} {i : Int} (h : SqT K H l (ns.map V.int)) (q : Q (.bl (!decide (i ∈ ns))) H) : rIn K true (.int i) (.ref l) H Q := ⟨l, _, rfl, .inr h, rfl, all_flat ns, by
  show Q (.bl (!inV (.int i) (ns.map V.int))) H
  rw [inV_ints]; exact q⟩
end
theorem News.map {α β : Type} {H1 H2 : Hp} {obj : β → HO} {g : α → β} {as : List Addr} {xs : List α} (n : News H1 H2 (fun x => obj (g x)) as xs) : News H1 H2 obj as (xs.map g) := ⟨by rw [List.length_map]; exact n.1, n.2.1, fun i p x hp hx => by
  rw [List.getElem?_map] at hx
  cases e : xs[i]? with
  | none => rw [e] at hx; cases hx
  | some y =>
    rw [e] at hx
    have : g y = x := Option.some.inj hx
    subst this
    exact n.2.2 i p y hp e⟩
theorem Tf.app {H : Hp} {as bs : List Addr} {xs ys : List (Int × Int)} (h : Tf H as xs) (h' : Tf H bs ys) : Tf H (as ++ bs) (xs ++ ys) := ⟨by rw [List.length_append, List.length_append, h.1, h'.1], fun i t p a b => by
  by_cases c : i < as.length
  · rw [List.getElem?_append_left c] at a
    rw [List.getElem?_append_left (by rw [← h.1]; exact c)] at b
    exact h.2 i t p a b
  · rw [List.getElem?_append_right (by omega)] at a
    rw [List.getElem?_append_right (by rw [← h.1]; omega), ← h.1] at b
    exact h'.2 _ t p a b⟩
end Bo

/-! pairs that stand wrong -/
namespace Bo
open PySem L2
def inv : List Int → Nat
  | [] => 0
  | x :: r => r.countP (fun y => decide (y < x)) + inv r
def cross (A B : List Int) : Nat := (A.map fun x => B.countP fun y => decide (y < x)).sum
theorem cross_nil (B : List Int) : cross [] B = 0 := rfl
theorem cross_cons (x : Int) (A B : List Int) : cross (x :: A) B = B.countP (fun y => decide (y < x)) + cross A B := by unfold cross; rw [List.map_cons, List.sum_cons]
theorem cross_app_left : ∀ A B C : List Int, cross (A ++ B) C = cross A C + cross B C
  | [], B, C => by rw [List.nil_append, cross_nil, Nat.zero_add]
  | x :: A, B, C => by rw [List.cons_append, cross_cons, cross_cons, cross_app_left A B C, Nat.add_assoc]
theorem cross_app_right : ∀ A B C : List Int, cross A (B ++ C) = cross A B + cross A C
  | [], B, C => rfl
  | x :: A, B, C => by rw [cross_cons, cross_cons, cross_cons, cross_app_right A B C, List.countP_append]; omega
theorem inv_app : ∀ A B : List Int, inv (A ++ B) = inv A + inv B + cross A B
  | [], B => by rw [List.nil_append, cross_nil]; show inv B = 0 + inv B + 0; omega
  | x :: A, B => by
    rw [List.cons_append, cross_cons]
    show (A ++ B).countP _ + inv (A ++ B) = A.countP _ + inv A + inv B + _
    rw [List.countP_append, inv_app A B]; omega
theorem cross_perm_left {A A' : List Int} (h : A.Perm A') (B : List Int) : cross A B = cross A' B := by
  induction h with
  | nil => rfl
  | cons x _ ih => rw [cross_cons, cross_cons, ih]
  | swap x y l => rw [cross_cons, cross_cons, cross_cons, cross_cons]; omega
  | trans _ _ ih1 ih2 => rw [ih1, ih2]
theorem cross_perm_right : ∀ (A : List Int) {B B' : List Int}, B.Perm B' → cross A B = cross A B'
  | [], _, _, _ => rfl
  | x :: A, B, B', h => by rw [cross_cons, cross_cons, cross_perm_right A h, h.countP_eq]
theorem inv_sorted : ∀ {l : List Int}, l.Pairwise (· ≤ ·) → inv l = 0
  | [], _ => rfl
  | x :: r, h => by
    obtain ⟨h1, h2⟩ := List.pairwise_cons.mp h
    show r.countP _ + inv r = 0
    rw [inv_sorted h2, List.countP_eq_zero.mpr fun y hy => by have := h1 y hy; simp; omega]
theorem cross_one : ∀ (A : List Int) (x : Int), cross A [x] = A.countP fun a => decide (x < a)
  | [], x => rfl
  | a :: A, x => by
    rw [cross_cons, cross_one A x, List.countP_singleton, List.countP_cons]
    split <;> omega
theorem inv_snoc (A : List Int) (x : Int) : inv (A ++ [x]) = inv A + A.countP fun a => decide (x < a) := by
  rw [inv_app, cross_one]; show inv A + (0 + 0) + _ = _; omega
/-- two neighbours put together -/
theorem inv_merge {X A B M Z : List Int} (hA : A.Pairwise (· ≤ ·)) (hB : B.Pairwise (· ≤ ·)) (hM : M.Pairwise (· ≤ ·)) (p : M.Perm (A ++ B)) : inv (X ++ (A ++ B) ++ Z) = inv (X ++ M ++ Z) + cross A B := by
  rw [inv_app, inv_app X, inv_app (X ++ M), inv_app X M, inv_app A B, inv_sorted hA, inv_sorted hB, inv_sorted hM, cross_perm_right X p, cross_app_left X, cross_app_left X, cross_perm_left p Z]
  omega
theorem countP_two {x : Int} : ∀ {r : List Int}, x ∉ r → r.countP (fun y => decide (y < x)) + r.countP (fun y => decide (x < y)) = r.length
  | [], _ => rfl
  | y :: r, h => by
    have h1 : x ≠ y := fun e => h (by rw [e]; simp)
    have ih := countP_two (r := r) fun z => h (List.mem_cons_of_mem _ z)
    rw [List.countP_cons, List.countP_cons, List.length_cons]
    by_cases c : y < x
    · rw [if_pos (by simpa using c), if_neg (by simp; omega)]; omega
    · rw [if_neg (by simpa using c), if_pos (by simp; omega)]; omega
theorem inv_rev : ∀ {l : List Int}, l.Nodup → 2 * (inv l + inv l.reverse) = l.length * (l.length - 1)
  | [], _ => rfl
  | x :: r, h => by
    obtain ⟨h1, h2⟩ := List.nodup_cons.mp h
    have ih := inv_rev h2
    have h3 := countP_two h1
    have h4 : r.reverse.countP (fun a => decide (x < a)) = r.countP fun a => decide (x < a) := (List.reverse_perm r).countP_eq _
    rw [List.reverse_cons, inv_snoc, h4]
    show 2 * (r.countP _ + inv r + _) = (r.length + 1) * (r.length + 1 - 1)
    have e : (r.length + 1) * (r.length + 1 - 1) = r.length * (r.length - 1) + 2 * r.length := by
      rw [Nat.add_sub_cancel, Nat.succ_mul]
      cases r.length with
      | zero => rfl
      | succ m => rw [Nat.succ_sub_one]; simp only [Nat.succ_mul, Nat.mul_succ]; omega
    rw [e, ← ih]; omega
/-! ### and of the row behind which it comes to order -/
theorem sum_swap {P : Int → Int → Bool} : ∀ A B : List Int, (A.map fun a => B.countP (P a)).sum = (B.map fun b => A.countP fun a => P a b).sum
  | [], B => by
    rw [List.map_nil, List.sum_nil]
    induction B with
    | nil => rfl
    | cons b B ih => rw [List.map_cons, List.sum_cons, ← ih]; rfl
  | a :: A, B => by
    rw [List.map_cons, List.sum_cons, sum_swap A B]
    induction B with
    | nil => rfl
    | cons b B ih =>
      rw [List.map_cons, List.map_cons, List.sum_cons, List.sum_cons, ← ih, List.countP_cons, List.countP_cons]; omega
theorem sum_perm {f : Int → Nat} {A B : List Int} (h : A.Perm B) : (A.map f).sum = (B.map f).sum := by
  induction h with
  | nil => rfl
  | cons x _ ih => rw [List.map_cons, List.map_cons, List.sum_cons, List.sum_cons, ih]
  | swap x y l => simp only [List.map_cons, List.sum_cons]; omega
  | trans _ _ ih1 ih2 => rw [ih1, ih2]
theorem upTo_map (l : List Int) : (upTo l.length).map (gt l) = l := by
  apply List.ext_getElem?
  intro i
  rw [List.getElem?_map]
  by_cases c : i < l.length
  · rw [upTo_get c, gt_some c]; rfl
  · rw [List.getElem?_eq_none (by rw [upTo_length]; omega), List.getElem?_eq_none (by omega)]; rfl
theorem countP_low {Q : Int → Bool} (n k : Nat) (h : k ≤ n) : (upTo n).countP (fun j => decide (j < (k : Int)) && Q j) = (upTo k).countP Q := by
  induction n with
  | zero =>
    have : k = 0 := by omega
    subst this; rfl
  | succ m ih =>
    rw [upTo_succ, List.countP_append, List.countP_singleton]
    by_cases c : k ≤ m
    · rw [ih c, if_neg (by rw [decide_eq_false (show ¬ ((m : Int) < k) by omega)]; simp)]; omega
    · have : k = m + 1 := by omega
      subst this
      rw [upTo_succ, List.countP_append, List.countP_singleton, decide_eq_true (show (m : Int) < ((m + 1 : Nat) : Int) by omega), Bool.true_and]
      congr 1
      apply List.countP_congr
      intro j hj
      have := mem_upTo.mp hj
      rw [decide_eq_true (show j < ((m + 1 : Nat) : Int) by omega), Bool.true_and]
theorem inv_take (l : List Int) : ∀ k, k ≤ l.length → inv (l.take k) = ((upTo k).map fun b => (upTo l.length).countP fun a => decide (a < b) && decide (gt l b < gt l a)).sum
  | 0, _ => rfl
  | k + 1, h => by
    rw [List.take_add_one, gt_some (ns := l) (i := k) (by omega)]
    show inv (l.take k ++ [gt l (k : Int)]) = _
    rw [inv_snoc, inv_take l k (by omega), upTo_succ, List.map_append, List.sum_append]
    congr 1
    show _ = (upTo l.length).countP (fun a => decide (a < (k : Int)) && decide (gt l (k : Int) < gt l a)) + 0
    rw [Nat.add_zero, countP_low (Q := fun a => decide (gt l (k : Int) < gt l a)) _ _ (by omega)]
    have e : l.take k = (upTo k).map (gt l) := by
      have := upTo_map l
      conv => lhs; rw [← this]
      rw [← List.map_take]
      congr 1
      unfold upTo
      rw [← List.map_take, List.take_range, Nat.min_eq_left (by omega)]
    rw [e, List.countP_map]; rfl
theorem inv_sum (l : List Int) : inv l = ((upTo l.length).map fun b => (upTo l.length).countP fun a => decide (a < b) && decide (gt l b < gt l a)).sum := by
  have := inv_take l l.length (Nat.le_refl _)
  rwa [List.take_length] at this
theorem inv_places {ns : List Int} (R : IsRow ns) : inv (placesOf ns) = inv ns := by
  rw [inv_sum, inv_sum ns, placesOf_length, sum_swap (P := fun b a => decide (a < b) && decide (gt ns b < gt ns a))]
  have hp := row_perm R
  rw [← sum_perm (f := fun b => (upTo ns.length).countP fun a => decide (a < b) && decide (gt (placesOf ns) b < gt (placesOf ns) a)) hp]
  have e1 : ∀ f : Int → Nat, ns.map f = (upTo ns.length).map fun i => f (gt ns i) := fun f => by
    have h := congrArg (List.map f) (upTo_map ns)
    rw [List.map_map] at h; exact h.symm
  have e2 : ∀ P : Int → Bool, ns.countP P = (upTo ns.length).countP fun i => P (gt ns i) := fun P => by
    have h := congrArg (List.countP P) (upTo_map ns)
    rw [List.countP_map] at h; exact h.symm
  rw [e1]
  congr 1
  apply List.map_congr_left
  intro x hx
  have hx' := mem_upTo.mp hx
  show (upTo ns.length).countP (fun a => decide (a < gt ns x) && decide (gt (placesOf ns) (gt ns x) < gt (placesOf ns) a)) = (upTo ns.length).countP fun b => decide (x < b) && decide (gt ns b < gt ns x)
  rw [← hp.countP_eq, placesOf_gt R hx', e2]
  apply List.countP_congr
  intro y hy
  have hy' := mem_upTo.mp hy
  show (decide (gt ns y < gt ns x) && decide (x < gt (placesOf ns) (gt ns y))) = true ↔ _
  rw [placesOf_gt R hy', Bool.and_comm]
end Bo

/-! rows done often, turns -/
namespace Bo
open PySem L2
def tRing (r : List Int) (by_ : Int) : Nat → List Int → List Int
  | 0, f => f
  | k + 1, f => st (tRing r by_ k f) (gt r (k : Int)) (gt r ((k : Int) + by_ - r.length))
theorem tRing_length (r : List Int) (b : Int) : ∀ k f, (tRing r b k f).length = f.length
  | 0, f => rfl
  | k + 1, f => by show (st _ _ _).length = _; rw [st_length, tRing_length r b k f]
def timesAux (number : Int) (rs : List (List Int)) (f : List Int) : List Int := rs.foldl (fun f r => tRing r (number % r.length) r.length f) f
def timesOf (ns : List Int) (number : Int) : List Int := timesAux number (ringsOf ns) ns
theorem timesAux_length (number : Int) : ∀ rs f, (timesAux number rs f).length = f.length
  | [], f => rfl
  | r :: rs, f => by
    show (timesAux number rs (tRing r _ _ f)).length = _
    rw [timesAux_length number rs, tRing_length]
theorem timesOf_length (ns : List Int) (number : Int) : (timesOf ns number).length = ns.length := timesAux_length _ _ _
theorem tRing_out {row r : List Int} (ok : okRing row r = true) (b : Int) : ∀ k f, k ≤ r.length → f.length = row.length → ∀ y : Int, 0 ≤ y → y ∉ r → gt (tRing r b k f) y = gt f y
  | 0, f, _, _, y, _, _ => rfl
  | k + 1, f, hk, hf, y, h0, hy => by
    have hm : gt r (k : Int) ∈ r := gt_mem (by omega) (by omega)
    have hb := okRing_bd ok _ hm
    show gt (st (tRing r b k f) _ _) y = _
    rw [gt_st (by rw [tRing_length]; omega) h0, if_neg (fun e => hy (by rw [e]; exact hm))]
    exact tRing_out ok b k f (by omega) hf y h0 hy
theorem tRing_in {row r : List Int} (ok : okRing row r = true) (nd : r.Nodup) (b : Int) : ∀ k f, k ≤ r.length → f.length = row.length → ∀ j : Nat, j < k → gt (tRing r b k f) (gt r (j : Int)) = gt r ((j : Int) + b - r.length)
  | 0, f, _, _, j, hj => absurd hj (Nat.not_lt_zero _)
  | k + 1, f, hk, hf, j, hj => by
    have hm : gt r (k : Int) ∈ r := gt_mem (by omega) (by omega)
    have hm' : gt r (j : Int) ∈ r := gt_mem (by omega) (by omega)
    have hb := okRing_bd ok _ hm
    have hb' := okRing_bd ok _ hm'
    show gt (st (tRing r b k f) _ _) _ = _
    rw [gt_st (by rw [tRing_length]; omega) hb'.1]
    by_cases c : j = k
    · subst c; rw [if_pos rfl]
    · have : gt r (j : Int) ≠ gt r (k : Int) := fun e => by
        rw [gt_nat, gt_nat] at e
        exact c (getD_inj nd (by omega) (by omega) e)
      rw [if_neg this]
      exact tRing_in ok nd b k f (by omega) hf j (by omega)
theorem gt_wrap {r : List Int} {j : Nat} {b : Int} (hj : j < r.length) (hb : 0 ≤ b ∧ b < r.length) : gt r ((j : Int) + b - r.length) = r.getD ((j + b.toNat) % r.length) 0 := by
  unfold gt
  by_cases c : 0 ≤ (j : Int) + b - r.length
  · rw [if_pos c]
    congr 1
    have : j + b.toNat = ((j : Int) + b - r.length).toNat + r.length := by omega
    rw [this, Nat.add_mod_right, Nat.mod_eq_of_lt (by omega)]
  · rw [if_neg c]
    congr 1
    rw [Nat.mod_eq_of_lt (by omega)]; omega
/-- a row done so often -/
def IsPow (ns : List Int) (number : Int) (f : List Int) : Prop := f.length = ns.length ∧ ∀ r ∈ ringsOf ns, ∀ x ∈ r, gt f x = it ns (number % r.length).toNat x
theorem timesAux_pow {row : List Int} (number : Int) : ∀ (rs : List (List Int)) (f : List Int), (∀ r ∈ rs, okRing row r = true) → rs.flatten.Nodup → f.length = row.length →
    (∀ r ∈ rs, ∀ x ∈ r, gt (timesAux number rs f) x = it row (number % r.length).toNat x) ∧ ∀ y : Int, 0 ≤ y → y ∉ rs.flatten → gt (timesAux number rs f) y = gt f y
  | [], f, _, _, _ => ⟨fun r h => by simp at h, fun y _ _ => rfl⟩
  | r :: rs, f, ok, nd, hf => by
    rw [List.flatten_cons, List.nodup_append] at nd
    obtain ⟨n1, n2, n3⟩ := nd
    have okr := ok r (by simp)
    have hl : (tRing r (number % r.length) r.length f).length = row.length := by rw [tRing_length]; exact hf
    obtain ⟨i1, i2⟩ := timesAux_pow number rs (tRing r (number % r.length) r.length f) (fun x hx => ok x (List.mem_cons_of_mem _ hx)) n2 hl
    have e : timesAux number (r :: rs) f = timesAux number rs (tRing r (number % r.length) r.length f) := rfl
    rw [e]
    refine ⟨fun q hq x hx => ?_, fun y h0 hy => ?_⟩
    · rcases List.mem_cons.mp hq with rfl | hq
      · have hb := okRing_bd okr x hx
        rw [i2 x hb.1 fun z => n3 x hx x z rfl]
        obtain ⟨a, ha, ex⟩ := mem_getD hx
        have hlen : (0 : Int) < q.length := by omega
        have h1 := Int.emod_nonneg number (show (q.length : Int) ≠ 0 by omega)
        have h2 := Int.emod_lt_of_pos number hlen
        rw [← ex, ← gt_nat, tRing_in okr n1 _ q.length f (Nat.le_refl _) hf a ha, gt_wrap ha ⟨h1, h2⟩, gt_nat, ring_it okr ha]
      · exact i1 q hq x hx
    · rw [i2 y h0 fun z => hy (by rw [List.flatten_cons]; exact List.mem_append_right _ z)]
      exact tRing_out okr _ _ f (Nat.le_refl _) hf y h0 fun z => hy (by rw [List.flatten_cons]; exact List.mem_append_left _ z)
theorem timesOf_pow {ns : List Int} (R : IsRow ns) (number : Int) : IsPow ns number (timesOf ns number) :=
  ⟨timesOf_length _ _, (timesAux_pow number (ringsOf ns) ns (fun r hr => ringsOf_okR R hr) ((ringsOf_perm R).symm.nodup (upTo_nodup _)) rfl).1⟩
theorem in_ring {ns : List Int} (R : IsRow ns) {x : Int} (h : 0 ≤ x ∧ x < ns.length) : ∃ r ∈ ringsOf ns, x ∈ r := by
  have hm : x ∈ (ringsOf ns).flatten := ((ringsOf_perm R).mem_iff).mpr (mem_upTo.mpr h)
  obtain ⟨r, hr, hx⟩ := List.mem_flatten.mp hm
  exact ⟨r, hr, hx⟩
theorem ring_turn {ns r : List Int} (ok : okRing ns r = true) {x : Int} (hx : x ∈ r) : 0 < r.length ∧ it ns r.length x = x := by
  obtain ⟨a, ha, e⟩ := mem_getD hx
  have := ring_it ok ha r.length
  rw [Nat.add_mod_right, Nat.mod_eq_of_lt ha, e] at this
  exact ⟨by omega, this⟩
theorem it_bd {ns : List Int} (R : IsRow ns) {x : Int} (h : 0 ≤ x ∧ x < ns.length) : ∀ m, 0 ≤ it ns m x ∧ it ns m x < ns.length
  | 0 => h
  | m + 1 => gt_bd R (it_bd R h m)
theorem it_inj {ns : List Int} (R : IsRow ns) : ∀ (m : Nat) {x y : Int}, 0 ≤ x ∧ x < ns.length → 0 ≤ y ∧ y < ns.length → it ns m x = it ns m y → x = y
  | 0, x, y, _, _, e => e
  | m + 1, x, y, hx, hy, e => it_inj R m hx hy (gt_inj R (it_bd R hx m) (it_bd R hy m) e)
theorem it_back {ns : List Int} (R : IsRow ns) {x : Int} (h : 0 ≤ x ∧ x < ns.length) : ∀ k, (0 ≤ it (placesOf ns) k x ∧ it (placesOf ns) k x < ns.length) ∧ it ns k (it (placesOf ns) k x) = x
  | 0 => ⟨h, rfl⟩
  | k + 1 => by
    obtain ⟨b, e⟩ := it_back R h k
    obtain ⟨b2, e2⟩ := gt_placesOf R b
    refine ⟨b2, ?_⟩
    show it ns (k + 1) (gt (placesOf ns) (it (placesOf ns) k x)) = x
    rw [it_add ns k 1]
    show it ns k (gt ns (gt (placesOf ns) (it (placesOf ns) k x))) = x
    rw [e2, e]
theorem pow_nat {ns f : List Int} (R : IsRow ns) {k : Nat} (h : IsPow ns (k : Int) f) {x : Int} (hx : 0 ≤ x ∧ x < ns.length) : gt f x = it ns k x := by
  obtain ⟨r, hr, hm⟩ := in_ring R hx
  obtain ⟨h0, e⟩ := ring_turn (ringsOf_okR R hr) hm
  rw [h.2 r hr x hm, it_mod ns h0 e k]; congr 1
theorem pow_neg {ns f : List Int} (R : IsRow ns) {k : Nat} (h : IsPow ns (-(k : Int)) f) {x : Int} (hx : 0 ≤ x ∧ x < ns.length) : gt f x = it (placesOf ns) k x := by
  obtain ⟨r, hr, hm⟩ := in_ring R hx
  obtain ⟨h0, e⟩ := ring_turn (ringsOf_okR R hr) hm
  obtain ⟨b, eb⟩ := it_back R hx k
  rw [h.2 r hr x hm]
  refine it_inj R k (it_bd R hx _) b ?_
  rw [eb, ← it_add, it_mod ns h0 e]
  have hz : (k + (-(k : Int) % (r.length : Int)).toNat) % r.length = 0 := by
    have h1 := Int.emod_nonneg (-(k : Int)) (show (r.length : Int) ≠ 0 by omega)
    have h2 : ((r.length : Int)) ∣ ((k : Int) + -(k : Int) % (r.length : Int)) := by
      have := Int.emod_add_mul_ediv (-(k : Int)) (r.length : Int)
      exact ⟨-(-(k : Int) / (r.length : Int)), by rw [Int.mul_neg]; omega⟩
    have h3 : (r.length : Int) ∣ ((k + (-(k : Int) % (r.length : Int)).toNat : Nat) : Int) := by
      rw [Int.natCast_add, Int.toNat_of_nonneg h1]; exact h2
    exact Nat.mod_eq_zero_of_dvd (Int.natCast_dvd_natCast.mp h3)
  rw [hz]; rfl
theorem pow_same {ns f g : List Int} (R : IsRow ns) {a b : Int} (hf : IsPow ns a f) (hg : IsPow ns b g) (h : ∀ r ∈ ringsOf ns, a % (r.length : Int) = b % (r.length : Int)) : f = g :=
  ext_gt (by rw [hf.1, hg.1]) fun y hy => by
    rw [hg.1] at hy
    obtain ⟨r, hr, hm⟩ := in_ring R hy
    rw [hf.2 r hr y hm, hg.2 r hr y hm, h r hr]
theorem pow_order {ns f : List Int} (R : IsRow ns) {m : Nat} (h : IsPow ns (m : Int) f) (hd : ∀ r ∈ ringsOf ns, r.length ∣ m) : f = upTo ns.length :=
  ext_gt (by rw [h.1, upTo_length]) fun y hy => by
    rw [upTo_length] at hy
    obtain ⟨r, hr, hm⟩ := in_ring R hy
    have : ((m : Int) % (r.length : Int)).toNat = m % r.length := rfl
    rw [h.2 r hr y hm, gt_upTo hy, this, Nat.mod_eq_zero_of_dvd (hd r hr)]; rfl
theorem order_pow {ns : List Int} (R : IsRow ns) {m : Nat} (h : IsPow ns (m : Int) (upTo ns.length)) : ∀ r ∈ ringsOf ns, r.length ∣ m := fun r hr => by
  have ok := ringsOf_okR R hr
  have nd : r.Nodup := by
    have fl : (ringsOf ns).flatten.Nodup := (ringsOf_perm R).symm.nodup (upTo_nodup _)
    exact (List.pairwise_flatten.mp fl).1 r hr
  have h0 := List.length_pos_iff.mpr (okRing_ne ok)
  have hm : r.getD 0 0 ∈ r := getD_mem h0
  have hb := okRing_bd ok _ hm
  have e := h.2 r hr _ hm
  rw [gt_upTo hb, show ((m : Int) % (r.length : Int)).toNat = m % r.length from rfl, ring_it ok h0, Nat.zero_add, Nat.mod_mod] at e
  have := getD_inj nd h0 (Nat.mod_lt _ h0) e
  exact Nat.dvd_of_mod_eq_zero this.symm
/-! ### turns -/
def turnsAux (rs : List (List Int)) (f : Nat) : Nat := rs.foldl (fun f r => f / Nat.gcd f r.length * r.length) f
def turnsOf (ns : List Int) : Nat := turnsAux (ringsOf ns) 1
theorem lcm_step (f l : Nat) : f / Nat.gcd f l * l = Nat.lcm f l := by
  rw [Nat.div_mul_right_comm (Nat.gcd_dvd_left f l)]; rfl
theorem turnsAux_is : ∀ (rs : List (List Int)) (f : Nat), 0 < f → (∀ r ∈ rs, 0 < r.length) → 0 < turnsAux rs f ∧ f ∣ turnsAux rs f ∧ (∀ r ∈ rs, r.length ∣ turnsAux rs f) ∧ ∀ m, f ∣ m → (∀ r ∈ rs, r.length ∣ m) → turnsAux rs f ∣ m
  | [], f, h, _ => ⟨h, Nat.dvd_refl _, by simp, fun m h _ => h⟩
  | r :: rs, f, h, hr => by
    have h1 := hr r (by simp)
    have e : turnsAux (r :: rs) f = turnsAux rs (Nat.lcm f r.length) := by
      show turnsAux rs (f / Nat.gcd f r.length * r.length) = _
      rw [lcm_step]
    obtain ⟨a, b, c, d⟩ := turnsAux_is rs (Nat.lcm f r.length) (Nat.lcm_pos h h1) fun x hx => hr x (List.mem_cons_of_mem _ hx)
    rw [e]
    refine ⟨a, Nat.dvd_trans (Nat.dvd_lcm_left _ _) b, fun x hx => ?_, fun m hm hx => d m (Nat.lcm_dvd hm (hx r (by simp))) fun x hx' => hx x (List.mem_cons_of_mem _ hx')⟩
    rcases List.mem_cons.mp hx with rfl | hx
    · exact Nat.dvd_trans (Nat.dvd_lcm_right _ _) b
    · exact c x hx
theorem turnsAux_coprime {N : Nat} : ∀ (rs : List (List Int)) (f : Nat), Nat.Coprime N f → (∀ r ∈ rs, Nat.Coprime N r.length) → Nat.Coprime N (turnsAux rs f)
  | [], f, h, _ => h
  | r :: rs, f, h, hr => by
    show Nat.Coprime N (turnsAux rs (f / Nat.gcd f r.length * r.length))
    rw [lcm_step]
    refine turnsAux_coprime rs _ ?_ fun x hx => hr x (List.mem_cons_of_mem _ hx)
    exact Nat.Coprime.coprime_dvd_right (Nat.lcm_dvd_mul f r.length) (Nat.Coprime.mul_right h (hr r (by simp)))
theorem rings_pos {ns : List Int} (R : IsRow ns) : ∀ r ∈ ringsOf ns, 0 < r.length := fun r hr => List.length_pos_iff.mpr (okRing_ne (ringsOf_okR R hr))
theorem turns_pos {ns : List Int} (R : IsRow ns) : 0 < turnsOf ns := (turnsAux_is _ 1 (by decide) (rings_pos R)).1
theorem turns_dvd {ns : List Int} (R : IsRow ns) : ∀ r ∈ ringsOf ns, r.length ∣ turnsOf ns := (turnsAux_is _ 1 (by decide) (rings_pos R)).2.2.1
theorem turns_least {ns : List Int} (R : IsRow ns) {m : Nat} (h : ∀ r ∈ ringsOf ns, r.length ∣ m) : turnsOf ns ∣ m := (turnsAux_is _ 1 (by decide) (rings_pos R)).2.2.2 m (Nat.one_dvd _) h
/-- what goes into the turns has something in common with a ring -/
theorem turns_part {ns : List Int} (R : IsRow ns) {N : Nat} (h : N ∣ turnsOf ns) (h1 : 1 < N) : ∃ d, 1 < d ∧ d ∣ N ∧ d ≤ ns.length := by
  by_cases c : ∀ r ∈ ringsOf ns, Nat.Coprime N r.length
  · have := turnsAux_coprime (N := N) (ringsOf ns) 1 (Nat.coprime_one_right N) c
    have h2 : N = 1 := Nat.Coprime.eq_one_of_dvd this h
    omega
  · obtain ⟨r, hr, hc⟩ : ∃ r, r ∈ ringsOf ns ∧ ¬ Nat.Coprime N r.length := by
      refine Classical.byContradiction fun z => c fun r hr => Classical.byContradiction fun z2 => z ⟨r, hr, z2⟩
    have h0 := rings_pos R r hr
    have g0 : 0 < Nat.gcd N r.length := Nat.gcd_pos_of_pos_right _ h0
    refine ⟨Nat.gcd N r.length, ?_, Nat.gcd_dvd_left _ _, Nat.le_trans (Nat.le_of_dvd h0 (Nat.gcd_dvd_right _ _)) (ringsOf_len R hr)⟩
    have : Nat.gcd N r.length ≠ 1 := hc
    omega
/-- by no part of them -/
theorem turns_part_not {ns : List Int} (R : IsRow ns) {p : Nat} (hp : 2 ≤ p) (hd : p ∣ turnsOf ns) : timesOf ns ((turnsOf ns / p : Nat) : Int) ≠ upTo ns.length := fun e => by
  have h := timesOf_pow R ((turnsOf ns / p : Nat) : Int)
  rw [e] at h
  have h1 := turns_least R (order_pow R h)
  have h0 := turns_pos R
  have h2 : 0 < turnsOf ns / p := Nat.div_pos (Nat.le_of_dvd h0 hd) (by omega)
  have h3 := Nat.le_of_dvd h2 h1
  have h4 : turnsOf ns / p < turnsOf ns := Nat.div_lt_self h0 (by omega)
  omega
end Bo

/-! rising rows put together -/
namespace Bo
open PySem L2
structure JI (L R : List Int) (i at_ : Nat) (found : List Int) : Prop where
  le : at_ ≤ R.length
  perm : found.Perm (L.take i ++ R.take at_)
  so : found.Pairwise (· ≤ ·)
  up : ∀ x ∈ found, (∀ y ∈ L.drop i, x ≤ y) ∧ ∀ y ∈ R.drop at_, x ≤ y
  lo : ∀ y ∈ R.take at_, ∀ x ∈ L.drop i, y < x
theorem JI.zero (L R : List Int) : JI L R 0 0 [] := ⟨Nat.zero_le _, .refl _, List.Pairwise.nil, by simp, by simp⟩
theorem drop_get {l : List Int} {i : Nat} {x : Int} (h : l[i]? = some x) : l.drop i = x :: l.drop (i + 1) := by
  obtain ⟨hi, e⟩ := List.getElem?_eq_some_iff.mp h
  rw [← e]; exact List.drop_eq_getElem_cons hi
theorem snoc_so {l : List Int} {x : Int} (h : l.Pairwise (· ≤ ·)) (h2 : ∀ y ∈ l, y ≤ x) : (l ++ [x]).Pairwise (· ≤ ·) :=
  List.pairwise_append.mpr ⟨h, List.pairwise_singleton _ _, fun a ha b hb => by
    have : b = x := by simpa using hb
    rw [this]; exact h2 a ha⟩
theorem drop_so {l : List Int} (h : l.Pairwise (· ≤ ·)) (i : Nat) : (l.drop i).Pairwise (· ≤ ·) := h.sublist (List.drop_sublist _ _)
theorem JI.right {L R found : List Int} {i at_ : Nat} (hL : L.Pairwise (· ≤ ·)) (hR : R.Pairwise (· ≤ ·)) (J : JI L R i at_ found) {t y : Int} (ht : L[i]? = some t) (hy : R[at_]? = some y) (h : y < t) : JI L R i (at_ + 1) (found ++ [y]) := by
  have hlt := (List.getElem?_eq_some_iff.mp hy).1
  have dR := drop_get hy
  have sR := drop_so hR at_
  rw [dR] at sR
  have sR := List.pairwise_cons.mp sR
  have dL := drop_get ht
  have sL := drop_so hL i
  rw [dL] at sL
  have sL := List.pairwise_cons.mp sL
  have tl : ∀ z ∈ L.drop i, t ≤ z := fun z hz => by
    rw [dL] at hz
    rcases List.mem_cons.mp hz with rfl | hz
    · exact Int.le_refl _
    · exact sL.1 z hz
  refine ⟨by omega, ?_, snoc_so J.so fun z hz => (J.up z hz).2 y (by rw [dR]; simp), fun x hx => ?_, fun z hz x hx => ?_⟩
  · rw [List.take_add_one, hy, ← List.append_assoc]
    exact List.Perm.append_right _ J.perm
  · rcases List.mem_append.mp hx with hx | hx
    · exact ⟨(J.up x hx).1, fun z hz => (J.up x hx).2 z (by rw [dR]; exact List.mem_cons_of_mem _ hz)⟩
    · have : x = y := by simpa using hx
      subst this
      exact ⟨fun z hz => by have := tl z hz; omega, fun z hz => sR.1 z hz⟩
  · rw [List.take_add_one, hy] at hz
    rcases List.mem_append.mp hz with hz | hz
    · exact J.lo z hz x hx
    · have : z = y := by simpa using hz
      subst this
      have := tl x hx; omega
theorem JI.left {L R found : List Int} {i at_ : Nat} (hL : L.Pairwise (· ≤ ·)) (hR : R.Pairwise (· ≤ ·)) (J : JI L R i at_ found) {t : Int} (ht : L[i]? = some t) (h : ∀ y, R[at_]? = some y → ¬ y < t) : JI L R (i + 1) at_ (found ++ [t]) ∧ cross (L.take (i + 1)) R = cross (L.take i) R + at_ := by
  have dL := drop_get ht
  have sL := drop_so hL i
  rw [dL] at sL
  have sL := List.pairwise_cons.mp sL
  have tm : t ∈ L.drop i := by rw [dL]; simp
  have tr : ∀ z ∈ R.drop at_, t ≤ z := fun z hz => by
    cases e : R[at_]? with
    | none =>
      have := List.getElem?_eq_none_iff.mp e
      rw [List.drop_eq_nil_of_le this] at hz; simp at hz
    | some y =>
      have h1 := h y e
      have dR := drop_get e
      have sR := drop_so hR at_
      rw [dR] at sR hz
      have sR := List.pairwise_cons.mp sR
      rcases List.mem_cons.mp hz with rfl | hz
      · omega
      · have := sR.1 z hz; omega
  refine ⟨⟨J.le, ?_, snoc_so J.so fun z hz => (J.up z hz).1 t tm, fun x hx => ?_, fun z hz x hx => J.lo z hz x (by rw [dL]; exact List.mem_cons_of_mem _ hx)⟩, ?_⟩
  · rw [List.take_add_one, ht]
    refine (List.Perm.append_right _ J.perm).trans ?_
    rw [List.append_assoc, List.append_assoc]
    exact List.Perm.append_left _ List.perm_append_comm
  · rcases List.mem_append.mp hx with hx | hx
    · exact ⟨fun z hz => (J.up x hx).1 z (by rw [dL]; exact List.mem_cons_of_mem _ hz), (J.up x hx).2⟩
    · have : x = t := by simpa using hx
      subst this
      exact ⟨fun z hz => sL.1 z hz, tr⟩
  · rw [List.take_add_one, ht, cross_app_left]
    congr 1
    show cross [t] R = at_
    rw [cross_cons, cross_nil, Nat.add_zero]
    have e : R = R.take at_ ++ R.drop at_ := (List.take_append_drop ..).symm
    rw [e, List.countP_append, List.countP_eq_length.mpr fun y hy => by simpa using J.lo y hy t tm, List.countP_eq_zero.mpr fun y hy => by have := tr y hy; simp; omega, List.length_take]
    have := J.le
    omega
theorem JI.done {L R found : List Int} {at_ : Nat} (hR : R.Pairwise (· ≤ ·)) (J : JI L R L.length at_ found) : (found ++ R.drop at_).Perm (L ++ R) ∧ (found ++ R.drop at_).Pairwise (· ≤ ·) := by
  constructor
  · have := List.Perm.append_right (R.drop at_) J.perm
    rw [List.take_length, List.append_assoc, List.take_append_drop] at this
    exact this
  · exact List.pairwise_append.mpr ⟨J.so, drop_so hR at_, fun a ha b hb => (J.up a ha).2 b hb⟩
/-! ### by halves -/
structure WI (N n : Nat) (parts : List (List Int)) (t : Nat) (fewer : List (List Int)) (total : Nat) : Prop where
  len : fewer.length = t
  so : ∀ p ∈ fewer, p.Pairwise (· ≤ ·)
  ct : total + inv (fewer.flatten ++ (parts.drop (2 * t)).flatten) = N
  fl : fewer.flatten.length + (parts.drop (2 * t)).flatten.length = n
theorem drop_get' {α : Type} {l : List α} {i : Nat} {x : α} (h : l[i]? = some x) : l.drop i = x :: l.drop (i + 1) := by
  obtain ⟨hi, e⟩ := List.getElem?_eq_some_iff.mp h
  rw [← e]; exact List.drop_eq_getElem_cons hi
theorem WI.step {N n : Nat} {parts fewer : List (List Int)} {t total : Nat} (I : WI N n parts t fewer total) {A B M : List Int} (hA : parts[2 * t]? = some A) (hB : parts[2 * t + 1]? = some B) (sA : A.Pairwise (· ≤ ·)) (sB : B.Pairwise (· ≤ ·)) (sM : M.Pairwise (· ≤ ·)) (p : M.Perm (A ++ B)) :
    WI N n parts (t + 1) (fewer ++ [M]) (total + cross A B) := by
  have d : parts.drop (2 * t) = A :: B :: parts.drop (2 * (t + 1)) := by
    rw [drop_get' hA, drop_get' hB]; rfl
  obtain ⟨len, so, ct, fl⟩ := I
  rw [d] at ct fl
  have pl := p.length_eq
  rw [List.length_append] at pl
  refine ⟨by simp [len], fun q hq => ?_, ?_, ?_⟩
  · rcases List.mem_append.mp hq with hq | hq
    · exact so q hq
    · have : q = M := by simpa using hq
      rw [this]; exact sM
  · rw [← ct, List.flatten_append, List.flatten_singleton]
    have := inv_merge (X := fewer.flatten) (Z := (parts.drop (2 * (t + 1))).flatten) sA sB sM p
    rw [List.flatten_cons, List.flatten_cons, show fewer.flatten ++ (A ++ (B ++ (parts.drop (2 * (t + 1))).flatten)) = fewer.flatten ++ (A ++ B) ++ (parts.drop (2 * (t + 1))).flatten by simp only [List.append_assoc], this]
    omega
  · rw [List.flatten_append, List.flatten_singleton, List.length_append]
    rw [List.flatten_cons, List.flatten_cons, List.length_append, List.length_append] at fl
    omega
/-- what wrong keeps -/
structure WP (N n : Nat) (parts : List (List Int)) (total : Nat) : Prop where
  so : ∀ p ∈ parts, p.Pairwise (· ≤ ·)
  ct : total + inv parts.flatten = N
  fl : parts.flatten.length = n
theorem WP.first (ns : List Int) : WP (inv ns) ns.length (ns.map fun x => [x]) 0 := by
  have e : (ns.map fun x => [x]).flatten = ns := by
    induction ns with
    | nil => rfl
    | cons x r ih => rw [List.map_cons, List.flatten_cons, ih]; rfl
  exact ⟨fun p hp => by
    obtain ⟨x, _, rfl⟩ := List.mem_map.mp hp
    exact List.pairwise_singleton _ _, by rw [e]; omega, by rw [e]⟩
theorem WP.start {N n : Nat} {parts : List (List Int)} {total : Nat} (I : WP N n parts total) : WI N n parts 0 [] total := ⟨rfl, by simp, by simpa using I.ct, by simpa using I.fl⟩
theorem WI.even {N n : Nat} {parts fewer : List (List Int)} {t total : Nat} (I : WI N n parts t fewer total) (h : parts.length = 2 * t) : WP N n fewer total := by
  obtain ⟨len, so, ct, fl⟩ := I
  rw [← h, List.drop_length] at ct fl
  exact ⟨so, by simpa using ct, by simpa using fl⟩
theorem WI.odd {N n : Nat} {parts fewer : List (List Int)} {t total : Nat} (I : WI N n parts t fewer total) {p : List Int} (h : parts.length = 2 * t + 1) (hp : parts[2 * t]? = some p) (sp : p.Pairwise (· ≤ ·)) : WP N n (fewer ++ [p]) total := by
  obtain ⟨len, so, ct, fl⟩ := I
  rw [drop_get' hp, ← h, List.drop_length] at ct fl
  refine ⟨fun q hq => ?_, by simpa using ct, by simpa using fl⟩
  rcases List.mem_append.mp hq with hq | hq
  · exact so q hq
  · have : q = p := by simpa using hq
    rw [this]; exact sp
theorem WP.done {N n : Nat} {parts : List (List Int)} {total : Nat} (I : WP N n parts total) (h : parts.length ≤ 1) : total = N := by
  have := I.ct
  match parts, h with
  | [], _ => simpa [inv] using this
  | [p], _ =>
    have h1 := inv_sorted (I.so p (by simp))
    simp at this
    omega
end Bo

namespace Bo
open PySem PySem.Spec PyProof.Rows L2
theorem rg_two {m : Nat} (h : m ≤ 1000000) : RgC 0 ((m : Int) - 1) 2 (m / 2) := by
  have e : Builtin.Range.rangeSize 0 ((m : Int) - 1) 2 = ((m / 2 : Nat) : Int) := by
    unfold Builtin.Range.rangeSize
    rw [if_pos (by decide)]
    split <;> omega
  refine ⟨by decide, by decide, ?_, e⟩
  unfold Builtin.Range.small
  rw [e]
  simp only [Builtin.Range.rangeFitsLong, Bool.and_eq_true, Bool.or_eq_true, decide_eq_true_eq, beq_iff_eq, show ((2 : Int) > 0) by decide, if_true]
  omega
section
variable {K : PySem.W.Frag} {σ : L2.St} {H : Hp} {D : Ends} {tb : TS} {g : TG} {Q : VK} {te : TE}
def KR3 (g : TG) (tb : TS) (D : Ends) (σ : L2.St) (vs : List V) (H : Hp) : Prop := ∃ (i j c : Int) (n : Nat), vs = [.int i, .int j, .int c] ∧ RgC i j c n ∧ FW (Itc i c n) g tb D σ H
theorem r_forR3 {ta : TA} (h : ta σ H fun vs H1 => KR3 g tb D σ vs H1) : tFor (iRng3 ta) g tb D σ H := h
theorem k_rng3 {j : Nat} {m : Nat} (z : m ≤ 1000000) (Pv : Nat → L2.St → Hp → Prop) (h0 : Pv 0 σ H)
    (hs : ∀ (i : Nat) (σ : L2.St) (H : Hp), i < m / 2 → Pv i σ H → tb { nx := Pv (i + 1), rt := D.rt, ct := Pv (i + 1), bk := D.nx } (σ.set j (some (.int ((0 : Int) + (i : Nat) * 2)))) H) (hd : ∀ σ H, Pv (m / 2) σ H → D.nx σ H) :
    KR3 (gName j) tb D σ [.int 0, .int ((m : Int) - 1), .int 2] H := ⟨0, _, 2, m / 2, rfl, rg_two z, for_rangeC Pv h0 hs hd⟩
/-- a comprehension with a test, over a list of ints: how many there are -/
theorem k_lcF {a : Addr} {xs : List Int} {tt : TT} {j : Nat} {vs : List Nat} (P : Int → Bool) (hx : SqL K H a (xs.map V.int)) (z : xs.length < 1000000) (hw : ∀ v : V, wipe ((wipe σ vs).set j (some v)) vs = wipe σ vs)
    (ht : ∀ (i : Nat) (x : Int) (H2 : Hp) (R : Bool → Hp → Prop), xs[i]? = some x → Same H H2 → R (P x) H2 → tt ((wipe σ vs).set j (some (.int x))) H2 R)
    (he : ∀ (i : Nat) (x : Int) (H2 : Hp) (R : VK), xs[i]? = some x → Same H H2 → R (.int x) H2 → te ((wipe σ vs).set j (some (.int x))) H2 R)
    (hd : ∀ D H2, H D = none → Same H H2 → H2 D = some (.lst ((xs.filter P).map V.int)) → Q (.ref D) H2) : KC K (gName j) tt te vs σ Q (.ref a) H := by
  refine ⟨a, rfl, ⟨_, hx⟩, fun D nD => ?_⟩
  refine lc_list (xs := xs.map V.int) (fun i H2 => Same H H2 ∧ H2 D = some (.lst (((xs.take i).filter P).map V.int))) ⟨Same.one nD, upd_same⟩ (fun i H2 _ p => p.1.seq hx) (fun i x H2 hi p => ⟨hw x, ?_⟩) (fun H2 p => ?_)
  · obtain ⟨y, hy, rfl⟩ := map_get hi
    refine ht i y H2 _ hy p.1 ?_
    have e : (xs.take (i + 1)).filter P = (xs.take i).filter P ++ if P y = true then [y] else [] := by
      rw [List.take_add_one, hy, List.filter_append]; congr 1
      show List.filter P [y] = _
      rw [List.filter_cons]; rfl
    cases hP : P y with
    | true =>
      refine iteT ?_
      refine he i y H2 _ hy p.1 ⟨_, p.2, ?_, Same.new p.1 nD, ?_⟩
      · rw [List.length_map]
        have h1 := List.length_filter_le P (xs.take i)
        rw [List.length_take] at h1
        exact Nat.lt_of_lt_of_le (show ((xs.take i).filter P).length < 1000000 by omega) (by decide)
      · rw [e, hP, if_pos rfl, upd_same, List.map_append]; rfl
    | false =>
      refine iteF ?_
      refine ⟨p.1, ?_⟩
      rw [e, hP, if_neg Bool.false_ne_true, List.append_nil]; exact p.2
  · rw [List.length_map, List.take_length] at p
    exact hd D H2 nD p.1 p.2
theorem o_ixLast {α : Type} {f : α → V} {xs : List α} {p : Addr} {x : α} (h : SqL K H p (xs.map f)) (e : xs[xs.length - 1]? = some x) (q : Q (f x) H) : rIxL K (.ref p) (.int (-1)) H Q := by
  have hl := (List.getElem?_eq_some_iff.mp e).1
  refine ⟨p, _, -1, f x, rfl, rfl, h, ?_, q⟩
  unfold atI ixN
  rw [List.length_map, if_neg (by omega), if_pos (by omega)]
  show (xs.map f)[((-1 : Int) + (xs.length : Int)).toNat]? = _
  rw [show ((-1 : Int) + (xs.length : Int)).toNat = xs.length - 1 by omega, List.getElem?_map, e]; rfl
theorem Lf.notin {H : Hp} {as : List Addr} {xs : List (List Int)} (L : Lf H as xs) {p : Addr} (h : H p = none) : p ∉ as := fun hm => by
  obtain ⟨i, hi, e⟩ := List.getElem_of_mem hm
  have hj : i < xs.length := by rw [← L.1]; exact hi
  have := L.2 i p xs[i] (by rw [List.getElem?_eq_getElem hi, e]) (List.getElem?_eq_getElem hj)
  rw [h] at this; cases this
end
end Bo

namespace Bo
open PySem PySem.Spec PyProof.Rows L2
/-! ### steps of a reading: each a row of its own -/
local macro_rules | `(tactic| walk_at "ne") => `(tactic| first
  | assumption
  | (apply Ne.symm; assumption)
  | (apply neo; assumption; walk_at "hp")
  | (apply Ne.symm; apply neo; assumption; walk_at "hp"))
local macro_rules | `(tactic| walk_at "hp") => `(tactic| first
  | assumption
  | exact upd_same
  | (apply lift_ne; walk_at "hp"; walk_at "ne")
  | (apply Same.up; assumption; walk_at "hp"))
local macro_rules | `(tactic| walk_at "same") => `(tactic| first
  | assumption
  | exact Same.refl _
  | (apply Same.new; walk_at "same"; walk_at "fr")
  | (apply same_trans; assumption; walk_at "same"))
local macro_rules | `(tactic| walk_at "fr") => `(tactic| first
  | assumption
  | (apply same_free; assumption; walk_at "same"))
local macro_rules | `(tactic| walk_at "sq") => `(tactic| first
  | assumption
  | (apply SqL.of; walk_at "hp")
  | (apply same_seq; assumption; walk_at "same"))
local macro_rules | `(tactic| walk_at "sqt") => `(tactic| first
  | assumption
  | (apply SqT.of; walk_at "hp")
  | (apply same_sqt; assumption; walk_at "same"))
local macro_rules | `(tactic| walk_at "nw") => `(tactic| first
  | assumption
  | (apply News.mut; walk_at "nw"; (first | assumption | (refine News.notin (by assumption) ?_; assumption)))
  | (apply News.same; walk_at "nw"; walk_at "same"))
/-! one step -/
local macro_rules | `(tactic| walk_at "go1") => `(tactic| first
  | with_reducible refine r_seq ?_
  | with_reducible refine r_asgN ?_
  | with_reducible refine r_set ?_
  | with_reducible refine r_ret ?_
  | with_reducible refine r_drop ?_
  | with_reducible refine r_if ?_
  | with_reducible refine r_next ?_
  | ((with_reducible apply r_nxD); with_reducible refine r_nx ?_)
  | ((with_reducible apply r_rtD); with_reducible refine r_rt ?_)
  | with_reducible refine r_par ?_
  | with_reducible refine k_par ?_
  | with_reducible refine r_fld ?_
  | ((with_reducible apply r_aug); exact rfl)
  | with_reducible refine i_ip ?_
  | ((with_reducible apply e_var); exact rfl)
  | with_reducible refine e_c ?_
  | with_reducible refine e_op ?_
  | with_reducible refine e_un ?_
  | with_reducible refine o_I0 ?_
  | with_reducible refine o_neg ?_
  | with_reducible refine o_eqI ?_
  | with_reducible refine o_neI ?_
  | with_reducible refine o_eqB ?_
  | with_reducible refine o_neB ?_
  | with_reducible refine o_eqS ?_
  | with_reducible refine o_neS ?_
  | with_reducible refine a_nil ?_
  | with_reducible refine a_cons ?_
  | with_reducible refine e_cb ?_
  | with_reducible refine e_call ?_
  | with_reducible refine e_make ?_
  | with_reducible refine e_meth ?_
  | with_reducible refine e_fld ?_
  | with_reducible refine e_lst ?_
  | with_reducible refine e_tup ?_
  | with_reducible refine e_bm ?_
  | with_reducible refine e_bm0 ?_
  | with_reducible refine e_rev ?_
  | with_reducible refine e_sl ?_
  | with_reducible refine e_nopart ?_
  | with_reducible refine e_part ?_
  | with_reducible refine i_ok ?_
  | with_reducible refine e_lenset ?_
  | with_reducible refine e_listRg1 ?_
  | with_reducible refine t_test ?_
  | with_reducible refine t_B ?_
  | with_reducible refine b_ok ?_
  | with_reducible refine t_and ?_
  | with_reducible refine t_or ?_
  | with_reducible refine t_not ?_
  | with_reducible refine v_and ?_
  | with_reducible refine v_or ?_
  | with_reducible refine v_not ?_
  | with_reducible refine e_if ?_
  | with_reducible refine e_chain ?_
  | with_reducible refine e_chain3 ?_
  | with_reducible refine iteT ?_
  | with_reducible refine iteF ?_
  | with_reducible refine ite_nT ?_
  | with_reducible refine ite_nF ?_
  | with_reducible refine r_forL ?_
  | with_reducible refine r_forT ?_
  | with_reducible refine r_forE ?_
  | with_reducible refine r_forR1 ?_
  | with_reducible refine r_forR2 ?_
  | with_reducible refine e_lcL ?_
  | with_reducible refine e_lcR1 ?_
  | with_reducible refine e_lcR2 ?_
  | with_reducible refine r_dput ?_
  | with_reducible refine e_dget ?_
  | with_reducible refine e_dnin ?_
  | with_reducible refine c_max2 ?_
  | with_reducible refine c_min2 ?_
  | ((with_reducible apply c_isiI); (first | exact (show kitB "int" _ = some true by decide +kernel) | exact (show kitB "int" _ = some false by decide +kernel)))
  | ((with_reducible apply m_ty); walk_at "sq"))
local macro_rules | `(tactic| walk_at "go2") => `(tactic| first
  | ((with_reducible apply o_ixI); walk_at "sq"; omega)
  | ((with_reducible refine o_mod ?_ ?_); omega)
  | ((with_reducible refine o_fdiv ?_ ?_); omega)
  | ((with_reducible refine o_mulR ?_ ?_); omega)
  | ((with_reducible refine o_mulL ?_ ?_); omega)
  | ((with_reducible apply c_lenM); walk_at "sq")
  | ((with_reducible apply c_all); walk_at "sq")
  | ((with_reducible apply c_any); walk_at "sq")
  | ((with_reducible apply o_in); walk_at "sq")
  | ((with_reducible apply o_nin); walk_at "sq")
  | ((with_reducible apply o_ixB); walk_at "sq"; omega)
  | ((with_reducible apply m_setB); walk_at "hp"; omega)
  | ((with_reducible apply m_appR); walk_at "hp"; omega)
  | ((with_reducible apply m_ins); walk_at "hp"; omega; omega)
  | ((with_reducible apply m_appM); walk_at "hp"; exact rfl; omega)
  | ((with_reducible apply m_setI); walk_at "hp"; omega))
local macro_rules | `(tactic| walk_at "d") => `(tactic| try dsimp only)
local macro_rules | `(tactic| walk_at "k") => `(tactic| try dsimp only [cxOf, Cx.nox, Cx.blk])
local macro_rules | `(tactic| walk_at "go") => `(tactic| repeat (first | walk_at "go1" | walk_at "go2"))

section
variable {P : Program} {w : World} {K : PySem.W.Frag} {mg : Str → Option Value} {base : Heap} {C_Exchanged C_Fronted C_Ended C_Put C_Answer C_OrderError C_BadRow C_BadNumber C_BadRings C_Unlike C_BadText : Addr} (T : Top K mg C_Exchanged C_Fronted C_Ended C_Put C_Answer C_OrderError C_BadRow C_BadNumber C_BadRings C_Unlike C_BadText)
include T

def sp_behind (K : PySem.W.Frag) : Sp := fun vs H Q _ => ∃ (a b : Addr) (ns ms : List Int), vs = [.ref a, .ref b] ∧ SqL K H a (ns.map V.int) ∧ SqL K H b (ms.map V.int) ∧ IsRow ns ∧ IsRow ms ∧ ms.length = ns.length ∧
  ∀ p H', Same H H' → H p = none → H' p = some (.lst ((ms.map (gt ns)).map V.int)) → Q (.ref p) H'
theorem ok_behind : Cc P w K mg base 3 "behind" (sp_behind K) := by
  have c_check_row := ok_check_row (P := P) (w := w) (base := base) T
  refine Cc.mk' T.d_behind sc_behind ?_ ?_
  · rintro vs H Q E ⟨a, b, ns, ms, rfl, _⟩; rfl
  · rintro f cdv A outer s H vs Q E hr ⟨a, b, ns, ms, rfl, hA, hB, R, R2, hl, q⟩
    have hn := R.len
    refine ⟨_, (pss_cons (ps_expr (pe_cc c_check_row (hr.mono (by decide)) (by rfl) (pa_cons (pv 0) pa_nil)))
      (pss_cons (ps_expr (pe_cc c_check_row (hr.mono (by decide)) (by rfl) (pa_cons (pv 1) pa_nil)))
      (pss_cons (ps_if (pt_cmpR op_ne (pe_callB (r := rLen2 K) call_len_seq (by rfl) T.b_len PySem.boot_len (pa_cons (pv 0) pa_nil)) (pe_callB (r := rLen2 K) call_len_seq (by rfl) T.b_len PySem.boot_len (pa_cons (pv 1) pa_nil)) (nomark _)) pss_never pss_nil)
      (pss_one (ps_ret (pe_lc (own := [("place", 2)]) (g := gName 2) (tt := tYes) rfl sc_behind.nd (pi_list (pv 1)) (blkOk_by (own := [("place", 2)]) (N := N_behind) (sc := defScope s_behind) (by decide +kernel)) (fun _ _ _ _ _ => (pg_name (i := 2) sc_behind.nd rfl (Or.inl rfl))) (fun _ _ _ _ _ => pts_nil) (fun _ _ _ _ _ => (pe_ix (r := rIxL K) ix_list (pv 0) (pv 2) (fun _ _ => rfl))))))))), ?_⟩
    walk_at "k"
    walk_at "go"
    refine ⟨a, ns, rfl, hA, R, fun H1 s1 => ?_⟩
    walk_at "go"
    refine ⟨b, ms, rfl, s1.seq hB, R2, fun H2 s2 => ?_⟩
    have s12 := s1.trans s2
    walk_at "go"
    rw [hl]
    refine ite_ndecN rfl ?_
    walk_at "go"
    refine k_lcV (xs := ms) (f := V.int) (h := V.int) (gt ns) (s12.seq hB) (by omega) (fun _ => rfl) ?_ ?_
    · intro i x H3 R' hx s3 k3
      have hb := R2.bd x (List.mem_of_getElem? hx)
      walk_at "go"
      exact k3 H3 (Same.refl _)
    · intro D H3 nD s3 hD
      exact q D H3 (s12.trans s3) (s12.free nD) hD
def sp_back (K : PySem.W.Frag) : Sp := fun vs H Q _ => ∃ (a : Addr) (ns : List Int), vs = [.ref a] ∧ SqL K H a (ns.map V.int) ∧ IsRow ns ∧ ∀ p H', Same H H' → H p = none → H' p = some (.lst ((placesOf ns).map V.int)) → Q (.ref p) H'
theorem ok_back : Cc P w K mg base 3 "back" (sp_back K) := by
  have c_check_row := ok_check_row (P := P) (w := w) (base := base) T
  have c_places_of := ok_places_of (P := P) (w := w) (base := base) T
  refine Cc.mk' T.d_back sc_back ?_ ?_
  · rintro vs H Q E ⟨a, ns, rfl, _⟩; rfl
  · rintro f cdv A outer s H vs Q E hr ⟨a, ns, rfl, hA, R, q⟩
    refine ⟨_, (pss_cons (ps_expr (pe_cc c_check_row (hr.mono (by decide)) (by rfl) (pa_cons (pv 0) pa_nil)))
      (pss_one (ps_ret (pe_cc c_places_of (hr.mono (by decide)) (by rfl) (pa_cons (pv 0) pa_nil))))), ?_⟩
    walk_at "k"
    walk_at "go"
    refine ⟨a, ns, rfl, hA, R, fun H1 s1 => ?_⟩
    walk_at "go"
    exact ⟨a, ns, rfl, s1.seq hA, R, fun p H2 s2 np hp => q p H2 (s1.trans s2) (s1.free np) hp⟩
def sp_common (K : PySem.W.Frag) : Sp := fun vs H Q _ => ∃ (a b : Nat), vs = [.int (a : Nat), .int (b : Nat)] ∧ ∀ H', Same H H' → Q (.int (Nat.gcd a b : Nat)) H'
theorem ok_common : Cc P w K mg base 1 "common" (sp_common K) := by
  refine Cc.mk' T.d_common sc_common ?_ ?_
  · rintro vs H Q E ⟨a, b, rfl, _⟩; rfl
  · rintro f cdv A outer s H vs Q E hr ⟨a, b, rfl, q⟩
    refine ⟨_, (pss_cons (ps_while PassesOwn.never (pt_cmpR op_gt (pv 1) pe_int (nomark _)) (pss_one (ps_par (i := 0) (j := 1) rfl sc_common.nd rfl rfl (by decide) rfl rfl (pa_cons (pv 1) (pa_cons (pe_op op_mod (pv 0) (pv 1)) pa_nil)) (by rfl))))
      (pss_one (ps_ret (pv 0)))), ?_⟩
    walk_at "k"
    walk_at "go"
    refine r_while (fun m σ H' => H' = H ∧ ∃ one : Nat, σ = [some (.int (one : Nat)), some (.int (m : Nat))] ∧ Nat.gcd one m = Nat.gcd a b) b ⟨rfl, a, rfl, rfl⟩ ?_
    rintro m σ' H' ⟨rfl, one, rfl, g⟩
    walk_at "go"
    refine ite_dec (fun c => ?_) (fun c => ?_)
    · walk_at "go"
      refine ⟨fun σ2 H2 => ∃ m' < m, H2 = H' ∧ ∃ one : Nat, σ2 = [some (.int (one : Nat)), some (.int (m' : Nat))] ∧ Nat.gcd one m' = Nat.gcd a b, fun σ2 H2 h => h, ?_⟩
      walk_at "go"
      refine ⟨one % m, Nat.mod_lt _ (by omega), rfl, m, rfl, ?_⟩
      rw [← g, Nat.gcd_comm m, ← Nat.gcd_rec, Nat.gcd_comm]
    · have : m = 0 := by omega
      subst this
      rw [Nat.gcd_zero_right] at g
      walk_at "go"
      rw [g]
      exact q H' (Same.refl _)
def sp_times (K : PySem.W.Frag) : Sp := fun vs H Q _ => ∃ (a : Addr) (ns : List Int) (number : Int), vs = [.ref a, .int number] ∧ SqL K H a (ns.map V.int) ∧ IsRow ns ∧ ∀ p H', Same H H' → H p = none → H' p = some (.lst ((timesOf ns number).map V.int)) → Q (.ref p) H'
theorem ok_times : Cc P w K mg base 3 "times" (sp_times K) := by
  have c_check_row := ok_check_row (P := P) (w := w) (base := base) T
  have c_rings_of := ok_rings_of (P := P) (w := w) (base := base) T
  refine Cc.mk' T.d_times sc_times ?_ ?_
  · rintro vs H Q E ⟨a, ns, number, rfl, _⟩; rfl
  · rintro f cdv A outer s H vs Q E hr ⟨a, ns, number, rfl, hA, R, q⟩
    have hn := R.len
    refine ⟨_, (pss_cons (ps_expr (pe_cc c_check_row (hr.mono (by decide)) (by rfl) (pa_cons (pv 0) pa_nil)))
      (pss_cons (ps_if (PW.pt (pw_or (pt_not (pt_val (pe_callB (r := rIsi K) call_isi (by rfl) T.b_isinstance PyProof.Rows.boot_isinstance (pa_cons (pv 1) (pa_cons (pe_bltn (v := .ty "int") (by rfl) T.b_int PyProof.Rows.boot_int rfl) pa_nil))))) (pw_or1 (pt_val (pe_callB (r := rIsi K) call_isi (by rfl) T.b_isinstance PyProof.Rows.boot_isinstance (pa_cons (pv 1) (pa_cons (pe_bltn (v := .ty "bool") (by rfl) T.b_bool PyProof.Rows.boot_bool rfl) pa_nil))))))) pss_never pss_nil)
      (pss_cons (ps_set (i := 2) sc_times.nd rfl (by first | exact Or.inl rfl | exact Or.inr rfl) (pe_callTy (r := rList2 K) call_list_of (by rfl) T.b_list PyProof.Rows.boot_list (pa_cons (pv 0) pa_nil)))
      (pss_cons (ps_for PassesOwn.never rfl (pi_list (pe_cc c_rings_of (hr.mono (by decide)) (by rfl) (pa_cons (pv 0) pa_nil))) (pg_name (i := 3) sc_times.nd rfl (by first | exact Or.inl rfl | exact Or.inr rfl)) (pss_cons (ps_set (i := 4) sc_times.nd rfl (by first | exact Or.inl rfl | exact Or.inr rfl) (pe_op op_mod (pv 1) (pe_callB (r := rLen2 K) call_len_seq (by rfl) T.b_len PySem.boot_len (pa_cons (pv 3) pa_nil))))
      (pss_one (ps_for PassesOwn.never rfl (pi_range1 (by rfl) T.b_range (pa_cons (pe_callB (r := rLen2 K) call_len_seq (by rfl) T.b_len PySem.boot_len (pa_cons (pv 3) pa_nil)) pa_nil)) (pg_name (i := 5) sc_times.nd rfl (by first | exact Or.inl rfl | exact Or.inr rfl)) (pss_one (ps_asg (pe_ix (r := rIxL K) ix_list (pv 3) (pe_op op_sub (pe_op op_add (pv 5) (pv 4)) (pe_callB (r := rLen2 K) call_len_seq (by rfl) T.b_len PySem.boot_len (pa_cons (pv 3) pa_nil))) (fun _ _ => rfl)) (pg_sub (pv 2) (pe_ix (r := rIxL K) ix_list (pv 3) (pv 5) (fun _ _ => rfl)) set_list)))))))
      (pss_one (ps_ret (pv 2))))))), ?_⟩
    walk_at "k"
    walk_at "go"
    refine ⟨a, ns, rfl, hA, R, fun H1 s1 => ?_⟩
    walk_at "go"
    refine c_list (s1.seq hA) fun pf npf => ?_
    have s2 : Same H (upd H1 pf (.lst (ns.map V.int))) := by walk_at "same"
    have h2 : (upd H1 pf (.lst (ns.map V.int))) pf = some (.lst (ns.map V.int)) := upd_same
    have npf0 := s1.free npf
    generalize upd H1 pf (.lst (ns.map V.int)) = H2 at s2 h2
    walk_at "go"
    refine ⟨a, ns, rfl, s2.seq hA, R, fun pr as H3 s3 npr n3 m3 h3 => ?_⟩
    have s03 := s2.trans s3
    have hf3 := s3 _ _ h2
    have L3 : Lf H3 as (ringsOf ns) := Lf.of n3
    have la := n3.len
    have npa : pf ∉ as := fun hm => by
      obtain ⟨_, _, z, _⟩ := n3.mem hm
      rw [h2] at z; cases z
    have dfr : pf ≠ pr := neo npr h2
    have cnt : (ringsOf ns).length ≤ ns.length := ringsAux_count ns ns.length
    refine k_lstN (f := V.ref) as (fun i σ H' => ∃ v3 v4 v5, σ = [some (.ref a), some (.int number), some (.ref pf), v3, v4, v5] ∧ Same H H' ∧ H' pr = some (.lst (as.map V.ref)) ∧ Lf H' as (ringsOf ns) ∧ H' pf = some (.lst ((timesAux number ((ringsOf ns).take i) ns).map V.int)))
      (SqL.of h3) ⟨_, _, _, rfl, s03, h3, L3, hf3⟩ (fun i σ H' _ ⟨_, _, _, _, _, h, _⟩ => SqL.of h) ?_ ?_
    · rintro i pi σ H4 hi ⟨v3, v4, v5, rfl, s4, hr4, L4, hf4⟩
      walk_at "d"
      obtain ⟨r, hr1, hr2⟩ : ∃ r, (ringsOf ns)[i]? = some r ∧ H4 pi = some (oL r) := by
        have hlt : i < (ringsOf ns).length := by rw [← la]; exact (List.getElem?_eq_some_iff.mp hi).1
        exact ⟨_, List.getElem?_eq_getElem hlt, L4.2 i pi _ hi (List.getElem?_eq_getElem hlt)⟩
      have hrm := List.mem_of_getElem? hr1
      have ok := ringsOf_okR R hrm
      have rl := ringsOf_len R hrm
      have r0 := rings_pos R r hrm
      have dpi : pi ≠ pf := fun e => npa (by rw [← e]; exact List.mem_of_getElem? hi)
      have b1 := Int.emod_nonneg number (show (r.length : Int) ≠ 0 by omega)
      have b2 := Int.emod_lt_of_pos number (show (0 : Int) < r.length by omega)
      have fl : (timesAux number ((ringsOf ns).take i) ns).length = ns.length := timesAux_length _ _ _
      have et : timesAux number ((ringsOf ns).take (i + 1)) ns = tRing r (number % r.length) r.length (timesAux number ((ringsOf ns).take i) ns) := foldl_take hr1
      generalize timesAux number ((ringsOf ns).take i) ns = F at *
      generalize hby : number % (r.length : Int) = by_ at *
      walk_at "go"
      rw [hby]
      refine k_rng1 (fun k σ H' => ∃ v5, σ = [some (.ref a), some (.int number), some (.ref pf), some (.ref pi), some (.int by_), v5] ∧ Same H H' ∧ H' pr = some (.lst (as.map V.ref)) ∧ Lf H' as (ringsOf ns) ∧ H' pi = some (oL r) ∧ H' pf = some (.lst ((tRing r by_ k F).map V.int)))
        (by omega) ⟨_, rfl, s4, hr4, L4, hr2, hf4⟩ ?_ ?_
      · rintro k σ H5 hk ⟨v5, rfl, s5, hr5, L5, hi5, hf5⟩
        walk_at "d"
        have tl : (tRing r by_ k F).length = ns.length := by rw [tRing_length]; exact fl
        have hb := okRing_bd ok (gt r (k : Int)) (gt_mem (by omega) (by omega))
        walk_at "go"
        refine ⟨_, rfl, by walk_at "same", lift_ne hr5 (Ne.symm dfr), L5.mut npa, lift_ne hi5 dpi, upd_same⟩
      · rintro σ H5 ⟨v5, rfl, s5, hr5, L5, hi5, hf5⟩
        walk_at "d"
        rw [Int.toNat_natCast, ← et] at hf5
        walk_at "go"
        exact ⟨_, _, _, rfl, s5, hr5, L5, hf5⟩
    · rintro σ H4 ⟨v3, v4, v5, rfl, s4, hr4, L4, hf4⟩
      walk_at "d"
      rw [la, List.take_length] at hf4
      walk_at "go"
      exact q pf H4 s4 npf0 hf4
def sp_turns (K : PySem.W.Frag) : Sp := fun vs H Q _ => ∃ (a : Addr) (ns : List Int), vs = [.ref a] ∧ SqL K H a (ns.map V.int) ∧ IsRow ns ∧ ∀ H', Same H H' → Q (.int (turnsOf ns : Nat)) H'
theorem ok_turns : Cc P w K mg base 3 "turns" (sp_turns K) := by
  have c_check_row := ok_check_row (P := P) (w := w) (base := base) T
  have c_rings_of := ok_rings_of (P := P) (w := w) (base := base) T
  have c_common := ok_common (P := P) (w := w) (base := base) T
  refine Cc.mk' T.d_turns sc_turns ?_ ?_
  · rintro vs H Q E ⟨a, ns, rfl, _⟩; rfl
  · rintro f cdv A outer s H vs Q E hr ⟨a, ns, rfl, hA, R, q⟩
    have hn := R.len
    refine ⟨_, (pss_cons (ps_expr (pe_cc c_check_row (hr.mono (by decide)) (by rfl) (pa_cons (pv 0) pa_nil)))
      (pss_cons (ps_set (i := 1) sc_turns.nd rfl (by first | exact Or.inl rfl | exact Or.inr rfl) pe_int)
      (pss_cons (ps_for PassesOwn.never rfl (pi_list (pe_cc c_rings_of (hr.mono (by decide)) (by rfl) (pa_cons (pv 0) pa_nil))) (pg_name (i := 2) sc_turns.nd rfl (by first | exact Or.inl rfl | exact Or.inr rfl)) (pss_one (ps_set (i := 1) sc_turns.nd rfl (by first | exact Or.inl rfl | exact Or.inr rfl) (pe_op op_mul (pe_op op_fdiv (pv 1) (pe_cc c_common (hr.mono (by decide)) (by rfl) (pa_cons (pv 1) (pa_cons (pe_callB (r := rLen2 K) call_len_seq (by rfl) T.b_len PySem.boot_len (pa_cons (pv 2) pa_nil)) pa_nil)))) (pe_callB (r := rLen2 K) call_len_seq (by rfl) T.b_len PySem.boot_len (pa_cons (pv 2) pa_nil))))))
      (pss_one (ps_ret (pv 1)))))), ?_⟩
    walk_at "k"
    walk_at "go"
    refine ⟨a, ns, rfl, hA, R, fun H1 s1 => ?_⟩
    walk_at "go"
    refine ⟨a, ns, rfl, s1.seq hA, R, fun pr as H3 s3 npr n3 m3 h3 => ?_⟩
    have la := n3.len
    have L3 : Lf H3 as (ringsOf ns) := Lf.of n3
    refine k_lstN (f := V.ref) as (fun i σ H' => ∃ v2, σ = [some (.ref a), some (.int (turnsAux ((ringsOf ns).take i) 1 : Nat)), v2] ∧ Same H3 H')
      (SqL.of h3) ⟨_, rfl, Same.refl _⟩ (fun i σ H' _ ⟨_, _, s⟩ => s.seq (SqL.of h3)) ?_ ?_
    · rintro i pi σ H4 hi ⟨v2, rfl, s4⟩
      walk_at "d"
      obtain ⟨r, hr1, hr2⟩ : ∃ r, (ringsOf ns)[i]? = some r ∧ H4 pi = some (oL r) := by
        have hlt : i < (ringsOf ns).length := by rw [← la]; exact (List.getElem?_eq_some_iff.mp hi).1
        exact ⟨_, List.getElem?_eq_getElem hlt, s4 _ _ (L3.2 i pi _ hi (List.getElem?_eq_getElem hlt))⟩
      have hrm := List.mem_of_getElem? hr1
      have rl := ringsOf_len R hrm
      have r0 := rings_pos R r hrm
      have et : turnsAux ((ringsOf ns).take (i + 1)) 1 = turnsAux ((ringsOf ns).take i) 1 / Nat.gcd (turnsAux ((ringsOf ns).take i) 1) r.length * r.length := foldl_take hr1
      generalize turnsAux ((ringsOf ns).take i) 1 = F at *
      have g0 : 0 < Nat.gcd F r.length := Nat.gcd_pos_of_pos_right _ r0
      have g1 : Nat.gcd F r.length ≤ r.length := Nat.le_of_dvd r0 (Nat.gcd_dvd_right _ _)
      walk_at "go"
      refine ⟨F, r.length, rfl, fun H5 s5 => ?_⟩
      walk_at "go"
      refine ⟨some (.ref pi), ?_, s4.trans s5⟩
      rw [et]; rfl
    · rintro σ H4 ⟨v2, rfl, s4⟩
      walk_at "d"
      rw [la, List.take_length]
      walk_at "go"
      exact q H4 ((s1.trans s3).trans s4)
end
end Bo

namespace Bo
open PySem PySem.Spec PyProof.Rows L2
/-! range(0, m, c) -/
theorem rg_step {m : Nat} {c : Int} (hc : 1 ≤ c) (hc2 : c < 1000000) (h : m ≤ 1000000) : ∃ n : Nat, RgC 0 (m : Int) c n ∧ n ≤ m ∧ ∀ i : Nat, i < n → (i : Int) * c < m := by
  have hd : 0 < m → 0 ≤ ((m : Int) - 1) / c ∧ ((m : Int) - 1) / c ≤ m - 1 ∧ ((m : Int) - 1) / c * c ≤ m - 1 := fun hm => by
    have h0 : 0 ≤ (m : Int) - 1 := by omega
    exact ⟨Int.ediv_nonneg h0 (by omega), Int.ediv_le_self _ h0, Int.ediv_mul_le _ (by omega)⟩
  obtain ⟨n, hn⟩ : ∃ n : Nat, n = if 0 < m then (((m : Int) - 1) / c + 1).toNat else 0 := ⟨_, rfl⟩
  have e : Builtin.Range.rangeSize 0 (m : Int) c = (n : Int) := by
    unfold Builtin.Range.rangeSize
    rw [if_pos (by omega)]
    by_cases hm : 0 < m
    · obtain ⟨d1, d2, d3⟩ := hd hm
      rw [if_pos (by omega), hn, if_pos hm, Int.sub_zero]
      omega
    · rw [if_neg (by omega), hn, if_neg hm]; rfl
  have hb : n ≤ m := by
    rw [hn]
    split
    · next hm => obtain ⟨d1, d2, d3⟩ := hd hm; omega
    · omega
  refine ⟨n, ⟨by omega, by omega, ?_, e⟩, hb, fun i hi => ?_⟩
  · unfold Builtin.Range.small
    rw [e]
    simp only [Builtin.Range.rangeFitsLong, Bool.and_eq_true, Bool.or_eq_true, decide_eq_true_eq, beq_iff_eq, show (c > 0) from by omega, if_true]
    omega
  · by_cases hm : 0 < m
    · obtain ⟨d1, d2, d3⟩ := hd hm
      rw [hn, if_pos hm] at hi
      have h1 : (i : Int) ≤ ((m : Int) - 1) / c := by omega
      have h2 := Int.mul_le_mul_of_nonneg_right h1 (show (0 : Int) ≤ c by omega)
      omega
    · rw [hn, if_neg hm] at hi; omega
section
variable {K : PySem.W.Frag} {σ : L2.St} {H : Hp} {D : Ends} {tb : TS} {g : TG} {Q : VK} {i j : Int}
def KRC (g : TG) (tb : TS) (D : Ends) (σ : L2.St) (vs : List V) (H : Hp) : Prop := ∃ (i j c : Int) (n : Nat), vs = [.int i, .int j, .int c] ∧ RgC i j c n ∧ FW (Itc i c n) g tb D σ H
theorem r_forRC {ta : TA} (h : ta σ H fun vs H1 => KRC g tb D σ vs H1) : tFor (iRng3 ta) g tb D σ H := h
theorem k_rngC {j : Nat} {m : Int} {c : Int} {n : Nat} (z : RgC 0 m c n) (Pv : Nat → L2.St → Hp → Prop) (h0 : Pv 0 σ H)
    (hs : ∀ (i : Nat) (σ : L2.St) (H : Hp), i < n → Pv i σ H → tb { nx := Pv (i + 1), rt := D.rt, ct := Pv (i + 1), bk := D.nx } (σ.set j (some (.int ((0 : Int) + (i : Nat) * c)))) H) (hd : ∀ σ H, Pv n σ H → D.nx σ H) :
    KRC (gName j) tb D σ [.int 0, .int m, .int c] H := ⟨0, m, c, n, rfl, z, for_rangeC Pv h0 hs hd⟩
theorem o_neBs {p q : Addr} {ns ms : List Bool} (h1 : SqL K H p (ns.map V.bl)) (h2 : SqL K H q (ms.map V.bl)) (k : Q (.bl (!decide (ns = ms))) H) : rNeD K (.ref p) (.ref q) H Q := o_neD (emb_L emb_B) (by decide) (dp_bls h1) (dp_bls h2) k
end
/-! a heap but for one object -/
def hid (H : Hp) (p : Addr) : Hp := fun b => if b = p then none else H b
theorem hid_same {H : Hp} {p : Addr} : Same (hid H p) H := fun b u e => by
  unfold hid at e
  split at e
  · cases e
  · exact e
theorem hid_mono {H H' : Hp} {p : Addr} (s : Same H H') : Same (hid H p) (hid H' p) := fun b u e => by
  unfold hid at e ⊢
  split at e
  · cases e
  · next c => rw [if_neg c]; exact s b u e
theorem hid_upd {H : Hp} {p : Addr} {o : HO} : Same (hid H p) (hid (upd H p o) p) := fun b u e => by
  unfold hid at e ⊢
  split at e
  · cases e
  · next c => rw [if_neg c, upd_ne c]; exact e
theorem hid_at {H : Hp} {p q : Addr} {o : HO} (h : H q = some o) (n : q ≠ p) : hid H p q = some o := by unfold hid; rw [if_neg n]; exact h
theorem hid_of {H0 H : Hp} {p : Addr} (s : Same H0 H) (n : H0 p = none) : Same H0 (hid H p) := fun b u e => by
  unfold hid
  rw [if_neg (fun z => by rw [z, n] at e; cases e)]; exact s b u e
end Bo

namespace Bo
open PySem PySem.Spec PyProof.Rows L2
def dueB (j : Nat) : List Bool := [decide ((j : Int) = 0), decide ((j : Int) = 1), decide ((j : Int) = 2), decide ((j : Int) = 3), false, true]
theorem four : ∀ {ds : List Addr}, ds.length = (4 : Int).toNat → ∃ d0 d1 d2 d3, ds = [d0, d1, d2, d3]
  | [a, b, c, d], _ => ⟨a, b, c, d, rfl⟩
  | [], h => by simp at h
  | [_], h => by simp at h
  | [_, _], h => by simp at h
  | [_, _, _], h => by simp at h
  | _ :: _ :: _ :: _ :: _ :: _, h => by simp at h
section
variable {K : PySem.W.Frag} {H : Hp} {Q : VK}
theorem fk {P : V → Prop} {v : V} {l : List V} (h : P v) (t : ∀ x ∈ l, P x) : ∀ x ∈ v :: l, P x := List.forall_mem_cons.mpr ⟨h, t⟩
theorem fk0 {P : V → Prop} : ∀ x ∈ ([] : List V), P x := fun x h => absurd h (by simp)
theorem fa {P : V → Prop} {v : V} {l : List V} (h : P v) (t : ∀ x ∈ l, P x) : ∀ x ∈ v :: l, P x := List.forall_mem_cons.mpr ⟨h, t⟩
theorem fa0 {P : V → Prop} : ∀ x ∈ ([] : List V), P x := fun x h => absurd h (by simp)
theorem fr0 {P : V → Bool → Prop} : ∀ (i : Nat) (y : V) (b : Bool), ([] : List V)[i]? = some y → ([] : List Bool)[i]? = some b → P y b := fun i y b h => by simp at h
theorem fr {P : V → Bool → Prop} {v : V} {c : Bool} {l : List V} {bs : List Bool} (h : P v c) (t : ∀ (i : Nat) (y : V) (b : Bool), l[i]? = some y → bs[i]? = some b → P y b) : ∀ (i : Nat) (y : V) (b : Bool), (v :: l)[i]? = some y → (c :: bs)[i]? = some b → P y b
  | 0, y, b, h1, h2 => by
    have e1 : v = y := by simpa using h1
    have e2 : c = b := by simpa using h2
    rw [← e1, ← e2]; exact h
  | i + 1, y, b, h1, h2 => t i y b (by simpa using h1) (by simpa using h2)
theorem num_out {i hi : Int} (h : hi < i) : isNum (.int i) 0 hi = false := by rw [isNum_int, decide_eq_false (p := i ≤ hi) (by omega), Bool.and_false]
theorem num_neg {i hi : Int} (h : i < 0) : isNum (.int i) 0 hi = false := by rw [isNum_int, decide_eq_false (p := 0 ≤ i) (by omega), Bool.false_and]
theorem BadV.out {l : Addr} {vs : List V} {x : V} (h : H l = some (.lst vs)) (z : vs.length ≤ 1000) (k : ∀ v ∈ vs, Kd K H v) (hx : x ∈ vs) (b : isNum x 0 ((vs.length : Int) - 1) = false) : BadV K H (.ref l) :=
  .inr ⟨l, vs, rfl, SqL.of h, z, k, .inl (by
    unfold allNum
    rw [List.all_map]
    exact List.all_eq_false.mpr ⟨x, hx, by show ¬ (isNum x 0 ((vs.length : Int) - 1)) = true; rw [b]; exact Bool.false_ne_true⟩)⟩
theorem BadV.dup {l : Addr} {ns : List Int} (h : H l = some (.lst (ns.map V.int))) (z : ns.length ≤ 1000) (nd : ¬ ns.Nodup) : BadV K H (.ref l) :=
  .inr ⟨l, ns.map V.int, rfl, SqL.of h, by rw [List.length_map]; exact z, fun v hv => by obtain ⟨i, _, rfl⟩ := List.mem_map.mp hv; exact Kd.int i, .inr ⟨ns, rfl, nd⟩⟩
theorem RV.is {a : Addr} {r : List Int} {n : Int} {b : Bool} (h : H a = some (.lst (r.map V.int))) (z : r.length ≤ 1000) (e : isRing r n = b) : RV K H (.ref a) n b := by
  rw [← e]; exact RV.ring h z
theorem RV.of {a : Addr} {vs : List V} {n : Int} {b : Bool} (h : H a = some (.lst vs)) (z : vs.length ≤ 1000) (k : ∀ v ∈ vs, Kd K H v) (e : b = (!vs.isEmpty && allNum vs (n - 1))) : RV K H (.ref a) n b := .inr ⟨a, vs, rfl, SqL.of h, z, k, e⟩
theorem ring_far {far : Int} (h : 0 ≤ far) : isRing [3 + far] 3 = false := by
  unfold isRing
  show (true && (isNum (.int (3 + far)) 0 (3 - 1) && true)) = false
  rw [num_out (by omega)]; rfl
theorem BadR.some {l : Addr} {xs : List V} {bs : List Bool} {n : Int} (h : H l = some (.lst xs)) (e : xs.length = bs.length) (z : xs.length ≤ 1000) (r : ∀ (i : Nat) (y : V) (b : Bool), xs[i]? = .some y → bs[i]? = .some b → RV K H y n b) (f : bs.all id = false) : BadR K H n (.ref l) :=
  .inr (.inl ⟨l, xs, bs, rfl, SqL.of h, e, z, r, f⟩)
theorem BadR.dup {l : Addr} {as : List Addr} {rs : List (List Int)} {n : Int} (h : H l = .some (.lst (as.map V.ref))) (L : Lf H as rs) (z : rs.length ≤ 1000) (r : ∀ r ∈ rs, r.length ≤ 1000 ∧ isRing r n = true) (f : rs.flatten.length ≤ 4000) (nd : ¬ rs.flatten.Nodup) : BadR K H n (.ref l) :=
  .inr (.inr ⟨l, as, rs, rfl, SqL.of h, L, z, r, f, nd⟩)
theorem Lf0 : Lf H [] [] := ⟨rfl, fun i t p a b => by simp at a⟩
theorem o_catV {l b : Addr} {xs zs : List V} (h : H l = some (.lst xs)) (hb : H b = some (.lst zs)) (z : xs.length + zs.length < 1000000) (q : ∀ p, H p = none → Q (.ref p) (upd H p (.lst (xs ++ zs)))) : rCat (.ref l) (.ref b) H Q :=
  ⟨l, b, xs, zs, rfl, rfl, h, hb, Nat.le_of_lt (Nat.lt_of_lt_of_le z (by decide)), q⟩
end
theorem row0 : IsRow [] := ⟨by simp, fun x hx => by simp at hx, List.nodup_nil⟩
theorem IsRow.more {ns : List Int} (R : IsRow ns) (h : ns.length < 1000) : IsRow (ns ++ [(ns.length : Int)]) := by
  refine ⟨by simp; omega, fun x hx => ?_, ?_⟩
  · rw [List.length_append]
    rcases List.mem_append.mp hx with hx | hx
    · have := R.bd x hx; simp; omega
    · have : x = ns.length := by simpa using hx
      subst this; simp; omega
  · refine List.nodup_append.mpr ⟨R.nd, by simp, fun x hx y hy e => ?_⟩
    have h1 := R.bd x hx
    have h2 : y = ns.length := by simpa using hy
    omega
theorem six_at {many : Nat} {far i : Int} (h0 : 0 ≤ far) (i0 : 0 ≤ i) (i6 : i < 6) : ∃ v, atI [V.non, .str "1", .int (many : Nat), .int ((many : Nat) + far), .int (-1), .int ((many : Nat) + 1)] i = some v ∧ (∀ K H, Kd K H v) ∧ isNum v 0 ((many : Int) - 1) = false := by
  obtain ⟨k, rfl⟩ : ∃ k : Nat, i = (k : Int) := ⟨i.toNat, by omega⟩
  match k, i6 with
  | 0, _ => exact ⟨.non, rfl, fun K H => Kd.non, rfl⟩
  | 1, _ => exact ⟨.str "1", rfl, fun K H => Kd.str _, rfl⟩
  | 2, _ => exact ⟨_, rfl, fun K H => Kd.int _, num_out (by omega)⟩
  | 3, _ => exact ⟨_, rfl, fun K H => Kd.int _, num_out (by omega)⟩
  | 4, _ => exact ⟨_, rfl, fun K H => Kd.int _, num_neg (by omega)⟩
  | 5, _ => exact ⟨_, rfl, fun K H => Kd.int _, num_out (by omega)⟩
  | k + 6, h => exact absurd h (by omega)
/-! ### steps of a reading: each a row of its own -/
local macro_rules | `(tactic| walk_at "ne") => `(tactic| first
  | assumption
  | (apply Ne.symm; assumption)
  | (apply neo; assumption; walk_at "hp")
  | (apply Ne.symm; apply neo; assumption; walk_at "hp"))
local macro_rules | `(tactic| walk_at "hp") => `(tactic| first
  | assumption
  | exact upd_same
  | (apply lift_ne; walk_at "hp"; walk_at "ne")
  | (apply Same.up; assumption; walk_at "hp"))
local macro_rules | `(tactic| walk_at "same") => `(tactic| first
  | assumption
  | exact Same.refl _
  | (apply Same.new; walk_at "same"; walk_at "fr")
  | (apply same_trans; assumption; walk_at "same"))
local macro_rules | `(tactic| walk_at "fr") => `(tactic| first
  | assumption
  | (apply same_free; assumption; walk_at "same"))
local macro_rules | `(tactic| walk_at "sq") => `(tactic| first
  | assumption
  | (apply SqL.of; walk_at "hp")
  | (apply same_seq; assumption; walk_at "same"))
local macro_rules | `(tactic| walk_at "sqt") => `(tactic| first
  | assumption
  | (apply SqT.of; walk_at "hp")
  | (apply same_sqt; assumption; walk_at "same"))
local macro_rules | `(tactic| walk_at "nw") => `(tactic| first
  | assumption
  | (apply News.mut; walk_at "nw"; (first | assumption | (refine News.notin (by assumption) ?_; assumption)))
  | (apply News.same; walk_at "nw"; walk_at "same"))
/-! one step -/
local macro_rules | `(tactic| walk_at "go1") => `(tactic| first
  | with_reducible refine r_seq ?_
  | with_reducible refine r_asgN ?_
  | with_reducible refine r_set ?_
  | with_reducible refine r_ret ?_
  | with_reducible refine r_drop ?_
  | with_reducible refine r_if ?_
  | with_reducible refine r_next ?_
  | ((with_reducible apply r_nxD); with_reducible refine r_nx ?_)
  | ((with_reducible apply r_rtD); with_reducible refine r_rt ?_)
  | with_reducible refine r_par ?_
  | with_reducible refine k_par ?_
  | with_reducible refine r_fld ?_
  | ((with_reducible apply r_aug); exact rfl)
  | with_reducible refine i_ip ?_
  | ((with_reducible apply e_var); exact rfl)
  | with_reducible refine e_c ?_
  | with_reducible refine e_op ?_
  | with_reducible refine e_un ?_
  | with_reducible refine o_I0 ?_
  | with_reducible refine o_neg ?_
  | with_reducible refine o_eqI ?_
  | with_reducible refine o_neI ?_
  | with_reducible refine o_eqB ?_
  | with_reducible refine o_neB ?_
  | with_reducible refine o_eqS ?_
  | with_reducible refine o_neS ?_
  | with_reducible refine a_nil ?_
  | with_reducible refine a_cons ?_
  | with_reducible refine e_cb ?_
  | with_reducible refine e_call ?_
  | with_reducible refine e_make ?_
  | with_reducible refine e_meth ?_
  | with_reducible refine e_fld ?_
  | with_reducible refine e_lst ?_
  | with_reducible refine e_tup ?_
  | with_reducible refine e_bm ?_
  | with_reducible refine e_bm0 ?_
  | with_reducible refine e_rev ?_
  | with_reducible refine e_sl ?_
  | with_reducible refine e_nopart ?_
  | with_reducible refine e_part ?_
  | with_reducible refine i_ok ?_
  | with_reducible refine e_lenset ?_
  | with_reducible refine e_listRg1 ?_
  | with_reducible refine t_test ?_
  | with_reducible refine t_B ?_
  | with_reducible refine b_ok ?_
  | with_reducible refine t_and ?_
  | with_reducible refine t_or ?_
  | with_reducible refine t_not ?_
  | with_reducible refine v_and ?_
  | with_reducible refine v_or ?_
  | with_reducible refine v_not ?_
  | with_reducible refine e_if ?_
  | with_reducible refine e_chain ?_
  | with_reducible refine e_chain3 ?_
  | with_reducible refine iteT ?_
  | with_reducible refine iteF ?_
  | with_reducible refine ite_nT ?_
  | with_reducible refine ite_nF ?_
  | with_reducible refine r_forL ?_
  | with_reducible refine r_forT ?_
  | with_reducible refine r_forE ?_
  | with_reducible refine r_forR1 ?_
  | with_reducible refine r_forR2 ?_
  | with_reducible refine e_lcL ?_
  | with_reducible refine e_lcR1 ?_
  | with_reducible refine e_lcR2 ?_
  | with_reducible refine r_dput ?_
  | with_reducible refine e_dget ?_
  | with_reducible refine e_dnin ?_
  | with_reducible refine c_max2 ?_
  | with_reducible refine c_min2 ?_
  | ((with_reducible apply c_isiI); (first | exact (show kitB "int" _ = some true by decide +kernel) | exact (show kitB "int" _ = some false by decide +kernel)))
  | ((with_reducible apply m_ty); walk_at "sq"))
local macro_rules | `(tactic| walk_at "go2") => `(tactic| first
  | ((with_reducible apply o_ixI); walk_at "sq"; omega)
  | ((with_reducible refine o_mod ?_ ?_); omega)
  | ((with_reducible refine o_fdiv ?_ ?_); omega)
  | ((with_reducible refine o_mulR ?_ ?_); omega)
  | ((with_reducible refine o_mulL ?_ ?_); omega)
  | ((with_reducible apply c_lenM); walk_at "sq")
  | ((with_reducible apply c_all); walk_at "sq")
  | ((with_reducible apply c_any); walk_at "sq")
  | ((with_reducible apply o_in); walk_at "sq")
  | ((with_reducible apply o_nin); walk_at "sq")
  | ((with_reducible apply o_ixB); walk_at "sq"; omega)
  | ((with_reducible apply m_setB); walk_at "hp"; omega)
  | ((with_reducible apply m_appR); walk_at "hp"; omega)
  | ((with_reducible apply m_ins); walk_at "hp"; omega; omega)
  | ((with_reducible apply m_appM); walk_at "hp"; exact rfl; omega)
  | ((with_reducible apply m_setI); walk_at "hp"; omega))
local macro_rules | `(tactic| walk_at "d") => `(tactic| try dsimp only)
local macro_rules | `(tactic| walk_at "k") => `(tactic| try dsimp only [cxOf, Cx.nox, Cx.blk])
local macro_rules | `(tactic| walk_at "go") => `(tactic| repeat (first | walk_at "go1" | walk_at "go2"))

section
variable {P : Program} {w : World} {K : PySem.W.Frag} {mg : Str → Option Value} {base : Heap} {C_Exchanged C_Fronted C_Ended C_Put C_Answer C_OrderError C_BadRow C_BadNumber C_BadRings C_Unlike C_BadText : Addr} (T : Top K mg C_Exchanged C_Fronted C_Ended C_Put C_Answer C_OrderError C_BadRow C_BadNumber C_BadRings C_Unlike C_BadText)
include T

def sp_law (K : PySem.W.Frag) : Sp := fun vs H Q _ => ∃ (a : Addr) (ns : List Int), vs = [.ref a] ∧ SqL K H a (ns.map V.int) ∧ ns.length ≤ 63 ∧ ∀ H', Q (.bl true) H'
theorem ok_law {f : Addr} {fd : FuncData} (F : L2.Fun K "law" "law" s_law f fd) : FnOk P w K mg base L2.CX0 7 f fd ["_law_script"] (sp_law K) := by
  have c__law_cell_at := ok__law_cell_at (P := P) (w := w) (base := base) T
  have c__law_row := ok__law_row (P := P) (w := w) (base := base) T
  have c__law_all := ok__law_all (P := P) (w := w) (base := base) T
  have c__law_told := ok__law_told (P := P) (w := w) (base := base) T
  have c_of_rings := ok_of_rings (P := P) (w := w) (base := base) T
  have c_back := ok_back (P := P) (w := w) (base := base) T
  have c_turns := ok_turns (P := P) (w := w) (base := base) T
  have c_rings := ok_rings (P := P) (w := w) (base := base) T
  obtain ⟨f__law_with_row, h__law_with_row, B_row⟩ := (okX__law_with_row (P := P) (w := w) (base := base) T).held
  obtain ⟨f__law_with_number, h__law_with_number, B_num⟩ := (okX__law_with_number (P := P) (w := w) (base := base) T).held
  obtain ⟨f__law_with_rings, h__law_with_rings, B_ring⟩ := (okX__law_with_rings (P := P) (w := w) (base := base) T).held
  obtain ⟨f__law_with_two, h__law_with_two, B_two⟩ := (okX__law_with_two (P := P) (w := w) (base := base) T).held
  refine F.ok sc_law ?_ ?_
  · rintro vs H Q E ⟨a, ns, rfl, _⟩; rfl
  · rintro cdv A outer s H vs Q E hr ⟨a, ns, rfl, hS, hl, q⟩
    refine ⟨_, (pss_cons (ps_set (i := 1) sc_law.nd rfl (by first | exact Or.inl rfl | exact Or.inr rfl) (pe_op op_mod (pe_cc c__law_cell_at (hr.mono (by decide)) (by rfl) (pa_cons (pv 0) (pa_cons pe_int pa_nil))) (pe_op op_pow pe_int pe_int)))
      (pss_cons (ps_set (i := 2) sc_law.nd rfl (by first | exact Or.inl rfl | exact Or.inr rfl) (pe_lst pa_nil))
      (pss_cons (ps_for PassesOwn.never rfl (pi_range1 (by rfl) T.b_range (pa_cons pe_int pa_nil)) (pg_name (i := 3) sc_law.nd rfl (by first | exact Or.inl rfl | exact Or.inr rfl)) (pss_one (ps_expr (pe_bm PySem.F.plainAttrs_list PySem.F.slot_list_append PySem.F.type_list_append mt_append (pv 2) (pa_cons (pe_lst (pa_cons (pe_cmpR op_eq (pv 3) pe_int (nomark _)) (pa_cons (pe_cmpR op_eq (pv 3) pe_int (nomark _)) (pa_cons (pe_cmpR op_eq (pv 3) pe_int (nomark _)) (pa_cons (pe_cmpR op_eq (pv 3) pe_int (nomark _)) (pa_cons pe_bl (pa_cons pe_bl pa_nil))))))) pa_nil)))))
      (pss_cons (ps_set (i := 4) sc_law.nd rfl (by first | exact Or.inl rfl | exact Or.inr rfl) (pe_cc c__law_row (hr.mono (by decide)) (by rfl) (pa_cons (pv 0) pa_nil)))
      (pss_cons (ps_par (i := 5) (j := 6) rfl sc_law.nd rfl rfl (by decide) rfl rfl (pa_cons (pe_callB (r := rLen2 K) call_len_seq (by rfl) T.b_len PySem.boot_len (pa_cons (pv 4) pa_nil)) (pa_cons (pe_callTy (r := rList2 K) call_list_of (by rfl) T.b_list PyProof.Rows.boot_list (pa_cons (pv 4) pa_nil)) pa_nil)) (by rfl))
      (pss_cons (ps_set (i := 7) sc_law.nd rfl (by first | exact Or.inl rfl | exact Or.inr rfl) (pe_lst (pa_cons pe_non (pa_cons (pe_tup pa_nil) (pa_cons (pe_tup (pa_cons pe_int pa_nil)) (pa_cons pe_str (pa_cons pe_dnewK (pa_cons pe_int (pa_cons (pe_lst (pa_cons pe_non pa_nil)) (pa_cons (pe_lst (pa_cons pe_str pa_nil)) (pa_cons (pe_lst (pa_cons pe_bl pa_nil)) (pa_cons (pe_lst (pa_cons pe_int pa_nil)) (pa_cons (pe_lst (pa_cons (pe_un un_neg pe_int) pa_nil)) (pa_cons (pe_lst (pa_cons pe_int (pa_cons pe_int pa_nil))) (pa_cons (pe_lst (pa_cons pe_int (pa_cons pe_int pa_nil))) (pa_cons (pe_lst (pa_cons pe_int (pa_cons pe_int pa_nil))) (pa_cons (pe_lst (pa_cons pe_int (pa_cons (pe_op op_add pe_int (pv 1)) pa_nil))) (pa_cons (pe_lst (pa_cons (pe_lst (pa_cons pe_int pa_nil)) pa_nil)) pa_nil))))))))))))))))))
      (pss_cons (ps_for PassesOwn.never rfl (pi_range3 (by rfl) T.b_range (pa_cons pe_int (pa_cons (pv 5) (pa_cons (pe_op op_add pe_int (pe_op op_fdiv (pv 5) pe_int)) pa_nil)))) (pg_name (i := 8) sc_law.nd rfl (by first | exact Or.inl rfl | exact Or.inr rfl)) (pss_one (ps_expr (pe_bm PySem.F.plainAttrs_list PySem.F.slot_list_append PySem.F.type_list_append mt_append (pv 7) (pa_cons (pe_op op_cat (pe_op op_cat (pe_slice (r := rSlL K) sl_list (pv 4) po_none (po_some (pv 8))) (pe_lst (pa_cons (pe_ix (r := rIxT K) ix_tup (pe_tup (pa_cons pe_non (pa_cons pe_str (pa_cons (pv 5) (pa_cons (pe_op op_add (pv 5) (pv 1)) (pa_cons (pe_un un_neg pe_int) (pa_cons (pe_op op_add (pv 5) pe_int) pa_nil))))))) (pe_op op_mod (pv 8) pe_int) (fun _ _ => rfl)) pa_nil))) (pe_slice (r := rSlL K) sl_list (pv 4) (po_some (pe_op op_add (pv 8) pe_int)) po_none)) pa_nil)))))
      (Bo.pss_cut (ps_if (pt_cmpR op_gt (pv 5) pe_int (nomark _)) (pss_one (ps_expr (pe_bm PySem.F.plainAttrs_list PySem.F.slot_list_append PySem.F.type_list_append mt_append (pv 7) (pa_cons (pe_op op_cat (pv 4) (pe_lst (pa_cons (pe_ix (r := rIxL K) ix_list (pv 4) (pe_op op_fdiv (pv 5) pe_int) (fun _ _ => rfl)) pa_nil))) pa_nil)))) pss_nil)
      (pss_cons (ps_if (pt_not (pt_val (pe_cc c__law_all (hr.mono (by decide)) (by rfl) (pa_cons (pe_glob (v := .ref f__law_with_row) (by rfl) h__law_with_row rfl) (pa_cons (pe_listRg rfl (by rfl) T.b_list (prg_1 (by rfl) T.b_range pe_int)) (pa_cons (pv 7) (pa_cons (pe_ix (r := rIxL K) ix_list (pv 2) pe_int (fun _ _ => rfl)) pa_nil))))))) (pss_one (ps_ret pe_bl)) pss_nil)
      (pss_cons (ps_if (pt_not (pt_val (pe_cc c__law_all (hr.mono (by decide)) (by rfl) (pa_cons (pe_glob (v := .ref f__law_with_number) (by rfl) h__law_with_number rfl) (pa_cons (pe_lst (pa_cons pe_int pa_nil)) (pa_cons (pe_lst (pa_cons pe_non (pa_cons pe_str (pa_cons pe_bl (pa_cons (pe_lst (pa_cons pe_int pa_nil)) (pa_cons (pe_tup (pa_cons pe_int pa_nil)) pa_nil)))))) (pa_cons (pe_ix (r := rIxL K) ix_list (pv 2) pe_int (fun _ _ => rfl)) pa_nil))))))) (pss_one (ps_ret pe_bl)) pss_nil)
      (pss_cons (ps_set (i := 9) sc_law.nd rfl (by first | exact Or.inl rfl | exact Or.inr rfl) (pe_lst (pa_cons pe_non (pa_cons pe_str (pa_cons (pe_un un_neg pe_int) (pa_cons (pe_op op_sub (pe_un un_neg pe_int) (pv 1)) (pa_cons pe_int (pa_cons (pe_op op_add pe_int (pv 1)) (pa_cons pe_bl (pa_cons (pe_lst (pa_cons pe_int pa_nil)) pa_nil))))))))))
      (pss_cons (ps_if (pt_not (pt_val (pe_cc c__law_all (hr.mono (by decide)) (by rfl) (pa_cons (pe_glob (v := .ref f__law_with_number) (by rfl) h__law_with_number rfl) (pa_cons (pe_lst (pa_cons pe_int pa_nil)) (pa_cons (pv 9) (pa_cons (pe_ix (r := rIxL K) ix_list (pv 2) pe_int (fun _ _ => rfl)) pa_nil))))))) (pss_one (ps_ret pe_bl)) pss_nil)
      (pss_cons (ps_set (i := 10) sc_law.nd rfl (by first | exact Or.inl rfl | exact Or.inr rfl) (pe_lst (pa_cons pe_non (pa_cons (pe_tup pa_nil) (pa_cons pe_str (pa_cons pe_dnewK (pa_cons pe_int (pa_cons (pe_lst (pa_cons pe_non pa_nil)) (pa_cons (pe_lst (pa_cons (pe_tup pa_nil) pa_nil)) (pa_cons (pe_lst (pa_cons (pe_lst pa_nil) pa_nil)) (pa_cons (pe_lst (pa_cons (pe_lst (pa_cons pe_int pa_nil)) (pa_cons (pe_lst pa_nil) pa_nil))) (pa_cons (pe_lst (pa_cons (pe_lst (pa_cons pe_int pa_nil)) pa_nil)) (pa_cons (pe_lst (pa_cons (pe_lst (pa_cons (pe_op op_add pe_int (pv 1)) pa_nil)) pa_nil)) (pa_cons (pe_lst (pa_cons (pe_lst (pa_cons (pe_un un_neg pe_int) pa_nil)) pa_nil)) (pa_cons (pe_lst (pa_cons (pe_lst (pa_cons pe_int (pa_cons pe_int pa_nil))) pa_nil)) (pa_cons (pe_lst (pa_cons (pe_lst (pa_cons pe_int pa_nil)) (pa_cons (pe_lst (pa_cons pe_int pa_nil)) pa_nil))) pa_nil))))))))))))))))
      (pss_cons (ps_set (i := 10) sc_law.nd rfl (by first | exact Or.inl rfl | exact Or.inr rfl) (pe_op op_cat (pv 10) (pe_lst (pa_cons (pe_lst (pa_cons (pe_lst (pa_cons pe_bl (pa_cons pe_int pa_nil))) pa_nil)) (pa_cons (pe_lst (pa_cons (pe_lst (pa_cons pe_str pa_nil)) pa_nil)) (pa_cons (pe_lst (pa_cons pe_int (pa_cons pe_int pa_nil))) (pa_cons (pe_lst (pa_cons (pe_lst (pa_cons pe_int (pa_cons pe_int pa_nil))) (pa_cons (pe_lst (pa_cons pe_int (pa_cons pe_int pa_nil))) pa_nil))) (pa_cons (pe_lst (pa_cons (pe_tup (pa_cons pe_int (pa_cons pe_int pa_nil))) pa_nil)) pa_nil))))))))
      (pss_cons (ps_if (pt_not (pt_val (pe_cc c__law_all (hr.mono (by decide)) (by rfl) (pa_cons (pe_glob (v := .ref f__law_with_rings) (by rfl) h__law_with_rings rfl) (pa_cons (pe_lst (pa_cons pe_int pa_nil)) (pa_cons (pv 10) (pa_cons (pe_ix (r := rIxL K) ix_list (pv 2) pe_int (fun _ _ => rfl)) pa_nil))))))) (pss_one (ps_ret pe_bl)) pss_nil)
      (pss_cons (ps_if (PW.pt (pw_or (pt_cmpR (r := rNeD K) (op_neD hr.units) (pe_cc c__law_told (hr.mono (by decide)) (by rfl) (pa_cons (pe_glob (v := .ref f__law_with_two) (by rfl) h__law_with_two rfl) (pa_cons (pv 4) (pa_cons (pe_op op_cat (pv 4) (pe_lst (pa_cons (pv 5) pa_nil))) pa_nil)))) (pe_ix (r := rIxL K) ix_list (pv 2) pe_int (fun _ _ => rfl)) (nomark _)) (pw_or1 (pt_cmpR (r := rNeD K) (op_neD hr.units) (pe_cc c__law_told (hr.mono (by decide)) (by rfl) (pa_cons (pe_glob (v := .ref f__law_with_two) (by rfl) h__law_with_two rfl) (pa_cons (pe_op op_cat (pv 4) (pe_lst (pa_cons (pv 5) pa_nil))) (pa_cons (pv 4) pa_nil)))) (pe_ix (r := rIxL K) ix_list (pv 2) pe_int (fun _ _ => rfl)) (nomark _))))) (pss_one (ps_ret pe_bl)) pss_nil)
      (pss_one (ps_ret (pe_and (pe_cmpR (r := rEqD K) (op_eqD hr.units) (pv 4) (pv 6) (nomark _)) (pe_and (pe_cmpR (r := rEqD K) (op_eqD hr.units) (pe_cc c_of_rings (hr.mono (by decide)) (by rfl) (pa_cons pe_int (pa_cons (pe_lst pa_nil) pa_nil))) (pe_lst pa_nil) (nomark _)) (pe_and (pe_cmpR (r := rEqD K) (op_eqD hr.units) (pe_cc c_back (hr.mono (by decide)) (by rfl) (pa_cons (pe_lst pa_nil) pa_nil)) (pe_lst pa_nil) (nomark _)) (pe_and (pe_cmpR op_eq (pe_cc c_turns (hr.mono (by decide)) (by rfl) (pa_cons (pe_lst pa_nil) pa_nil)) pe_int (nomark _)) (pe_one (pe_cmpR (r := rEqD K) (op_eqD hr.units) (pe_cc c_rings (hr.mono (by decide)) (by rfl) (pa_cons (pe_lst pa_nil) pa_nil)) (pe_lst pa_nil) (nomark _))))))))))))))))))))))))), ?_⟩
    walk_at "k"
    walk_at "go"
    refine ⟨a, ns, 0, rfl, hS, by decide, fun c0 => ?_⟩
    walk_at "go"
    refine o_I (C := CPow) ⟨by decide, by decide, by decide⟩ ?_
    refine o_mod (by decide) ?_
    have far0 : 0 ≤ c0 % (10 : Int) ^ (6 : Int).toNat := Int.emod_nonneg _ (by decide)
    generalize c0 % (10 : Int) ^ (6 : Int).toNat = far at far0 ⊢
    walk_at "go"
    refine l_new (Nat.zero_le _) fun pd npd => ?_
    walk_at "go"
    refine k_rng1 (fun i σ H' => ∃ v3 ds, σ = [some (.ref a), some (.int far), some (.ref pd), v3, none, none, none, none, none, none, none] ∧ Same H H' ∧ H' pd = some (.lst (ds.map V.ref)) ∧ ds.length = i ∧ pd ∉ ds ∧ ∀ (j : Nat) (x : Addr), ds[j]? = some x → H' x = some (.lst ((dueB j).map V.bl)))
      (by omega) ⟨none, [], rfl, Same.one npd, upd_same, rfl, by simp, fun j x h => by simp at h⟩ ?_ ?_
    · rintro i σ H' hi ⟨v3, ds, rfl, s1, h1, l1, m1, g1⟩
      walk_at "d"
      walk_at "go"
      refine l_new (by show 6 ≤ sizeLine; decide) fun q nq => ?_
      have e1 : pd ≠ q := neo nq h1
      walk_at "go"
      refine ⟨_, ds ++ [q], rfl, Same.new (Same.new s1 (s1.free nq)) npd, upd_same, by rw [List.length_append, l1]; rfl, nm_snoc m1 e1, fun j x hx => ?_⟩
      by_cases c : j < ds.length
      · rw [List.getElem?_append_left c] at hx
        have hx2 := g1 j x hx
        exact lift_ne (lift_ne hx2 (neo nq hx2)) (fun z => m1 (by rw [← z]; exact List.mem_of_getElem? hx))
      · rw [List.getElem?_append_right (by omega)] at hx
        have ej : j - ds.length = 0 := by
          cases hz : j - ds.length with
          | zero => rfl
          | succ m => rw [hz] at hx; simp at hx
        rw [ej] at hx
        have ex : q = x := by simpa using hx
        have ej2 : j = i := by omega
        rw [← ex, ej2]
        exact lift_ne upd_same (Ne.symm e1)
    rintro σ H1 ⟨v3, ds, rfl, sA, hpd, ld, _, g1⟩
    obtain ⟨d0, d1, d2, d3, rfl⟩ : ∃ d0 d1 d2 d3, ds = [d0, d1, d2, d3] := four ld
    have hd0 : H1 d0 = some (.lst ([true, false, false, false, false, true].map V.bl)) := g1 0 d0 rfl
    have hd1 : H1 d1 = some (.lst ([false, true, false, false, false, true].map V.bl)) := g1 1 d1 rfl
    have hd2 : H1 d2 = some (.lst ([false, false, true, false, false, true].map V.bl)) := g1 2 d2 rfl
    have hd3 : H1 d3 = some (.lst ([false, false, false, true, false, true].map V.bl)) := g1 3 d3 rfl
    clear g1 npd ld
    walk_at "d"
    walk_at "go"
    refine ⟨a, ns, rfl, sA.seq hS, hl, fun p r H2 s2 np R lr hp => ?_⟩
    replace hpd := s2 _ _ hpd
    replace hd0 := s2 _ _ hd0
    replace hd1 := s2 _ _ hd1
    replace hd2 := s2 _ _ hd2
    replace hd3 := s2 _ _ hd3
    have rl : r.length ≤ 63 := by omega
    have hb := R.len
    walk_at "go"
    walk_at "go"
    refine c_list (SqL.of hp) fun p11 n11 => ?_
    have s11 : Same H2 (upd H2 p11 (.lst (r.map V.int))) := Same.one n11
    have h11 : (upd H2 p11 (.lst (r.map V.int))) p11 = some (.lst (r.map V.int)) := upd_same
    generalize upd H2 p11 (.lst (r.map V.int)) = H11 at s11 h11 ⊢
    replace hpd := s11 _ _ hpd
    replace hd0 := s11 _ _ hd0
    replace hd1 := s11 _ _ hd1
    replace hd2 := s11 _ _ hd2
    replace hd3 := s11 _ _ hd3
    replace hp := s11 _ _ hp
    have hk := h11
    clear h11
    walk_at "go"
    refine l_new (by show 0 ≤ sizeLine; decide) fun p12 n12 => ?_
    have s12 : Same H11 (upd H11 p12 (.tup [])) := Same.one n12
    have h12 : (upd H11 p12 (.tup [])) p12 = some (.tup []) := upd_same
    generalize upd H11 p12 (.tup []) = H12 at s12 h12 ⊢
    replace hpd := s12 _ _ hpd
    replace hd0 := s12 _ _ hd0
    replace hd1 := s12 _ _ hd1
    replace hd2 := s12 _ _ hd2
    replace hd3 := s12 _ _ hd3
    replace hp := s12 _ _ hp
    replace hk := s12 _ _ hk
    walk_at "go"
    refine l_new (by show 1 ≤ sizeLine; decide) fun p13 n13 => ?_
    have s13 : Same H12 (upd H12 p13 (.tup [.int 0])) := Same.one n13
    have h13 : (upd H12 p13 (.tup [.int 0])) p13 = some (.tup [.int 0]) := upd_same
    generalize upd H12 p13 (.tup [.int 0]) = H13 at s13 h13 ⊢
    replace hpd := s13 _ _ hpd
    replace hd0 := s13 _ _ hd0
    replace hd1 := s13 _ _ hd1
    replace hd2 := s13 _ _ hd2
    replace hd3 := s13 _ _ hd3
    replace hp := s13 _ _ hp
    replace hk := s13 _ _ hk
    replace h12 := s13 _ _ h12
    walk_at "go"
    refine e_dnew fun p14 n14 => ?_
    have s14 : Same H13 (upd H13 p14 (.dK [])) := Same.one n14
    have h14 : (upd H13 p14 (.dK [])) p14 = some (.dK []) := upd_same
    generalize upd H13 p14 (.dK []) = H14 at s14 h14 ⊢
    replace hpd := s14 _ _ hpd
    replace hd0 := s14 _ _ hd0
    replace hd1 := s14 _ _ hd1
    replace hd2 := s14 _ _ hd2
    replace hd3 := s14 _ _ hd3
    replace hp := s14 _ _ hp
    replace hk := s14 _ _ hk
    replace h12 := s14 _ _ h12
    replace h13 := s14 _ _ h13
    walk_at "go"
    refine l_new (by show 1 ≤ sizeLine; decide) fun p15 n15 => ?_
    have s15 : Same H14 (upd H14 p15 (.lst [.non])) := Same.one n15
    have h15 : (upd H14 p15 (.lst [.non])) p15 = some (.lst [.non]) := upd_same
    generalize upd H14 p15 (.lst [.non]) = H15 at s15 h15 ⊢
    replace hpd := s15 _ _ hpd
    replace hd0 := s15 _ _ hd0
    replace hd1 := s15 _ _ hd1
    replace hd2 := s15 _ _ hd2
    replace hd3 := s15 _ _ hd3
    replace hp := s15 _ _ hp
    replace hk := s15 _ _ hk
    replace h12 := s15 _ _ h12
    replace h13 := s15 _ _ h13
    replace h14 := s15 _ _ h14
    walk_at "go"
    refine l_new (by show 1 ≤ sizeLine; decide) fun p16 n16 => ?_
    have s16 : Same H15 (upd H15 p16 (.lst [.str "0"])) := Same.one n16
    have h16 : (upd H15 p16 (.lst [.str "0"])) p16 = some (.lst [.str "0"]) := upd_same
    generalize upd H15 p16 (.lst [.str "0"]) = H16 at s16 h16 ⊢
    replace hpd := s16 _ _ hpd
    replace hd0 := s16 _ _ hd0
    replace hd1 := s16 _ _ hd1
    replace hd2 := s16 _ _ hd2
    replace hd3 := s16 _ _ hd3
    replace hp := s16 _ _ hp
    replace hk := s16 _ _ hk
    replace h12 := s16 _ _ h12
    replace h13 := s16 _ _ h13
    replace h14 := s16 _ _ h14
    replace h15 := s16 _ _ h15
    walk_at "go"
    refine l_new (by show 1 ≤ sizeLine; decide) fun p17 n17 => ?_
    have s17 : Same H16 (upd H16 p17 (.lst [.bl true])) := Same.one n17
    have h17 : (upd H16 p17 (.lst [.bl true])) p17 = some (.lst [.bl true]) := upd_same
    generalize upd H16 p17 (.lst [.bl true]) = H17 at s17 h17 ⊢
    replace hpd := s17 _ _ hpd
    replace hd0 := s17 _ _ hd0
    replace hd1 := s17 _ _ hd1
    replace hd2 := s17 _ _ hd2
    replace hd3 := s17 _ _ hd3
    replace hp := s17 _ _ hp
    replace hk := s17 _ _ hk
    replace h12 := s17 _ _ h12
    replace h13 := s17 _ _ h13
    replace h14 := s17 _ _ h14
    replace h15 := s17 _ _ h15
    replace h16 := s17 _ _ h16
    walk_at "go"
    refine l_new (by show 1 ≤ sizeLine; decide) fun p18 n18 => ?_
    have s18 : Same H17 (upd H17 p18 (.lst [.int 1])) := Same.one n18
    have h18 : (upd H17 p18 (.lst [.int 1])) p18 = some (.lst [.int 1]) := upd_same
    generalize upd H17 p18 (.lst [.int 1]) = H18 at s18 h18 ⊢
    replace hpd := s18 _ _ hpd
    replace hd0 := s18 _ _ hd0
    replace hd1 := s18 _ _ hd1
    replace hd2 := s18 _ _ hd2
    replace hd3 := s18 _ _ hd3
    replace hp := s18 _ _ hp
    replace hk := s18 _ _ hk
    replace h12 := s18 _ _ h12
    replace h13 := s18 _ _ h13
    replace h14 := s18 _ _ h14
    replace h15 := s18 _ _ h15
    replace h16 := s18 _ _ h16
    replace h17 := s18 _ _ h17
    walk_at "go"
    refine l_new (by show 1 ≤ sizeLine; decide) fun p19 n19 => ?_
    have s19 : Same H18 (upd H18 p19 (.lst [.int (-1)])) := Same.one n19
    have h19 : (upd H18 p19 (.lst [.int (-1)])) p19 = some (.lst [.int (-1)]) := upd_same
    generalize upd H18 p19 (.lst [.int (-1)]) = H19 at s19 h19 ⊢
    replace hpd := s19 _ _ hpd
    replace hd0 := s19 _ _ hd0
    replace hd1 := s19 _ _ hd1
    replace hd2 := s19 _ _ hd2
    replace hd3 := s19 _ _ hd3
    replace hp := s19 _ _ hp
    replace hk := s19 _ _ hk
    replace h12 := s19 _ _ h12
    replace h13 := s19 _ _ h13
    replace h14 := s19 _ _ h14
    replace h15 := s19 _ _ h15
    replace h16 := s19 _ _ h16
    replace h17 := s19 _ _ h17
    replace h18 := s19 _ _ h18
    walk_at "go"
    refine l_new (by show 2 ≤ sizeLine; decide) fun p20 n20 => ?_
    have s20 : Same H19 (upd H19 p20 (.lst [.int 0, .int 0])) := Same.one n20
    have h20 : (upd H19 p20 (.lst [.int 0, .int 0])) p20 = some (.lst [.int 0, .int 0]) := upd_same
    generalize upd H19 p20 (.lst [.int 0, .int 0]) = H20 at s20 h20 ⊢
    replace hpd := s20 _ _ hpd
    replace hd0 := s20 _ _ hd0
    replace hd1 := s20 _ _ hd1
    replace hd2 := s20 _ _ hd2
    replace hd3 := s20 _ _ hd3
    replace hp := s20 _ _ hp
    replace hk := s20 _ _ hk
    replace h12 := s20 _ _ h12
    replace h13 := s20 _ _ h13
    replace h14 := s20 _ _ h14
    replace h15 := s20 _ _ h15
    replace h16 := s20 _ _ h16
    replace h17 := s20 _ _ h17
    replace h18 := s20 _ _ h18
    replace h19 := s20 _ _ h19
    walk_at "go"
    refine l_new (by show 2 ≤ sizeLine; decide) fun p21 n21 => ?_
    have s21 : Same H20 (upd H20 p21 (.lst [.int 1, .int 1])) := Same.one n21
    have h21 : (upd H20 p21 (.lst [.int 1, .int 1])) p21 = some (.lst [.int 1, .int 1]) := upd_same
    generalize upd H20 p21 (.lst [.int 1, .int 1]) = H21 at s21 h21 ⊢
    replace hpd := s21 _ _ hpd
    replace hd0 := s21 _ _ hd0
    replace hd1 := s21 _ _ hd1
    replace hd2 := s21 _ _ hd2
    replace hd3 := s21 _ _ hd3
    replace hp := s21 _ _ hp
    replace hk := s21 _ _ hk
    replace h12 := s21 _ _ h12
    replace h13 := s21 _ _ h13
    replace h14 := s21 _ _ h14
    replace h15 := s21 _ _ h15
    replace h16 := s21 _ _ h16
    replace h17 := s21 _ _ h17
    replace h18 := s21 _ _ h18
    replace h19 := s21 _ _ h19
    replace h20 := s21 _ _ h20
    walk_at "go"
    refine l_new (by show 2 ≤ sizeLine; decide) fun p22 n22 => ?_
    have s22 : Same H21 (upd H21 p22 (.lst [.int 0, .int 2])) := Same.one n22
    have h22 : (upd H21 p22 (.lst [.int 0, .int 2])) p22 = some (.lst [.int 0, .int 2]) := upd_same
    generalize upd H21 p22 (.lst [.int 0, .int 2]) = H22 at s22 h22 ⊢
    replace hpd := s22 _ _ hpd
    replace hd0 := s22 _ _ hd0
    replace hd1 := s22 _ _ hd1
    replace hd2 := s22 _ _ hd2
    replace hd3 := s22 _ _ hd3
    replace hp := s22 _ _ hp
    replace hk := s22 _ _ hk
    replace h12 := s22 _ _ h12
    replace h13 := s22 _ _ h13
    replace h14 := s22 _ _ h14
    replace h15 := s22 _ _ h15
    replace h16 := s22 _ _ h16
    replace h17 := s22 _ _ h17
    replace h18 := s22 _ _ h18
    replace h19 := s22 _ _ h19
    replace h20 := s22 _ _ h20
    replace h21 := s22 _ _ h21
    walk_at "go"
    refine l_new (by show 2 ≤ sizeLine; decide) fun p23 n23 => ?_
    have s23 : Same H22 (upd H22 p23 (.lst [.int 0, .int (2 + far)])) := Same.one n23
    have h23 : (upd H22 p23 (.lst [.int 0, .int (2 + far)])) p23 = some (.lst [.int 0, .int (2 + far)]) := upd_same
    generalize upd H22 p23 (.lst [.int 0, .int (2 + far)]) = H23 at s23 h23 ⊢
    replace hpd := s23 _ _ hpd
    replace hd0 := s23 _ _ hd0
    replace hd1 := s23 _ _ hd1
    replace hd2 := s23 _ _ hd2
    replace hd3 := s23 _ _ hd3
    replace hp := s23 _ _ hp
    replace hk := s23 _ _ hk
    replace h12 := s23 _ _ h12
    replace h13 := s23 _ _ h13
    replace h14 := s23 _ _ h14
    replace h15 := s23 _ _ h15
    replace h16 := s23 _ _ h16
    replace h17 := s23 _ _ h17
    replace h18 := s23 _ _ h18
    replace h19 := s23 _ _ h19
    replace h20 := s23 _ _ h20
    replace h21 := s23 _ _ h21
    replace h22 := s23 _ _ h22
    walk_at "go"
    refine l_new (by show 1 ≤ sizeLine; decide) fun p24 n24 => ?_
    have s24 : Same H23 (upd H23 p24 (.lst [.int 0])) := Same.one n24
    have h24 : (upd H23 p24 (.lst [.int 0])) p24 = some (.lst [.int 0]) := upd_same
    generalize upd H23 p24 (.lst [.int 0]) = H24 at s24 h24 ⊢
    replace hpd := s24 _ _ hpd
    replace hd0 := s24 _ _ hd0
    replace hd1 := s24 _ _ hd1
    replace hd2 := s24 _ _ hd2
    replace hd3 := s24 _ _ hd3
    replace hp := s24 _ _ hp
    replace hk := s24 _ _ hk
    replace h12 := s24 _ _ h12
    replace h13 := s24 _ _ h13
    replace h14 := s24 _ _ h14
    replace h15 := s24 _ _ h15
    replace h16 := s24 _ _ h16
    replace h17 := s24 _ _ h17
    replace h18 := s24 _ _ h18
    replace h19 := s24 _ _ h19
    replace h20 := s24 _ _ h20
    replace h21 := s24 _ _ h21
    replace h22 := s24 _ _ h22
    replace h23 := s24 _ _ h23
    walk_at "go"
    refine l_new (by show 1 ≤ sizeLine; decide) fun p25 n25 => ?_
    have s25 : Same H24 (upd H24 p25 (.lst [.ref p24])) := Same.one n25
    have h25 : (upd H24 p25 (.lst [.ref p24])) p25 = some (.lst [.ref p24]) := upd_same
    generalize upd H24 p25 (.lst [.ref p24]) = H25 at s25 h25 ⊢
    replace hpd := s25 _ _ hpd
    replace hd0 := s25 _ _ hd0
    replace hd1 := s25 _ _ hd1
    replace hd2 := s25 _ _ hd2
    replace hd3 := s25 _ _ hd3
    replace hp := s25 _ _ hp
    replace hk := s25 _ _ hk
    replace h12 := s25 _ _ h12
    replace h13 := s25 _ _ h13
    replace h14 := s25 _ _ h14
    replace h15 := s25 _ _ h15
    replace h16 := s25 _ _ h16
    replace h17 := s25 _ _ h17
    replace h18 := s25 _ _ h18
    replace h19 := s25 _ _ h19
    replace h20 := s25 _ _ h20
    replace h21 := s25 _ _ h21
    replace h22 := s25 _ _ h22
    replace h23 := s25 _ _ h23
    replace h24 := s25 _ _ h24
    have all : ∀ x ∈ [.non, .ref p12, .ref p13, .str "0", .ref p14, .int 0, .ref p15, .ref p16, .ref p17, .ref p18, .ref p19, .ref p20, .ref p21, .ref p22, .ref p23, .ref p25], BadV K H25 x := fa (.inl NoL.non) (fa (.inl (NoL.tup h12)) (fa (.inl (NoL.tup h13)) (fa (.inl (NoL.str _)) (fa (.inl (NoL.dic h14)) (fa (.inl (NoL.int _)) (fa (BadV.out h15 (by simp) (fk (Kd.non) (fk0)) (x := .non) (by simp) (by rfl)) (fa (BadV.out h16 (by simp) (fk (Kd.str _) (fk0)) (x := .str "0") (by simp) (by rfl)) (fa (BadV.out h17 (by simp) (fk (Kd.bl _) (fk0)) (x := .bl true) (by simp) (by rfl)) (fa (BadV.out h18 (by simp) (fk (Kd.int _) (fk0)) (x := .int 1) (by simp) (by rfl)) (fa (BadV.out h19 (by simp) (fk (Kd.int _) (fk0)) (x := .int (-1)) (by simp) (by rfl)) (fa (BadV.dup (ns := [0, 0]) h20 (by simp) (by decide)) (fa (BadV.dup (ns := [1, 1]) h21 (by simp) (by decide)) (fa (BadV.out h22 (by simp) (fk (Kd.int _) (fk (Kd.int _) (fk0))) (x := .int 2) (by simp) (by rfl)) (fa (BadV.out h23 (by simp) (fk (Kd.int _) (fk (Kd.int _) (fk0))) (x := .int (2 + far)) (by simp) (num_out (by simp; omega))) (fa (BadV.out h25 (by simp) (fk (Kd.lst h24) (fk0)) (x := .ref p24) (by simp) (by rfl)) (fa0))))))))))))))))
    clear h12 h13 h14 h15 h16 h17 h18 h19 h20 h21 h22 h23 h24 h25 s12 s13 s14 s15 s16 s17 s18 s19 s20 s21 s22 s23 s24 s25 n12 n13 n14 n15 n16 n17 n18 n19 n20 n21 n22 n23 n24 n25
    walk_at "go"
    refine l_new (by show 16 ≤ sizeLine; decide) fun pR nR => ?_
    have all2 : ∀ x ∈ [.non, .ref p12, .ref p13, .str "0", .ref p14, .int 0, .ref p15, .ref p16, .ref p17, .ref p18, .ref p19, .ref p20, .ref p21, .ref p22, .ref p23, .ref p25], BadV K (hid (upd H25 pR (.lst [.non, .ref p12, .ref p13, .str "0", .ref p14, .int 0, .ref p15, .ref p16, .ref p17, .ref p18, .ref p19, .ref p20, .ref p21, .ref p22, .ref p23, .ref p25])) pR) x := fun x hx => (all x hx).same (hid_of (Same.one nR) nR)
    clear all
    have hR : (upd H25 pR (.lst [.non, .ref p12, .ref p13, .str "0", .ref p14, .int 0, .ref p15, .ref p16, .ref p17, .ref p18, .ref p19, .ref p20, .ref p21, .ref p22, .ref p23, .ref p25])) pR = some (.lst [.non, .ref p12, .ref p13, .str "0", .ref p14, .int 0, .ref p15, .ref p16, .ref p17, .ref p18, .ref p19, .ref p20, .ref p21, .ref p22, .ref p23, .ref p25]) := upd_same
    have sR : Same H25 (upd H25 pR (.lst [.non, .ref p12, .ref p13, .str "0", .ref p14, .int 0, .ref p15, .ref p16, .ref p17, .ref p18, .ref p19, .ref p20, .ref p21, .ref p22, .ref p23, .ref p25])) := Same.one nR
    have lR : ([.non, .ref p12, .ref p13, .str "0", .ref p14, .int 0, .ref p15, .ref p16, .ref p17, .ref p18, .ref p19, .ref p20, .ref p21, .ref p22, .ref p23, .ref p25] : List V).length ≤ 20 := by simp
    generalize ([.non, .ref p12, .ref p13, .str "0", .ref p14, .int 0, .ref p15, .ref p16, .ref p17, .ref p18, .ref p19, .ref p20, .ref p21, .ref p22, .ref p23, .ref p25] : List V) = xs0 at all2 hR sR lR ⊢
    generalize upd H25 pR (.lst xs0) = HR at all2 hR sR ⊢
    walk_at "go"
    refine r_forRC ?_
    walk_at "go"
    obtain ⟨n, rg, nb, rb⟩ := rg_step (m := r.length) (c := 1 + (r.length : Int) / 6) (by omega) (by omega) (by omega)
    refine k_rngC rg (fun i σ H' => ∃ xs v8, σ = [some (.ref a), some (.int far), some (.ref pd), v3, some (.ref p), some (.int (r.length : Nat)), some (.ref p11), some (.ref pR), v8, none, none] ∧ Same H25 H' ∧ H' pR = some (.lst xs) ∧ xs.length ≤ 20 + i ∧ ∀ x ∈ xs, BadV K (hid H' pR) x) ⟨xs0, none, rfl, sR, hR, lR, all2⟩ ?_ ?_
    · rintro i σ H' hi ⟨xs, v8, rfl, s1, h1, l1, b1⟩
      have at1 := rb i hi
      have at0 : 0 ≤ (i : Int) * (1 + (r.length : Int) / 6) := Int.mul_nonneg (by omega) (by omega)
      have hp1 := s1 _ _ hp
      walk_at "d"
      rw [Int.zero_add]
      generalize (i : Int) * (1 + (r.length : Int) / 6) = at_ at at0 at1 ⊢
      walk_at "go"
      refine o_slTo (f := V.int) (xs := r) (SqL.of hp1) at0 fun l1' n1 => ?_
      have s2 : Same H' (upd H' l1' (.lst ((r.take at_.toNat).map V.int))) := Same.one n1
      have k1 : (upd H' l1' (.lst ((r.take at_.toNat).map V.int))) l1' = some (.lst ((r.take at_.toNat).map V.int)) := upd_same
      generalize upd H' l1' (.lst ((r.take at_.toNat).map V.int)) = H2x at s2 k1 ⊢
      walk_at "go"
      refine ⟨by show 6 ≤ sizeLine; decide, fun tt ntt => ?_⟩
      obtain ⟨v, ev, kv, bv⟩ := six_at (many := r.length) (i := at_ % 6) far0 (Int.emod_nonneg _ (by decide)) (Int.emod_lt_of_pos _ (by decide))
      walk_at "go"
      refine o_ixT (SqT.of upd_same) ev ?_
      replace s2 := s2.trans (Same.one (o := .tup [.non, .str "1", .int (r.length : Nat), .int ((r.length : Nat) + far), .int (-1), .int ((r.length : Nat) + 1)]) ntt)
      replace k1 := (Same.one (o := .tup [.non, .str "1", .int (r.length : Nat), .int ((r.length : Nat) + far), .int (-1), .int ((r.length : Nat) + 1)]) ntt) _ _ k1
      generalize upd H2x tt (.tup [.non, .str "1", .int (r.length : Nat), .int ((r.length : Nat) + far), .int (-1), .int ((r.length : Nat) + 1)]) = H3x at s2 k1 ⊢
      walk_at "go"
      refine l_new (by show 1 ≤ sizeLine; decide) fun l2 n2 => ?_
      have k2 : (upd H3x l2 (.lst [v])) l2 = some (.lst [v]) := upd_same
      replace k1 := (Same.one (o := .lst [v]) n2) _ _ k1
      replace s2 := s2.trans (Same.one (o := .lst [v]) n2)
      generalize upd H3x l2 (.lst [v]) = H4x at s2 k1 k2 ⊢
      refine o_catV k1 k2 (by rw [List.length_map, List.length_take]; simp; omega) fun l3 n3 => ?_
      have k3 : (upd H4x l3 (.lst ((r.take at_.toNat).map V.int ++ [v]))) l3 = some (.lst ((r.take at_.toNat).map V.int ++ [v])) := upd_same
      replace s2 := s2.trans (Same.one (o := .lst ((r.take at_.toNat).map V.int ++ [v])) n3)
      generalize upd H4x l3 (.lst ((r.take at_.toNat).map V.int ++ [v])) = H5x at s2 k3 ⊢
      walk_at "go"
      refine o_slFrom (f := V.int) (xs := r) (SqL.of (s2 _ _ hp1)) (by omega) fun l4 n4 => ?_
      have k4 : (upd H5x l4 (.lst ((r.drop (at_ + 1).toNat).map V.int))) l4 = some (.lst ((r.drop (at_ + 1).toNat).map V.int)) := upd_same
      replace k3 := (Same.one (o := .lst ((r.drop (at_ + 1).toNat).map V.int)) n4) _ _ k3
      replace s2 := s2.trans (Same.one (o := .lst ((r.drop (at_ + 1).toNat).map V.int)) n4)
      generalize upd H5x l4 (.lst ((r.drop (at_ + 1).toNat).map V.int)) = H6x at s2 k3 k4 ⊢
      obtain ⟨ws, hws⟩ : ∃ ws : List V, ws = (r.take at_.toNat).map V.int ++ [v] ++ (r.drop (at_ + 1).toNat).map V.int := ⟨_, rfl⟩
      have lws : ws.length = r.length := by rw [hws]; simp; omega
      have kws : ∀ (HH : Hp), ∀ y ∈ ws, Kd K HH y := fun HH y hy => by
        rw [hws] at hy
        rcases List.mem_append.mp hy with hy | hy
        · rcases List.mem_append.mp hy with hy | hy
          · obtain ⟨z, _, rfl⟩ := List.mem_map.mp hy; exact Kd.int z
          · have : y = v := by simpa using hy
            rw [this]; exact kv K HH
        · obtain ⟨z, _, rfl⟩ := List.mem_map.mp hy; exact Kd.int z
      have vws : v ∈ ws := by rw [hws]; simp
      refine o_catV k3 k4 (by rw [List.length_append, List.length_map, List.length_take, List.length_map, List.length_drop]; simp; omega) fun l5 n5 => ?_
      rw [← hws]
      have ne5 : l5 ≠ pR := Ne.symm (neo n5 (s2 _ _ h1))
      have k5 : (upd H6x l5 (.lst ws)) l5 = some (.lst ws) := upd_same
      replace s2 := s2.trans (Same.one (o := .lst ws) n5)
      have h6 := s2 _ _ h1
      generalize upd H6x l5 (.lst ws) = H7x at s2 k5 h6 ⊢
      walk_at "go"
      refine m_app h6 (by omega) ?_
      walk_at "go"
      refine ⟨_, _, rfl, Same.new (s1.trans s2) nR, upd_same, by rw [List.length_append]; simp; omega, fun y hy => ?_⟩
      rcases List.mem_append.mp hy with hy | hy
      · exact ((b1 y hy).same (hid_mono s2)).same hid_upd
      · have : y = .ref l5 := by simpa using hy
        rw [this]
        exact BadV.out (hid_at (lift_ne k5 ne5) ne5) (by omega) (kws _) (x := v) vws (by rw [lws]; exact bv)
    rintro σ HL ⟨xs, v8, rfl, sL, hL, lL, bL⟩
    have hpL := sL _ _ hp
    have xb : xs.length ≤ 100 := by omega
    clear all2 hR sR lR rb rg
    walk_at "d"
    walk_at "go"
    refine c_cut (fun σ' H' => ∃ xs, σ' = [some (.ref a), some (.int far), some (.ref pd), v3, some (.ref p), some (.int (r.length : Nat)), some (.ref p11), some (.ref pR), v8, none, none] ∧ Same H25 H' ∧ H' pR = some (.lst xs) ∧ xs.length ≤ 101 ∧ ∀ x ∈ xs, BadV K (hid H' pR) x) ?_ ?_
    · walk_at "go"
      refine ite_dec (fun c => ?_) (fun c => ?_)
      · walk_at "go"
        have g1 := gt_mem (ns := r) (i := (r.length : Int) / 2) (by omega) (by omega)
        generalize gt r ((r.length : Int) / 2) = gx at g1 ⊢
        refine l_new (by show 1 ≤ sizeLine; decide) fun l2 n2 => ?_
        have k2 : (upd HL l2 (.lst [.int gx])) l2 = some (.lst ([gx].map V.int)) := upd_same
        have s2 : Same HL (upd HL l2 (.lst [.int gx])) := Same.one n2
        generalize upd HL l2 (.lst [.int gx]) = H3x at k2 s2 ⊢
        refine o_cat (f := V.int) (xs := r) (zs := [gx]) (s2 _ _ hpL) k2 (by simp; omega) fun l3 n3 => ?_
        have k3 : (upd H3x l3 (.lst ((r ++ [gx]).map V.int))) l3 = some (.lst ((r ++ [gx]).map V.int)) := upd_same
        have ne3 : l3 ≠ pR := Ne.symm (neo n3 (s2 _ _ hL))
        replace s2 := s2.trans (Same.one (o := .lst ((r ++ [gx]).map V.int)) n3)
        have h6 := s2 _ _ hL
        generalize upd H3x l3 (.lst ((r ++ [gx]).map V.int)) = H4x at k3 s2 h6 ⊢
        walk_at "go"
        refine m_app h6 (by omega) ?_
        walk_at "go"
        refine ⟨_, rfl, Same.new (sL.trans s2) nR, upd_same, by rw [List.length_append]; simp; omega, fun y hy => ?_⟩
        rcases List.mem_append.mp hy with hy | hy
        · exact ((bL y hy).same (hid_mono s2)).same hid_upd
        · have : y = .ref l3 := by simpa using hy
          rw [this]
          exact BadV.dup (ns := r ++ [gx]) (hid_at (lift_ne k3 ne3) ne3) (by simp; omega) (fun nd => (List.nodup_append.mp nd).2.2 gx g1 gx (by simp) rfl)
      · walk_at "go"
        exact ⟨_, rfl, sL, hL, by omega, bL⟩
    rintro σ' HM ⟨ys, rfl, sM, hM, lM, bM⟩
    clear bL hL xb lL hpL sL
    replace hpd := sM _ _ hpd
    replace hd0 := sM _ _ hd0
    replace hd1 := sM _ _ hd1
    replace hd2 := sM _ _ hd2
    replace hd3 := sM _ _ hd3
    replace hp := sM _ _ hp
    replace hk := sM _ _ hk
    have bM2 : ∀ y ∈ ys, BadV K HM y := fun y hy => (bM y hy).same hid_same
    clear bM
    walk_at "go"
    refine k_listRg (n := 12) (by decide) fun pl npl => ?_
    have s126 : Same HM (upd HM pl (.lst ((upTo 12).map V.int))) := Same.one npl
    have hl12 : (upd HM pl (.lst ((upTo 12).map V.int))) pl = some (.lst ((upTo 12).map V.int)) := upd_same
    generalize upd HM pl (.lst ((upTo 12).map V.int)) = H126 at s126 hl12 ⊢
    replace bM2 : ∀ y ∈ ys, BadV K H126 y := fun y hy => (bM2 y hy).same s126
    replace hpd := s126 _ _ hpd
    replace hd0 := s126 _ _ hd0
    replace hd1 := s126 _ _ hd1
    replace hd2 := s126 _ _ hd2
    replace hd3 := s126 _ _ hd3
    replace hp := s126 _ _ hp
    replace hk := s126 _ _ hk
    replace hM := s126 _ _ hM
    walk_at "go"
    refine o_ixM (f := V.ref) (xs := [d0, d1, d2, d3]) (j := 0) (x := d0) (SqL.of hpd) rfl rfl ?_
    walk_at "go"
    refine ⟨f__law_with_row, pl, pR, d0, _, upTo 12, ys, C_BadRow, [true, false, false, false, false, true], rfl, B_row, SqL.of hl12, SqL.of hM, SqL.of hd0, by omega, fun d hd x hx H' s' => ⟨rfl, d, x, rfl, (bM2 x hx).same s'⟩, ⟨T.ec_BadRow, T.em_BadRow, true, false, false, false, false, true, rfl, T.kq_BadRow_BadRow, T.kq_BadRow_BadNumber, T.kq_BadRow_BadRings, T.kq_BadRow_Unlike, T.kq_BadRow_BadText, T.kv_BadRow⟩, fun H127 s127 => ?_⟩
    replace hpd := s127 _ _ hpd
    replace hd0 := s127 _ _ hd0
    replace hd1 := s127 _ _ hd1
    replace hd2 := s127 _ _ hd2
    replace hd3 := s127 _ _ hd3
    replace hp := s127 _ _ hp
    replace hk := s127 _ _ hk
    replace hM := s127 _ _ hM
    clear bM2 hM
    walk_at "go"
    refine l_new (by show 1 ≤ sizeLine; decide) fun p128 n128 => ?_
    have s128 : Same H127 (upd H127 p128 (.lst [.int 0])) := Same.one n128
    have h128 : (upd H127 p128 (.lst [.int 0])) p128 = some (.lst [.int 0]) := upd_same
    generalize upd H127 p128 (.lst [.int 0]) = H128 at s128 h128 ⊢
    replace hpd := s128 _ _ hpd
    replace hd0 := s128 _ _ hd0
    replace hd1 := s128 _ _ hd1
    replace hd2 := s128 _ _ hd2
    replace hd3 := s128 _ _ hd3
    replace hp := s128 _ _ hp
    replace hk := s128 _ _ hk
    walk_at "go"
    refine l_new (by show 1 ≤ sizeLine; decide) fun p129 n129 => ?_
    have s129 : Same H128 (upd H128 p129 (.lst [.int 1])) := Same.one n129
    have h129 : (upd H128 p129 (.lst [.int 1])) p129 = some (.lst [.int 1]) := upd_same
    generalize upd H128 p129 (.lst [.int 1]) = H129 at s129 h129 ⊢
    replace hpd := s129 _ _ hpd
    replace hd0 := s129 _ _ hd0
    replace hd1 := s129 _ _ hd1
    replace hd2 := s129 _ _ hd2
    replace hd3 := s129 _ _ hd3
    replace hp := s129 _ _ hp
    replace hk := s129 _ _ hk
    replace h128 := s129 _ _ h128
    walk_at "go"
    refine l_new (by show 1 ≤ sizeLine; decide) fun p130 n130 => ?_
    have s130 : Same H129 (upd H129 p130 (.tup [.int 1])) := Same.one n130
    have h130 : (upd H129 p130 (.tup [.int 1])) p130 = some (.tup [.int 1]) := upd_same
    generalize upd H129 p130 (.tup [.int 1]) = H130 at s130 h130 ⊢
    replace hpd := s130 _ _ hpd
    replace hd0 := s130 _ _ hd0
    replace hd1 := s130 _ _ hd1
    replace hd2 := s130 _ _ hd2
    replace hd3 := s130 _ _ hd3
    replace hp := s130 _ _ hp
    replace hk := s130 _ _ hk
    replace h128 := s130 _ _ h128
    replace h129 := s130 _ _ h129
    walk_at "go"
    refine l_new (by show 5 ≤ sizeLine; decide) fun p131 n131 => ?_
    have s131 : Same H130 (upd H130 p131 (.lst [.non, .str "1", .bl true, .ref p129, .ref p130])) := Same.one n131
    have h131 : (upd H130 p131 (.lst [.non, .str "1", .bl true, .ref p129, .ref p130])) p131 = some (.lst [.non, .str "1", .bl true, .ref p129, .ref p130]) := upd_same
    generalize upd H130 p131 (.lst [.non, .str "1", .bl true, .ref p129, .ref p130]) = H131 at s131 h131 ⊢
    replace hpd := s131 _ _ hpd
    replace hd0 := s131 _ _ hd0
    replace hd1 := s131 _ _ hd1
    replace hd2 := s131 _ _ hd2
    replace hd3 := s131 _ _ hd3
    replace hp := s131 _ _ hp
    replace hk := s131 _ _ hk
    replace h128 := s131 _ _ h128
    replace h129 := s131 _ _ h129
    replace h130 := s131 _ _ h130
    have all : ∀ x ∈ [.non, .str "1", .bl true, .ref p129, .ref p130], Kd K H131 x ∧ ∀ i, x ≠ .int i := fa (⟨Kd.non, fun i z => by cases z⟩) (fa (⟨Kd.str _, fun i z => by cases z⟩) (fa (⟨Kd.bl _, fun i z => by cases z⟩) (fa (⟨Kd.lst h129, fun i z => by cases z⟩) (fa (⟨Kd.tup h130, fun i z => by cases z⟩) (fa0)))))
    walk_at "go"
    refine o_ixM (f := V.ref) (xs := [d0, d1, d2, d3]) (j := 1) (x := d1) (SqL.of hpd) rfl rfl ?_
    walk_at "go"
    refine ⟨f__law_with_number, p128, p131, d1, _, [0], [.non, .str "1", .bl true, .ref p129, .ref p130], C_BadNumber, [false, true, false, false, false, true], rfl, B_num, SqL.of h128, SqL.of h131, SqL.of hd1, by simp, fun d hd x hx H' s' => ⟨rfl, d, x, rfl, (all x hx).1.same s', .inl ⟨by simpa using hd, (all x hx).2⟩⟩, ⟨T.ec_BadNumber, T.em_BadNumber, false, true, false, false, false, true, rfl, T.kq_BadNumber_BadRow, T.kq_BadNumber_BadNumber, T.kq_BadNumber_BadRings, T.kq_BadNumber_Unlike, T.kq_BadNumber_BadText, T.kv_BadNumber⟩, fun H132 s132 => ?_⟩
    replace hpd := s132 _ _ hpd
    replace hd0 := s132 _ _ hd0
    replace hd1 := s132 _ _ hd1
    replace hd2 := s132 _ _ hd2
    replace hd3 := s132 _ _ hd3
    replace hp := s132 _ _ hp
    replace hk := s132 _ _ hk
    replace h128 := s132 _ _ h128
    replace h129 := s132 _ _ h129
    replace h130 := s132 _ _ h130
    replace h131 := s132 _ _ h131
    clear all
    clear h128 h129 h130 h131
    walk_at "go"
    refine l_new (by show 1 ≤ sizeLine; decide) fun p133 n133 => ?_
    have s133 : Same H132 (upd H132 p133 (.lst [.int 1])) := Same.one n133
    have h133 : (upd H132 p133 (.lst [.int 1])) p133 = some (.lst [.int 1]) := upd_same
    generalize upd H132 p133 (.lst [.int 1]) = H133 at s133 h133 ⊢
    replace hpd := s133 _ _ hpd
    replace hd0 := s133 _ _ hd0
    replace hd1 := s133 _ _ hd1
    replace hd2 := s133 _ _ hd2
    replace hd3 := s133 _ _ hd3
    replace hp := s133 _ _ hp
    replace hk := s133 _ _ hk
    walk_at "go"
    refine l_new (by show 8 ≤ sizeLine; decide) fun p134 n134 => ?_
    have s134 : Same H133 (upd H133 p134 (.lst [.non, .str "1", .int (-1), .int (-1 - far), .int 1000001, .int (1000001 + far), .bl true, .ref p133])) := Same.one n134
    have h134 : (upd H133 p134 (.lst [.non, .str "1", .int (-1), .int (-1 - far), .int 1000001, .int (1000001 + far), .bl true, .ref p133])) p134 = some (.lst [.non, .str "1", .int (-1), .int (-1 - far), .int 1000001, .int (1000001 + far), .bl true, .ref p133]) := upd_same
    generalize upd H133 p134 (.lst [.non, .str "1", .int (-1), .int (-1 - far), .int 1000001, .int (1000001 + far), .bl true, .ref p133]) = H134 at s134 h134 ⊢
    replace hpd := s134 _ _ hpd
    replace hd0 := s134 _ _ hd0
    replace hd1 := s134 _ _ hd1
    replace hd2 := s134 _ _ hd2
    replace hd3 := s134 _ _ hd3
    replace hp := s134 _ _ hp
    replace hk := s134 _ _ hk
    replace h133 := s134 _ _ h133
    walk_at "go"
    refine l_new (by show 1 ≤ sizeLine; decide) fun p135 n135 => ?_
    have s135 : Same H134 (upd H134 p135 (.lst [.int 1])) := Same.one n135
    have h135 : (upd H134 p135 (.lst [.int 1])) p135 = some (.lst [.int 1]) := upd_same
    generalize upd H134 p135 (.lst [.int 1]) = H135 at s135 h135 ⊢
    replace hpd := s135 _ _ hpd
    replace hd0 := s135 _ _ hd0
    replace hd1 := s135 _ _ hd1
    replace hd2 := s135 _ _ hd2
    replace hd3 := s135 _ _ hd3
    replace hp := s135 _ _ hp
    replace hk := s135 _ _ hk
    replace h133 := s135 _ _ h133
    replace h134 := s135 _ _ h134
    have all : ∀ x ∈ [.non, .str "1", .int (-1), .int (-1 - far), .int 1000001, .int (1000001 + far), .bl true, .ref p133], Kd K H135 x ∧ isNum x 0 1000000 = false := fa (⟨Kd.non, by rfl⟩) (fa (⟨Kd.str _, by rfl⟩) (fa (⟨Kd.int _, by rfl⟩) (fa (⟨Kd.int _, num_neg (by omega)⟩) (fa (⟨Kd.int _, by rfl⟩) (fa (⟨Kd.int _, num_out (by omega)⟩) (fa (⟨Kd.bl _, by rfl⟩) (fa (⟨Kd.lst h133, by rfl⟩) (fa0))))))))
    walk_at "go"
    refine o_ixM (f := V.ref) (xs := [d0, d1, d2, d3]) (j := 1) (x := d1) (SqL.of hpd) rfl rfl ?_
    walk_at "go"
    refine ⟨f__law_with_number, p135, p134, d1, _, [1], [.non, .str "1", .int (-1), .int (-1 - far), .int 1000001, .int (1000001 + far), .bl true, .ref p133], C_BadNumber, [false, true, false, false, false, true], rfl, B_num, SqL.of h135, SqL.of h134, SqL.of hd1, by simp, fun d hd x hx H' s' => ⟨rfl, d, x, rfl, (all x hx).1.same s', .inr ⟨by have : d = 1 := (by simpa using hd); omega, (all x hx).2⟩⟩, ⟨T.ec_BadNumber, T.em_BadNumber, false, true, false, false, false, true, rfl, T.kq_BadNumber_BadRow, T.kq_BadNumber_BadNumber, T.kq_BadNumber_BadRings, T.kq_BadNumber_Unlike, T.kq_BadNumber_BadText, T.kv_BadNumber⟩, fun H136 s136 => ?_⟩
    replace hpd := s136 _ _ hpd
    replace hd0 := s136 _ _ hd0
    replace hd1 := s136 _ _ hd1
    replace hd2 := s136 _ _ hd2
    replace hd3 := s136 _ _ hd3
    replace hp := s136 _ _ hp
    replace hk := s136 _ _ hk
    replace h133 := s136 _ _ h133
    replace h134 := s136 _ _ h134
    replace h135 := s136 _ _ h135
    clear all
    clear h133 h134 h135
    walk_at "go"
    refine l_new (by show 0 ≤ sizeLine; decide) fun p137 n137 => ?_
    have s137 : Same H136 (upd H136 p137 (.tup [])) := Same.one n137
    have h137 : (upd H136 p137 (.tup [])) p137 = some (.tup []) := upd_same
    generalize upd H136 p137 (.tup []) = H137 at s137 h137 ⊢
    replace hpd := s137 _ _ hpd
    replace hd0 := s137 _ _ hd0
    replace hd1 := s137 _ _ hd1
    replace hd2 := s137 _ _ hd2
    replace hd3 := s137 _ _ hd3
    replace hp := s137 _ _ hp
    replace hk := s137 _ _ hk
    walk_at "go"
    refine e_dnew fun p138 n138 => ?_
    have s138 : Same H137 (upd H137 p138 (.dK [])) := Same.one n138
    have h138 : (upd H137 p138 (.dK [])) p138 = some (.dK []) := upd_same
    generalize upd H137 p138 (.dK []) = H138 at s138 h138 ⊢
    replace hpd := s138 _ _ hpd
    replace hd0 := s138 _ _ hd0
    replace hd1 := s138 _ _ hd1
    replace hd2 := s138 _ _ hd2
    replace hd3 := s138 _ _ hd3
    replace hp := s138 _ _ hp
    replace hk := s138 _ _ hk
    replace h137 := s138 _ _ h137
    walk_at "go"
    refine l_new (by show 1 ≤ sizeLine; decide) fun p139 n139 => ?_
    have s139 : Same H138 (upd H138 p139 (.lst [.non])) := Same.one n139
    have h139 : (upd H138 p139 (.lst [.non])) p139 = some (.lst [.non]) := upd_same
    generalize upd H138 p139 (.lst [.non]) = H139 at s139 h139 ⊢
    replace hpd := s139 _ _ hpd
    replace hd0 := s139 _ _ hd0
    replace hd1 := s139 _ _ hd1
    replace hd2 := s139 _ _ hd2
    replace hd3 := s139 _ _ hd3
    replace hp := s139 _ _ hp
    replace hk := s139 _ _ hk
    replace h137 := s139 _ _ h137
    replace h138 := s139 _ _ h138
    walk_at "go"
    refine l_new (by show 0 ≤ sizeLine; decide) fun p140 n140 => ?_
    have s140 : Same H139 (upd H139 p140 (.tup [])) := Same.one n140
    have h140 : (upd H139 p140 (.tup [])) p140 = some (.tup []) := upd_same
    generalize upd H139 p140 (.tup []) = H140 at s140 h140 ⊢
    replace hpd := s140 _ _ hpd
    replace hd0 := s140 _ _ hd0
    replace hd1 := s140 _ _ hd1
    replace hd2 := s140 _ _ hd2
    replace hd3 := s140 _ _ hd3
    replace hp := s140 _ _ hp
    replace hk := s140 _ _ hk
    replace h137 := s140 _ _ h137
    replace h138 := s140 _ _ h138
    replace h139 := s140 _ _ h139
    walk_at "go"
    refine l_new (by show 1 ≤ sizeLine; decide) fun p141 n141 => ?_
    have s141 : Same H140 (upd H140 p141 (.lst [.ref p140])) := Same.one n141
    have h141 : (upd H140 p141 (.lst [.ref p140])) p141 = some (.lst [.ref p140]) := upd_same
    generalize upd H140 p141 (.lst [.ref p140]) = H141 at s141 h141 ⊢
    replace hpd := s141 _ _ hpd
    replace hd0 := s141 _ _ hd0
    replace hd1 := s141 _ _ hd1
    replace hd2 := s141 _ _ hd2
    replace hd3 := s141 _ _ hd3
    replace hp := s141 _ _ hp
    replace hk := s141 _ _ hk
    replace h137 := s141 _ _ h137
    replace h138 := s141 _ _ h138
    replace h139 := s141 _ _ h139
    replace h140 := s141 _ _ h140
    walk_at "go"
    refine l_new (by show 0 ≤ sizeLine; decide) fun p142 n142 => ?_
    have s142 : Same H141 (upd H141 p142 (.lst [])) := Same.one n142
    have h142 : (upd H141 p142 (.lst [])) p142 = some (.lst []) := upd_same
    generalize upd H141 p142 (.lst []) = H142 at s142 h142 ⊢
    replace hpd := s142 _ _ hpd
    replace hd0 := s142 _ _ hd0
    replace hd1 := s142 _ _ hd1
    replace hd2 := s142 _ _ hd2
    replace hd3 := s142 _ _ hd3
    replace hp := s142 _ _ hp
    replace hk := s142 _ _ hk
    replace h137 := s142 _ _ h137
    replace h138 := s142 _ _ h138
    replace h139 := s142 _ _ h139
    replace h140 := s142 _ _ h140
    replace h141 := s142 _ _ h141
    walk_at "go"
    refine l_new (by show 1 ≤ sizeLine; decide) fun p143 n143 => ?_
    have s143 : Same H142 (upd H142 p143 (.lst [.ref p142])) := Same.one n143
    have h143 : (upd H142 p143 (.lst [.ref p142])) p143 = some (.lst [.ref p142]) := upd_same
    generalize upd H142 p143 (.lst [.ref p142]) = H143 at s143 h143 ⊢
    replace hpd := s143 _ _ hpd
    replace hd0 := s143 _ _ hd0
    replace hd1 := s143 _ _ hd1
    replace hd2 := s143 _ _ hd2
    replace hd3 := s143 _ _ hd3
    replace hp := s143 _ _ hp
    replace hk := s143 _ _ hk
    replace h137 := s143 _ _ h137
    replace h138 := s143 _ _ h138
    replace h139 := s143 _ _ h139
    replace h140 := s143 _ _ h140
    replace h141 := s143 _ _ h141
    replace h142 := s143 _ _ h142
    walk_at "go"
    refine l_new (by show 1 ≤ sizeLine; decide) fun p144 n144 => ?_
    have s144 : Same H143 (upd H143 p144 (.lst [.int 0])) := Same.one n144
    have h144 : (upd H143 p144 (.lst [.int 0])) p144 = some (.lst [.int 0]) := upd_same
    generalize upd H143 p144 (.lst [.int 0]) = H144 at s144 h144 ⊢
    replace hpd := s144 _ _ hpd
    replace hd0 := s144 _ _ hd0
    replace hd1 := s144 _ _ hd1
    replace hd2 := s144 _ _ hd2
    replace hd3 := s144 _ _ hd3
    replace hp := s144 _ _ hp
    replace hk := s144 _ _ hk
    replace h137 := s144 _ _ h137
    replace h138 := s144 _ _ h138
    replace h139 := s144 _ _ h139
    replace h140 := s144 _ _ h140
    replace h141 := s144 _ _ h141
    replace h142 := s144 _ _ h142
    replace h143 := s144 _ _ h143
    walk_at "go"
    refine l_new (by show 0 ≤ sizeLine; decide) fun p145 n145 => ?_
    have s145 : Same H144 (upd H144 p145 (.lst [])) := Same.one n145
    have h145 : (upd H144 p145 (.lst [])) p145 = some (.lst []) := upd_same
    generalize upd H144 p145 (.lst []) = H145 at s145 h145 ⊢
    replace hpd := s145 _ _ hpd
    replace hd0 := s145 _ _ hd0
    replace hd1 := s145 _ _ hd1
    replace hd2 := s145 _ _ hd2
    replace hd3 := s145 _ _ hd3
    replace hp := s145 _ _ hp
    replace hk := s145 _ _ hk
    replace h137 := s145 _ _ h137
    replace h138 := s145 _ _ h138
    replace h139 := s145 _ _ h139
    replace h140 := s145 _ _ h140
    replace h141 := s145 _ _ h141
    replace h142 := s145 _ _ h142
    replace h143 := s145 _ _ h143
    replace h144 := s145 _ _ h144
    walk_at "go"
    refine l_new (by show 2 ≤ sizeLine; decide) fun p146 n146 => ?_
    have s146 : Same H145 (upd H145 p146 (.lst [.ref p144, .ref p145])) := Same.one n146
    have h146 : (upd H145 p146 (.lst [.ref p144, .ref p145])) p146 = some (.lst [.ref p144, .ref p145]) := upd_same
    generalize upd H145 p146 (.lst [.ref p144, .ref p145]) = H146 at s146 h146 ⊢
    replace hpd := s146 _ _ hpd
    replace hd0 := s146 _ _ hd0
    replace hd1 := s146 _ _ hd1
    replace hd2 := s146 _ _ hd2
    replace hd3 := s146 _ _ hd3
    replace hp := s146 _ _ hp
    replace hk := s146 _ _ hk
    replace h137 := s146 _ _ h137
    replace h138 := s146 _ _ h138
    replace h139 := s146 _ _ h139
    replace h140 := s146 _ _ h140
    replace h141 := s146 _ _ h141
    replace h142 := s146 _ _ h142
    replace h143 := s146 _ _ h143
    replace h144 := s146 _ _ h144
    replace h145 := s146 _ _ h145
    walk_at "go"
    refine l_new (by show 1 ≤ sizeLine; decide) fun p147 n147 => ?_
    have s147 : Same H146 (upd H146 p147 (.lst [.int 3])) := Same.one n147
    have h147 : (upd H146 p147 (.lst [.int 3])) p147 = some (.lst [.int 3]) := upd_same
    generalize upd H146 p147 (.lst [.int 3]) = H147 at s147 h147 ⊢
    replace hpd := s147 _ _ hpd
    replace hd0 := s147 _ _ hd0
    replace hd1 := s147 _ _ hd1
    replace hd2 := s147 _ _ hd2
    replace hd3 := s147 _ _ hd3
    replace hp := s147 _ _ hp
    replace hk := s147 _ _ hk
    replace h137 := s147 _ _ h137
    replace h138 := s147 _ _ h138
    replace h139 := s147 _ _ h139
    replace h140 := s147 _ _ h140
    replace h141 := s147 _ _ h141
    replace h142 := s147 _ _ h142
    replace h143 := s147 _ _ h143
    replace h144 := s147 _ _ h144
    replace h145 := s147 _ _ h145
    replace h146 := s147 _ _ h146
    walk_at "go"
    refine l_new (by show 1 ≤ sizeLine; decide) fun p148 n148 => ?_
    have s148 : Same H147 (upd H147 p148 (.lst [.ref p147])) := Same.one n148
    have h148 : (upd H147 p148 (.lst [.ref p147])) p148 = some (.lst [.ref p147]) := upd_same
    generalize upd H147 p148 (.lst [.ref p147]) = H148 at s148 h148 ⊢
    replace hpd := s148 _ _ hpd
    replace hd0 := s148 _ _ hd0
    replace hd1 := s148 _ _ hd1
    replace hd2 := s148 _ _ hd2
    replace hd3 := s148 _ _ hd3
    replace hp := s148 _ _ hp
    replace hk := s148 _ _ hk
    replace h137 := s148 _ _ h137
    replace h138 := s148 _ _ h138
    replace h139 := s148 _ _ h139
    replace h140 := s148 _ _ h140
    replace h141 := s148 _ _ h141
    replace h142 := s148 _ _ h142
    replace h143 := s148 _ _ h143
    replace h144 := s148 _ _ h144
    replace h145 := s148 _ _ h145
    replace h146 := s148 _ _ h146
    replace h147 := s148 _ _ h147
    walk_at "go"
    refine l_new (by show 1 ≤ sizeLine; decide) fun p149 n149 => ?_
    have s149 : Same H148 (upd H148 p149 (.lst [.int (3 + far)])) := Same.one n149
    have h149 : (upd H148 p149 (.lst [.int (3 + far)])) p149 = some (.lst [.int (3 + far)]) := upd_same
    generalize upd H148 p149 (.lst [.int (3 + far)]) = H149 at s149 h149 ⊢
    replace hpd := s149 _ _ hpd
    replace hd0 := s149 _ _ hd0
    replace hd1 := s149 _ _ hd1
    replace hd2 := s149 _ _ hd2
    replace hd3 := s149 _ _ hd3
    replace hp := s149 _ _ hp
    replace hk := s149 _ _ hk
    replace h137 := s149 _ _ h137
    replace h138 := s149 _ _ h138
    replace h139 := s149 _ _ h139
    replace h140 := s149 _ _ h140
    replace h141 := s149 _ _ h141
    replace h142 := s149 _ _ h142
    replace h143 := s149 _ _ h143
    replace h144 := s149 _ _ h144
    replace h145 := s149 _ _ h145
    replace h146 := s149 _ _ h146
    replace h147 := s149 _ _ h147
    replace h148 := s149 _ _ h148
    walk_at "go"
    refine l_new (by show 1 ≤ sizeLine; decide) fun p150 n150 => ?_
    have s150 : Same H149 (upd H149 p150 (.lst [.ref p149])) := Same.one n150
    have h150 : (upd H149 p150 (.lst [.ref p149])) p150 = some (.lst [.ref p149]) := upd_same
    generalize upd H149 p150 (.lst [.ref p149]) = H150 at s150 h150 ⊢
    replace hpd := s150 _ _ hpd
    replace hd0 := s150 _ _ hd0
    replace hd1 := s150 _ _ hd1
    replace hd2 := s150 _ _ hd2
    replace hd3 := s150 _ _ hd3
    replace hp := s150 _ _ hp
    replace hk := s150 _ _ hk
    replace h137 := s150 _ _ h137
    replace h138 := s150 _ _ h138
    replace h139 := s150 _ _ h139
    replace h140 := s150 _ _ h140
    replace h141 := s150 _ _ h141
    replace h142 := s150 _ _ h142
    replace h143 := s150 _ _ h143
    replace h144 := s150 _ _ h144
    replace h145 := s150 _ _ h145
    replace h146 := s150 _ _ h146
    replace h147 := s150 _ _ h147
    replace h148 := s150 _ _ h148
    replace h149 := s150 _ _ h149
    walk_at "go"
    refine l_new (by show 1 ≤ sizeLine; decide) fun p151 n151 => ?_
    have s151 : Same H150 (upd H150 p151 (.lst [.int (-1)])) := Same.one n151
    have h151 : (upd H150 p151 (.lst [.int (-1)])) p151 = some (.lst [.int (-1)]) := upd_same
    generalize upd H150 p151 (.lst [.int (-1)]) = H151 at s151 h151 ⊢
    replace hpd := s151 _ _ hpd
    replace hd0 := s151 _ _ hd0
    replace hd1 := s151 _ _ hd1
    replace hd2 := s151 _ _ hd2
    replace hd3 := s151 _ _ hd3
    replace hp := s151 _ _ hp
    replace hk := s151 _ _ hk
    replace h137 := s151 _ _ h137
    replace h138 := s151 _ _ h138
    replace h139 := s151 _ _ h139
    replace h140 := s151 _ _ h140
    replace h141 := s151 _ _ h141
    replace h142 := s151 _ _ h142
    replace h143 := s151 _ _ h143
    replace h144 := s151 _ _ h144
    replace h145 := s151 _ _ h145
    replace h146 := s151 _ _ h146
    replace h147 := s151 _ _ h147
    replace h148 := s151 _ _ h148
    replace h149 := s151 _ _ h149
    replace h150 := s151 _ _ h150
    walk_at "go"
    refine l_new (by show 1 ≤ sizeLine; decide) fun p152 n152 => ?_
    have s152 : Same H151 (upd H151 p152 (.lst [.ref p151])) := Same.one n152
    have h152 : (upd H151 p152 (.lst [.ref p151])) p152 = some (.lst [.ref p151]) := upd_same
    generalize upd H151 p152 (.lst [.ref p151]) = H152 at s152 h152 ⊢
    replace hpd := s152 _ _ hpd
    replace hd0 := s152 _ _ hd0
    replace hd1 := s152 _ _ hd1
    replace hd2 := s152 _ _ hd2
    replace hd3 := s152 _ _ hd3
    replace hp := s152 _ _ hp
    replace hk := s152 _ _ hk
    replace h137 := s152 _ _ h137
    replace h138 := s152 _ _ h138
    replace h139 := s152 _ _ h139
    replace h140 := s152 _ _ h140
    replace h141 := s152 _ _ h141
    replace h142 := s152 _ _ h142
    replace h143 := s152 _ _ h143
    replace h144 := s152 _ _ h144
    replace h145 := s152 _ _ h145
    replace h146 := s152 _ _ h146
    replace h147 := s152 _ _ h147
    replace h148 := s152 _ _ h148
    replace h149 := s152 _ _ h149
    replace h150 := s152 _ _ h150
    replace h151 := s152 _ _ h151
    walk_at "go"
    refine l_new (by show 2 ≤ sizeLine; decide) fun p153 n153 => ?_
    have s153 : Same H152 (upd H152 p153 (.lst [.int 0, .int 0])) := Same.one n153
    have h153 : (upd H152 p153 (.lst [.int 0, .int 0])) p153 = some (.lst [.int 0, .int 0]) := upd_same
    generalize upd H152 p153 (.lst [.int 0, .int 0]) = H153 at s153 h153 ⊢
    replace hpd := s153 _ _ hpd
    replace hd0 := s153 _ _ hd0
    replace hd1 := s153 _ _ hd1
    replace hd2 := s153 _ _ hd2
    replace hd3 := s153 _ _ hd3
    replace hp := s153 _ _ hp
    replace hk := s153 _ _ hk
    replace h137 := s153 _ _ h137
    replace h138 := s153 _ _ h138
    replace h139 := s153 _ _ h139
    replace h140 := s153 _ _ h140
    replace h141 := s153 _ _ h141
    replace h142 := s153 _ _ h142
    replace h143 := s153 _ _ h143
    replace h144 := s153 _ _ h144
    replace h145 := s153 _ _ h145
    replace h146 := s153 _ _ h146
    replace h147 := s153 _ _ h147
    replace h148 := s153 _ _ h148
    replace h149 := s153 _ _ h149
    replace h150 := s153 _ _ h150
    replace h151 := s153 _ _ h151
    replace h152 := s153 _ _ h152
    walk_at "go"
    refine l_new (by show 1 ≤ sizeLine; decide) fun p154 n154 => ?_
    have s154 : Same H153 (upd H153 p154 (.lst [.ref p153])) := Same.one n154
    have h154 : (upd H153 p154 (.lst [.ref p153])) p154 = some (.lst [.ref p153]) := upd_same
    generalize upd H153 p154 (.lst [.ref p153]) = H154 at s154 h154 ⊢
    replace hpd := s154 _ _ hpd
    replace hd0 := s154 _ _ hd0
    replace hd1 := s154 _ _ hd1
    replace hd2 := s154 _ _ hd2
    replace hd3 := s154 _ _ hd3
    replace hp := s154 _ _ hp
    replace hk := s154 _ _ hk
    replace h137 := s154 _ _ h137
    replace h138 := s154 _ _ h138
    replace h139 := s154 _ _ h139
    replace h140 := s154 _ _ h140
    replace h141 := s154 _ _ h141
    replace h142 := s154 _ _ h142
    replace h143 := s154 _ _ h143
    replace h144 := s154 _ _ h144
    replace h145 := s154 _ _ h145
    replace h146 := s154 _ _ h146
    replace h147 := s154 _ _ h147
    replace h148 := s154 _ _ h148
    replace h149 := s154 _ _ h149
    replace h150 := s154 _ _ h150
    replace h151 := s154 _ _ h151
    replace h152 := s154 _ _ h152
    replace h153 := s154 _ _ h153
    walk_at "go"
    refine l_new (by show 1 ≤ sizeLine; decide) fun p155 n155 => ?_
    have s155 : Same H154 (upd H154 p155 (.lst [.int 0])) := Same.one n155
    have h155 : (upd H154 p155 (.lst [.int 0])) p155 = some (.lst [.int 0]) := upd_same
    generalize upd H154 p155 (.lst [.int 0]) = H155 at s155 h155 ⊢
    replace hpd := s155 _ _ hpd
    replace hd0 := s155 _ _ hd0
    replace hd1 := s155 _ _ hd1
    replace hd2 := s155 _ _ hd2
    replace hd3 := s155 _ _ hd3
    replace hp := s155 _ _ hp
    replace hk := s155 _ _ hk
    replace h137 := s155 _ _ h137
    replace h138 := s155 _ _ h138
    replace h139 := s155 _ _ h139
    replace h140 := s155 _ _ h140
    replace h141 := s155 _ _ h141
    replace h142 := s155 _ _ h142
    replace h143 := s155 _ _ h143
    replace h144 := s155 _ _ h144
    replace h145 := s155 _ _ h145
    replace h146 := s155 _ _ h146
    replace h147 := s155 _ _ h147
    replace h148 := s155 _ _ h148
    replace h149 := s155 _ _ h149
    replace h150 := s155 _ _ h150
    replace h151 := s155 _ _ h151
    replace h152 := s155 _ _ h152
    replace h153 := s155 _ _ h153
    replace h154 := s155 _ _ h154
    walk_at "go"
    refine l_new (by show 1 ≤ sizeLine; decide) fun p156 n156 => ?_
    have s156 : Same H155 (upd H155 p156 (.lst [.int 0])) := Same.one n156
    have h156 : (upd H155 p156 (.lst [.int 0])) p156 = some (.lst [.int 0]) := upd_same
    generalize upd H155 p156 (.lst [.int 0]) = H156 at s156 h156 ⊢
    replace hpd := s156 _ _ hpd
    replace hd0 := s156 _ _ hd0
    replace hd1 := s156 _ _ hd1
    replace hd2 := s156 _ _ hd2
    replace hd3 := s156 _ _ hd3
    replace hp := s156 _ _ hp
    replace hk := s156 _ _ hk
    replace h137 := s156 _ _ h137
    replace h138 := s156 _ _ h138
    replace h139 := s156 _ _ h139
    replace h140 := s156 _ _ h140
    replace h141 := s156 _ _ h141
    replace h142 := s156 _ _ h142
    replace h143 := s156 _ _ h143
    replace h144 := s156 _ _ h144
    replace h145 := s156 _ _ h145
    replace h146 := s156 _ _ h146
    replace h147 := s156 _ _ h147
    replace h148 := s156 _ _ h148
    replace h149 := s156 _ _ h149
    replace h150 := s156 _ _ h150
    replace h151 := s156 _ _ h151
    replace h152 := s156 _ _ h152
    replace h153 := s156 _ _ h153
    replace h154 := s156 _ _ h154
    replace h155 := s156 _ _ h155
    walk_at "go"
    refine l_new (by show 2 ≤ sizeLine; decide) fun p157 n157 => ?_
    have s157 : Same H156 (upd H156 p157 (.lst [.ref p155, .ref p156])) := Same.one n157
    have h157 : (upd H156 p157 (.lst [.ref p155, .ref p156])) p157 = some (.lst [.ref p155, .ref p156]) := upd_same
    generalize upd H156 p157 (.lst [.ref p155, .ref p156]) = H157 at s157 h157 ⊢
    replace hpd := s157 _ _ hpd
    replace hd0 := s157 _ _ hd0
    replace hd1 := s157 _ _ hd1
    replace hd2 := s157 _ _ hd2
    replace hd3 := s157 _ _ hd3
    replace hp := s157 _ _ hp
    replace hk := s157 _ _ hk
    replace h137 := s157 _ _ h137
    replace h138 := s157 _ _ h138
    replace h139 := s157 _ _ h139
    replace h140 := s157 _ _ h140
    replace h141 := s157 _ _ h141
    replace h142 := s157 _ _ h142
    replace h143 := s157 _ _ h143
    replace h144 := s157 _ _ h144
    replace h145 := s157 _ _ h145
    replace h146 := s157 _ _ h146
    replace h147 := s157 _ _ h147
    replace h148 := s157 _ _ h148
    replace h149 := s157 _ _ h149
    replace h150 := s157 _ _ h150
    replace h151 := s157 _ _ h151
    replace h152 := s157 _ _ h152
    replace h153 := s157 _ _ h153
    replace h154 := s157 _ _ h154
    replace h155 := s157 _ _ h155
    replace h156 := s157 _ _ h156
    walk_at "go"
    refine l_new (by show 14 ≤ sizeLine; decide) fun p158 n158 => ?_
    have s158 : Same H157 (upd H157 p158 (.lst [.non, .ref p137, .str "0", .ref p138, .int 5, .ref p139, .ref p141, .ref p143, .ref p146, .ref p148, .ref p150, .ref p152, .ref p154, .ref p157])) := Same.one n158
    have h158 : (upd H157 p158 (.lst [.non, .ref p137, .str "0", .ref p138, .int 5, .ref p139, .ref p141, .ref p143, .ref p146, .ref p148, .ref p150, .ref p152, .ref p154, .ref p157])) p158 = some (.lst [.non, .ref p137, .str "0", .ref p138, .int 5, .ref p139, .ref p141, .ref p143, .ref p146, .ref p148, .ref p150, .ref p152, .ref p154, .ref p157]) := upd_same
    generalize upd H157 p158 (.lst [.non, .ref p137, .str "0", .ref p138, .int 5, .ref p139, .ref p141, .ref p143, .ref p146, .ref p148, .ref p150, .ref p152, .ref p154, .ref p157]) = H158 at s158 h158 ⊢
    replace hpd := s158 _ _ hpd
    replace hd0 := s158 _ _ hd0
    replace hd1 := s158 _ _ hd1
    replace hd2 := s158 _ _ hd2
    replace hd3 := s158 _ _ hd3
    replace hp := s158 _ _ hp
    replace hk := s158 _ _ hk
    replace h137 := s158 _ _ h137
    replace h138 := s158 _ _ h138
    replace h139 := s158 _ _ h139
    replace h140 := s158 _ _ h140
    replace h141 := s158 _ _ h141
    replace h142 := s158 _ _ h142
    replace h143 := s158 _ _ h143
    replace h144 := s158 _ _ h144
    replace h145 := s158 _ _ h145
    replace h146 := s158 _ _ h146
    replace h147 := s158 _ _ h147
    replace h148 := s158 _ _ h148
    replace h149 := s158 _ _ h149
    replace h150 := s158 _ _ h150
    replace h151 := s158 _ _ h151
    replace h152 := s158 _ _ h152
    replace h153 := s158 _ _ h153
    replace h154 := s158 _ _ h154
    replace h155 := s158 _ _ h155
    replace h156 := s158 _ _ h156
    replace h157 := s158 _ _ h157
    walk_at "go"
    refine l_new (by show 2 ≤ sizeLine; decide) fun p159 n159 => ?_
    have s159 : Same H158 (upd H158 p159 (.lst [.bl true, .int 0])) := Same.one n159
    have h159 : (upd H158 p159 (.lst [.bl true, .int 0])) p159 = some (.lst [.bl true, .int 0]) := upd_same
    generalize upd H158 p159 (.lst [.bl true, .int 0]) = H159 at s159 h159 ⊢
    replace hpd := s159 _ _ hpd
    replace hd0 := s159 _ _ hd0
    replace hd1 := s159 _ _ hd1
    replace hd2 := s159 _ _ hd2
    replace hd3 := s159 _ _ hd3
    replace hp := s159 _ _ hp
    replace hk := s159 _ _ hk
    replace h137 := s159 _ _ h137
    replace h138 := s159 _ _ h138
    replace h139 := s159 _ _ h139
    replace h140 := s159 _ _ h140
    replace h141 := s159 _ _ h141
    replace h142 := s159 _ _ h142
    replace h143 := s159 _ _ h143
    replace h144 := s159 _ _ h144
    replace h145 := s159 _ _ h145
    replace h146 := s159 _ _ h146
    replace h147 := s159 _ _ h147
    replace h148 := s159 _ _ h148
    replace h149 := s159 _ _ h149
    replace h150 := s159 _ _ h150
    replace h151 := s159 _ _ h151
    replace h152 := s159 _ _ h152
    replace h153 := s159 _ _ h153
    replace h154 := s159 _ _ h154
    replace h155 := s159 _ _ h155
    replace h156 := s159 _ _ h156
    replace h157 := s159 _ _ h157
    replace h158 := s159 _ _ h158
    walk_at "go"
    refine l_new (by show 1 ≤ sizeLine; decide) fun p160 n160 => ?_
    have s160 : Same H159 (upd H159 p160 (.lst [.ref p159])) := Same.one n160
    have h160 : (upd H159 p160 (.lst [.ref p159])) p160 = some (.lst [.ref p159]) := upd_same
    generalize upd H159 p160 (.lst [.ref p159]) = H160 at s160 h160 ⊢
    replace hpd := s160 _ _ hpd
    replace hd0 := s160 _ _ hd0
    replace hd1 := s160 _ _ hd1
    replace hd2 := s160 _ _ hd2
    replace hd3 := s160 _ _ hd3
    replace hp := s160 _ _ hp
    replace hk := s160 _ _ hk
    replace h137 := s160 _ _ h137
    replace h138 := s160 _ _ h138
    replace h139 := s160 _ _ h139
    replace h140 := s160 _ _ h140
    replace h141 := s160 _ _ h141
    replace h142 := s160 _ _ h142
    replace h143 := s160 _ _ h143
    replace h144 := s160 _ _ h144
    replace h145 := s160 _ _ h145
    replace h146 := s160 _ _ h146
    replace h147 := s160 _ _ h147
    replace h148 := s160 _ _ h148
    replace h149 := s160 _ _ h149
    replace h150 := s160 _ _ h150
    replace h151 := s160 _ _ h151
    replace h152 := s160 _ _ h152
    replace h153 := s160 _ _ h153
    replace h154 := s160 _ _ h154
    replace h155 := s160 _ _ h155
    replace h156 := s160 _ _ h156
    replace h157 := s160 _ _ h157
    replace h158 := s160 _ _ h158
    replace h159 := s160 _ _ h159
    walk_at "go"
    refine l_new (by show 1 ≤ sizeLine; decide) fun p161 n161 => ?_
    have s161 : Same H160 (upd H160 p161 (.lst [.str "0"])) := Same.one n161
    have h161 : (upd H160 p161 (.lst [.str "0"])) p161 = some (.lst [.str "0"]) := upd_same
    generalize upd H160 p161 (.lst [.str "0"]) = H161 at s161 h161 ⊢
    replace hpd := s161 _ _ hpd
    replace hd0 := s161 _ _ hd0
    replace hd1 := s161 _ _ hd1
    replace hd2 := s161 _ _ hd2
    replace hd3 := s161 _ _ hd3
    replace hp := s161 _ _ hp
    replace hk := s161 _ _ hk
    replace h137 := s161 _ _ h137
    replace h138 := s161 _ _ h138
    replace h139 := s161 _ _ h139
    replace h140 := s161 _ _ h140
    replace h141 := s161 _ _ h141
    replace h142 := s161 _ _ h142
    replace h143 := s161 _ _ h143
    replace h144 := s161 _ _ h144
    replace h145 := s161 _ _ h145
    replace h146 := s161 _ _ h146
    replace h147 := s161 _ _ h147
    replace h148 := s161 _ _ h148
    replace h149 := s161 _ _ h149
    replace h150 := s161 _ _ h150
    replace h151 := s161 _ _ h151
    replace h152 := s161 _ _ h152
    replace h153 := s161 _ _ h153
    replace h154 := s161 _ _ h154
    replace h155 := s161 _ _ h155
    replace h156 := s161 _ _ h156
    replace h157 := s161 _ _ h157
    replace h158 := s161 _ _ h158
    replace h159 := s161 _ _ h159
    replace h160 := s161 _ _ h160
    walk_at "go"
    refine l_new (by show 1 ≤ sizeLine; decide) fun p162 n162 => ?_
    have s162 : Same H161 (upd H161 p162 (.lst [.ref p161])) := Same.one n162
    have h162 : (upd H161 p162 (.lst [.ref p161])) p162 = some (.lst [.ref p161]) := upd_same
    generalize upd H161 p162 (.lst [.ref p161]) = H162 at s162 h162 ⊢
    replace hpd := s162 _ _ hpd
    replace hd0 := s162 _ _ hd0
    replace hd1 := s162 _ _ hd1
    replace hd2 := s162 _ _ hd2
    replace hd3 := s162 _ _ hd3
    replace hp := s162 _ _ hp
    replace hk := s162 _ _ hk
    replace h137 := s162 _ _ h137
    replace h138 := s162 _ _ h138
    replace h139 := s162 _ _ h139
    replace h140 := s162 _ _ h140
    replace h141 := s162 _ _ h141
    replace h142 := s162 _ _ h142
    replace h143 := s162 _ _ h143
    replace h144 := s162 _ _ h144
    replace h145 := s162 _ _ h145
    replace h146 := s162 _ _ h146
    replace h147 := s162 _ _ h147
    replace h148 := s162 _ _ h148
    replace h149 := s162 _ _ h149
    replace h150 := s162 _ _ h150
    replace h151 := s162 _ _ h151
    replace h152 := s162 _ _ h152
    replace h153 := s162 _ _ h153
    replace h154 := s162 _ _ h154
    replace h155 := s162 _ _ h155
    replace h156 := s162 _ _ h156
    replace h157 := s162 _ _ h157
    replace h158 := s162 _ _ h158
    replace h159 := s162 _ _ h159
    replace h160 := s162 _ _ h160
    replace h161 := s162 _ _ h161
    walk_at "go"
    refine l_new (by show 2 ≤ sizeLine; decide) fun p163 n163 => ?_
    have s163 : Same H162 (upd H162 p163 (.lst [.int 0, .int 1])) := Same.one n163
    have h163 : (upd H162 p163 (.lst [.int 0, .int 1])) p163 = some (.lst [.int 0, .int 1]) := upd_same
    generalize upd H162 p163 (.lst [.int 0, .int 1]) = H163 at s163 h163 ⊢
    replace hpd := s163 _ _ hpd
    replace hd0 := s163 _ _ hd0
    replace hd1 := s163 _ _ hd1
    replace hd2 := s163 _ _ hd2
    replace hd3 := s163 _ _ hd3
    replace hp := s163 _ _ hp
    replace hk := s163 _ _ hk
    replace h137 := s163 _ _ h137
    replace h138 := s163 _ _ h138
    replace h139 := s163 _ _ h139
    replace h140 := s163 _ _ h140
    replace h141 := s163 _ _ h141
    replace h142 := s163 _ _ h142
    replace h143 := s163 _ _ h143
    replace h144 := s163 _ _ h144
    replace h145 := s163 _ _ h145
    replace h146 := s163 _ _ h146
    replace h147 := s163 _ _ h147
    replace h148 := s163 _ _ h148
    replace h149 := s163 _ _ h149
    replace h150 := s163 _ _ h150
    replace h151 := s163 _ _ h151
    replace h152 := s163 _ _ h152
    replace h153 := s163 _ _ h153
    replace h154 := s163 _ _ h154
    replace h155 := s163 _ _ h155
    replace h156 := s163 _ _ h156
    replace h157 := s163 _ _ h157
    replace h158 := s163 _ _ h158
    replace h159 := s163 _ _ h159
    replace h160 := s163 _ _ h160
    replace h161 := s163 _ _ h161
    replace h162 := s163 _ _ h162
    walk_at "go"
    refine l_new (by show 2 ≤ sizeLine; decide) fun p164 n164 => ?_
    have s164 : Same H163 (upd H163 p164 (.lst [.int 0, .int 1])) := Same.one n164
    have h164 : (upd H163 p164 (.lst [.int 0, .int 1])) p164 = some (.lst [.int 0, .int 1]) := upd_same
    generalize upd H163 p164 (.lst [.int 0, .int 1]) = H164 at s164 h164 ⊢
    replace hpd := s164 _ _ hpd
    replace hd0 := s164 _ _ hd0
    replace hd1 := s164 _ _ hd1
    replace hd2 := s164 _ _ hd2
    replace hd3 := s164 _ _ hd3
    replace hp := s164 _ _ hp
    replace hk := s164 _ _ hk
    replace h137 := s164 _ _ h137
    replace h138 := s164 _ _ h138
    replace h139 := s164 _ _ h139
    replace h140 := s164 _ _ h140
    replace h141 := s164 _ _ h141
    replace h142 := s164 _ _ h142
    replace h143 := s164 _ _ h143
    replace h144 := s164 _ _ h144
    replace h145 := s164 _ _ h145
    replace h146 := s164 _ _ h146
    replace h147 := s164 _ _ h147
    replace h148 := s164 _ _ h148
    replace h149 := s164 _ _ h149
    replace h150 := s164 _ _ h150
    replace h151 := s164 _ _ h151
    replace h152 := s164 _ _ h152
    replace h153 := s164 _ _ h153
    replace h154 := s164 _ _ h154
    replace h155 := s164 _ _ h155
    replace h156 := s164 _ _ h156
    replace h157 := s164 _ _ h157
    replace h158 := s164 _ _ h158
    replace h159 := s164 _ _ h159
    replace h160 := s164 _ _ h160
    replace h161 := s164 _ _ h161
    replace h162 := s164 _ _ h162
    replace h163 := s164 _ _ h163
    walk_at "go"
    refine l_new (by show 2 ≤ sizeLine; decide) fun p165 n165 => ?_
    have s165 : Same H164 (upd H164 p165 (.lst [.int 2, .int 1])) := Same.one n165
    have h165 : (upd H164 p165 (.lst [.int 2, .int 1])) p165 = some (.lst [.int 2, .int 1]) := upd_same
    generalize upd H164 p165 (.lst [.int 2, .int 1]) = H165 at s165 h165 ⊢
    replace hpd := s165 _ _ hpd
    replace hd0 := s165 _ _ hd0
    replace hd1 := s165 _ _ hd1
    replace hd2 := s165 _ _ hd2
    replace hd3 := s165 _ _ hd3
    replace hp := s165 _ _ hp
    replace hk := s165 _ _ hk
    replace h137 := s165 _ _ h137
    replace h138 := s165 _ _ h138
    replace h139 := s165 _ _ h139
    replace h140 := s165 _ _ h140
    replace h141 := s165 _ _ h141
    replace h142 := s165 _ _ h142
    replace h143 := s165 _ _ h143
    replace h144 := s165 _ _ h144
    replace h145 := s165 _ _ h145
    replace h146 := s165 _ _ h146
    replace h147 := s165 _ _ h147
    replace h148 := s165 _ _ h148
    replace h149 := s165 _ _ h149
    replace h150 := s165 _ _ h150
    replace h151 := s165 _ _ h151
    replace h152 := s165 _ _ h152
    replace h153 := s165 _ _ h153
    replace h154 := s165 _ _ h154
    replace h155 := s165 _ _ h155
    replace h156 := s165 _ _ h156
    replace h157 := s165 _ _ h157
    replace h158 := s165 _ _ h158
    replace h159 := s165 _ _ h159
    replace h160 := s165 _ _ h160
    replace h161 := s165 _ _ h161
    replace h162 := s165 _ _ h162
    replace h163 := s165 _ _ h163
    replace h164 := s165 _ _ h164
    walk_at "go"
    refine l_new (by show 2 ≤ sizeLine; decide) fun p166 n166 => ?_
    have s166 : Same H165 (upd H165 p166 (.lst [.ref p164, .ref p165])) := Same.one n166
    have h166 : (upd H165 p166 (.lst [.ref p164, .ref p165])) p166 = some (.lst [.ref p164, .ref p165]) := upd_same
    generalize upd H165 p166 (.lst [.ref p164, .ref p165]) = H166 at s166 h166 ⊢
    replace hpd := s166 _ _ hpd
    replace hd0 := s166 _ _ hd0
    replace hd1 := s166 _ _ hd1
    replace hd2 := s166 _ _ hd2
    replace hd3 := s166 _ _ hd3
    replace hp := s166 _ _ hp
    replace hk := s166 _ _ hk
    replace h137 := s166 _ _ h137
    replace h138 := s166 _ _ h138
    replace h139 := s166 _ _ h139
    replace h140 := s166 _ _ h140
    replace h141 := s166 _ _ h141
    replace h142 := s166 _ _ h142
    replace h143 := s166 _ _ h143
    replace h144 := s166 _ _ h144
    replace h145 := s166 _ _ h145
    replace h146 := s166 _ _ h146
    replace h147 := s166 _ _ h147
    replace h148 := s166 _ _ h148
    replace h149 := s166 _ _ h149
    replace h150 := s166 _ _ h150
    replace h151 := s166 _ _ h151
    replace h152 := s166 _ _ h152
    replace h153 := s166 _ _ h153
    replace h154 := s166 _ _ h154
    replace h155 := s166 _ _ h155
    replace h156 := s166 _ _ h156
    replace h157 := s166 _ _ h157
    replace h158 := s166 _ _ h158
    replace h159 := s166 _ _ h159
    replace h160 := s166 _ _ h160
    replace h161 := s166 _ _ h161
    replace h162 := s166 _ _ h162
    replace h163 := s166 _ _ h163
    replace h164 := s166 _ _ h164
    replace h165 := s166 _ _ h165
    walk_at "go"
    refine l_new (by show 2 ≤ sizeLine; decide) fun p167 n167 => ?_
    have s167 : Same H166 (upd H166 p167 (.tup [.int 0, .int 1])) := Same.one n167
    have h167 : (upd H166 p167 (.tup [.int 0, .int 1])) p167 = some (.tup [.int 0, .int 1]) := upd_same
    generalize upd H166 p167 (.tup [.int 0, .int 1]) = H167 at s167 h167 ⊢
    replace hpd := s167 _ _ hpd
    replace hd0 := s167 _ _ hd0
    replace hd1 := s167 _ _ hd1
    replace hd2 := s167 _ _ hd2
    replace hd3 := s167 _ _ hd3
    replace hp := s167 _ _ hp
    replace hk := s167 _ _ hk
    replace h137 := s167 _ _ h137
    replace h138 := s167 _ _ h138
    replace h139 := s167 _ _ h139
    replace h140 := s167 _ _ h140
    replace h141 := s167 _ _ h141
    replace h142 := s167 _ _ h142
    replace h143 := s167 _ _ h143
    replace h144 := s167 _ _ h144
    replace h145 := s167 _ _ h145
    replace h146 := s167 _ _ h146
    replace h147 := s167 _ _ h147
    replace h148 := s167 _ _ h148
    replace h149 := s167 _ _ h149
    replace h150 := s167 _ _ h150
    replace h151 := s167 _ _ h151
    replace h152 := s167 _ _ h152
    replace h153 := s167 _ _ h153
    replace h154 := s167 _ _ h154
    replace h155 := s167 _ _ h155
    replace h156 := s167 _ _ h156
    replace h157 := s167 _ _ h157
    replace h158 := s167 _ _ h158
    replace h159 := s167 _ _ h159
    replace h160 := s167 _ _ h160
    replace h161 := s167 _ _ h161
    replace h162 := s167 _ _ h162
    replace h163 := s167 _ _ h163
    replace h164 := s167 _ _ h164
    replace h165 := s167 _ _ h165
    replace h166 := s167 _ _ h166
    walk_at "go"
    refine l_new (by show 1 ≤ sizeLine; decide) fun p168 n168 => ?_
    have s168 : Same H167 (upd H167 p168 (.lst [.ref p167])) := Same.one n168
    have h168 : (upd H167 p168 (.lst [.ref p167])) p168 = some (.lst [.ref p167]) := upd_same
    generalize upd H167 p168 (.lst [.ref p167]) = H168 at s168 h168 ⊢
    replace hpd := s168 _ _ hpd
    replace hd0 := s168 _ _ hd0
    replace hd1 := s168 _ _ hd1
    replace hd2 := s168 _ _ hd2
    replace hd3 := s168 _ _ hd3
    replace hp := s168 _ _ hp
    replace hk := s168 _ _ hk
    replace h137 := s168 _ _ h137
    replace h138 := s168 _ _ h138
    replace h139 := s168 _ _ h139
    replace h140 := s168 _ _ h140
    replace h141 := s168 _ _ h141
    replace h142 := s168 _ _ h142
    replace h143 := s168 _ _ h143
    replace h144 := s168 _ _ h144
    replace h145 := s168 _ _ h145
    replace h146 := s168 _ _ h146
    replace h147 := s168 _ _ h147
    replace h148 := s168 _ _ h148
    replace h149 := s168 _ _ h149
    replace h150 := s168 _ _ h150
    replace h151 := s168 _ _ h151
    replace h152 := s168 _ _ h152
    replace h153 := s168 _ _ h153
    replace h154 := s168 _ _ h154
    replace h155 := s168 _ _ h155
    replace h156 := s168 _ _ h156
    replace h157 := s168 _ _ h157
    replace h158 := s168 _ _ h158
    replace h159 := s168 _ _ h159
    replace h160 := s168 _ _ h160
    replace h161 := s168 _ _ h161
    replace h162 := s168 _ _ h162
    replace h163 := s168 _ _ h163
    replace h164 := s168 _ _ h164
    replace h165 := s168 _ _ h165
    replace h166 := s168 _ _ h166
    replace h167 := s168 _ _ h167
    walk_at "go"
    refine l_new (by show 5 ≤ sizeLine; decide) fun p169 n169 => ?_
    have s169 : Same H168 (upd H168 p169 (.lst [.ref p160, .ref p162, .ref p163, .ref p166, .ref p168])) := Same.one n169
    have h169 : (upd H168 p169 (.lst [.ref p160, .ref p162, .ref p163, .ref p166, .ref p168])) p169 = some (.lst [.ref p160, .ref p162, .ref p163, .ref p166, .ref p168]) := upd_same
    generalize upd H168 p169 (.lst [.ref p160, .ref p162, .ref p163, .ref p166, .ref p168]) = H169 at s169 h169 ⊢
    replace hpd := s169 _ _ hpd
    replace hd0 := s169 _ _ hd0
    replace hd1 := s169 _ _ hd1
    replace hd2 := s169 _ _ hd2
    replace hd3 := s169 _ _ hd3
    replace hp := s169 _ _ hp
    replace hk := s169 _ _ hk
    replace h137 := s169 _ _ h137
    replace h138 := s169 _ _ h138
    replace h139 := s169 _ _ h139
    replace h140 := s169 _ _ h140
    replace h141 := s169 _ _ h141
    replace h142 := s169 _ _ h142
    replace h143 := s169 _ _ h143
    replace h144 := s169 _ _ h144
    replace h145 := s169 _ _ h145
    replace h146 := s169 _ _ h146
    replace h147 := s169 _ _ h147
    replace h148 := s169 _ _ h148
    replace h149 := s169 _ _ h149
    replace h150 := s169 _ _ h150
    replace h151 := s169 _ _ h151
    replace h152 := s169 _ _ h152
    replace h153 := s169 _ _ h153
    replace h154 := s169 _ _ h154
    replace h155 := s169 _ _ h155
    replace h156 := s169 _ _ h156
    replace h157 := s169 _ _ h157
    replace h158 := s169 _ _ h158
    replace h159 := s169 _ _ h159
    replace h160 := s169 _ _ h160
    replace h161 := s169 _ _ h161
    replace h162 := s169 _ _ h162
    replace h163 := s169 _ _ h163
    replace h164 := s169 _ _ h164
    replace h165 := s169 _ _ h165
    replace h166 := s169 _ _ h166
    replace h167 := s169 _ _ h167
    replace h168 := s169 _ _ h168
    refine o_catV h158 h169 (by simp) fun pT nT => ?_
    have hT : (upd H169 pT (.lst [.non, .ref p137, .str "0", .ref p138, .int 5, .ref p139, .ref p141, .ref p143, .ref p146, .ref p148, .ref p150, .ref p152, .ref p154, .ref p157, .ref p160, .ref p162, .ref p163, .ref p166, .ref p168])) pT = some (.lst [.non, .ref p137, .str "0", .ref p138, .int 5, .ref p139, .ref p141, .ref p143, .ref p146, .ref p148, .ref p150, .ref p152, .ref p154, .ref p157, .ref p160, .ref p162, .ref p163, .ref p166, .ref p168]) := upd_same
    have s170 : Same H169 (upd H169 pT (.lst [.non, .ref p137, .str "0", .ref p138, .int 5, .ref p139, .ref p141, .ref p143, .ref p146, .ref p148, .ref p150, .ref p152, .ref p154, .ref p157, .ref p160, .ref p162, .ref p163, .ref p166, .ref p168])) := Same.one nT
    skip
    have all : ∀ x ∈ [.non, .ref p137, .str "0", .ref p138, .int 5, .ref p139, .ref p141, .ref p143, .ref p146, .ref p148, .ref p150, .ref p152, .ref p154, .ref p157, .ref p160, .ref p162, .ref p163, .ref p166, .ref p168], BadR K H169 3 x := fa (.inl NoL.non) (fa (.inl (NoL.tup h137)) (fa (.inl (NoL.str _)) (fa (.inl (NoL.dic h138)) (fa (.inl (NoL.int _)) (fa (BadR.some h139 (bs := [false]) (by simp) (by simp) (fr (.inl ⟨NoL.non, rfl⟩) (fr0)) (by rfl)) (fa (BadR.some h141 (bs := [false]) (by simp) (by simp) (fr (.inl ⟨NoL.tup h140, rfl⟩) (fr0)) (by rfl)) (fa (BadR.some h143 (bs := [false]) (by simp) (by simp) (fr (RV.is (r := []) h142 (by simp) (by rfl)) (fr0)) (by rfl)) (fa (BadR.some h146 (bs := [true, false]) (by simp) (by simp) (fr (RV.is (r := [0]) h144 (by simp) (by rfl)) (fr (RV.is (r := []) h145 (by simp) (by rfl)) (fr0))) (by rfl)) (fa (BadR.some h148 (bs := [false]) (by simp) (by simp) (fr (RV.is (r := [3]) h147 (by simp) (by rfl)) (fr0)) (by rfl)) (fa (BadR.some h150 (bs := [false]) (by simp) (by simp) (fr (RV.is (r := [3 + far]) h149 (by simp) (ring_far far0)) (fr0)) (by rfl)) (fa (BadR.some h152 (bs := [false]) (by simp) (by simp) (fr (RV.is (r := [-1]) h151 (by simp) (by rfl)) (fr0)) (by rfl)) (fa (BadR.dup (as := [p153]) (rs := [[0, 0]]) h154 (Lf0.snoc (r := [0, 0]) h153) (by simp) (by decide) (by simp) (by decide)) (fa (BadR.dup (as := [p155, p156]) (rs := [[0], [0]]) h157 ((Lf0.snoc (r := [0]) h155).snoc (r := [0]) h156) (by simp) (by decide) (by simp) (by decide)) (fa (BadR.some h160 (bs := [false]) (by simp) (by simp) (fr (RV.of h159 (by simp) (fk (Kd.bl _) (fk (Kd.int _) (fk0))) (by rfl)) (fr0)) (by rfl)) (fa (BadR.some h162 (bs := [false]) (by simp) (by simp) (fr (RV.of h161 (by simp) (fk (Kd.str _) (fk0)) (by rfl)) (fr0)) (by rfl)) (fa (BadR.some h163 (bs := [false, false]) (by simp) (by simp) (fr (.inl ⟨NoL.int _, rfl⟩) (fr (.inl ⟨NoL.int _, rfl⟩) fr0)) (by rfl)) (fa (BadR.dup (as := [p164, p165]) (rs := [[0, 1], [2, 1]]) h166 ((Lf0.snoc (r := [0, 1]) h164).snoc (r := [2, 1]) h165) (by simp) (by decide) (by simp) (by decide)) (fa (BadR.some h168 (bs := [false]) (by simp) (by simp) (fr (.inl ⟨NoL.tup h167, rfl⟩) (fr0)) (by rfl)) (fa0)))))))))))))))))))
    clear h137 h138 h139 h140 h141 h142 h143 h144 h145 h146 h147 h148 h149 h150 h151 h152 h153 h154 h155 h156 h157 h158 h159 h160 h161 h162 h163 h164 h165 h166 h167 h168 h169
    skip
    have eT : (upd H169 pT (.lst ([.non, .ref p137, .str "0", .ref p138, .int 5, .ref p139, .ref p141, .ref p143, .ref p146, .ref p148, .ref p150, .ref p152, .ref p154, .ref p157] ++ [.ref p160, .ref p162, .ref p163, .ref p166, .ref p168]))) = (upd H169 pT (.lst [.non, .ref p137, .str "0", .ref p138, .int 5, .ref p139, .ref p141, .ref p143, .ref p146, .ref p148, .ref p150, .ref p152, .ref p154, .ref p157, .ref p160, .ref p162, .ref p163, .ref p166, .ref p168])) := rfl
    rw [eT]
    clear eT
    have lT : ([.non, .ref p137, .str "0", .ref p138, .int 5, .ref p139, .ref p141, .ref p143, .ref p146, .ref p148, .ref p150, .ref p152, .ref p154, .ref p157, .ref p160, .ref p162, .ref p163, .ref p166, .ref p168] : List V).length ≤ 100 := by simp
    generalize ([.non, .ref p137, .str "0", .ref p138, .int 5, .ref p139, .ref p141, .ref p143, .ref p146, .ref p148, .ref p150, .ref p152, .ref p154, .ref p157, .ref p160, .ref p162, .ref p163, .ref p166, .ref p168] : List V) = ts at hT s170 all lT ⊢
    generalize upd H169 pT (.lst ts) = H170 at hT s170 ⊢
    replace all : ∀ x ∈ ts, BadR K H170 3 x := fun x hx => (all x hx).same s170
    replace hpd := s170 _ _ hpd
    replace hd0 := s170 _ _ hd0
    replace hd1 := s170 _ _ hd1
    replace hd2 := s170 _ _ hd2
    replace hd3 := s170 _ _ hd3
    replace hp := s170 _ _ hp
    replace hk := s170 _ _ hk
    walk_at "go"
    refine l_new (by show 1 ≤ sizeLine; decide) fun p171 n171 => ?_
    have s171 : Same H170 (upd H170 p171 (.lst [.int 0])) := Same.one n171
    have h171 : (upd H170 p171 (.lst [.int 0])) p171 = some (.lst [.int 0]) := upd_same
    generalize upd H170 p171 (.lst [.int 0]) = H171 at s171 h171 ⊢
    replace hpd := s171 _ _ hpd
    replace hd0 := s171 _ _ hd0
    replace hd1 := s171 _ _ hd1
    replace hd2 := s171 _ _ hd2
    replace hd3 := s171 _ _ hd3
    replace hp := s171 _ _ hp
    replace hk := s171 _ _ hk
    replace hT := s171 _ _ hT
    replace all : ∀ x ∈ ts, BadR K H171 3 x := fun x hx => (all x hx).same s171
    walk_at "go"
    refine o_ixM (f := V.ref) (xs := [d0, d1, d2, d3]) (j := 2) (x := d2) (SqL.of hpd) rfl rfl ?_
    walk_at "go"
    refine ⟨f__law_with_rings, p171, pT, d2, _, [0], ts, C_BadRings, [false, false, true, false, false, true], rfl, B_ring, SqL.of h171, SqL.of hT, SqL.of hd2, by omega, fun d hd x hx H' s' => ⟨rfl, d, x, rfl, (all x hx).same s'⟩, ⟨T.ec_BadRings, T.em_BadRings, false, false, true, false, false, true, rfl, T.kq_BadRings_BadRow, T.kq_BadRings_BadNumber, T.kq_BadRings_BadRings, T.kq_BadRings_Unlike, T.kq_BadRings_BadText, T.kv_BadRings⟩, fun H172 s172 => ?_⟩
    replace hpd := s172 _ _ hpd
    replace hd0 := s172 _ _ hd0
    replace hd1 := s172 _ _ hd1
    replace hd2 := s172 _ _ hd2
    replace hd3 := s172 _ _ hd3
    replace hp := s172 _ _ hp
    replace hk := s172 _ _ hk
    replace hT := s172 _ _ hT
    replace h171 := s172 _ _ h171
    clear all hT
    clear h171
    walk_at "go"
    walk_at "go"
    refine l_new (by show 1 ≤ sizeLine; decide) fun p173 n173 => ?_
    have s173 : Same H172 (upd H172 p173 (.lst [.int (r.length : Nat)])) := Same.one n173
    have h173 : (upd H172 p173 (.lst [.int (r.length : Nat)])) p173 = some (.lst [.int (r.length : Nat)]) := upd_same
    generalize upd H172 p173 (.lst [.int (r.length : Nat)]) = H173 at s173 h173 ⊢
    replace hpd := s173 _ _ hpd
    replace hd0 := s173 _ _ hd0
    replace hd1 := s173 _ _ hd1
    replace hd2 := s173 _ _ hd2
    replace hd3 := s173 _ _ hd3
    replace hp := s173 _ _ hp
    replace hk := s173 _ _ hk
    refine o_cat (f := V.int) (xs := r) (zs := [(r.length : Int)]) hp h173 (by simp; omega) fun pc0 nc0 => ?_
    have hc : (upd H173 pc0 (.lst ((r ++ [(r.length : Int)]).map V.int))) pc0 = some (.lst ((r ++ [(r.length : Int)]).map V.int)) := upd_same
    have s174 : Same H173 (upd H173 pc0 (.lst ((r ++ [(r.length : Int)]).map V.int))) := Same.one nc0
    generalize upd H173 pc0 (.lst ((r ++ [(r.length : Int)]).map V.int)) = H174 at hc s174 ⊢
    replace hpd := s174 _ _ hpd
    replace hd0 := s174 _ _ hd0
    replace hd1 := s174 _ _ hd1
    replace hd2 := s174 _ _ hd2
    replace hd3 := s174 _ _ hd3
    replace hp := s174 _ _ hp
    replace hk := s174 _ _ hk
    replace h173 := s174 _ _ h173
    clear h173
    walk_at "go"
    refine ⟨f__law_with_two, _, .ref p, .ref pc0, C_Unlike, [false, false, false, true, false, true], rfl, B_two, ⟨_, _, rfl, .inr (.inr ⟨rfl, p, pc0, r, r ++ [(r.length : Int)], rfl, rfl, SqL.of hp, SqL.of hc, R, R.more (by omega), by simp⟩)⟩, ⟨T.ec_Unlike, T.em_Unlike, false, false, false, true, false, true, rfl, T.kq_Unlike_BadRow, T.kq_Unlike_BadNumber, T.kq_Unlike_BadRings, T.kq_Unlike_Unlike, T.kq_Unlike_BadText, T.kv_Unlike⟩, fun pt H175 s175 npt hpt => ?_⟩
    replace hpd := s175 _ _ hpd
    replace hd0 := s175 _ _ hd0
    replace hd1 := s175 _ _ hd1
    replace hd2 := s175 _ _ hd2
    replace hd3 := s175 _ _ hd3
    replace hp := s175 _ _ hp
    replace hk := s175 _ _ hk
    replace hc := s175 _ _ hc
    walk_at "go"
    refine o_ixM (f := V.ref) (xs := [d0, d1, d2, d3]) (j := 3) (x := d3) (SqL.of hpd) rfl rfl ?_
    refine o_neBs (SqL.of hpt) (SqL.of hd3) ?_
    clear hpt npt hc
    walk_at "go"
    refine ite_ndecN rfl ?_
    walk_at "go"
    walk_at "go"
    refine l_new (by show 1 ≤ sizeLine; decide) fun p176 n176 => ?_
    have s176 : Same H175 (upd H175 p176 (.lst [.int (r.length : Nat)])) := Same.one n176
    have h176 : (upd H175 p176 (.lst [.int (r.length : Nat)])) p176 = some (.lst [.int (r.length : Nat)]) := upd_same
    generalize upd H175 p176 (.lst [.int (r.length : Nat)]) = H176 at s176 h176 ⊢
    replace hpd := s176 _ _ hpd
    replace hd0 := s176 _ _ hd0
    replace hd1 := s176 _ _ hd1
    replace hd2 := s176 _ _ hd2
    replace hd3 := s176 _ _ hd3
    replace hp := s176 _ _ hp
    replace hk := s176 _ _ hk
    refine o_cat (f := V.int) (xs := r) (zs := [(r.length : Int)]) hp h176 (by simp; omega) fun pc1 nc1 => ?_
    have hc : (upd H176 pc1 (.lst ((r ++ [(r.length : Int)]).map V.int))) pc1 = some (.lst ((r ++ [(r.length : Int)]).map V.int)) := upd_same
    have s177 : Same H176 (upd H176 pc1 (.lst ((r ++ [(r.length : Int)]).map V.int))) := Same.one nc1
    generalize upd H176 pc1 (.lst ((r ++ [(r.length : Int)]).map V.int)) = H177 at hc s177 ⊢
    replace hpd := s177 _ _ hpd
    replace hd0 := s177 _ _ hd0
    replace hd1 := s177 _ _ hd1
    replace hd2 := s177 _ _ hd2
    replace hd3 := s177 _ _ hd3
    replace hp := s177 _ _ hp
    replace hk := s177 _ _ hk
    replace h176 := s177 _ _ h176
    clear h176
    walk_at "go"
    refine ⟨f__law_with_two, _, .ref pc1, .ref p, C_Unlike, [false, false, false, true, false, true], rfl, B_two, ⟨_, _, rfl, .inr (.inr ⟨rfl, pc1, p, r ++ [(r.length : Int)], r, rfl, rfl, SqL.of hc, SqL.of hp, R.more (by omega), R, by simp⟩)⟩, ⟨T.ec_Unlike, T.em_Unlike, false, false, false, true, false, true, rfl, T.kq_Unlike_BadRow, T.kq_Unlike_BadNumber, T.kq_Unlike_BadRings, T.kq_Unlike_Unlike, T.kq_Unlike_BadText, T.kv_Unlike⟩, fun pt H178 s178 npt hpt => ?_⟩
    replace hpd := s178 _ _ hpd
    replace hd0 := s178 _ _ hd0
    replace hd1 := s178 _ _ hd1
    replace hd2 := s178 _ _ hd2
    replace hd3 := s178 _ _ hd3
    replace hp := s178 _ _ hp
    replace hk := s178 _ _ hk
    replace hc := s178 _ _ hc
    walk_at "go"
    refine o_ixM (f := V.ref) (xs := [d0, d1, d2, d3]) (j := 3) (x := d3) (SqL.of hpd) rfl rfl ?_
    refine o_neBs (SqL.of hpt) (SqL.of hd3) ?_
    clear hpt npt hc
    walk_at "go"
    refine ite_ndecN rfl ?_
    walk_at "go"
    refine o_eqL (ns := r) (ms := r) (SqL.of hp) (SqL.of hk) ?_
    walk_at "go"
    refine ite_decY rfl ?_
    walk_at "go"
    refine l_new (by show 0 ≤ sizeLine; decide) fun p179 n179 => ?_
    have s179 : Same H178 (upd H178 p179 (.lst [])) := Same.one n179
    have h179 : (upd H178 p179 (.lst [])) p179 = some (.lst []) := upd_same
    generalize upd H178 p179 (.lst []) = H179 at s179 h179 ⊢
    replace hpd := s179 _ _ hpd
    replace hd0 := s179 _ _ hd0
    replace hd1 := s179 _ _ hd1
    replace hd2 := s179 _ _ hd2
    replace hd3 := s179 _ _ hd3
    replace hp := s179 _ _ hp
    replace hk := s179 _ _ hk
    walk_at "go"
    refine ⟨p179, [], 0, [], rfl, SqL.of h179, Lf0, by decide, fun r hr => by simp at hr, by simp, by simp, by simp, fun p2 H180 s180 np2 hp2 => ?_⟩
    replace hpd := s180 _ _ hpd
    replace hd0 := s180 _ _ hd0
    replace hd1 := s180 _ _ hd1
    replace hd2 := s180 _ _ hd2
    replace hd3 := s180 _ _ hd3
    replace hp := s180 _ _ hp
    replace hk := s180 _ _ hk
    replace h179 := s180 _ _ h179
    walk_at "go"
    refine l_new (by show 0 ≤ sizeLine; decide) fun p181 n181 => ?_
    have s181 : Same H180 (upd H180 p181 (.lst [])) := Same.one n181
    have h181 : (upd H180 p181 (.lst [])) p181 = some (.lst []) := upd_same
    generalize upd H180 p181 (.lst []) = H181 at s181 h181 ⊢
    replace hpd := s181 _ _ hpd
    replace hd0 := s181 _ _ hd0
    replace hd1 := s181 _ _ hd1
    replace hd2 := s181 _ _ hd2
    replace hd3 := s181 _ _ hd3
    replace hp := s181 _ _ hp
    replace hk := s181 _ _ hk
    replace h179 := s181 _ _ h179
    replace hp2 := s181 _ _ hp2
    refine o_eqL (ns := []) (ms := []) (SqL.of hp2) (SqL.of h181) ?_
    walk_at "go"
    refine ite_decY rfl ?_
    clear h179 h181
    walk_at "go"
    refine l_new (by show 0 ≤ sizeLine; decide) fun p182 n182 => ?_
    have s182 : Same H181 (upd H181 p182 (.lst [])) := Same.one n182
    have h182 : (upd H181 p182 (.lst [])) p182 = some (.lst []) := upd_same
    generalize upd H181 p182 (.lst []) = H182 at s182 h182 ⊢
    replace hpd := s182 _ _ hpd
    replace hd0 := s182 _ _ hd0
    replace hd1 := s182 _ _ hd1
    replace hd2 := s182 _ _ hd2
    replace hd3 := s182 _ _ hd3
    replace hp := s182 _ _ hp
    replace hk := s182 _ _ hk
    walk_at "go"
    refine ⟨p182, [], rfl, SqL.of h182, row0, fun p3 H183 s183 np3 hp3 => ?_⟩
    replace hpd := s183 _ _ hpd
    replace hd0 := s183 _ _ hd0
    replace hd1 := s183 _ _ hd1
    replace hd2 := s183 _ _ hd2
    replace hd3 := s183 _ _ hd3
    replace hp := s183 _ _ hp
    replace hk := s183 _ _ hk
    replace h182 := s183 _ _ h182
    walk_at "go"
    refine l_new (by show 0 ≤ sizeLine; decide) fun p184 n184 => ?_
    have s184 : Same H183 (upd H183 p184 (.lst [])) := Same.one n184
    have h184 : (upd H183 p184 (.lst [])) p184 = some (.lst []) := upd_same
    generalize upd H183 p184 (.lst []) = H184 at s184 h184 ⊢
    replace hpd := s184 _ _ hpd
    replace hd0 := s184 _ _ hd0
    replace hd1 := s184 _ _ hd1
    replace hd2 := s184 _ _ hd2
    replace hd3 := s184 _ _ hd3
    replace hp := s184 _ _ hp
    replace hk := s184 _ _ hk
    replace h182 := s184 _ _ h182
    replace hp3 := s184 _ _ hp3
    refine o_eqL (ns := []) (ms := []) (SqL.of hp3) (SqL.of h184) ?_
    walk_at "go"
    refine ite_decY rfl ?_
    clear h182 h184
    walk_at "go"
    refine l_new (by show 0 ≤ sizeLine; decide) fun p185 n185 => ?_
    have s185 : Same H184 (upd H184 p185 (.lst [])) := Same.one n185
    have h185 : (upd H184 p185 (.lst [])) p185 = some (.lst []) := upd_same
    generalize upd H184 p185 (.lst []) = H185 at s185 h185 ⊢
    replace hpd := s185 _ _ hpd
    replace hd0 := s185 _ _ hd0
    replace hd1 := s185 _ _ hd1
    replace hd2 := s185 _ _ hd2
    replace hd3 := s185 _ _ hd3
    replace hp := s185 _ _ hp
    replace hk := s185 _ _ hk
    walk_at "go"
    refine ⟨p185, [], rfl, SqL.of h185, row0, fun H186 s186 => ?_⟩
    replace hpd := s186 _ _ hpd
    replace hd0 := s186 _ _ hd0
    replace hd1 := s186 _ _ hd1
    replace hd2 := s186 _ _ hd2
    replace hd3 := s186 _ _ hd3
    replace hp := s186 _ _ hp
    replace hk := s186 _ _ hk
    replace h185 := s186 _ _ h185
    rw [show ((turnsOf [] : Nat) : Int) = 1 from by decide +kernel]
    walk_at "go"
    refine ite_decY rfl ?_
    clear h185
    walk_at "go"
    refine l_new (by show 0 ≤ sizeLine; decide) fun p187 n187 => ?_
    have s187 : Same H186 (upd H186 p187 (.lst [])) := Same.one n187
    have h187 : (upd H186 p187 (.lst [])) p187 = some (.lst []) := upd_same
    generalize upd H186 p187 (.lst []) = H187 at s187 h187 ⊢
    replace hpd := s187 _ _ hpd
    replace hd0 := s187 _ _ hd0
    replace hd1 := s187 _ _ hd1
    replace hd2 := s187 _ _ hd2
    replace hd3 := s187 _ _ hd3
    replace hp := s187 _ _ hp
    replace hk := s187 _ _ hk
    walk_at "go"
    refine ⟨p187, [], rfl, SqL.of h187, row0, fun p4 as4 H188 s188 np4 nw4 m4 hp4 => ?_⟩
    replace hpd := s188 _ _ hpd
    replace hd0 := s188 _ _ hd0
    replace hd1 := s188 _ _ hd1
    replace hd2 := s188 _ _ hd2
    replace hd3 := s188 _ _ hd3
    replace hp := s188 _ _ hp
    replace hk := s188 _ _ hk
    replace h187 := s188 _ _ h187
    have as0 : as4 = [] := List.eq_nil_of_length_eq_zero (by rw [nw4.len]; decide +kernel)
    rw [as0] at hp4
    walk_at "go"
    refine l_new (by show 0 ≤ sizeLine; decide) fun p189 n189 => ?_
    have s189 : Same H188 (upd H188 p189 (.lst [])) := Same.one n189
    have h189 : (upd H188 p189 (.lst [])) p189 = some (.lst []) := upd_same
    generalize upd H188 p189 (.lst []) = H189 at s189 h189 ⊢
    replace hpd := s189 _ _ hpd
    replace hd0 := s189 _ _ hd0
    replace hd1 := s189 _ _ hd1
    replace hd2 := s189 _ _ hd2
    replace hd3 := s189 _ _ hd3
    replace hp := s189 _ _ hp
    replace hk := s189 _ _ hk
    replace h187 := s189 _ _ h187
    replace hp4 := s189 _ _ hp4
    refine o_eqL (ns := []) (ms := []) (SqL.of hp4) (SqL.of h189) ?_
    rw [decide_eq_true rfl]
    walk_at "go"
    exact q _
end
end Bo

namespace Bo
open PySem PySem.Spec PyProof.Rows L2
theorem all_mk {l : PySem.W.OpenLaw} {w : World} {K : PySem.W.Frag} {h : Heap} {mg : Str → Option Value} {fa : Addr} {C_OrderError C_BadRow C_BadNumber C_BadRings C_Unlike C_BadText : Addr} (X : K.In h) (G : h.Ns mainGlobals mg) (hfa : mg "law" = some (.ref fa))
    {f1 : Addr} {od1 an1 : Option Addr} {sl1 : Array (Option Value)} {oc1 kV1 dc1 pm1 cd1 ct1 : Value}
    {f2 : Addr} {od2 an2 : Option Addr} {sl2 : Array (Option Value)} {oc2 kV2 dc2 pm2 cd2 ct2 : Value}
    {f3 : Addr} {od3 an3 : Option Addr} {sl3 : Array (Option Value)} {oc3 kV3 dc3 pm3 cd3 ct3 : Value}
    {f4 : Addr} {od4 an4 : Option Addr} {sl4 : Array (Option Value)} {oc4 kV4 dc4 pm4 cd4 ct4 : Value}
    {f5 : Addr} {od5 an5 : Option Addr} {sl5 : Array (Option Value)} {oc5 kV5 dc5 pm5 cd5 ct5 : Value}
    {f6 : Addr} {od6 an6 : Option Addr} {sl6 : Array (Option Value)} {oc6 kV6 dc6 pm6 cd6 ct6 : Value}
    {f7 : Addr} {od7 an7 : Option Addr} {sl7 : Array (Option Value)} {oc7 kV7 dc7 pm7 cd7 ct7 : Value}
    {f8 : Addr} {od8 an8 : Option Addr} {sl8 : Array (Option Value)} {oc8 kV8 dc8 pm8 cd8 ct8 : Value}
    {f9 : Addr} {od9 an9 : Option Addr} {sl9 : Array (Option Value)} {oc9 kV9 dc9 pm9 cd9 ct9 : Value}
    {f10 : Addr} {od10 an10 : Option Addr} {sl10 : Array (Option Value)} {oc10 kV10 dc10 pm10 cd10 ct10 : Value}
    {f11 : Addr} {od11 an11 : Option Addr} {sl11 : Array (Option Value)} {oc11 kV11 dc11 pm11 cd11 ct11 : Value}
    {f12 : Addr} {od12 an12 : Option Addr} {sl12 : Array (Option Value)} {oc12 kV12 dc12 pm12 cd12 ct12 : Value}
    {f13 : Addr} {od13 an13 : Option Addr} {sl13 : Array (Option Value)} {oc13 kV13 dc13 pm13 cd13 ct13 : Value}
    {f14 : Addr} {od14 an14 : Option Addr} {sl14 : Array (Option Value)} {oc14 kV14 dc14 pm14 cd14 ct14 : Value}
    {f15 : Addr} {od15 an15 : Option Addr} {sl15 : Array (Option Value)} {oc15 kV15 dc15 pm15 cd15 ct15 : Value}
    {f16 : Addr} {od16 an16 : Option Addr} {sl16 : Array (Option Value)} {oc16 kV16 dc16 pm16 cd16 ct16 : Value}
    {f17 : Addr} {od17 an17 : Option Addr} {sl17 : Array (Option Value)} {oc17 kV17 dc17 pm17 cd17 ct17 : Value}
    {f18 : Addr} {od18 an18 : Option Addr} {sl18 : Array (Option Value)} {oc18 kV18 dc18 pm18 cd18 ct18 : Value}
    {f19 : Addr} {od19 an19 : Option Addr} {sl19 : Array (Option Value)} {oc19 kV19 dc19 pm19 cd19 ct19 : Value}
    {f20 : Addr} {od20 an20 : Option Addr} {sl20 : Array (Option Value)} {oc20 kV20 dc20 pm20 cd20 ct20 : Value}
    {f21 : Addr} {od21 an21 : Option Addr} {sl21 : Array (Option Value)} {oc21 kV21 dc21 pm21 cd21 ct21 : Value}
    {f22 : Addr} {od22 an22 : Option Addr} {sl22 : Array (Option Value)} {oc22 kV22 dc22 pm22 cd22 ct22 : Value}
    {f23 : Addr} {od23 an23 : Option Addr} {sl23 : Array (Option Value)} {oc23 kV23 dc23 pm23 cd23 ct23 : Value}
    {f24 : Addr} {od24 an24 : Option Addr} {sl24 : Array (Option Value)} {oc24 kV24 dc24 pm24 cd24 ct24 : Value}
    {f25 : Addr} {od25 an25 : Option Addr} {sl25 : Array (Option Value)} {oc25 kV25 dc25 pm25 cd25 ct25 : Value}
    {f26 : Addr} {od26 an26 : Option Addr} {sl26 : Array (Option Value)} {oc26 kV26 dc26 pm26 cd26 ct26 : Value}
    {f27 : Addr} {od27 an27 : Option Addr} {sl27 : Array (Option Value)} {oc27 kV27 dc27 pm27 cd27 ct27 : Value}
    {f28 : Addr} {od28 an28 : Option Addr} {sl28 : Array (Option Value)} {oc28 kV28 dc28 pm28 cd28 ct28 : Value}
    {f29 : Addr} {od29 an29 : Option Addr} {sl29 : Array (Option Value)} {oc29 kV29 dc29 pm29 cd29 ct29 : Value}
    {f30 : Addr} {od30 an30 : Option Addr} {sl30 : Array (Option Value)} {oc30 kV30 dc30 pm30 cd30 ct30 : Value}
    {t_MOST : Tok}
    (a1 : PySem.W.nsIn K mainGlobals "is_number" = some (some (.ref f1)))
    (l1 : K.lookup f1 = some ⟨oc1, od1, .func (PySem.W.fnOf "is_number" "is_number" (defArgs s_is_number) (defBody s_is_number) (defScope s_is_number) .none kV1 dc1 pm1 an1 cd1 ct1), sl1⟩)
    (c1 : PySem.W.codeIn K cd1 "is_number" = true)
    (k1 : PySem.W.keepIn K (.ref f1) = true)
    (a2 : PySem.W.nsIn K mainGlobals "check_row" = some (some (.ref f2)))
    (l2 : K.lookup f2 = some ⟨oc2, od2, .func (PySem.W.fnOf "check_row" "check_row" (defArgs s_check_row) (defBody s_check_row) (defScope s_check_row) .none kV2 dc2 pm2 an2 cd2 ct2), sl2⟩)
    (c2 : PySem.W.codeIn K cd2 "check_row" = true)
    (k2 : PySem.W.keepIn K (.ref f2) = true)
    (a3 : PySem.W.nsIn K mainGlobals "behind" = some (some (.ref f3)))
    (l3 : K.lookup f3 = some ⟨oc3, od3, .func (PySem.W.fnOf "behind" "behind" (defArgs s_behind) (defBody s_behind) (defScope s_behind) .none kV3 dc3 pm3 an3 cd3 ct3), sl3⟩)
    (c3 : PySem.W.codeIn K cd3 "behind" = true)
    (k3 : PySem.W.keepIn K (.ref f3) = true)
    (a4 : PySem.W.nsIn K mainGlobals "places_of" = some (some (.ref f4)))
    (l4 : K.lookup f4 = some ⟨oc4, od4, .func (PySem.W.fnOf "places_of" "places_of" (defArgs s_places_of) (defBody s_places_of) (defScope s_places_of) .none kV4 dc4 pm4 an4 cd4 ct4), sl4⟩)
    (c4 : PySem.W.codeIn K cd4 "places_of" = true)
    (k4 : PySem.W.keepIn K (.ref f4) = true)
    (a5 : PySem.W.nsIn K mainGlobals "back" = some (some (.ref f5)))
    (l5 : K.lookup f5 = some ⟨oc5, od5, .func (PySem.W.fnOf "back" "back" (defArgs s_back) (defBody s_back) (defScope s_back) .none kV5 dc5 pm5 an5 cd5 ct5), sl5⟩)
    (c5 : PySem.W.codeIn K cd5 "back" = true)
    (k5 : PySem.W.keepIn K (.ref f5) = true)
    (a6 : PySem.W.nsIn K mainGlobals "wrong" = some (some (.ref f6)))
    (l6 : K.lookup f6 = some ⟨oc6, od6, .func (PySem.W.fnOf "wrong" "wrong" (defArgs s_wrong) (defBody s_wrong) (defScope s_wrong) .none kV6 dc6 pm6 an6 cd6 ct6), sl6⟩)
    (c6 : PySem.W.codeIn K cd6 "wrong" = true)
    (k6 : PySem.W.keepIn K (.ref f6) = true)
    (a7 : PySem.W.nsIn K mainGlobals "rings_of" = some (some (.ref f7)))
    (l7 : K.lookup f7 = some ⟨oc7, od7, .func (PySem.W.fnOf "rings_of" "rings_of" (defArgs s_rings_of) (defBody s_rings_of) (defScope s_rings_of) .none kV7 dc7 pm7 an7 cd7 ct7), sl7⟩)
    (c7 : PySem.W.codeIn K cd7 "rings_of" = true)
    (k7 : PySem.W.keepIn K (.ref f7) = true)
    (a8 : PySem.W.nsIn K mainGlobals "rings" = some (some (.ref f8)))
    (l8 : K.lookup f8 = some ⟨oc8, od8, .func (PySem.W.fnOf "rings" "rings" (defArgs s_rings) (defBody s_rings) (defScope s_rings) .none kV8 dc8 pm8 an8 cd8 ct8), sl8⟩)
    (c8 : PySem.W.codeIn K cd8 "rings" = true)
    (k8 : PySem.W.keepIn K (.ref f8) = true)
    (a9 : PySem.W.nsIn K mainGlobals "row_of" = some (some (.ref f9)))
    (l9 : K.lookup f9 = some ⟨oc9, od9, .func (PySem.W.fnOf "row_of" "row_of" (defArgs s_row_of) (defBody s_row_of) (defScope s_row_of) .none kV9 dc9 pm9 an9 cd9 ct9), sl9⟩)
    (c9 : PySem.W.codeIn K cd9 "row_of" = true)
    (k9 : PySem.W.keepIn K (.ref f9) = true)
    (a10 : PySem.W.nsIn K mainGlobals "is_ring" = some (some (.ref f10)))
    (l10 : K.lookup f10 = some ⟨oc10, od10, .func (PySem.W.fnOf "is_ring" "is_ring" (defArgs s_is_ring) (defBody s_is_ring) (defScope s_is_ring) .none kV10 dc10 pm10 an10 cd10 ct10), sl10⟩)
    (c10 : PySem.W.codeIn K cd10 "is_ring" = true)
    (k10 : PySem.W.keepIn K (.ref f10) = true)
    (a11 : PySem.W.nsIn K mainGlobals "of_rings" = some (some (.ref f11)))
    (l11 : K.lookup f11 = some ⟨oc11, od11, .func (PySem.W.fnOf "of_rings" "of_rings" (defArgs s_of_rings) (defBody s_of_rings) (defScope s_of_rings) .none kV11 dc11 pm11 an11 cd11 ct11), sl11⟩)
    (c11 : PySem.W.codeIn K cd11 "of_rings" = true)
    (k11 : PySem.W.keepIn K (.ref f11) = true)
    (a12 : PySem.W.nsIn K mainGlobals "times" = some (some (.ref f12)))
    (l12 : K.lookup f12 = some ⟨oc12, od12, .func (PySem.W.fnOf "times" "times" (defArgs s_times) (defBody s_times) (defScope s_times) .none kV12 dc12 pm12 an12 cd12 ct12), sl12⟩)
    (c12 : PySem.W.codeIn K cd12 "times" = true)
    (k12 : PySem.W.keepIn K (.ref f12) = true)
    (a13 : PySem.W.nsIn K mainGlobals "common" = some (some (.ref f13)))
    (l13 : K.lookup f13 = some ⟨oc13, od13, .func (PySem.W.fnOf "common" "common" (defArgs s_common) (defBody s_common) (defScope s_common) .none kV13 dc13 pm13 an13 cd13 ct13), sl13⟩)
    (c13 : PySem.W.codeIn K cd13 "common" = true)
    (k13 : PySem.W.keepIn K (.ref f13) = true)
    (a14 : PySem.W.nsIn K mainGlobals "turns" = some (some (.ref f14)))
    (l14 : K.lookup f14 = some ⟨oc14, od14, .func (PySem.W.fnOf "turns" "turns" (defArgs s_turns) (defBody s_turns) (defScope s_turns) .none kV14 dc14 pm14 an14 cd14 ct14), sl14⟩)
    (c14 : PySem.W.codeIn K cd14 "turns" = true)
    (k14 : PySem.W.keepIn K (.ref f14) = true)
    (a15 : PySem.W.nsIn K mainGlobals "exchanged" = some (some (.ref f15)))
    (l15 : K.lookup f15 = some ⟨oc15, od15, .func (PySem.W.fnOf "exchanged" "exchanged" (defArgs s_exchanged) (defBody s_exchanged) (defScope s_exchanged) .none kV15 dc15 pm15 an15 cd15 ct15), sl15⟩)
    (c15 : PySem.W.codeIn K cd15 "exchanged" = true)
    (k15 : PySem.W.keepIn K (.ref f15) = true)
    (a16 : PySem.W.nsIn K mainGlobals "fronted" = some (some (.ref f16)))
    (l16 : K.lookup f16 = some ⟨oc16, od16, .func (PySem.W.fnOf "fronted" "fronted" (defArgs s_fronted) (defBody s_fronted) (defScope s_fronted) .none kV16 dc16 pm16 an16 cd16 ct16), sl16⟩)
    (c16 : PySem.W.codeIn K cd16 "fronted" = true)
    (k16 : PySem.W.keepIn K (.ref f16) = true)
    (a17 : PySem.W.nsIn K mainGlobals "ended" = some (some (.ref f17)))
    (l17 : K.lookup f17 = some ⟨oc17, od17, .func (PySem.W.fnOf "ended" "ended" (defArgs s_ended) (defBody s_ended) (defScope s_ended) .none kV17 dc17 pm17 an17 cd17 ct17), sl17⟩)
    (c17 : PySem.W.codeIn K cd17 "ended" = true)
    (k17 : PySem.W.keepIn K (.ref f17) = true)
    (a18 : PySem.W.nsIn K mainGlobals "put" = some (some (.ref f18)))
    (l18 : K.lookup f18 = some ⟨oc18, od18, .func (PySem.W.fnOf "put" "put" (defArgs s_put) (defBody s_put) (defScope s_put) .none kV18 dc18 pm18 an18 cd18 ct18), sl18⟩)
    (c18 : PySem.W.codeIn K cd18 "put" = true)
    (k18 : PySem.W.keepIn K (.ref f18) = true)
    (a19 : PySem.W.nsIn K mainGlobals "written" = some (some (.ref f19)))
    (l19 : K.lookup f19 = some ⟨oc19, od19, .func (PySem.W.fnOf "written" "written" (defArgs s_written) (defBody s_written) (defScope s_written) .none kV19 dc19 pm19 an19 cd19 ct19), sl19⟩)
    (c19 : PySem.W.codeIn K cd19 "written" = true)
    (k19 : PySem.W.keepIn K (.ref f19) = true)
    (a20 : PySem.W.nsIn K mainGlobals "_law_cell_at" = some (some (.ref f20)))
    (l20 : K.lookup f20 = some ⟨oc20, od20, .func (PySem.W.fnOf "_law_cell_at" "_law_cell_at" (defArgs s__law_cell_at) (defBody s__law_cell_at) (defScope s__law_cell_at) .none kV20 dc20 pm20 an20 cd20 ct20), sl20⟩)
    (c20 : PySem.W.codeIn K cd20 "_law_cell_at" = true)
    (k20 : PySem.W.keepIn K (.ref f20) = true)
    (a21 : PySem.W.nsIn K mainGlobals "_law_draw" = some (some (.ref f21)))
    (l21 : K.lookup f21 = some ⟨oc21, od21, .func (PySem.W.fnOf "_law_draw" "_law_draw" (defArgs s__law_draw) (defBody s__law_draw) (defScope s__law_draw) .none kV21 dc21 pm21 an21 cd21 ct21), sl21⟩)
    (c21 : PySem.W.codeIn K cd21 "_law_draw" = true)
    (k21 : PySem.W.keepIn K (.ref f21) = true)
    (a22 : PySem.W.nsIn K mainGlobals "_law_row" = some (some (.ref f22)))
    (l22 : K.lookup f22 = some ⟨oc22, od22, .func (PySem.W.fnOf "_law_row" "_law_row" (defArgs s__law_row) (defBody s__law_row) (defScope s__law_row) .none kV22 dc22 pm22 an22 cd22 ct22), sl22⟩)
    (c22 : PySem.W.codeIn K cd22 "_law_row" = true)
    (k22 : PySem.W.keepIn K (.ref f22) = true)
    (a23 : PySem.W.nsIn K mainGlobals "_law_kinds" = some (some (.ref f23)))
    (l23 : K.lookup f23 = some ⟨oc23, od23, .func (PySem.W.fnOf "_law_kinds" "_law_kinds" (defArgs s__law_kinds) (defBody s__law_kinds) (defScope s__law_kinds) .none kV23 dc23 pm23 an23 cd23 ct23), sl23⟩)
    (c23 : PySem.W.codeIn K cd23 "_law_kinds" = true)
    (k23 : PySem.W.keepIn K (.ref f23) = true)
    (a24 : PySem.W.nsIn K mainGlobals "_law_with_row" = some (some (.ref f24)))
    (l24 : K.lookup f24 = some ⟨oc24, od24, .func (PySem.W.fnOf "_law_with_row" "_law_with_row" (defArgs s__law_with_row) (defBody s__law_with_row) (defScope s__law_with_row) .none kV24 dc24 pm24 an24 cd24 ct24), sl24⟩)
    (c24 : PySem.W.codeIn K cd24 "_law_with_row" = true)
    (k24 : PySem.W.keepIn K (.ref f24) = true)
    (a25 : PySem.W.nsIn K mainGlobals "_law_with_number" = some (some (.ref f25)))
    (l25 : K.lookup f25 = some ⟨oc25, od25, .func (PySem.W.fnOf "_law_with_number" "_law_with_number" (defArgs s__law_with_number) (defBody s__law_with_number) (defScope s__law_with_number) .none kV25 dc25 pm25 an25 cd25 ct25), sl25⟩)
    (c25 : PySem.W.codeIn K cd25 "_law_with_number" = true)
    (k25 : PySem.W.keepIn K (.ref f25) = true)
    (a26 : PySem.W.nsIn K mainGlobals "_law_with_rings" = some (some (.ref f26)))
    (l26 : K.lookup f26 = some ⟨oc26, od26, .func (PySem.W.fnOf "_law_with_rings" "_law_with_rings" (defArgs s__law_with_rings) (defBody s__law_with_rings) (defScope s__law_with_rings) .none kV26 dc26 pm26 an26 cd26 ct26), sl26⟩)
    (c26 : PySem.W.codeIn K cd26 "_law_with_rings" = true)
    (k26 : PySem.W.keepIn K (.ref f26) = true)
    (a27 : PySem.W.nsIn K mainGlobals "_law_with_two" = some (some (.ref f27)))
    (l27 : K.lookup f27 = some ⟨oc27, od27, .func (PySem.W.fnOf "_law_with_two" "_law_with_two" (defArgs s__law_with_two) (defBody s__law_with_two) (defScope s__law_with_two) .none kV27 dc27 pm27 an27 cd27 ct27), sl27⟩)
    (c27 : PySem.W.codeIn K cd27 "_law_with_two" = true)
    (k27 : PySem.W.keepIn K (.ref f27) = true)
    (a28 : PySem.W.nsIn K mainGlobals "_law_told" = some (some (.ref f28)))
    (l28 : K.lookup f28 = some ⟨oc28, od28, .func (PySem.W.fnOf "_law_told" "_law_told" (defArgs s__law_told) (defBody s__law_told) (defScope s__law_told) .none kV28 dc28 pm28 an28 cd28 ct28), sl28⟩)
    (c28 : PySem.W.codeIn K cd28 "_law_told" = true)
    (k28 : PySem.W.keepIn K (.ref f28) = true)
    (a29 : PySem.W.nsIn K mainGlobals "_law_all" = some (some (.ref f29)))
    (l29 : K.lookup f29 = some ⟨oc29, od29, .func (PySem.W.fnOf "_law_all" "_law_all" (defArgs s__law_all) (defBody s__law_all) (defScope s__law_all) .none kV29 dc29 pm29 an29 cd29 ct29), sl29⟩)
    (c29 : PySem.W.codeIn K cd29 "_law_all" = true)
    (k29 : PySem.W.keepIn K (.ref f29) = true)
    (a30 : PySem.W.nsIn K mainGlobals "law" = some (some (.ref f30)))
    (l30 : K.lookup f30 = some ⟨oc30, od30, .func (PySem.W.fnOf "law" "law" (defArgs s_law) (defBody s_law) (defScope s_law) .none kV30 dc30 pm30 an30 cd30 ct30), sl30⟩)
    (c30 : PySem.W.codeIn K cd30 "law" = true)
    (k30 : PySem.W.keepIn K (.ref f30) = true)
    (z_ValueError : PySem.W.nsIn K mainGlobals "ValueError" = some none)
    (z_all : PySem.W.nsIn K mainGlobals "all" = some none)
    (z_bool : PySem.W.nsIn K mainGlobals "bool" = some none)
    (z_enumerate : PySem.W.nsIn K mainGlobals "enumerate" = some none)
    (z_int : PySem.W.nsIn K mainGlobals "int" = some none)
    (z_isinstance : PySem.W.nsIn K mainGlobals "isinstance" = some none)
    (z_len : PySem.W.nsIn K mainGlobals "len" = some none)
    (z_list : PySem.W.nsIn K mainGlobals "list" = some none)
    (z_max : PySem.W.nsIn K mainGlobals "max" = some none)
    (z_min : PySem.W.nsIn K mainGlobals "min" = some none)
    (z_range : PySem.W.nsIn K mainGlobals "range" = some none)
    (z_set : PySem.W.nsIn K mainGlobals "set" = some none)
    (g_MOST : PySem.W.nsIn K mainGlobals "MOST" = some (some (.int 1000000 t_MOST)))
    (aOrderError : PySem.W.nsIn K mainGlobals "OrderError" = some (some (.ref C_OrderError)))
    (aBadRow : PySem.W.nsIn K mainGlobals "BadRow" = some (some (.ref C_BadRow)))
    (aBadNumber : PySem.W.nsIn K mainGlobals "BadNumber" = some (some (.ref C_BadNumber)))
    (aBadRings : PySem.W.nsIn K mainGlobals "BadRings" = some (some (.ref C_BadRings)))
    (aUnlike : PySem.W.nsIn K mainGlobals "Unlike" = some (some (.ref C_Unlike)))
    (aBadText : PySem.W.nsIn K mainGlobals "BadText" = some (some (.ref C_BadText)))
    (sbOrderError : PySem.W.subIn K (.ref C_OrderError) (.type "BaseException") = some true)
    (stOrderError : PySem.W.typeIn K (.ref C_OrderError) = some (.type "type"))
    (hdOrderError : PySem.W.hasDictIn K C_OrderError = true)
    (sbBadRow : PySem.W.subIn K (.ref C_BadRow) (.type "BaseException") = some true)
    (stBadRow : PySem.W.typeIn K (.ref C_BadRow) = some (.type "type"))
    (hdBadRow : PySem.W.hasDictIn K C_BadRow = true)
    (xBadRow : PySem.W.excIn K C_BadRow [.type "ValueError", .type "Exception", .type "BaseException", .type "object"] "ValueError.__new__" = true)
    (kBadRow : PySem.W.keepIn K (.ref C_BadRow) = true)
    (gBadRow : PySem.W.findIn K (.ref C_BadRow) "__getattribute__" = some (some (.builtin "BaseException.__getattribute__")))
    (gaBadRow : PySem.W.findIn K (.ref C_BadRow) "__getattr__" = some none)
    (iaBadRow : PySem.W.findIn K (.ref C_BadRow) "__class__" = some (some (.builtin "object.__class__")))
    (imBadRow : PySem.W.mroIn K C_BadRow (.type "object") = some true)
    (soBadRow : PySem.W.subIn K (.ref C_BadRow) (.ref C_OrderError) = some true)
    (ikBadRowBadRow : PySem.W.kitOne K (.ref C_BadRow) (.ref C_BadRow) = some true)
    (ikBadRowBadNumber : PySem.W.kitOne K (.ref C_BadRow) (.ref C_BadNumber) = some false)
    (ikBadRowBadRings : PySem.W.kitOne K (.ref C_BadRow) (.ref C_BadRings) = some false)
    (ikBadRowUnlike : PySem.W.kitOne K (.ref C_BadRow) (.ref C_Unlike) = some false)
    (ikBadRowBadText : PySem.W.kitOne K (.ref C_BadRow) (.ref C_BadText) = some false)
    (kvBadRow : PySem.W.kitOne K (.ref C_BadRow) (.type "ValueError") = some true)
    (sbBadNumber : PySem.W.subIn K (.ref C_BadNumber) (.type "BaseException") = some true)
    (stBadNumber : PySem.W.typeIn K (.ref C_BadNumber) = some (.type "type"))
    (hdBadNumber : PySem.W.hasDictIn K C_BadNumber = true)
    (xBadNumber : PySem.W.excIn K C_BadNumber [.type "ValueError", .type "Exception", .type "BaseException", .type "object"] "ValueError.__new__" = true)
    (kBadNumber : PySem.W.keepIn K (.ref C_BadNumber) = true)
    (gBadNumber : PySem.W.findIn K (.ref C_BadNumber) "__getattribute__" = some (some (.builtin "BaseException.__getattribute__")))
    (gaBadNumber : PySem.W.findIn K (.ref C_BadNumber) "__getattr__" = some none)
    (iaBadNumber : PySem.W.findIn K (.ref C_BadNumber) "__class__" = some (some (.builtin "object.__class__")))
    (imBadNumber : PySem.W.mroIn K C_BadNumber (.type "object") = some true)
    (soBadNumber : PySem.W.subIn K (.ref C_BadNumber) (.ref C_OrderError) = some true)
    (ikBadNumberBadRow : PySem.W.kitOne K (.ref C_BadNumber) (.ref C_BadRow) = some false)
    (ikBadNumberBadNumber : PySem.W.kitOne K (.ref C_BadNumber) (.ref C_BadNumber) = some true)
    (ikBadNumberBadRings : PySem.W.kitOne K (.ref C_BadNumber) (.ref C_BadRings) = some false)
    (ikBadNumberUnlike : PySem.W.kitOne K (.ref C_BadNumber) (.ref C_Unlike) = some false)
    (ikBadNumberBadText : PySem.W.kitOne K (.ref C_BadNumber) (.ref C_BadText) = some false)
    (kvBadNumber : PySem.W.kitOne K (.ref C_BadNumber) (.type "ValueError") = some true)
    (sbBadRings : PySem.W.subIn K (.ref C_BadRings) (.type "BaseException") = some true)
    (stBadRings : PySem.W.typeIn K (.ref C_BadRings) = some (.type "type"))
    (hdBadRings : PySem.W.hasDictIn K C_BadRings = true)
    (xBadRings : PySem.W.excIn K C_BadRings [.type "ValueError", .type "Exception", .type "BaseException", .type "object"] "ValueError.__new__" = true)
    (kBadRings : PySem.W.keepIn K (.ref C_BadRings) = true)
    (gBadRings : PySem.W.findIn K (.ref C_BadRings) "__getattribute__" = some (some (.builtin "BaseException.__getattribute__")))
    (gaBadRings : PySem.W.findIn K (.ref C_BadRings) "__getattr__" = some none)
    (iaBadRings : PySem.W.findIn K (.ref C_BadRings) "__class__" = some (some (.builtin "object.__class__")))
    (imBadRings : PySem.W.mroIn K C_BadRings (.type "object") = some true)
    (soBadRings : PySem.W.subIn K (.ref C_BadRings) (.ref C_OrderError) = some true)
    (ikBadRingsBadRow : PySem.W.kitOne K (.ref C_BadRings) (.ref C_BadRow) = some false)
    (ikBadRingsBadNumber : PySem.W.kitOne K (.ref C_BadRings) (.ref C_BadNumber) = some false)
    (ikBadRingsBadRings : PySem.W.kitOne K (.ref C_BadRings) (.ref C_BadRings) = some true)
    (ikBadRingsUnlike : PySem.W.kitOne K (.ref C_BadRings) (.ref C_Unlike) = some false)
    (ikBadRingsBadText : PySem.W.kitOne K (.ref C_BadRings) (.ref C_BadText) = some false)
    (kvBadRings : PySem.W.kitOne K (.ref C_BadRings) (.type "ValueError") = some true)
    (sbUnlike : PySem.W.subIn K (.ref C_Unlike) (.type "BaseException") = some true)
    (stUnlike : PySem.W.typeIn K (.ref C_Unlike) = some (.type "type"))
    (hdUnlike : PySem.W.hasDictIn K C_Unlike = true)
    (xUnlike : PySem.W.excIn K C_Unlike [.type "ValueError", .type "Exception", .type "BaseException", .type "object"] "ValueError.__new__" = true)
    (kUnlike : PySem.W.keepIn K (.ref C_Unlike) = true)
    (gUnlike : PySem.W.findIn K (.ref C_Unlike) "__getattribute__" = some (some (.builtin "BaseException.__getattribute__")))
    (gaUnlike : PySem.W.findIn K (.ref C_Unlike) "__getattr__" = some none)
    (iaUnlike : PySem.W.findIn K (.ref C_Unlike) "__class__" = some (some (.builtin "object.__class__")))
    (imUnlike : PySem.W.mroIn K C_Unlike (.type "object") = some true)
    (soUnlike : PySem.W.subIn K (.ref C_Unlike) (.ref C_OrderError) = some true)
    (ikUnlikeBadRow : PySem.W.kitOne K (.ref C_Unlike) (.ref C_BadRow) = some false)
    (ikUnlikeBadNumber : PySem.W.kitOne K (.ref C_Unlike) (.ref C_BadNumber) = some false)
    (ikUnlikeBadRings : PySem.W.kitOne K (.ref C_Unlike) (.ref C_BadRings) = some false)
    (ikUnlikeUnlike : PySem.W.kitOne K (.ref C_Unlike) (.ref C_Unlike) = some true)
    (ikUnlikeBadText : PySem.W.kitOne K (.ref C_Unlike) (.ref C_BadText) = some false)
    (kvUnlike : PySem.W.kitOne K (.ref C_Unlike) (.type "ValueError") = some true)
    (ihn : PySem.W.specialIn K (.builtin "object.__class__") "__get__" = some (some (.builtin "getset_descriptor.__get__")))
    (iht : PySem.W.takesIn K (.builtin "object.__class__") = some true) :
    ∃ fd : FuncData, (∀ (s : Shared) (v : Value), BindsTo s fd ⟨[v], []⟩ [("_law_script", v)]) ∧ ∀ base : Heap, K.In base → base.Ns mainGlobals mg → FnOk l.prog w K mg base L2.CX0 7 fa fd ["_law_script"] (sp_law K) := by
  have e := hfa.symm.trans (PySem.W.mg_of X G a30)
  cases e
  have T : Top K mg 0 0 0 0 0 C_OrderError C_BadRow C_BadNumber C_BadRings C_Unlike C_BadText := { d_is_number := ⟨_, _, PySem.W.mg_of X G a1, fun_mk (st := s_is_number) l1 c1 k1, (fun_mk (st := s_is_number) l1 c1 k1).binds (ps := ["thing", "low", "high"]) fun _ _ _ _ _ _ us hl => match us, hl with | [_, _, _], _ => rfl⟩, d_check_row := ⟨_, _, PySem.W.mg_of X G a2, fun_mk (st := s_check_row) l2 c2 k2, (fun_mk (st := s_check_row) l2 c2 k2).binds (ps := ["row"]) fun _ _ _ _ _ _ us hl => match us, hl with | [_], _ => rfl⟩, d_behind := ⟨_, _, PySem.W.mg_of X G a3, fun_mk (st := s_behind) l3 c3 k3, (fun_mk (st := s_behind) l3 c3 k3).binds (ps := ["one", "other"]) fun _ _ _ _ _ _ us hl => match us, hl with | [_, _], _ => rfl⟩, d_places_of := ⟨_, _, PySem.W.mg_of X G a4, fun_mk (st := s_places_of) l4 c4 k4, (fun_mk (st := s_places_of) l4 c4 k4).binds (ps := ["row"]) fun _ _ _ _ _ _ us hl => match us, hl with | [_], _ => rfl⟩, d_back := ⟨_, _, PySem.W.mg_of X G a5, fun_mk (st := s_back) l5 c5 k5, (fun_mk (st := s_back) l5 c5 k5).binds (ps := ["row"]) fun _ _ _ _ _ _ us hl => match us, hl with | [_], _ => rfl⟩, d_wrong := ⟨_, _, PySem.W.mg_of X G a6, fun_mk (st := s_wrong) l6 c6 k6, (fun_mk (st := s_wrong) l6 c6 k6).binds (ps := ["row"]) fun _ _ _ _ _ _ us hl => match us, hl with | [_], _ => rfl⟩, d_rings_of := ⟨_, _, PySem.W.mg_of X G a7, fun_mk (st := s_rings_of) l7 c7 k7, (fun_mk (st := s_rings_of) l7 c7 k7).binds (ps := ["row"]) fun _ _ _ _ _ _ us hl => match us, hl with | [_], _ => rfl⟩, d_rings := ⟨_, _, PySem.W.mg_of X G a8, fun_mk (st := s_rings) l8 c8 k8, (fun_mk (st := s_rings) l8 c8 k8).binds (ps := ["row"]) fun _ _ _ _ _ _ us hl => match us, hl with | [_], _ => rfl⟩, d_row_of := ⟨_, _, PySem.W.mg_of X G a9, fun_mk (st := s_row_of) l9 c9 k9, (fun_mk (st := s_row_of) l9 c9 k9).binds (ps := ["many", "told"]) fun _ _ _ _ _ _ us hl => match us, hl with | [_, _], _ => rfl⟩, d_is_ring := ⟨_, _, PySem.W.mg_of X G a10, fun_mk (st := s_is_ring) l10 c10 k10, (fun_mk (st := s_is_ring) l10 c10 k10).binds (ps := ["ring", "many"]) fun _ _ _ _ _ _ us hl => match us, hl with | [_, _], _ => rfl⟩, d_of_rings := ⟨_, _, PySem.W.mg_of X G a11, fun_mk (st := s_of_rings) l11 c11 k11, (fun_mk (st := s_of_rings) l11 c11 k11).binds (ps := ["many", "told"]) fun _ _ _ _ _ _ us hl => match us, hl with | [_, _], _ => rfl⟩, d_times := ⟨_, _, PySem.W.mg_of X G a12, fun_mk (st := s_times) l12 c12 k12, (fun_mk (st := s_times) l12 c12 k12).binds (ps := ["row", "number"]) fun _ _ _ _ _ _ us hl => match us, hl with | [_, _], _ => rfl⟩, d_common := ⟨_, _, PySem.W.mg_of X G a13, fun_mk (st := s_common) l13 c13 k13, (fun_mk (st := s_common) l13 c13 k13).binds (ps := ["one", "other"]) fun _ _ _ _ _ _ us hl => match us, hl with | [_, _], _ => rfl⟩, d_turns := ⟨_, _, PySem.W.mg_of X G a14, fun_mk (st := s_turns) l14 c14 k14, (fun_mk (st := s_turns) l14 c14 k14).binds (ps := ["row"]) fun _ _ _ _ _ _ us hl => match us, hl with | [_], _ => rfl⟩, d_exchanged := ⟨_, _, PySem.W.mg_of X G a15, fun_mk (st := s_exchanged) l15 c15 k15, (fun_mk (st := s_exchanged) l15 c15 k15).binds (ps := ["row"]) fun _ _ _ _ _ _ us hl => match us, hl with | [_], _ => rfl⟩, d_fronted := ⟨_, _, PySem.W.mg_of X G a16, fun_mk (st := s_fronted) l16 c16 k16, (fun_mk (st := s_fronted) l16 c16 k16).binds (ps := ["row"]) fun _ _ _ _ _ _ us hl => match us, hl with | [_], _ => rfl⟩, d_ended := ⟨_, _, PySem.W.mg_of X G a17, fun_mk (st := s_ended) l17 c17 k17, (fun_mk (st := s_ended) l17 c17 k17).binds (ps := ["row"]) fun _ _ _ _ _ _ us hl => match us, hl with | [_], _ => rfl⟩, d_put := ⟨_, _, PySem.W.mg_of X G a18, fun_mk (st := s_put) l18 c18 k18, (fun_mk (st := s_put) l18 c18 k18).binds (ps := ["row"]) fun _ _ _ _ _ _ us hl => match us, hl with | [_], _ => rfl⟩, d_written := ⟨_, _, PySem.W.mg_of X G a19, fun_mk (st := s_written) l19 c19 k19, (fun_mk (st := s_written) l19 c19 k19).binds (ps := ["row"]) fun _ _ _ _ _ _ us hl => match us, hl with | [_], _ => rfl⟩, d__law_cell_at := ⟨_, _, PySem.W.mg_of X G a20, fun_mk (st := s__law_cell_at) l20 c20 k20, (fun_mk (st := s__law_cell_at) l20 c20 k20).binds (ps := ["_law_script", "_law_k"]) fun _ _ _ _ _ _ us hl => match us, hl with | [_, _], _ => rfl⟩, d__law_draw := ⟨_, _, PySem.W.mg_of X G a21, fun_mk (st := s__law_draw) l21 c21 k21, (fun_mk (st := s__law_draw) l21 c21 k21).binds (ps := ["_law_cell", "_law_k", "_law_many"]) fun _ _ _ _ _ _ us hl => match us, hl with | [_, _, _], _ => rfl⟩, d__law_row := ⟨_, _, PySem.W.mg_of X G a22, fun_mk (st := s__law_row) l22 c22 k22, (fun_mk (st := s__law_row) l22 c22 k22).binds (ps := ["_law_script"]) fun _ _ _ _ _ _ us hl => match us, hl with | [_], _ => rfl⟩, d__law_kinds := ⟨_, _, PySem.W.mg_of X G a23, fun_mk (st := s__law_kinds) l23 c23 k23, (fun_mk (st := s__law_kinds) l23 c23 k23).binds (ps := ["_law_error"]) fun _ _ _ _ _ _ us hl => match us, hl with | [_], _ => rfl⟩, d__law_with_row := ⟨_, _, PySem.W.mg_of X G a24, fun_mk (st := s__law_with_row) l24 c24 k24, (fun_mk (st := s__law_with_row) l24 c24 k24).binds (ps := ["_law_door", "_law_row_here"]) fun _ _ _ _ _ _ us hl => match us, hl with | [_, _], _ => rfl⟩, d__law_with_number := ⟨_, _, PySem.W.mg_of X G a25, fun_mk (st := s__law_with_number) l25 c25 k25, (fun_mk (st := s__law_with_number) l25 c25 k25).binds (ps := ["_law_door", "_law_thing"]) fun _ _ _ _ _ _ us hl => match us, hl with | [_, _], _ => rfl⟩, d__law_with_rings := ⟨_, _, PySem.W.mg_of X G a26, fun_mk (st := s__law_with_rings) l26 c26 k26, (fun_mk (st := s__law_with_rings) l26 c26 k26).binds (ps := ["_law_door", "_law_thing"]) fun _ _ _ _ _ _ us hl => match us, hl with | [_, _], _ => rfl⟩, d__law_with_two := ⟨_, _, PySem.W.mg_of X G a27, fun_mk (st := s__law_with_two) l27 c27 k27, (fun_mk (st := s__law_with_two) l27 c27 k27).binds (ps := ["_law_one", "_law_other"]) fun _ _ _ _ _ _ us hl => match us, hl with | [_, _], _ => rfl⟩, d__law_told := ⟨_, _, PySem.W.mg_of X G a28, fun_mk (st := s__law_told) l28 c28 k28, (fun_mk (st := s__law_told) l28 c28 k28).binds (ps := ["_law_ask", "_law_one", "_law_other"]) fun _ _ _ _ _ _ us hl => match us, hl with | [_, _, _], _ => rfl⟩, d__law_all := ⟨_, _, PySem.W.mg_of X G a29, fun_mk (st := s__law_all) l29 c29 k29, (fun_mk (st := s__law_all) l29 c29 k29).binds (ps := ["_law_ask", "_law_doors", "_law_things", "_law_due"]) fun _ _ _ _ _ _ us hl => match us, hl with | [_, _, _, _], _ => rfl⟩, d_law := ⟨_, _, PySem.W.mg_of X G a30, fun_mk (st := s_law) l30 c30 k30, (fun_mk (st := s_law) l30 c30 k30).binds (ps := ["_law_script"]) fun _ _ _ _ _ _ us hl => match us, hl with | [_], _ => rfl⟩, b_ValueError := PySem.W.mg_none_of X G z_ValueError, b_all := PySem.W.mg_none_of X G z_all, b_bool := PySem.W.mg_none_of X G z_bool, b_enumerate := PySem.W.mg_none_of X G z_enumerate, b_int := PySem.W.mg_none_of X G z_int, b_isinstance := PySem.W.mg_none_of X G z_isinstance, b_len := PySem.W.mg_none_of X G z_len, b_list := PySem.W.mg_none_of X G z_list, b_max := PySem.W.mg_none_of X G z_max, b_min := PySem.W.mg_none_of X G z_min, b_range := PySem.W.mg_none_of X G z_range, b_set := PySem.W.mg_none_of X G z_set, g_MOST := ⟨_, PySem.W.mg_of X G g_MOST⟩, c_OrderError := PySem.W.mg_of X G aOrderError, c_BadRow := PySem.W.mg_of X G aBadRow, c_BadNumber := PySem.W.mg_of X G aBadNumber, c_BadRings := PySem.W.mg_of X G aBadRings, c_Unlike := PySem.W.mg_of X G aUnlike, c_BadText := PySem.W.mg_of X G aBadText, kq_BadRow_BadRow := ikBadRowBadRow, kq_BadRow_BadNumber := ikBadRowBadNumber, kq_BadRow_BadRings := ikBadRowBadRings, kq_BadRow_Unlike := ikBadRowUnlike, kq_BadRow_BadText := ikBadRowBadText, x_BadRow := xBadRow, k_BadRow := kBadRow, sb_BadRow := sbBadRow, st_BadRow := stBadRow, kv_BadRow := kvBadRow, ec_BadRow := ⟨gBadRow, gaBadRow, sbBadRow, hdBadRow, iaBadRow, ihn, iht, imBadRow⟩, em_BadRow := PySem.W.exm_ref sbOrderError hdOrderError stOrderError soBadRow, kq_BadNumber_BadRow := ikBadNumberBadRow, kq_BadNumber_BadNumber := ikBadNumberBadNumber, kq_BadNumber_BadRings := ikBadNumberBadRings, kq_BadNumber_Unlike := ikBadNumberUnlike, kq_BadNumber_BadText := ikBadNumberBadText, x_BadNumber := xBadNumber, k_BadNumber := kBadNumber, sb_BadNumber := sbBadNumber, st_BadNumber := stBadNumber, kv_BadNumber := kvBadNumber, ec_BadNumber := ⟨gBadNumber, gaBadNumber, sbBadNumber, hdBadNumber, iaBadNumber, ihn, iht, imBadNumber⟩, em_BadNumber := PySem.W.exm_ref sbOrderError hdOrderError stOrderError soBadNumber, kq_BadRings_BadRow := ikBadRingsBadRow, kq_BadRings_BadNumber := ikBadRingsBadNumber, kq_BadRings_BadRings := ikBadRingsBadRings, kq_BadRings_Unlike := ikBadRingsUnlike, kq_BadRings_BadText := ikBadRingsBadText, x_BadRings := xBadRings, k_BadRings := kBadRings, sb_BadRings := sbBadRings, st_BadRings := stBadRings, kv_BadRings := kvBadRings, ec_BadRings := ⟨gBadRings, gaBadRings, sbBadRings, hdBadRings, iaBadRings, ihn, iht, imBadRings⟩, em_BadRings := PySem.W.exm_ref sbOrderError hdOrderError stOrderError soBadRings, kq_Unlike_BadRow := ikUnlikeBadRow, kq_Unlike_BadNumber := ikUnlikeBadNumber, kq_Unlike_BadRings := ikUnlikeBadRings, kq_Unlike_Unlike := ikUnlikeUnlike, kq_Unlike_BadText := ikUnlikeBadText, x_Unlike := xUnlike, k_Unlike := kUnlike, sb_Unlike := sbUnlike, st_Unlike := stUnlike, kv_Unlike := kvUnlike, ec_Unlike := ⟨gUnlike, gaUnlike, sbUnlike, hdUnlike, iaUnlike, ihn, iht, imUnlike⟩, em_Unlike := PySem.W.exm_ref sbOrderError hdOrderError stOrderError soUnlike }
  exact ⟨_, fun s v => .of_eq rfl, fun base _ _ => ok_law T (fun_mk (st := s_law) l30 c30 k30)⟩
end Bo
open PySem PySem.W PyProof.Rows
set_option maxRecDepth 100000 in
set_option maxHeartbeats 0 in
theorem PySem.Challenge.cw_backorder_k08_refused_holds : PySem.Challenge.rw_backorder_k08_refused.Holds := by
  w_on; o_law; k_head; (case hw => w_witness2)
  k_fill
  refine L2.walk_of (l := PySem.Challenge.rw_backorder_k08_refused) (n := 63) (k := 7) (x := "_law_script") (CX := fun _ => L2.CX0) (sp := fun w => Bo.sp_law _) rfl (by decide) rfl ⟨rfl, by decide, by decide⟩ (fun w h Y => PySem.W.kIn_of Y) ?F (fun _ _ a ns hl _ hS => ⟨a, ns, rfl, hS, hl, fun _ => rfl⟩) (fun _ _ _ _ _ h => h)
  case F =>
    intro w mg fa h KX G hmg
    refine' Bo.all_mk KX G hmg ?a1 ?l1 ?c1 ?k1 ?a2 ?l2 ?c2 ?k2 ?a3 ?l3 ?c3 ?k3 ?a4 ?l4 ?c4 ?k4 ?a5 ?l5 ?c5 ?k5 ?a6 ?l6 ?c6 ?k6 ?a7 ?l7 ?c7 ?k7 ?a8 ?l8 ?c8 ?k8 ?a9 ?l9 ?c9 ?k9 ?a10 ?l10 ?c10 ?k10 ?a11 ?l11 ?c11 ?k11 ?a12 ?l12 ?c12 ?k12 ?a13 ?l13 ?c13 ?k13 ?a14 ?l14 ?c14 ?k14 ?a15 ?l15 ?c15 ?k15 ?a16 ?l16 ?c16 ?k16 ?a17 ?l17 ?c17 ?k17 ?a18 ?l18 ?c18 ?k18 ?a19 ?l19 ?c19 ?k19 ?a20 ?l20 ?c20 ?k20 ?a21 ?l21 ?c21 ?k21 ?a22 ?l22 ?c22 ?k22 ?a23 ?l23 ?c23 ?k23 ?a24 ?l24 ?c24 ?k24 ?a25 ?l25 ?c25 ?k25 ?a26 ?l26 ?c26 ?k26 ?a27 ?l27 ?c27 ?k27 ?a28 ?l28 ?c28 ?k28 ?a29 ?l29 ?c29 ?k29 ?a30 ?l30 ?c30 ?k30 ?z_ValueError ?z_all ?z_bool ?z_enumerate ?z_int ?z_isinstance ?z_len ?z_list ?z_max ?z_min ?z_range ?z_set ?g_MOST ?aOrderError ?aBadRow ?aBadNumber ?aBadRings ?aUnlike ?aBadText ?sbOrderError ?stOrderError ?hdOrderError ?sbBadRow ?stBadRow ?hdBadRow ?xBadRow ?kBadRow ?gBadRow ?gaBadRow ?iaBadRow ?imBadRow ?soBadRow ?ikBadRowBadRow ?ikBadRowBadNumber ?ikBadRowBadRings ?ikBadRowUnlike ?ikBadRowBadText ?kvBadRow ?sbBadNumber ?stBadNumber ?hdBadNumber ?xBadNumber ?kBadNumber ?gBadNumber ?gaBadNumber ?iaBadNumber ?imBadNumber ?soBadNumber ?ikBadNumberBadRow ?ikBadNumberBadNumber ?ikBadNumberBadRings ?ikBadNumberUnlike ?ikBadNumberBadText ?kvBadNumber ?sbBadRings ?stBadRings ?hdBadRings ?xBadRings ?kBadRings ?gBadRings ?gaBadRings ?iaBadRings ?imBadRings ?soBadRings ?ikBadRingsBadRow ?ikBadRingsBadNumber ?ikBadRingsBadRings ?ikBadRingsUnlike ?ikBadRingsBadText ?kvBadRings ?sbUnlike ?stUnlike ?hdUnlike ?xUnlike ?kUnlike ?gUnlike ?gaUnlike ?iaUnlike ?imUnlike ?soUnlike ?ikUnlikeBadRow ?ikUnlikeBadNumber ?ikUnlikeBadRings ?ikUnlikeUnlike ?ikUnlikeBadText ?kvUnlike ?ihn ?iht
    (case a1 => first | k_is | kit_is | k_exc)
    (case l1 => first | k_is | kit_is | k_exc)
    (case c1 => first | k_is | kit_is | k_exc)
    (case k1 => first | k_is | kit_is | k_exc)
    (case a2 => first | k_is | kit_is | k_exc)
    (case l2 => first | k_is | kit_is | k_exc)
    (case c2 => first | k_is | kit_is | k_exc)
    (case k2 => first | k_is | kit_is | k_exc)
    (case a3 => first | k_is | kit_is | k_exc)
    (case l3 => first | k_is | kit_is | k_exc)
    (case c3 => first | k_is | kit_is | k_exc)
    (case k3 => first | k_is | kit_is | k_exc)
    (case a4 => first | k_is | kit_is | k_exc)
    (case l4 => first | k_is | kit_is | k_exc)
    (case c4 => first | k_is | kit_is | k_exc)
    (case k4 => first | k_is | kit_is | k_exc)
    (case a5 => first | k_is | kit_is | k_exc)
    (case l5 => first | k_is | kit_is | k_exc)
    (case c5 => first | k_is | kit_is | k_exc)
    (case k5 => first | k_is | kit_is | k_exc)
    (case a6 => first | k_is | kit_is | k_exc)
    (case l6 => first | k_is | kit_is | k_exc)
    (case c6 => first | k_is | kit_is | k_exc)
    (case k6 => first | k_is | kit_is | k_exc)
    (case a7 => first | k_is | kit_is | k_exc)
    (case l7 => first | k_is | kit_is | k_exc)
    (case c7 => first | k_is | kit_is | k_exc)
    (case k7 => first | k_is | kit_is | k_exc)
    (case a8 => first | k_is | kit_is | k_exc)
    (case l8 => first | k_is | kit_is | k_exc)
    (case c8 => first | k_is | kit_is | k_exc)
    (case k8 => first | k_is | kit_is | k_exc)
    (case a9 => first | k_is | kit_is | k_exc)
    (case l9 => first | k_is | kit_is | k_exc)
    (case c9 => first | k_is | kit_is | k_exc)
    (case k9 => first | k_is | kit_is | k_exc)
    (case a10 => first | k_is | kit_is | k_exc)
    (case l10 => first | k_is | kit_is | k_exc)
    (case c10 => first | k_is | kit_is | k_exc)
    (case k10 => first | k_is | kit_is | k_exc)
    (case a11 => first | k_is | kit_is | k_exc)
    (case l11 => first | k_is | kit_is | k_exc)
    (case c11 => first | k_is | kit_is | k_exc)
    (case k11 => first | k_is | kit_is | k_exc)
    (case a12 => first | k_is | kit_is | k_exc)
    (case l12 => first | k_is | kit_is | k_exc)
    (case c12 => first | k_is | kit_is | k_exc)
    (case k12 => first | k_is | kit_is | k_exc)
    (case a13 => first | k_is | kit_is | k_exc)
    (case l13 => first | k_is | kit_is | k_exc)
    (case c13 => first | k_is | kit_is | k_exc)
    (case k13 => first | k_is | kit_is | k_exc)
    (case a14 => first | k_is | kit_is | k_exc)
    (case l14 => first | k_is | kit_is | k_exc)
    (case c14 => first | k_is | kit_is | k_exc)
    (case k14 => first | k_is | kit_is | k_exc)
    (case a15 => first | k_is | kit_is | k_exc)
    (case l15 => first | k_is | kit_is | k_exc)
    (case c15 => first | k_is | kit_is | k_exc)
    (case k15 => first | k_is | kit_is | k_exc)
    (case a16 => first | k_is | kit_is | k_exc)
    (case l16 => first | k_is | kit_is | k_exc)
    (case c16 => first | k_is | kit_is | k_exc)
    (case k16 => first | k_is | kit_is | k_exc)
    (case a17 => first | k_is | kit_is | k_exc)
    (case l17 => first | k_is | kit_is | k_exc)
    (case c17 => first | k_is | kit_is | k_exc)
    (case k17 => first | k_is | kit_is | k_exc)
    (case a18 => first | k_is | kit_is | k_exc)
    (case l18 => first | k_is | kit_is | k_exc)
    (case c18 => first | k_is | kit_is | k_exc)
    (case k18 => first | k_is | kit_is | k_exc)
    (case a19 => first | k_is | kit_is | k_exc)
    (case l19 => first | k_is | kit_is | k_exc)
    (case c19 => first | k_is | kit_is | k_exc)
    (case k19 => first | k_is | kit_is | k_exc)
    (case a20 => first | k_is | kit_is | k_exc)
    (case l20 => first | k_is | kit_is | k_exc)
    (case c20 => first | k_is | kit_is | k_exc)
    (case k20 => first | k_is | kit_is | k_exc)
    (case a21 => first | k_is | kit_is | k_exc)
    (case l21 => first | k_is | kit_is | k_exc)
    (case c21 => first | k_is | kit_is | k_exc)
    (case k21 => first | k_is | kit_is | k_exc)
    (case a22 => first | k_is | kit_is | k_exc)
    (case l22 => first | k_is | kit_is | k_exc)
    (case c22 => first | k_is | kit_is | k_exc)
    (case k22 => first | k_is | kit_is | k_exc)
    (case a23 => first | k_is | kit_is | k_exc)
    (case l23 => first | k_is | kit_is | k_exc)
    (case c23 => first | k_is | kit_is | k_exc)
    (case k23 => first | k_is | kit_is | k_exc)
    (case a24 => first | k_is | kit_is | k_exc)
    (case l24 => first | k_is | kit_is | k_exc)
    (case c24 => first | k_is | kit_is | k_exc)
    (case k24 => first | k_is | kit_is | k_exc)
    (case a25 => first | k_is | kit_is | k_exc)
    (case l25 => first | k_is | kit_is | k_exc)
    (case c25 => first | k_is | kit_is | k_exc)
    (case k25 => first | k_is | kit_is | k_exc)
    (case a26 => first | k_is | kit_is | k_exc)
    (case l26 => first | k_is | kit_is | k_exc)
    (case c26 => first | k_is | kit_is | k_exc)
    (case k26 => first | k_is | kit_is | k_exc)
    (case a27 => first | k_is | kit_is | k_exc)
    (case l27 => first | k_is | kit_is | k_exc)
    (case c27 => first | k_is | kit_is | k_exc)
    (case k27 => first | k_is | kit_is | k_exc)
    (case a28 => first | k_is | kit_is | k_exc)
    (case l28 => first | k_is | kit_is | k_exc)
    (case c28 => first | k_is | kit_is | k_exc)
    (case k28 => first | k_is | kit_is | k_exc)
    (case a29 => first | k_is | kit_is | k_exc)
    (case l29 => first | k_is | kit_is | k_exc)
    (case c29 => first | k_is | kit_is | k_exc)
    (case k29 => first | k_is | kit_is | k_exc)
    (case a30 => first | k_is | kit_is | k_exc)
    (case l30 => first | k_is | kit_is | k_exc)
    (case c30 => first | k_is | kit_is | k_exc)
    (case k30 => first | k_is | kit_is | k_exc)
    (case z_ValueError => first | k_is | kit_is | k_exc)
    (case z_all => first | k_is | kit_is | k_exc)
    (case z_bool => first | k_is | kit_is | k_exc)
    (case z_enumerate => first | k_is | kit_is | k_exc)
    (case z_int => first | k_is | kit_is | k_exc)
    (case z_isinstance => first | k_is | kit_is | k_exc)
    (case z_len => first | k_is | kit_is | k_exc)
    (case z_list => first | k_is | kit_is | k_exc)
    (case z_max => first | k_is | kit_is | k_exc)
    (case z_min => first | k_is | kit_is | k_exc)
    (case z_range => first | k_is | kit_is | k_exc)
    (case z_set => first | k_is | kit_is | k_exc)
    (case g_MOST => first | k_is | kit_is | k_exc)
    (case aOrderError => first | k_is | kit_is | k_exc)
    (case aBadRow => first | k_is | kit_is | k_exc)
    (case aBadNumber => first | k_is | kit_is | k_exc)
    (case aBadRings => first | k_is | kit_is | k_exc)
    (case aUnlike => first | k_is | kit_is | k_exc)
    (case aBadText => first | k_is | kit_is | k_exc)
    (case sbOrderError => first | k_is | kit_is | k_exc)
    (case stOrderError => first | k_is | kit_is | k_exc)
    (case hdOrderError => first | k_is | kit_is | k_exc)
    (case sbBadRow => first | k_is | kit_is | k_exc)
    (case stBadRow => first | k_is | kit_is | k_exc)
    (case hdBadRow => first | k_is | kit_is | k_exc)
    (case xBadRow => first | k_is | kit_is | k_exc)
    (case kBadRow => first | k_is | kit_is | k_exc)
    (case gBadRow => first | k_is | kit_is | k_exc)
    (case gaBadRow => first | k_is | kit_is | k_exc)
    (case iaBadRow => first | k_is | kit_is | k_exc)
    (case imBadRow => first | k_is | kit_is | k_exc)
    (case soBadRow => first | k_is | kit_is | k_exc)
    (case ikBadRowBadRow => first | k_is | kit_is | k_exc)
    (case ikBadRowBadNumber => first | k_is | kit_is | k_exc)
    (case ikBadRowBadRings => first | k_is | kit_is | k_exc)
    (case ikBadRowUnlike => first | k_is | kit_is | k_exc)
    (case ikBadRowBadText => first | k_is | kit_is | k_exc)
    (case kvBadRow => first | k_is | kit_is | k_exc)
    (case sbBadNumber => first | k_is | kit_is | k_exc)
    (case stBadNumber => first | k_is | kit_is | k_exc)
    (case hdBadNumber => first | k_is | kit_is | k_exc)
    (case xBadNumber => first | k_is | kit_is | k_exc)
    (case kBadNumber => first | k_is | kit_is | k_exc)
    (case gBadNumber => first | k_is | kit_is | k_exc)
    (case gaBadNumber => first | k_is | kit_is | k_exc)
    (case iaBadNumber => first | k_is | kit_is | k_exc)
    (case imBadNumber => first | k_is | kit_is | k_exc)
    (case soBadNumber => first | k_is | kit_is | k_exc)
    (case ikBadNumberBadRow => first | k_is | kit_is | k_exc)
    (case ikBadNumberBadNumber => first | k_is | kit_is | k_exc)
    (case ikBadNumberBadRings => first | k_is | kit_is | k_exc)
    (case ikBadNumberUnlike => first | k_is | kit_is | k_exc)
    (case ikBadNumberBadText => first | k_is | kit_is | k_exc)
    (case kvBadNumber => first | k_is | kit_is | k_exc)
    (case sbBadRings => first | k_is | kit_is | k_exc)
    (case stBadRings => first | k_is | kit_is | k_exc)
    (case hdBadRings => first | k_is | kit_is | k_exc)
    (case xBadRings => first | k_is | kit_is | k_exc)
    (case kBadRings => first | k_is | kit_is | k_exc)
    (case gBadRings => first | k_is | kit_is | k_exc)
    (case gaBadRings => first | k_is | kit_is | k_exc)
    (case iaBadRings => first | k_is | kit_is | k_exc)
    (case imBadRings => first | k_is | kit_is | k_exc)
    (case soBadRings => first | k_is | kit_is | k_exc)
    (case ikBadRingsBadRow => first | k_is | kit_is | k_exc)
    (case ikBadRingsBadNumber => first | k_is | kit_is | k_exc)
    (case ikBadRingsBadRings => first | k_is | kit_is | k_exc)
    (case ikBadRingsUnlike => first | k_is | kit_is | k_exc)
    (case ikBadRingsBadText => first | k_is | kit_is | k_exc)
    (case kvBadRings => first | k_is | kit_is | k_exc)
    (case sbUnlike => first | k_is | kit_is | k_exc)
    (case stUnlike => first | k_is | kit_is | k_exc)
    (case hdUnlike => first | k_is | kit_is | k_exc)
    (case xUnlike => first | k_is | kit_is | k_exc)
    (case kUnlike => first | k_is | kit_is | k_exc)
    (case gUnlike => first | k_is | kit_is | k_exc)
    (case gaUnlike => first | k_is | kit_is | k_exc)
    (case iaUnlike => first | k_is | kit_is | k_exc)
    (case imUnlike => first | k_is | kit_is | k_exc)
    (case soUnlike => first | k_is | kit_is | k_exc)
    (case ikUnlikeBadRow => first | k_is | kit_is | k_exc)
    (case ikUnlikeBadNumber => first | k_is | kit_is | k_exc)
    (case ikUnlikeBadRings => first | k_is | kit_is | k_exc)
    (case ikUnlikeUnlike => first | k_is | kit_is | k_exc)
    (case ikUnlikeBadText => first | k_is | kit_is | k_exc)
    (case kvUnlike => first | k_is | kit_is | k_exc)
    (case ihn => first | k_is | kit_is | k_exc)
    (case iht => first | k_is | kit_is | k_exc)

