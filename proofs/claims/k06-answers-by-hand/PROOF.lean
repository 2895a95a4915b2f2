import PyProof.Rows.All
import Wide.All
import OpenK.AllK
import Wide.FinOn
import HandS.ForMost
import HandS.ForExc
import HandS.IsInst
import HandS.Conv
import HandS.SortInts
import HandS.SetFor
import HandS.More
import HandS.Style
import HandS.Zip
import HandS.Codes
import HandS.ExcIs
import HandS.CallLocal
import HandS.StrMore
import PySem.Challenge.RW_backorder_k06_answers_by_hand
import HandS.Deep
set_option Elab.async false
set_option linter.all false
set_option maxRecDepth 100000
set_option maxHeartbeats 4000000
namespace Bo
open PySem PySem.Spec PyProof.Rows L2

/-! ### defs, methods, classes of the text; what they promise -/
/-- a def of the module under its name -/
structure Df (K : PySem.W.Frag) (mg : Str → Option Value) (x : Str) (st : Stmt) (ps : List Str) : Prop where
  ex : ∃ (f : Addr) (fd : FuncData), mg x = some (.ref f) ∧ L2.Fun K x x st f fd ∧ Binds K fd ps []
/-- a method of the class at C -/
structure Dm (K : PySem.W.Frag) (C : Addr) (m qual : Str) (st : Stmt) (ps : List Str) : Prop where
  ex : ∃ (f : Addr) (fd : FuncData), Cls K C ∧ Meth K C m f ∧ L2.Fun K m qual st f fd ∧ Binds K fd ps []
/-- a class with an __init__ -/
structure Dk (K : PySem.W.Frag) (mg : Str → Option Value) (x : Str) (C : Addr) (qual : Str) (st : Stmt) (ps : List Str) : Prop where
  ex : ∃ (f : Addr) (fd : FuncData), mg x = some (.ref C) ∧ L2.Mk K C f ∧ L2.Fun K "__init__" qual st f fd ∧ Binds K fd ps []
section
variable {P : Program} {w : World} {K : PySem.W.Frag} {mg : Str → Option Value} {base : Heap}
structure Cc (P : Program) (w : World) (K : PySem.W.Frag) (mg : Str → Option Value) (base : Heap) (k : Nat) (x : Str) (sp : Sp) : Prop where
  ex : ∃ (f : Addr) (fd : FuncData) (ps : List Str), FnOk P w K mg base L2.CX0 k f fd ps sp ∧ mg x = some (.ref f) ∧ PySem.W.keepIn K (.ref f) = true ∧ Binds K fd ps []
structure Cm (P : Program) (w : World) (K : PySem.W.Frag) (mg : Str → Option Value) (base : Heap) (k : Nat) (C : Addr) (m : Str) (sp : Sp) : Prop where
  ex : ∃ (f : Addr) (fd : FuncData) (ps : List Str), Cls K C ∧ Meth K C m f ∧ FnOk P w K mg base L2.CX0 k f fd ps sp ∧ Binds K fd ps []
structure Ck (P : Program) (w : World) (K : PySem.W.Frag) (mg : Str → Option Value) (base : Heap) (k : Nat) (x : Str) (C : Addr) (sp : Sp) : Prop where
  ex : ∃ (f : Addr) (fd : FuncData) (ps : List Str), L2.Mk K C f ∧ FnOk P w K mg base L2.CX0 k f fd ps sp ∧ mg x = some (.ref C) ∧ Binds K fd ps []
theorem Cc.mk' {x : Str} {st : Stmt} {N ps : List Str} {k : Nat} {sp : Sp} (D : Df K mg x st ps) (S : FnScope N ps (defScope st)) (len : ∀ vs H Q E, sp vs H Q E → vs.length = ps.length)
    (hbody : ∀ (f : Addr) (cdv : Value) (A : Around) (outer : List Env) (s : Shared) (H : Hp) (vs : List V) (Q : VK) (E : XK), Room k (A.deeper (envOfC x (defScope st) s.heap.objs.size f cdv)) → sp vs H Q E →
      ∃ t, PSs (cxOf L2.CX0 P w K mg base N x (defScope st) f cdv A outer s H E).nox (defBody st) t ∧ t { nx := fun _ H' => Q .non H', rt := Q } (start N vs) H) : Cc P w K mg base (k + 1) x sp := by
  obtain ⟨f, fd, h1, F, b⟩ := D.ex
  exact ⟨f, fd, ps, F.ok S len (hbody f), h1, F.kp, b⟩
theorem Cm.mk' {C : Addr} {m qual : Str} {st : Stmt} {N ps : List Str} {k : Nat} {sp : Sp} (D : Dm K C m qual st ps) (S : FnScope N ps (defScope st)) (len : ∀ vs H Q E, sp vs H Q E → vs.length = ps.length)
    (hbody : ∀ (f : Addr) (cdv : Value) (A : Around) (outer : List Env) (s : Shared) (H : Hp) (vs : List V) (Q : VK) (E : XK), Room k (A.deeper (envOfC qual (defScope st) s.heap.objs.size f cdv)) → sp vs H Q E →
      ∃ t, PSs (cxOf L2.CX0 P w K mg base N qual (defScope st) f cdv A outer s H E).nox (defBody st) t ∧ t { nx := fun _ H' => Q .non H', rt := Q } (start N vs) H) : Cm P w K mg base (k + 1) C m sp := by
  obtain ⟨f, fd, c, me, F, b⟩ := D.ex
  exact ⟨f, fd, ps, c, me, F.ok S len (hbody f), b⟩
theorem Ck.mk' {C : Addr} {x qual : Str} {st : Stmt} {N ps : List Str} {k : Nat} {sp : Sp} (D : Dk K mg x C qual st ps) (S : FnScope N ps (defScope st)) (len : ∀ vs H Q E, sp vs H Q E → vs.length = ps.length)
    (hbody : ∀ (f : Addr) (cdv : Value) (A : Around) (outer : List Env) (s : Shared) (H : Hp) (vs : List V) (Q : VK) (E : XK), Room k (A.deeper (envOfC qual (defScope st) s.heap.objs.size f cdv)) → sp vs H Q E →
      ∃ t, PSs (cxOf L2.CX0 P w K mg base N qual (defScope st) f cdv A outer s H E).nox (defBody st) t ∧ t { nx := fun _ H' => Q .non H', rt := Q } (start N vs) H) : Ck P w K mg base (k + 1) x C sp := by
  obtain ⟨f, fd, h1, M, F, b⟩ := D.ex
  exact ⟨f, fd, ps, M, F.ok S len (hbody f), h1, b⟩
end
section
variable {X : Cx} {k : Nat} {C : Addr} {x m : Str} {sp : Sp} {p pos apos : Pos} {e o : Expr} {es : List Expr} {ta : TE} {t : TA}
theorem pe_cc (c : Cc X.prog X.w X.K X.mg X.base k x sp) (hr : Room k X.A) (hg : Gl X x) (ha : PA X (e :: es) t)
    (hdb : (x == ("__debug__" : Str)) = false := by decide) (he : starEach (e :: es) X.env = (false, eval e X.env) :: starEach es X.env := by rfl) (hpl : (backTo pos (starEach es X.env)).any (·.1) = false := by rfl) :
    PE X (.Call (.Name x p) (e :: es) [] pos) (tCall sp [] L2.E0 t) := by
  obtain ⟨f, fd, ps, F, hm, kp, b⟩ := c.ex
  exact pe_call F hr hg hm kp b .nil L2.pass0 ha hdb he hpl
theorem pe_cc0 (c : Cc X.prog X.w X.K X.mg X.base k x sp) (hr : Room k X.A) (hg : Gl X x)
    (hdb : (x == ("__debug__" : Str)) = false := by decide) : PE X (.Call (.Name x p) [] [] pos) (tCall sp [] L2.E0 tNil) := by
  obtain ⟨f, fd, ps, F, hm, kp, b⟩ := c.ex
  exact pe_call0 F hr hg hm kp b .nil L2.pass0 hdb
theorem pe_cm (c : Ck X.prog X.w X.K X.mg X.base k x C sp) (hr : Room (k + 1) X.A) (hg : Gl X x) (ha : PA X (e :: es) t)
    (hdb : (x == ("__debug__" : Str)) = false := by decide) (he : starEach (e :: es) X.env = (false, eval e X.env) :: starEach es X.env := by rfl) (hpl : (backTo pos (starEach es X.env)).any (·.1) = false := by rfl) :
    PE X (.Call (.Name x p) (e :: es) [] pos) (tMake C sp [] L2.E0 t) := by
  obtain ⟨f, fd, ps, M, F, hm, b⟩ := c.ex
  exact pe_make M F hr hg hm b .nil L2.pass0 ha hdb he hpl
theorem pe_ct {pl : Sem Bool} (c : Cm X.prog X.w X.K X.mg X.base k C m sp) (hr : Room k X.A) (he : PE X o ta) (ha : PA X (e :: es) t)
    (hst : starEach (e :: es) X.env = (false, eval e X.env) :: starEach es X.env := by rfl) (hpl : (backTo pos (starEach es X.env)).any (·.1) = false := by rfl)
    (ht : eval (.Call (.Attribute o m apos) (e :: es) [] pos) X.env = (do
      let ov ← eval o X.env
      standAt apos.atName
      let (f, first) ← holding [ov] (getMethod ov m pl)
      callWith pos f first (backTo pos (starEach (e :: es) X.env)) (backToKw pos (keywordEach [] X.env))) := by rfl) :
    PE X (.Call (.Attribute o m apos) (e :: es) [] pos) (tMeth C m sp [] L2.E0 ta t) := by
  obtain ⟨f, fd, ps, hc, hm, F, b⟩ := c.ex
  exact pe_meth (pl := pl) he hc hm F hr b .nil L2.pass0 ha hst hpl ht
end

theorem u1 {k : Nat} {A : Around} (r : Room k A) : A.units + 1 < cLine := by have := r.un; omega
theorem u65 {k : Nat} {A : Around} (r : Room k A) : A.units + 65 < cLine := by have := r.un; omega
/-! ### three comparisons in a chain -/
def tChain3 (r r' r'' : R2) (ta tb tc td : TE) : TE := fun σ H Q => ta σ H fun x H1 => tb σ H1 fun y H2 => r x y H2 fun z H3 => ∃ k, z = .bl k ∧
  (if k = true then tc σ H3 fun w' H4 => r' y w' H4 fun z' H5 => ∃ k', z' = .bl k' ∧ (if k' = true then td σ H5 fun v' H6 => r'' w' v' H6 Q else Q (.bl false) H5) else Q (.bl false) H3)
section
variable {X : Cx} {a b c d : Expr} {ta tb tc td : TE} {pos : Pos}
theorem pe_chain3 {op op' op'' : CmpOp} {r r' r'' : R2} (ho : OpR X (compareOp op) r) (ho' : OpR X (compareOp op') r') (ho'' : OpR X (compareOp op'') r'') (ha : PE X a ta) (hb : PE X b tb) (hc : PE X c tc) (hd : PE X d td)
    (hm : lastMarks [op, op', op''] [b, c, d] = false := by with_unfolding_all rfl) : PE X (.Compare a [op, op', op''] [b, c, d] pos) (tChain3 r r' r'' ta tb tc td) := by
  refine ⟨fun pins s σ H Q I h => ?_⟩
  refine Compare_chain (thn (ha.run pins s σ H _ I h) fun v s1 ⟨x, H1, I1, r1, q1⟩ => chain_link (thn (hb.run pins s1 σ H1 _ I1 q1) fun u s2 ⟨y, H2, I2, r2, q2⟩ =>
    thn (ho pins s2 σ H2 x y v u _ I2 r1 r2 q2) fun d s3 ⟨z, H3, I3, r3, k, e, q3⟩ => ?_)) hm
  subst e
  cases r3
  refine wpAny_truthy_bool ?_
  cases k with
  | false => exact ite_ff ⟨.bl false, H3, I3, rfl, q3⟩
  | true =>
    refine ite_tt (chain_link (thn (hc.run pins s3 σ H3 _ I3 q3) fun w' s4 ⟨z', H4, I4, r4, q4⟩ => thn (ho' pins s4 σ H4 y z' u w' _ I4 r2 r4 q4) fun d' s5 ⟨z2, H5, I5, r5, k2, e2, q5⟩ => ?_))
    subst e2
    cases r5
    refine wpAny_truthy_bool ?_
    cases k2 with
    | false => exact ite_ff ⟨.bl false, H5, I5, rfl, q5⟩
    | true => exact ite_tt (chain_last (thn (hd.run pins s5 σ H5 _ I5 q5) fun w2 s6 ⟨z3, H6, I6, r6, q6⟩ => ho'' pins s6 σ H6 z' z3 w' w2 Q I6 r4 r6 q6))
theorem pt_chain3 {op op' op'' : CmpOp} {r r' r'' : R2} (ho : OpR X (compareOp op) r) (ho' : OpR X (compareOp op') r') (ho'' : OpR X (compareOp op'') r'') (ha : PE X a ta) (hb : PE X b tb) (hc : PE X c tc) (hd : PE X d td)
    (hm : lastMarks [op, op', op''] [b, c, d] = false := by with_unfolding_all rfl) : PT X (.Compare a [op, op', op''] [b, c, d] pos) (tTest (tChain3 r r' r'' ta tb tc td)) := by
  refine ⟨fun pins s σ H Q I h => ?_⟩
  refine isTrue_chain (thn (ha.run pins s σ H _ I h) fun v s1 ⟨x, H1, I1, r1, q1⟩ => test_link (thn (hb.run pins s1 σ H1 _ I1 q1) fun u s2 ⟨y, H2, I2, r2, q2⟩ =>
    thn (ho pins s2 σ H2 x y v u _ I2 r1 r2 q2) fun d s3 ⟨z, H3, I3, r3, k, e, q3⟩ => ?_)) hm
  subst e
  cases r3
  refine wpAny_truthy_bool ?_
  cases k with
  | false =>
    obtain ⟨k', e', q'⟩ := q3
    cases e'
    exact ite_ff ⟨H3, I3, q'⟩
  | true =>
    refine ite_tt (test_link (thn (hc.run pins s3 σ H3 _ I3 q3) fun w' s4 ⟨z', H4, I4, r4, q4⟩ => thn (ho' pins s4 σ H4 y z' u w' _ I4 r2 r4 q4) fun d' s5 ⟨z2, H5, I5, r5, k2, e2, q5⟩ => ?_))
    subst e2
    cases r5
    refine wpAny_truthy_bool ?_
    cases k2 with
    | false =>
      obtain ⟨k', e', q'⟩ := q5
      cases e'
      exact ite_ff ⟨H5, I5, q'⟩
    | true =>
      refine ite_tt (test_last (thn (hd.run pins s5 σ H5 _ I5 q5) fun w2 s6 ⟨z3, H6, I6, r6, q6⟩ => thn (ho'' pins s6 σ H6 z' z3 w' w2 _ I6 r4 r6 q6) fun d2 s7 ⟨z4, H7, I7, r7, k3, e3, q7⟩ => ?_))
      subst e3
      cases r7
      exact wpAny_truthy_bool ⟨H7, I7, q7⟩
end

/-! ### a statement, a word, the rest -/
def tCut (t u : TS) : TS := fun D σ H => ∃ Mid : L2.St → Hp → Prop, t { nx := Mid, rt := D.rt, bk := D.bk, ct := D.ct } σ H ∧ ∀ σ' H', Mid σ' H' → u D σ' H'
theorem pss_cut {X : Cx} {st : Stmt} {rest : List Stmt} {t u : TS} (h1 : PS X st t) (h2 : PSs X rest u) : PSs X (st :: rest) (tCut t u) := by
  refine ⟨fun pins s σ H D I h => ?_⟩
  obtain ⟨Mid, hm, hu⟩ := h
  refine wpAny_execs_cons (thn (h1.run pins s σ H { nx := Mid, rt := D.rt, bk := D.bk, ct := D.ct } I hm) fun f s1 q => ?_)
  cases f with
  | next =>
    obtain ⟨σ', H', I', q⟩ := q
    exact h2.run pins s1 σ' H' D I' (hu σ' H' q)
  | ret v => exact q
  | brk => exact q
  | cont => exact q
theorem c_cut {t u : TS} {D : Ends} {σ : L2.St} {H : Hp} (Mid : L2.St → Hp → Prop) (h1 : t { nx := Mid, rt := D.rt, bk := D.bk, ct := D.ct } σ H) (h2 : ∀ σ' H', Mid σ' H' → u D σ' H') : tCut t u D σ H := ⟨Mid, h1, h2⟩
theorem c_nocut {t u : TS} {D : Ends} {σ : L2.St} {H : Hp} (h : t { nx := u D, rt := D.rt, bk := D.bk, ct := D.ct } σ H) : tCut t u D σ H := ⟨u D, h, fun _ _ z => z⟩

/-! ### len(set(xs)), xs ints of any kind -/
def nodup_len (ns : List Int) : Nat := (PyProof.Rows.firstMet (fun i => ns.getD i 0) ns.length).length
def tLenSetG (K : PySem.W.Frag) (ta : TE) : TE := fun σ H Q => ta σ H fun x H1 => ∃ (l : Addr) (ns : List Int), x = .ref l ∧ SqL K H1 l (ns.map V.int) ∧ ns.length ≤ 4000 ∧ Q (.int (nodup_len ns : Nat)) H1
theorem pe_lenSetG {X : Cx} {a : Expr} {ta : TE} {p p2 q pos : Pos} (hg : Gl X "len") (hm : X.mg "len" = none) (hg2 : Gl X "set") (hm2 : X.mg "set" = none) (ha : PE X a ta) (hc : X.calm = true := by rfl)
    (na : starEach [a] X.env = (false, eval a X.env) :: starEach [] X.env := by rfl) : PE X (.Call (.Name "len" p) [.Call (.Name "set" p2) [a] [] q] [] pos) (tLenSetG X.K ta) := by
  refine ⟨fun pins s σ H Q I h => ?_⟩
  refine Call_ (ld_blt I hg hm boot_len ?_)
  refine PyProof.Rows.callWith_builtin1 (PyProof.Rows.args_cons ?_ rfl) rfl rfl
  refine Call_ (ld_blt I hg2 hm2 boot_set ?_)
  refine PyProof.Rows.callWith_type1 (PyProof.Rows.args_cons (thn (ha.run pins s σ H _ I h) fun v s1 ⟨x, H1, I1, r1, q1⟩ => PyProof.Rows.args_nil ?_) na) na rfl
  obtain ⟨l, ns, rfl, hq, hl, q1⟩ := q1
  cases r1
  obtain ⟨its, r, pl, hz⟩ := I1.list hq
  have hlen : its.toArray.size = ns.length := by rw [List.size_toArray, ← r.length, List.length_map]
  refine call_set_list (I1.ok.hd hc) pl.isList (by simpa using RZ.intsAre_vals r) (by rw [hlen]; unfold scanBound; omega) fun h' tk hS hk => ?_
  refine PyProof.Rows.args_nil ?_
  rw [hlen] at hS
  obtain ⟨o, es, ep, t, ho, hex, hd, _, _, _, hf, hn⟩ := hS
  have I2 : Inv X pins σ H1 { s1 with heap := h', toks := tk } := I1.kept fun b o e => hk b o (Heap.lt_size e) e
  have hle := PyProof.Rows.firstMet_length_le (fun i => ns.getD i 0) ns.length
  exact call_len_set ho hex hd hf (by rw [hn] <;> omega) ⟨.int (nodup_len ns : Nat), H1, I2.tok _, ⟨_, by rw [hn]; rfl⟩, q1⟩
theorem dedup_len : ∀ (l acc : List Int), (l.foldl PyProof.Rows.step_dedup acc).length ≤ acc.length + l.length
  | [], acc => Nat.le_refl _
  | a :: r, acc => by
    rw [List.foldl_cons, List.length_cons]
    refine Nat.le_trans (dedup_len r _) ?_
    unfold PyProof.Rows.step_dedup
    split
    · omega
    · rw [List.length_append]; simp; omega
theorem dedup_eq : ∀ (l acc : List Int), (l.foldl PyProof.Rows.step_dedup acc).length = acc.length + l.length ↔ (l.Nodup ∧ ∀ x ∈ l, x ∉ acc)
  | [], acc => by simp
  | a :: r, acc => by
    rw [List.foldl_cons, List.length_cons, List.nodup_cons]
    have h1 := dedup_len r (PyProof.Rows.step_dedup acc a)
    by_cases hc : a ∈ acc
    · have e : PyProof.Rows.step_dedup acc a = acc := by
        unfold PyProof.Rows.step_dedup
        rw [if_pos]
        exact List.any_eq_true.mpr ⟨a, hc, by simp⟩
      rw [e] at h1 ⊢
      refine ⟨fun h => absurd h (by omega), fun h => absurd hc (h.2 a (by simp))⟩
    · have e : PyProof.Rows.step_dedup acc a = acc ++ [a] := by
        unfold PyProof.Rows.step_dedup
        rw [if_neg]
        intro h
        obtain ⟨y, hy, ey⟩ := List.any_eq_true.mp h
        have ey2 : y = a := eq_of_beq ey
        exact hc (ey2 ▸ hy)
      have ih := dedup_eq r (acc ++ [a])
      rw [e]
      rw [List.length_append] at ih
      constructor
      · intro h
        obtain ⟨n1, n2⟩ := ih.mp (by simp at h ⊢; omega)
        refine ⟨⟨fun hm => n2 a hm (by simp), n1⟩, fun x hx => ?_⟩
        rcases List.mem_cons.mp hx with rfl | hx
        · exact hc
        · intro z; exact n2 x hx (by simp [z])
      · rintro ⟨⟨n0, n1⟩, n2⟩
        have := ih.mpr ⟨n1, fun x hx z => by
          rcases List.mem_append.mp z with z | z
          · exact n2 x (List.mem_cons_of_mem _ hx) z
          · have : x = a := by simpa using z
            subst this; exact n0 hx⟩
        simp at this ⊢; omega
theorem range_getD (ns : List Int) : (List.range ns.length).map (fun i => ns.getD i 0) = ns := by
  apply List.ext_getElem (by simp)
  intro i h1 h2
  simp at h1 h2 ⊢
  rw [List.getElem?_eq_getElem h1]
  rfl
theorem nodup_len_eq (ns : List Int) : nodup_len ns = ns.length ↔ ns.Nodup := by
  unfold nodup_len PyProof.Rows.firstMet
  rw [range_getD]
  have := dedup_eq ns []
  simp at this ⊢
  exact this
end Bo

namespace Bo
open PySem PySem.Spec PyProof.Rows L2

/-! ### heaps: what stands, what is new -/
theorem Same.new {H0 H : Hp} {p : Addr} {o : HO} (s : Same H0 H) (h : H0 p = none) : Same H0 (upd H p o) := fun b u e => by
  rw [upd_ne (ne_of_none e h)]; exact s b u e
theorem Same.up {H H' : Hp} {p : Addr} {o : HO} (s : Same H H') (e : H p = some o) : H' p = some o := s p o e
theorem Same.one {H : Hp} {p : Addr} {o : HO} (h : H p = none) : Same H (upd H p o) := Same.new (Same.refl H) h
theorem lift_ne {H : Hp} {p q : Addr} {o u : HO} (e : H p = some o) (h : p ≠ q) : upd H q u p = some o := by rw [upd_ne h]; exact e
theorem free_up {H : Hp} {p q : Addr} {u : HO} (h : upd H q u p = none) : H p = none := by
  by_cases e : p = q
  · subst e; rw [upd_same] at h; cases h
  · rwa [upd_ne e] at h
theorem SqT.same {K : PySem.W.Frag} {H H' : Hp} {a : Addr} {xs : List V} (e : Same H H') (h : SqT K H a xs) : SqT K H' a xs := by
  rcases h with (h | ⟨o, h⟩) | h
  · exact .inl (.inl (e _ _ h))
  · exact .inl (.inr ⟨o, e _ _ h⟩)
  · exact .inr h

theorem neo {H : Hp} {a b : Addr} {o : HO} (h' : H b = none) (h : H a = some o) : a ≠ b := ne_of_none h h'
theorem same_trans {H H1 H2 : Hp} (b : Same H1 H2) (a : Same H H1) : Same H H2 := a.trans b
theorem same_free {H H' : Hp} {l : Addr} (h : H' l = none) (e : Same H H') : H l = none := e.free h
theorem same_seq {K : PySem.W.Frag} {H H' : Hp} {a : Addr} {xs : List V} (h : SqL K H a xs) (e : Same H H') : SqL K H' a xs := e.seq h
theorem same_sqt {K : PySem.W.Frag} {H H' : Hp} {a : Addr} {xs : List V} (h : SqT K H a xs) (e : Same H H') : SqT K H' a xs := SqT.same e h
/-! ### ints of a list by an int place -/
def gt (ns : List Int) (i : Int) : Int := if 0 ≤ i then ns.getD i.toNat 0 else ns.getD (i + ns.length).toNat 0
theorem gt_nat (ns : List Int) (i : Nat) : gt ns (i : Int) = ns.getD i 0 := by
  unfold gt
  rw [if_pos (by omega)]
  rfl
theorem gt_get {ns : List Int} {i : Nat} {x : Int} (h : ns[i]? = some x) : gt ns (i : Int) = x := by
  rw [gt_nat, List.getD_eq_getElem?_getD, h]; rfl
theorem getD_some {ns : List Int} {i : Nat} (h : i < ns.length) : ns[i]? = some (ns.getD i 0) := by
  rw [List.getD_eq_getElem?_getD, List.getElem?_eq_getElem h]; rfl
theorem gt_some {ns : List Int} {i : Nat} (h : i < ns.length) : ns[i]? = some (gt ns (i : Int)) := by rw [gt_nat]; exact getD_some h
theorem gt_mem {ns : List Int} {i : Int} (h0 : -(ns.length : Int) ≤ i) (h : i < ns.length) : gt ns i ∈ ns := by
  unfold gt
  by_cases c : 0 ≤ i
  · rw [if_pos c]; exact List.mem_of_getElem? (getD_some (by omega))
  · rw [if_neg c]; exact List.mem_of_getElem? (getD_some (by omega))
theorem at_gt {ns : List Int} {i : Int} (h0 : -(ns.length : Int) ≤ i) (h : i < ns.length) : atI (ns.map V.int) i = some (.int (gt ns i)) := by
  unfold atI ixN gt
  rw [List.length_map]
  by_cases c : 0 ≤ i
  · rw [if_pos c, if_pos h, if_pos c]
    show (ns.map V.int)[i.toNat]? = _
    rw [List.getElem?_map, getD_some (by omega)]; rfl
  · rw [if_neg c, if_pos h0, if_neg c]
    show (ns.map V.int)[(i + ns.length).toNat]? = _
    rw [List.getElem?_map, getD_some (by omega)]; rfl
theorem at_map {α : Type} {f : α → V} {xs : List α} {i : Int} {j : Nat} {x : α} (e : i = (j : Int)) (h : xs[j]? = some x) : atI (xs.map f) i = some (f x) := by
  subst e
  refine atI_nat ?_
  rw [List.getElem?_map, h]; rfl
theorem map_get {α : Type} {f : α → V} {xs : List α} {i : Nat} {y : V} (h : (xs.map f)[i]? = some y) : ∃ x, xs[i]? = some x ∧ y = f x := by
  rw [List.getElem?_map] at h
  cases e : xs[i]? with
  | none => rw [e] at h; cases h
  | some x => rw [e] at h; exact ⟨x, rfl, (Option.some.inj h).symm⟩
/-- places stored -/
def st (ns : List Int) (i x : Int) : List Int := ns.set i.toNat x
theorem st_length (ns : List Int) (i x : Int) : (st ns i x).length = ns.length := List.length_set ..

section
variable {K : PySem.W.Frag} {σ : L2.St} {H H' : Hp} {ta tb te tc : TE} {t u : TT} {x y z v : V} {D : Ends} {tu tw tz : TS} {g : TG} {Q : VK} {i j : Int}

/-! ### statements -/
theorem r_seq (h : tu { nx := tw D, rt := D.rt, bk := D.bk, ct := D.ct } σ H) : tSeq tu tw D σ H := h
theorem r_nxD (h : Ends.nx D σ H) : Ends.nx D σ H := h
theorem r_rtD (h : Ends.rt D v H) : Ends.rt D v H := h
theorem r_nx {a : L2.St → Hp → Prop} {b : VK} {c d : L2.St → Hp → Prop} (h : a σ H) : Ends.nx (Ends.mk a b c d) σ H := h
theorem r_rt {a : L2.St → Hp → Prop} {b : VK} {c d : L2.St → Hp → Prop} (h : b v H) : Ends.rt (Ends.mk a b c d) v H := h
theorem r_next (h : D.nx σ H) : tNext D σ H := h
theorem r_asgN {k : Nat} (h : te σ H fun v H1 => D.nx (σ.set k (some v)) H1) : tAsg te (gName k) D σ H := h
theorem r_asg (h : te σ H fun v H1 => g v σ H1 D.nx) : tAsg te g D σ H := h
theorem r_ret (h : te σ H D.rt) : tRet te D σ H := h
theorem r_drop (h : te σ H fun _ H1 => D.nx σ H1) : tDrop te D σ H := h
theorem r_if (h : t σ H fun b H1 => if b = true then tu D σ H1 else tw D σ H1) : tIfS t tu tw D σ H := h
theorem r_set (h : tv σ H fun y H1 => ta σ H1 fun o H2 => tb σ H2 fun i H3 => rSetL o i y H3 fun H4 => D.nx σ H4) : tAsg tv (gSub ta tb rSetL) D σ H := h
def KPar (k l : Nat) (D : Ends) (σ : L2.St) (vs : List V) (H : Hp) : Prop := ∃ v w, vs = [v, w] ∧ D.nx ((σ.set k (some v)).set l (some w)) H
theorem r_par {k l : Nat} {ta : TA} (h : ta σ H fun vs H1 => KPar k l D σ vs H1) : tPar k l ta D σ H := h
theorem k_par {k l : Nat} (h : D.nx ((σ.set k (some x)).set l (some y)) H) : KPar k l D σ [x, y] H := ⟨x, y, rfl, h⟩
theorem r_aug {k : Nat} {a : V} {ti : TIp} (e : σ[k]? = some (some a)) (h : te σ H fun y H1 => ti a y H1 fun z H2 => D.nx (σ.set k (some z)) H2) : tAug k te ti D σ H := ⟨_, e, h⟩
theorem i_ip {f : Int → Int → Int} (q : Q (.int (f i j)) H) : ipI f (.int i) (.int j) H Q := ⟨i, j, rfl, rfl, q⟩
def KFs (K : PySem.W.Frag) (f : Str) (D : Ends) (σ : L2.St) (y x : V) (H : Hp) : Prop := ∃ a C dx fs, x = .ref a ∧ H a = some (.ins C dx fs) ∧ Cls K C ∧ NoAttr K C f ∧ fs.length < 1000 ∧ D.nx σ (upd H a (.ins C dx (putF f y fs)))
theorem r_fld {f : Str} (h : tv σ H fun y H1 => ta σ H1 fun x H2 => KFs K f D σ y x H2) : sFld K ta tv f D σ H := h
theorem k_fld {f : Str} {a C dx : Addr} {fs : List (Str × V)} (h : H a = some (.ins C dx fs)) (c : Cls K C) (n : NoAttr K C f) (z : fs.length < 1000) (q : D.nx σ (upd H a (.ins C dx (putF f y fs)))) : KFs K f D σ y (.ref a) H := ⟨a, C, dx, fs, rfl, h, c, n, z, q⟩
/-! ### expressions -/
theorem e_var {k : Nat} (e : σ[k]? = some (some v)) (q : Q v H) : tVar k σ H Q := ⟨v, e, q⟩
theorem e_c (q : Q v H) : tC v σ H Q := q
theorem e_op {r : R2} (h : ta σ H fun x H1 => tb σ H1 fun y H2 => r x y H2 Q) : tOp r ta tb σ H Q := h
theorem e_un {r : V → Hp → VK → Prop} (h : ta σ H fun x H1 => r x H1 Q) : tUn r ta σ H Q := h
theorem o_I0 {gg : Int → Int → V} (q : Q (gg i j) H) : rI0 gg (.int i) (.int j) H Q := ⟨i, j, rfl, rfl, q⟩
theorem o_I {C : Int → Int → Prop} {gg : Int → Int → V} (c : C i j) (q : Q (gg i j) H) : rI C gg (.int i) (.int j) H Q := ⟨i, j, rfl, rfl, c, q⟩
theorem o_mod (h : 0 < j) (q : Q (.int (i % j)) H) : rI (fun _ j => 0 < j) (fun i j => .int (i % j)) (.int i) (.int j) H Q := ⟨i, j, rfl, rfl, h, q⟩
theorem o_fdiv (h : 0 < j ∧ j < 1073741824) (q : Q (.int (i / j)) H) : rI CDiv (fun i j => .int (i / j)) (.int i) (.int j) H Q := ⟨i, j, rfl, rfl, h, q⟩
theorem o_mulR (h : -10000000000 < j ∧ j < 10000000000) (q : Q (.int (i * j)) H) : rI CMul (fun i j => .int (i * j)) (.int i) (.int j) H Q := ⟨i, j, rfl, rfl, .inr ⟨by omega, by omega⟩, q⟩
theorem o_mulL (h : -10000000000 < i ∧ i < 10000000000) (q : Q (.int (i * j)) H) : rI CMul (fun i j => .int (i * j)) (.int i) (.int j) H Q := ⟨i, j, rfl, rfl, .inl ⟨by omega, by omega⟩, q⟩
theorem o_neg {gg : Int → V} (q : Q (gg i) H) : rU gg (.int i) H Q := ⟨i, rfl, q⟩
theorem o_eqI (q : Q (.bl (decide (i = j))) H) : rEq (.int i) (.int j) H Q := ⟨rfl, by rw [dec_int, Bool.beq_eq_decide_eq]; exact q⟩
theorem o_neI (q : Q (.bl (!decide (i = j))) H) : rNe (.int i) (.int j) H Q := ⟨rfl, by rw [dec_int, Bool.beq_eq_decide_eq]; exact q⟩
theorem o_eqB {a b : Bool} (q : Q (.bl (a == b)) H) : rEq (.bl a) (.bl b) H Q := ⟨rfl, by rw [dec_bl]; exact q⟩
theorem o_neB {a b : Bool} (q : Q (.bl (!(a == b))) H) : rNe (.bl a) (.bl b) H Q := ⟨rfl, by rw [dec_bl]; exact q⟩
theorem o_eqS {a b : Str} (q : Q (.bl (a == b)) H) : rEq (.str a) (.str b) H Q := ⟨rfl, by rw [dec_str]; exact q⟩
theorem o_neS {a b : Str} (q : Q (.bl (!(a == b))) H) : rNe (.str a) (.str b) H Q := ⟨rfl, by rw [dec_str]; exact q⟩
theorem o_ixI {p : Addr} {ns : List Int} (h : SqL K H p (ns.map V.int)) (h0 : -(ns.length : Int) ≤ i ∧ i < ns.length) (q : Q (.int (gt ns i)) H) : rIxL K (.ref p) (.int i) H Q := ⟨p, _, i, _, rfl, rfl, h, at_gt h0.1 h0.2, q⟩
theorem o_ixM {α : Type} {f : α → V} {xs : List α} {p : Addr} {j : Nat} {x : α} (h : SqL K H p (xs.map f)) (e : xs[j]? = some x) (e2 : i = (j : Int)) (q : Q (f x) H) : rIxL K (.ref p) (.int i) H Q := ⟨p, _, i, _, rfl, rfl, h, at_map e2 e, q⟩
theorem o_ixT {xs : List V} {p : Addr} (h : SqT K H p xs) (e : atI xs i = some v) (q : Q v H) : rIxT K (.ref p) (.int i) H Q := ⟨p, _, i, _, rfl, rfl, h, e, q⟩
theorem e_lst {ta : TA} (h : ta σ H fun xs H1 => xs.length ≤ sizeLine ∧ ∀ p, H1 p = none → Q (.ref p) (upd H1 p (.lst xs))) : tLst ta σ H Q := h
theorem e_tup {ta : TA} (h : ta σ H fun xs H1 => xs.length ≤ sizeLine ∧ ∀ p, H1 p = none → Q (.ref p) (upd H1 p (.tup xs))) : tTup ta σ H Q := h
theorem a_nil {R : List V → Hp → Prop} (h : R [] H) : tNil σ H R := h
theorem a_cons {ts : TA} {R : List V → Hp → Prop} (h : ta σ H fun x H1 => ts σ H1 fun xs H2 => R (x :: xs) H2) : tCons ta ts σ H R := h
theorem e_cb {r : List V → Hp → VK → Prop} {ts : TA} (h : ts σ H fun vs H1 => r vs H1 Q) : tCB r ts σ H Q := h
theorem e_call {sp : Sp} {E : XK} {ts : TA} (h : ts σ H fun vs H1 => sp vs H1 Q E) : tCall sp [] E ts σ H Q := by
  have e : (fun (vs : List V) (H1 : Hp) => sp (vs ++ []) H1 Q E) = fun vs H1 => sp vs H1 Q E := by
    funext vs H1; rw [List.append_nil]
  show ts σ H fun vs H1 => sp (vs ++ []) H1 Q E
  rw [e]; exact h
theorem e_make {C : Addr} {sp : Sp} {E : XK} {ts : TA} (h : ts σ H fun vs H1 => ∀ x dx, H1 x = none → H1 dx = none → dx ≠ x → sp (.ref x :: vs) (upd (upd H1 dx (.own x)) x (.ins C dx [])) (fun v H2 => v = .non ∧ Q (.ref x) H2) E) : tMake C sp [] E ts σ H Q := by
  have e : (fun (vs : List V) (H1 : Hp) => ∀ x dx, H1 x = none → H1 dx = none → dx ≠ x → sp (.ref x :: (vs ++ [])) (upd (upd H1 dx (.own x)) x (.ins C dx [])) (fun v H2 => v = .non ∧ Q (.ref x) H2) E) = fun vs H1 => ∀ x dx, H1 x = none → H1 dx = none → dx ≠ x → sp (.ref x :: vs) (upd (upd H1 dx (.own x)) x (.ins C dx [])) (fun v H2 => v = .non ∧ Q (.ref x) H2) E := by
    funext vs H1; rw [List.append_nil]
  show ts σ H fun (vs : List V) (H1 : Hp) => ∀ x dx, H1 x = none → H1 dx = none → dx ≠ x → sp (.ref x :: (vs ++ [])) (upd (upd H1 dx (.own x)) x (.ins C dx [])) (fun v H2 => v = .non ∧ Q (.ref x) H2) E
  rw [e]; exact h
def KM (C : Addr) (m : Str) (sp : Sp) (E : XK) (ts : TA) (σ : L2.St) (Q : VK) (x : V) (H : Hp) : Prop := ∃ a dx fs, x = .ref a ∧ H a = some (.ins C dx fs) ∧ fs.lookup m = none ∧ ts σ H fun vs H2 => sp (x :: vs) H2 Q E
theorem e_meth {C : Addr} {m : Str} {sp : Sp} {E : XK} {ts : TA} (h : ta σ H fun x H1 => KM C m sp E ts σ Q x H1) : tMeth C m sp [] E ta ts σ H Q := by
  have e : ∀ x, (fun (vs : List V) (H2 : Hp) => sp (x :: (vs ++ [])) H2 Q E) = fun vs H2 => sp (x :: vs) H2 Q E := by
    intro x; funext vs H1; rw [List.append_nil]
  show ta σ H fun x H1 => ∃ a dx fs, x = .ref a ∧ H1 a = some (.ins C dx fs) ∧ fs.lookup m = none ∧ ts σ H1 fun vs H2 => sp (x :: (vs ++ [])) H2 Q E
  simp only [e]; exact h
theorem k_meth {C a dx : Addr} {m : Str} {sp : Sp} {E : XK} {ts : TA} {fs : List (Str × V)} (h : H a = some (.ins C dx fs)) (n : fs.lookup m = none) (q : ts σ H fun vs H2 => sp (.ref a :: vs) H2 Q E) : KM C m sp E ts σ Q (.ref a) H := ⟨a, dx, fs, rfl, h, n, q⟩
def KF (K : PySem.W.Frag) (f : Str) (Q : VK) (x : V) (H : Hp) : Prop := ∃ a C dx fs v, x = .ref a ∧ H a = some (.ins C dx fs) ∧ Cls K C ∧ NoAttr K C f ∧ fs.lookup f = some v ∧ Q v H
theorem e_fld {f : Str} (h : ta σ H fun x H1 => KF K f Q x H1) : tFld K ta f σ H Q := h
theorem c_fld {f : Str} {a C dx : Addr} {fs : List (Str × V)} (h : H a = some (.ins C dx fs)) (c : Cls K C) (n : NoAttr K C f) (e : fs.lookup f = some v) (q : Q v H) : KF K f Q (.ref a) H := ⟨a, C, dx, fs, v, rfl, h, c, n, e, q⟩
theorem e_bm {T : String} {r : V → List V → Hp → VK → Prop} {ts : TA} (h : ta σ H fun x H1 => tyV K T x H1 ∧ ts σ H1 fun xs H2 => r x xs H2 Q) : tBM K T r ta ts σ H Q := h
theorem e_bm0 {T : String} {r : V → List V → Hp → VK → Prop} (h : ta σ H fun x H1 => tyV K T x H1 ∧ r x [] H1 Q) : tBM0 K T r ta σ H Q := h
theorem m_ty {p : Addr} {xs : List V} {B : Prop} (h : SqL K H p xs) (q : B) : tyV K "list" (.ref p) H ∧ B := ⟨.inl ⟨rfl, _, h⟩, q⟩
theorem m_app {l : Addr} {xs : List V} (h : H l = some (.lst xs)) (z : xs.length < 1000000) (q : Q .non (upd H l (.lst (xs ++ [v])))) : rAppend (.ref l) [v] H Q := ⟨l, xs, v, rfl, rfl, h, Nat.lt_of_lt_of_le z (by decide), q⟩
theorem m_appM {α : Type} {f : α → V} {l : Addr} {xs : List α} {y : α} (h : H l = some (.lst (xs.map f))) (e : v = f y) (z : xs.length < 1000000) (q : Q .non (upd H l (.lst ((xs ++ [y]).map f)))) : rAppend (.ref l) [v] H Q := by
  refine ⟨l, xs.map f, v, rfl, rfl, h, by rw [List.length_map]; exact Nat.lt_of_lt_of_le z (by decide), ?_⟩
  rw [List.map_append] at q
  rw [e]; exact q
theorem m_setM {α : Type} {f : α → V} {l : Addr} {xs : List α} {y : α} {k : Nat} {R : Hp → Prop} (h : H l = some (.lst (xs.map f))) (e : v = f y) (e2 : i = (k : Int)) (z : k < xs.length) (q : R (upd H l (.lst ((xs.set k y).map f)))) : rSetL (.ref l) (.int i) v H R := by
  refine ⟨l, xs.map f, i, k, rfl, rfl, h, ?_, ?_⟩
  · subst e2
    unfold ixN
    rw [List.length_map, if_pos (by omega), if_pos (by omega)]
    simp
  · rw [List.map_set] at q
    rw [e]; exact q
theorem m_setI {l : Addr} {ns : List Int} {R : Hp → Prop} (h : H l = some (.lst (ns.map V.int))) (z : 0 ≤ i ∧ i < ns.length) (q : R (upd H l (.lst ((st ns i j).map V.int)))) : rSetL (.ref l) (.int i) (.int j) H R :=
  m_setM (k := i.toNat) h rfl (by omega) (by omega) q
def rLen2 (K : PySem.W.Frag) : List V → Hp → VK → Prop := fun xs H Q => ∃ p ys, xs = [.ref p] ∧ (SqL K H p ys ∨ SqT K H p ys) ∧ Q (.int ys.length) H
theorem c_lenM {α : Type} {f : α → V} {p : Addr} {ys : List α} (h : SqL K H p (ys.map f)) (q : Q (.int (ys.length : Nat)) H) : rLen2 K [.ref p] H Q := ⟨p, _, rfl, .inl h, by rw [List.length_map]; exact q⟩
theorem c_lenT {p : Addr} {ys : List V} (h : SqT K H p ys) (q : Q (.int (ys.length : Nat)) H) : rLen2 K [.ref p] H Q := ⟨p, _, rfl, .inr h, q⟩
def rMax2 : List V → Hp → VK → Prop := fun xs H Q => ∃ i j, xs = [.int i, .int j] ∧ Q (.int (if j > i then j else i)) H
def rMin2 : List V → Hp → VK → Prop := fun xs H Q => ∃ i j, xs = [.int i, .int j] ∧ Q (.int (if j < i then j else i)) H
theorem c_max2 (q : Q (.int (max i j)) H) : rMax2 [.int i, .int j] H Q := ⟨i, j, rfl, by
  have e : (if j > i then j else i) = max i j := by split <;> omega
  rw [e]; exact q⟩
theorem c_min2 (q : Q (.int (min i j)) H) : rMin2 [.int i, .int j] H Q := ⟨i, j, rfl, by
  have e : (if j < i then j else i) = min i j := by split <;> omega
  rw [e]; exact q⟩
def rList2 (K : PySem.W.Frag) : List V → Hp → VK → Prop := fun xs H Q => ∃ p ys, xs = [.ref p] ∧ (SqL K H p ys ∨ SqT K H p ys) ∧ ∀ l, H l = none → Q (.ref l) (upd H l (.lst ys))
theorem c_list {p : Addr} {ys : List V} (h : SqL K H p ys) (q : ∀ l, H l = none → Q (.ref l) (upd H l (.lst ys))) : rList2 K [.ref p] H Q := ⟨p, ys, rfl, .inl h, q⟩
theorem c_listT {p : Addr} {ys : List V} (h : SqT K H p ys) (q : ∀ l, H l = none → Q (.ref l) (upd H l (.lst ys))) : rList2 K [.ref p] H Q := ⟨p, ys, rfl, .inr h, q⟩
theorem c_isi {n t : String} {b : Bool} (ty : TyX K H x (.type t)) (e : kitB t n = some b) (q : Q (.bl b) H) : rIsi K [x, .ty n] H Q := ⟨x, .ty n, _, _, b, rfl, .ty n, ty, kit_ty e, q⟩
theorem c_isiI {n : String} {b : Bool} (e : kitB "int" n = some b) (q : Q (.bl b) H) : rIsi K [.int i, .ty n] H Q := c_isi (.base (.int i)) e q
theorem c_isiL {p : Addr} {xs : List V} {n : String} {b : Bool} (h : SqL K H p xs) (e : kitB "list" n = some b) (q : Q (.bl b) H) : rIsi K [.ref p, .ty n] H Q := by
  refine c_isi (t := "list") ?_ e q
  rcases h with (h | ⟨o, h⟩) | ⟨o, its, k, h1, h2, _⟩
  · exact .base (.lst h)
  · exact .base (.frz h)
  · exact .kList h1 h2
theorem c_isiT {p : Addr} {xs : List V} {n : String} {b : Bool} (h : H p = some (.tup xs)) (e : kitB "tuple" n = some b) (q : Q (.bl b) H) : rIsi K [.ref p, .ty n] H Q := c_isi (.base (.tup h)) e q
def gb (bs : List Bool) (i : Int) : Bool := bs.getD i.toNat true
theorem o_ixB {p : Addr} {bs : List Bool} (h : SqL K H p (bs.map V.bl)) (h0 : 0 ≤ i ∧ i < bs.length) (q : Q (.bl (gb bs i)) H) : rIxL K (.ref p) (.int i) H Q := by
  refine o_ixM (j := i.toNat) (x := gb bs i) h ?_ (by omega) q
  unfold gb
  rw [List.getD_eq_getElem?_getD, List.getElem?_eq_getElem (by omega)]; rfl
theorem m_setB {l : Addr} {bs : List Bool} {c : Bool} {R : Hp → Prop} (h : H l = some (.lst (bs.map V.bl))) (z : 0 ≤ i ∧ i < bs.length) (q : R (upd H l (.lst ((bs.set i.toNat c).map V.bl)))) : rSetL (.ref l) (.int i) (.bl c) H R :=
  m_setM (k := i.toNat) h rfl (by omega) (by omega) q
theorem m_appR {l p : Addr} {as : List Addr} (h : H l = some (.lst (as.map V.ref))) (z : as.length < 1000000) (q : Q .non (upd H l (.lst ((as ++ [p]).map V.ref)))) : rAppend (.ref l) [.ref p] H Q := m_appM h rfl z q
theorem e_sl {r : V → Option Int → Option Int → Hp → VK → Prop} {tl th : TO} (h : te σ H fun x H1 => tl σ H1 fun l H2 => th σ H2 fun u H3 => r x l u H3 Q) : tSl r te tl th σ H Q := h
theorem e_nopart {R : Option Int → Hp → Prop} (h : R none H) : tNoPart σ H R := h
theorem e_part {R : Option Int → Hp → Prop} (h : ta σ H fun x H1 => ∃ i, x = .int i ∧ R (some i) H1) : tPart ta σ H R := h
theorem i_ok {R : Int → Prop} (q : R i) : ∃ j, V.int i = .int j ∧ R j := ⟨i, rfl, q⟩
theorem cut_from {α : Type} {f : α → V} {xs : List α} (h : 0 ≤ i) : cutV (xs.map f) (some i) none = (xs.drop i.toNat).map f := by
  obtain ⟨k, rfl⟩ : ∃ k : Nat, i = (k : Int) := ⟨i.toNat, by omega⟩
  unfold cutV
  rw [HT.sIx_nat, HT.sIx_none, List.length_map, Int.toNat_natCast, ← List.map_drop, ← List.map_take]
  congr 1
  by_cases c : k ≤ xs.length
  · rw [Nat.min_eq_left c]; exact List.take_of_length_le (by rw [List.length_drop]; omega)
  · rw [Nat.min_eq_right (by omega), List.drop_eq_nil_of_le (Nat.le_refl _), List.drop_eq_nil_of_le (by omega), List.take_nil]
theorem cut_to {α : Type} {f : α → V} {xs : List α} (h : 0 ≤ i) : cutV (xs.map f) none (some i) = (xs.take i.toNat).map f := by
  obtain ⟨k, rfl⟩ : ∃ k : Nat, i = (k : Int) := ⟨i.toNat, by omega⟩
  unfold cutV
  rw [HT.sIx_nat, HT.sIx_none, List.length_map, Int.toNat_natCast, List.drop_zero, Nat.sub_zero, ← List.map_take]
  congr 1
  by_cases c : k ≤ xs.length
  · rw [Nat.min_eq_left c]
  · rw [Nat.min_eq_right (by omega), List.take_of_length_le (Nat.le_refl _), List.take_of_length_le (by omega)]
theorem o_slFrom {α : Type} {f : α → V} {p : Addr} {xs : List α} (h : SqL K H p (xs.map f)) (z : 0 ≤ i) (q : ∀ l, H l = none → Q (.ref l) (upd H l (.lst ((xs.drop i.toNat).map f)))) : rSlL K (.ref p) (some i) none H Q :=
  ⟨p, _, rfl, h, fun l nl => by rw [cut_from z]; exact q l nl⟩
theorem o_slTo {α : Type} {f : α → V} {p : Addr} {xs : List α} (h : SqL K H p (xs.map f)) (z : 0 ≤ i) (q : ∀ l, H l = none → Q (.ref l) (upd H l (.lst ((xs.take i.toNat).map f)))) : rSlL K (.ref p) none (some i) H Q :=
  ⟨p, _, rfl, h, fun l nl => by rw [cut_to z]; exact q l nl⟩
theorem c_min {p : Addr} {ns : List Int} (h : SqL K H p (ns.map V.int)) (z : 0 < ns.length) (q : ∀ m, m ∈ ns → (∀ y ∈ ns, m ≤ y) → Q (.int m) H) : rMin K [.ref p] H Q := ⟨p, ns, rfl, h, z, q⟩
theorem c_all {p : Addr} {bs : List Bool} (h : SqL K H p (bs.map V.bl)) (q : Q (.bl (bs.all id)) H) : rAll K [.ref p] H Q := ⟨p, bs, rfl, h, q⟩
theorem c_any {p : Addr} {bs : List Bool} (h : SqL K H p (bs.map V.bl)) (q : Q (.bl (bs.any id)) H) : rAny K [.ref p] H Q := ⟨p, bs, rfl, h, q⟩
theorem c_sorted {p : Addr} {ns : List Int} (h : SqL K H p (ns.map V.int)) (q : ∀ ns' l, List.Perm ns' ns → ns'.Pairwise (· ≤ ·) → H l = none → Q (.ref l) (upd H l (.lst (ns'.map V.int)))) : rSortedI K [.ref p] H Q := ⟨p, ns, rfl, h, q⟩
def KLS (K : PySem.W.Frag) (Q : VK) (x : V) (H : Hp) : Prop := ∃ (l : Addr) (ns : List Int), x = .ref l ∧ SqL K H l (ns.map V.int) ∧ ns.length ≤ 4000 ∧ Q (.int (nodup_len ns : Nat)) H
theorem c_lenset {p : Addr} {ns : List Int} (h : SqL K H p (ns.map V.int)) (z : ns.length ≤ 4000) (q : Q (.int (nodup_len ns : Nat)) H) : KLS K Q (.ref p) H := ⟨p, ns, rfl, h, z, q⟩
theorem e_lenset (h : ta σ H fun x H1 => KLS K Q x H1) : tLenSetG K ta σ H Q := h
/-- xs.insert(i, y) -/
def rIns : V → List V → Hp → VK → Prop := fun x vs H Q => ∃ (l : Addr) (xs : List V) (i : Int) (y : V), x = .ref l ∧ vs = [.int i, y] ∧ H l = some (.lst xs) ∧ xs.length < sizeLine ∧ 0 ≤ i ∧ i < 2 ^ 63 ∧ Q .non (upd H l (.lst (xs.take i.toNat ++ [y] ++ xs.drop i.toNat)))
def ins (ns : List Int) (i x : Int) : List Int := ns.take i.toNat ++ [x] ++ ns.drop i.toNat
theorem m_ins {l : Addr} {ns : List Int} (h : H l = some (.lst (ns.map V.int))) (z : ns.length < 1000000) (z2 : 0 ≤ i ∧ i < 2 ^ 63) (q : Q .non (upd H l (.lst ((ins ns i j).map V.int)))) : rIns (.ref l) [.int i, .int j] H Q := by
  refine ⟨l, ns.map V.int, i, .int j, rfl, rfl, h, by rw [List.length_map]; exact Nat.lt_of_lt_of_le z (by decide), z2.1, z2.2, ?_⟩
  unfold ins at q
  rw [List.map_append, List.map_append, List.map_take, List.map_drop] at q
  exact q
theorem find_first : ∀ {ns : List Int} {k : Int}, k ∈ ns → ∃ j, ns[j]? = some k ∧ (∀ m : Nat, m < j → ns[m]? ≠ some k) ∧ ns.eraseIdx j = ns.erase k ∧ ns.idxOf k = j
  | [], k, h => by simp at h
  | a :: r, k, h => by
    by_cases c : a = k
    · subst c
      exact ⟨0, rfl, fun m hm => absurd hm (Nat.not_lt_zero _), by simp, by simp⟩
    · have hr : k ∈ r := by
        rcases List.mem_cons.mp h with e | e
        · exact absurd e.symm c
        · exact e
      obtain ⟨j, h1, h2, h3, h4⟩ := find_first hr
      refine ⟨j + 1, h1, fun m hm => ?_, ?_, ?_⟩
      · cases m with
        | zero => intro z; exact c (Option.some.inj z)
        | succ m => exact h2 m (by omega)
      · rw [List.eraseIdx_cons_succ, h3, List.erase_cons_tail (by simpa using c)]
      · rw [List.idxOf_cons, h4, show (a == k) = false by simpa using c]; rfl
theorem m_rem {l : Addr} {ns : List Int} (h : H l = some (.lst (ns.map V.int))) (hm : i ∈ ns) (q : Q .non (upd H l (.lst ((ns.erase i).map V.int)))) : rRemI (.ref l) [.int i] H Q := by
  obtain ⟨j, h1, h2, h3, _⟩ := find_first hm
  exact ⟨l, ns, i, j, rfl, rfl, h, h1, h2, by rw [h3]; exact q⟩
theorem all_flat (ns : List Int) : (ns.map V.int).all flatV = true := by
  rw [List.all_map]
  exact List.all_eq_true.mpr fun _ _ => rfl
theorem m_idx {l : Addr} {ns : List Int} (h : SqL K H l (ns.map V.int)) (hm : i ∈ ns) (q : Q (.int (ns.idxOf i : Nat)) H) : rIndex K (.ref l) [.int i] H Q := by
  obtain ⟨j, h1, h2, _, h4⟩ := find_first hm
  refine ⟨l, ns.map V.int, .int i, j, .int i, rfl, rfl, h, rfl, all_flat ns, by rw [List.getElem?_map, h1]; rfl, by show (i == i) = true; simp, fun m z' hlt hz => ?_, by rw [← h4]; exact q⟩
  obtain ⟨x, hx, rfl⟩ := map_get hz
  show (x == i) = false
  simp only [beq_eq_false_iff_ne]
  intro e; subst e; exact h2 m hlt hx
theorem inV_ints (ns : List Int) (i : Int) : inV (.int i) (ns.map V.int) = decide (i ∈ ns) := by
  unfold inV
  rw [List.any_map, Bool.eq_iff_iff, List.any_eq_true, decide_eq_true_eq]
  constructor
  · rintro ⟨x, hx, e⟩
    have e' : (x == i) = true := e
    rw [← eq_of_beq e']; exact hx
  · intro h; exact ⟨i, h, by show (i == i) = true; simp⟩
theorem o_in {l : Addr} {ns : List Int} (h : SqL K H l (ns.map V.int)) (q : Q (.bl (decide (i ∈ ns))) H) : rIn K false (.int i) (.ref l) H Q := ⟨l, _, rfl, .inl h, rfl, all_flat ns, by rw [inV_ints]; exact q⟩
theorem o_nin {l : Addr} {ns : List Int} (h : SqL K H l (ns.map V.int)) (q : Q (.bl (!decide (i ∈ ns))) H) : rIn K true (.int i) (.ref l) H Q := ⟨l, _, rfl, .inl h, rfl, all_flat ns, by
  show Q (.bl (!inV (.int i) (ns.map V.int))) H
  rw [inV_ints]; exact q⟩
/-- list(range(n)) -/
def KLR (Q : VK) (x : V) (H : Hp) : Prop := ∃ n, x = .int n ∧ RgOk 0 n ∧ ∀ q, H q = none → Q (.ref q) (upd H q (.lst (rgV 0 n)))
theorem e_listRg1 (h : ta σ H fun x H1 => KLR Q x H1) : tLstRg (tRg1 ta) σ H Q := h
/-- 0, 1, .. below n -/
def upTo (n : Nat) : List Int := (List.range n).map Int.ofNat
theorem upTo_length (n : Nat) : (upTo n).length = n := by unfold upTo; rw [List.length_map, List.length_range]
theorem rgV_upTo (n : Nat) : rgV 0 (n : Int) = (upTo n).map V.int := by
  unfold rgV upTo
  rw [List.map_map]
  have e : ((n : Int) - 0).toNat = n := by omega
  rw [e]
  refine List.map_congr_left fun i _ => ?_
  show V.int (0 + (i : Int)) = V.int (Int.ofNat i)
  rw [Int.zero_add]; rfl
theorem k_listRg {n : Nat} (z : n ≤ 1000000) (q : ∀ p, H p = none → Q (.ref p) (upd H p (.lst ((upTo n).map V.int)))) : KLR Q (.int (n : Nat)) H :=
  ⟨n, rfl, RgOk.of_le (by omega) (by omega) (by omega) (by omega), fun p np => by rw [rgV_upTo]; exact q p np⟩
theorem m_ext {l b : Addr} {α : Type} {f : α → V} {xs zs : List α} (h : H l = some (.lst (xs.map f))) (hb : H b = some (.lst (zs.map f))) (z : xs.length + zs.length < 1000000) (q : Q .non (upd H l (.lst ((xs ++ zs).map f)))) : rExtend (.ref l) [.ref b] H Q := by
  refine ⟨l, b, _, _, rfl, rfl, h, hb, by rw [List.length_map, List.length_map]; exact Nat.le_of_lt (Nat.lt_of_lt_of_le z (by decide)), ?_⟩
  rw [List.map_append] at q; exact q
theorem o_cat {l b : Addr} {α : Type} {f : α → V} {xs zs : List α} (h : H l = some (.lst (xs.map f))) (hb : H b = some (.lst (zs.map f))) (z : xs.length + zs.length < 1000000) (q : ∀ p, H p = none → Q (.ref p) (upd H p (.lst ((xs ++ zs).map f)))) : rCat (.ref l) (.ref b) H Q := by
  refine ⟨l, b, _, _, rfl, rfl, h, hb, by rw [List.length_map, List.length_map]; exact Nat.le_of_lt (Nat.lt_of_lt_of_le z (by decide)), fun p np => ?_⟩
  have := q p np
  rw [List.map_append] at this; exact this
def KRv (K : PySem.W.Frag) (Q : VK) (x : V) (H : Hp) : Prop := ∃ a xs, x = .ref a ∧ SqL K H a xs ∧ ∀ p, H p = none → Q (.ref p) (upd H p (.lst xs.reverse))
theorem e_rev (h : ta σ H fun x H1 => KRv K Q x H1) : tRevL K ta σ H Q := h
theorem c_rev {α : Type} {f : α → V} {p : Addr} {xs : List α} (h : SqL K H p (xs.map f)) (q : ∀ p, H p = none → Q (.ref p) (upd H p (.lst (xs.reverse.map f)))) : KRv K Q (.ref p) H :=
  ⟨p, _, rfl, h, fun p np => by have := q p np; rw [List.map_reverse] at this; exact this⟩
theorem l_new {n : Nat} {B : Prop} (z : n ≤ sizeLine) (q : B) : n ≤ sizeLine ∧ B := ⟨z, q⟩

/-! ### tests -/
variable {R : Bool → Hp → Prop} {b : Bool}
theorem t_test (h : te σ H fun x H1 => ∃ k, x = .bl k ∧ R k H1) : tTest te σ H R := h
theorem t_B (h : te σ H fun x H1 => ∃ k, x = .bl k ∧ R k H1) : tB te σ H R := h
theorem b_ok {R : Bool → Prop} (q : R b) : ∃ k, V.bl b = .bl k ∧ R k := ⟨b, rfl, q⟩
theorem t_and (h : t σ H fun c H1 => if c = true then u σ H1 R else R false H1) : tAnd t u σ H R := h
theorem t_or (h : t σ H fun c H1 => if c = true then R true H1 else u σ H1 R) : tOr t u σ H R := h
theorem t_not (h : t σ H fun c H1 => R (!c) H1) : tNot t σ H R := h
theorem v_and (h : ta σ H fun x H1 => ∃ c, x = .bl c ∧ if c = true then tb σ H1 Q else Q (.bl false) H1) : tAndV ta tb σ H Q := h
theorem v_or (h : ta σ H fun x H1 => ∃ c, x = .bl c ∧ if c = true then Q (.bl true) H1 else tb σ H1 Q) : tOrV ta tb σ H Q := h
theorem v_not (h : ta σ H fun x H1 => ∃ c, x = .bl c ∧ Q (.bl (!c)) H1) : tNotV ta σ H Q := h
theorem e_if (h : t σ H fun c H1 => if c = true then ta σ H1 Q else tb σ H1 Q) : tIf t ta tb σ H Q := h
theorem e_chain {r r' : R2} (h : ta σ H fun x H1 => tb σ H1 fun y H2 => r x y H2 fun z H3 => ∃ k, z = .bl k ∧ (if k = true then tc σ H3 fun w' H4 => r' y w' H4 Q else Q (.bl false) H3)) : tChain r r' ta tb tc σ H Q := h
theorem e_chain3 {r r' r'' : R2} {td : TE} (h : ta σ H fun x H1 => tb σ H1 fun y H2 => r x y H2 fun z H3 => ∃ k, z = .bl k ∧
  (if k = true then tc σ H3 fun w' H4 => r' y w' H4 fun z' H5 => ∃ k', z' = .bl k' ∧ (if k' = true then td σ H5 fun v' H6 => r'' w' v' H6 Q else Q (.bl false) H5) else Q (.bl false) H3)) : tChain3 r r' r'' ta tb tc td σ H Q := h
end
/-! ### the kind of a value -/
def isIntV : V → Bool
  | .int _ => true
  | .bl _ => true
  | _ => false
def isBlV : V → Bool
  | .bl _ => true
  | _ => false
theorem kit_int {K : PySem.W.Frag} {H : Hp} {x : V} {t : String} (h : TyX K H x (.type t)) : kitB t "int" = some (isIntV x) := by
  cases h with
  | base b => cases b <;> first | exact (show kitB _ "int" = some true by decide +kernel) | exact (show kitB _ "int" = some false by decide +kernel)
  | _ => exact (show kitB _ "int" = some false by decide +kernel)
theorem kit_bool {K : PySem.W.Frag} {H : Hp} {x : V} {t : String} (h : TyX K H x (.type t)) : kitB t "bool" = some (isBlV x) := by
  cases h with
  | base b => cases b <;> first | exact (show kitB _ "bool" = some true by decide +kernel) | exact (show kitB _ "bool" = some false by decide +kernel)
  | _ => exact (show kitB _ "bool" = some false by decide +kernel)
/-- whether it is a whole number between two bounds -/
def isNum (x : V) (lo hi : Int) : Bool := match x with
  | .int i => decide (lo ≤ i) && decide (i ≤ hi)
  | _ => false
theorem isNum_int (i lo hi : Int) : isNum (.int i) lo hi = (decide (lo ≤ i) && decide (i ≤ hi)) := rfl
/-- a row: the numbers below its length, each once -/
structure IsRow (ns : List Int) : Prop where
  len : ns.length ≤ 1000
  bd : ∀ x ∈ ns, 0 ≤ x ∧ x < ns.length
  nd : ns.Nodup
theorem IsRow.all_num {ns : List Int} (R : IsRow ns) : (ns.map fun x => isNum (.int x) 0 ((ns.length : Int) - 1)).all id = true := by
  rw [List.all_map]
  refine List.all_eq_true.mpr fun x hx => ?_
  have := R.bd x hx
  show isNum (.int x) 0 ((ns.length : Int) - 1) = true
  rw [isNum_int, decide_eq_true this.1, decide_eq_true (by omega)]; rfl
/-! ### loops -/
def FW (J : It) (g : TG) (tb : TS) (D : Ends) (σ : L2.St) (H : Hp) : Prop := ∃ W : Nat → Nat → L2.St → Hp → Prop, (∃ m, W 0 m σ H) ∧ ∀ i m σ H, W i m σ H →
  (J.stop i H ∧ D.nx σ H) ∨ (J.go i H ∧ ∃ N : L2.St → Hp → Prop, (∀ σ' H', N σ' H' → ∃ m', m' < m ∧ W (i + 1) m' σ' H') ∧ ∀ x H', J.yld i H x H' → g x σ H' fun σ2 H2 => tb { nx := N, rt := D.rt, ct := N, bk := D.nx } σ2 H2)
section
variable {K : PySem.W.Frag} {σ : L2.St} {H : Hp} {D : Ends} {tb : TS} {g : TG} {α : Type} {f : α → V} {a : Addr}
def KL (K : PySem.W.Frag) (g : TG) (tb : TS) (D : Ends) (σ : L2.St) (x : V) (H : Hp) : Prop := ∃ a, x = .ref a ∧ (∃ xs, SqL K H a xs) ∧ FW (Itl K a) g tb D σ H
def KTu (K : PySem.W.Frag) (g : TG) (tb : TS) (D : Ends) (σ : L2.St) (x : V) (H : Hp) : Prop := ∃ a, x = .ref a ∧ (∃ xs, SqT K H a xs) ∧ FW (Itt K a) g tb D σ H
def KE (K : PySem.W.Frag) (g : TG) (tb : TS) (D : Ends) (σ : L2.St) (vs : List V) (H : Hp) : Prop := ∃ a xs, vs = [.ref a] ∧ SqL K H a xs ∧ FW (Ite K a) g tb D σ H
def KR1 (g : TG) (tb : TS) (D : Ends) (σ : L2.St) (vs : List V) (H : Hp) : Prop := ∃ j : Int, vs = [.int j] ∧ -(2 ^ 62) ≤ j ∧ j < 2 ^ 62 ∧ FW (Itr 0 j.toNat) g tb D σ H
def KR2 (g : TG) (tb : TS) (D : Ends) (σ : L2.St) (vs : List V) (H : Hp) : Prop := ∃ i j : Int, vs = [.int i, .int j] ∧ (-(2 ^ 62) ≤ i ∧ i < 2 ^ 62 ∧ -(2 ^ 62) ≤ j ∧ j < 2 ^ 62) ∧ FW (Itr i (j - i).toNat) g tb D σ H
theorem r_forL {tl : TE} (h : tl σ H fun x H1 => KL K g tb D σ x H1) : tFor (iList K tl) g tb D σ H := h
theorem r_forT {tl : TE} (h : tl σ H fun x H1 => KTu K g tb D σ x H1) : tFor (iTup K tl) g tb D σ H := h
theorem r_forE {ta : TA} (h : ta σ H fun vs H1 => KE K g tb D σ vs H1) : tFor (iEnum K ta) g tb D σ H := h
theorem r_forR1 {ta : TA} (h : ta σ H fun vs H1 => KR1 g tb D σ vs H1) : tFor (iRng1 ta) g tb D σ H := h
theorem r_forR2 {ta : TA} (h : ta σ H fun vs H1 => KR2 g tb D σ vs H1) : tFor (iRng2 ta) g tb D σ H := h
/-- a loop over a list -/
theorem k_lst (xs : List α) (Pv : Nat → L2.St → Hp → Prop) (hx : SqL K H a (xs.map f)) (h0 : Pv 0 σ H) (hl : ∀ (i : Nat) (σ : L2.St) (H : Hp), i ≤ xs.length → Pv i σ H → SqL K H a (xs.map f))
    (hs : ∀ (i : Nat) (x : α) (σ : L2.St) (H : Hp), xs[i]? = some x → Pv i σ H → g (f x) σ H fun σ2 H2 => tb { nx := Pv (i + 1), rt := D.rt, ct := Pv (i + 1), bk := D.nx } σ2 H2) (hd : ∀ σ H, Pv xs.length σ H → D.nx σ H) :
    KL K g tb D σ (.ref a) H := by
  refine ⟨a, rfl, ⟨_, hx⟩, for_list (K := K) (a := a) (xs := xs.map f) Pv h0 (fun i σ H hi => hl i σ H (by rw [List.length_map] at hi; exact hi)) (fun i x σ H hx p => ?_) (fun σ H p => hd σ H (by rw [List.length_map] at p; exact p))⟩
  obtain ⟨y, hy, rfl⟩ := map_get hx
  exact hs i y σ H hy p
/-- .. whose target is a name -/
theorem k_lstN {j : Nat} (xs : List α) (Pv : Nat → L2.St → Hp → Prop) (hx : SqL K H a (xs.map f)) (h0 : Pv 0 σ H) (hl : ∀ (i : Nat) (σ : L2.St) (H : Hp), i ≤ xs.length → Pv i σ H → SqL K H a (xs.map f))
    (hs : ∀ (i : Nat) (x : α) (σ : L2.St) (H : Hp), xs[i]? = some x → Pv i σ H → tb { nx := Pv (i + 1), rt := D.rt, ct := Pv (i + 1), bk := D.nx } (σ.set j (some (f x))) H) (hd : ∀ σ H, Pv xs.length σ H → D.nx σ H) :
    KL K (gName j) tb D σ (.ref a) H := k_lst xs Pv hx h0 hl hs hd
/-- .. whose items are tuples: the item's address and what it holds -/
theorem k_lst2 {j1 j2 : Nat} {u v : α → V} {ad : α → Addr} (xs : List α) (Pv : Nat → L2.St → Hp → Prop) (hx : SqL K H a (xs.map fun x => V.ref (ad x))) (h0 : Pv 0 σ H)
    (hl : ∀ (i : Nat) (σ : L2.St) (H : Hp), i ≤ xs.length → Pv i σ H → SqL K H a (xs.map fun x => V.ref (ad x)) ∧ ∀ x ∈ xs, SqT K H (ad x) [u x, v x])
    (hs : ∀ (i : Nat) (x : α) (σ : L2.St) (H : Hp), xs[i]? = some x → Pv i σ H → tb { nx := Pv (i + 1), rt := D.rt, ct := Pv (i + 1), bk := D.nx } ((σ.set j1 (some (u x))).set j2 (some (v x))) H) (hd : ∀ σ H, Pv xs.length σ H → D.nx σ H) :
    KL K (gTup K 2 (gCons (gName j1) (gCons (gName j2) gNil))) tb D σ (.ref a) H := by
  refine k_lst (f := fun x => V.ref (ad x)) xs Pv hx h0 (fun i σ H hi p => (hl i σ H hi p).1) (fun i x σ H hx p => ?_) hd
  have hi : i < xs.length := (List.getElem?_eq_some_iff.mp hx).1
  exact ⟨ad x, _, rfl, (hl i σ H (by omega) p).2 x (List.mem_of_getElem? hx), rfl, _, _, rfl, _, _, rfl, rfl, hs i x σ H hx p⟩
theorem k_tupN {j : Nat} (ys : List V) (Pv : Nat → L2.St → Hp → Prop) (hx : SqT K H a ys) (h0 : Pv 0 σ H) (hl : ∀ (i : Nat) (σ : L2.St) (H : Hp), i ≤ ys.length → Pv i σ H → SqT K H a ys)
    (hs : ∀ (i : Nat) (x : V) (σ : L2.St) (H : Hp), ys[i]? = some x → Pv i σ H → tb { nx := Pv (i + 1), rt := D.rt, ct := Pv (i + 1), bk := D.nx } (σ.set j (some x)) H) (hd : ∀ σ H, Pv ys.length σ H → D.nx σ H) :
    KTu K (gName j) tb D σ (.ref a) H := ⟨a, rfl, ⟨_, hx⟩, for_tup Pv h0 hl hs hd⟩
/-- for i, x in enumerate(list) -/
theorem k_enum {j1 j2 : Nat} (xs : List α) (Pv : Nat → L2.St → Hp → Prop) (hx : SqL K H a (xs.map f)) (h0 : Pv 0 σ H) (hl : ∀ (i : Nat) (σ : L2.St) (H : Hp), i ≤ xs.length → Pv i σ H → SqL K H a (xs.map f))
    (hs : ∀ (i : Nat) (x : α) (σ : L2.St) (H : Hp) (T : Addr), xs[i]? = some x → Pv i σ H → H T = none → tb { nx := Pv (i + 1), rt := D.rt, ct := Pv (i + 1), bk := D.nx } ((σ.set j1 (some (.int (i : Nat)))).set j2 (some (f x))) (upd H T (.tup [.int (i : Nat), f x]))) (hd : ∀ σ H, Pv xs.length σ H → D.nx σ H) :
    KE K (gTup K 2 (gCons (gName j1) (gCons (gName j2) gNil))) tb D σ [.ref a] H := by
  refine ⟨a, _, rfl, hx, fun i m σ H => m = xs.length - i ∧ i ≤ xs.length ∧ Pv i σ H, ⟨xs.length, by simp, Nat.zero_le _, h0⟩, ?_⟩
  rintro i m σ H ⟨rfl, hi, p⟩
  have q := hl i σ H hi p
  by_cases hlt : i < xs.length
  · have hx : xs[i]? = some xs[i] := List.getElem?_eq_getElem hlt
    refine .inr ⟨⟨_, f xs[i], q, by rw [List.getElem?_map, hx]; rfl⟩, Pv (i + 1), fun σ' H' p' => ⟨xs.length - (i + 1), by omega, rfl, hlt, p'⟩, fun x H' y => ?_⟩
    obtain ⟨T, x', rfl, nT, rfl, hy⟩ := y
    have e := hy _ q
    rw [List.getElem?_map, hx] at e
    have e' : f xs[i] = x' := Option.some.inj e
    subst e'
    exact ⟨T, _, rfl, SqT.of upd_same, rfl, _, _, rfl, _, _, rfl, rfl, hs i _ σ H T hx p nT⟩
  · have e : i = xs.length := by omega
    subst e
    exact .inl ⟨⟨_, q, by rw [List.length_map]; exact Nat.le_refl _⟩, hd σ H p⟩
theorem k_rng1 {j : Nat} {n : Int} (Pv : Nat → L2.St → Hp → Prop) (z : 0 ≤ n ∧ n ≤ 1000000) (h0 : Pv 0 σ H)
    (hs : ∀ (i : Nat) (σ : L2.St) (H : Hp), (i : Int) < n → Pv i σ H → tb { nx := Pv (i + 1), rt := D.rt, ct := Pv (i + 1), bk := D.nx } (σ.set j (some (.int (i : Nat)))) H) (hd : ∀ σ H, Pv n.toNat σ H → D.nx σ H) :
    KR1 (gName j) tb D σ [.int n] H := by
  refine ⟨n, rfl, by omega, by omega, for_range (lo := 0) (n := n.toNat) Pv h0 (fun i σ H hi p => ?_) hd⟩
  have e0 : (0 : Int) + (i : Int) = (i : Int) := Int.zero_add _
  show tb _ (σ.set j (some (.int ((0 : Int) + (i : Int))))) H
  rw [e0]
  exact hs i σ H (by omega) p
theorem k_rng2 {j : Nat} {lo n : Int} (Pv : Nat → L2.St → Hp → Prop) (z : 0 ≤ lo ∧ lo ≤ 1000000 ∧ -1 ≤ n ∧ n ≤ 1000000) (h0 : Pv 0 σ H)
    (hs : ∀ (i : Nat) (σ : L2.St) (H : Hp), lo + (i : Int) < n → Pv i σ H → tb { nx := Pv (i + 1), rt := D.rt, ct := Pv (i + 1), bk := D.nx } (σ.set j (some (.int (lo + (i : Nat))))) H) (hd : ∀ σ H, Pv (n - lo).toNat σ H → D.nx σ H) :
    KR2 (gName j) tb D σ [.int lo, .int n] H :=
  ⟨lo, n, rfl, by omega, for_range (lo := lo) (n := (n - lo).toNat) Pv h0 (fun i σ H hi p => hs i σ H (by omega) p) hd⟩
/-- while: a word W by a measure -/
theorem r_while {tc : TT} (W : Nat → L2.St → Hp → Prop) (m0 : Nat) (h0 : W m0 σ H)
    (hs : ∀ m σ' H', W m σ' H' → tc σ' H' fun b H1 => if b = true then ∃ N : L2.St → Hp → Prop, (∀ σ2 H2, N σ2 H2 → ∃ m', m' < m ∧ W m' σ2 H2) ∧ tb { nx := N, rt := D.rt, ct := N, bk := D.nx } σ' H1 else D.nx σ' H1) : tWhile tc tb D σ H :=
  ⟨W, ⟨m0, h0⟩, hs⟩
end
/-! ### comprehensions -/
theorem tYes_ok {σ : L2.St} {H : Hp} {R : Bool → Hp → Prop} (h : R true H) : tYes σ H R := h
def CW (J : It) (g : TG) (tt : TT) (te : TE) (vs : List Nat) (σ : L2.St) (D : Addr) (H1 : Hp) (Qd : Hp → Prop) : Prop := ∃ W : Nat → Nat → Hp → Prop, (∃ m, W 0 m (upd H1 D (.lst []))) ∧ ∀ i m H, W i m H →
  (J.stop i H ∧ Qd H) ∨ (J.go i H ∧ ∃ Nx : Hp → Prop, (∀ H', Nx H' → ∃ m', m' < m ∧ W (i + 1) m' H') ∧ ∀ x H', J.yld i H x H' → g x (wipe σ vs) H' fun σ2 H2 => wipe σ2 vs = wipe σ vs ∧ tt σ2 H2 fun b H3 =>
    if b = true then te σ2 H3 fun y H4 => ∃ acc, H4 D = some (.lst acc) ∧ acc.length < sizeLine ∧ Nx (upd H4 D (.lst (acc ++ [y]))) else Nx H3)
/-- new objects at as, each holding obj of its item -/
def News {α : Type} (H1 H2 : Hp) (obj : α → HO) (as : List Addr) (xs : List α) : Prop := as.length = xs.length ∧ as.Nodup ∧ ∀ (i : Nat) (p : Addr) (x : α), as[i]? = some p → xs[i]? = some x → H1 p = none ∧ H2 p = some (obj x)
section
variable {K : PySem.W.Frag} {σ : L2.St} {H : Hp} {Q : VK} {g : TG} {te : TE} {tt : TT} {α β : Type} {f : α → V} {h : β → V} {a : Addr} {j : Nat} {vs : List Nat}
def KC (K : PySem.W.Frag) (g : TG) (tt : TT) (te : TE) (vs : List Nat) (σ : L2.St) (Q : VK) (x : V) (H : Hp) : Prop := ∃ a, x = .ref a ∧ (∃ xs, SqL K H a xs) ∧ ∀ D, H D = none → CW (Itl K a) g tt te vs σ D H fun H2 => Q (.ref D) H2
def KCR1 (g : TG) (tt : TT) (te : TE) (vs : List Nat) (σ : L2.St) (Q : VK) (us : List V) (H : Hp) : Prop := ∃ j : Int, us = [.int j] ∧ -(2 ^ 62) ≤ j ∧ j < 2 ^ 62 ∧ ∀ D, H D = none → CW (Itr 0 j.toNat) g tt te vs σ D H fun H2 => Q (.ref D) H2
def KCR2 (g : TG) (tt : TT) (te : TE) (vs : List Nat) (σ : L2.St) (Q : VK) (us : List V) (H : Hp) : Prop := ∃ i j : Int, us = [.int i, .int j] ∧ (-(2 ^ 62) ≤ i ∧ i < 2 ^ 62 ∧ -(2 ^ 62) ≤ j ∧ j < 2 ^ 62) ∧ ∀ D, H D = none → CW (Itr i (j - i).toNat) g tt te vs σ D H fun H2 => Q (.ref D) H2
theorem e_lcL {tl : TE} (hh : tl σ H fun x H1 => KC K g tt te vs σ Q x H1) : tLc (iList K tl) g tt te vs σ H Q := hh
theorem e_lcR1 {ta : TA} (hh : ta σ H fun us H1 => KCR1 g tt te vs σ Q us H1) : tLc (iRng1 ta) g tt te vs σ H Q := hh
theorem e_lcR2 {ta : TA} (hh : ta σ H fun us H1 => KCR2 g tt te vs σ Q us H1) : tLc (iRng2 ta) g tt te vs σ H Q := hh
/-- elements that are values, over a list -/
theorem k_lcV {xs : List α} (F : α → β) (hx : SqL K H a (xs.map f)) (z : xs.length < 1000000) (hw : ∀ v : V, wipe ((wipe σ vs).set j (some v)) vs = wipe σ vs)
    (hs : ∀ (i : Nat) (x : α) (H2 : Hp) (R : VK), xs[i]? = some x → Same H H2 → (∀ H3, Same H2 H3 → R (h (F x)) H3) → te ((wipe σ vs).set j (some (f x))) H2 R)
    (hd : ∀ D H2, H D = none → Same H H2 → H2 D = some (.lst ((xs.map F).map h)) → Q (.ref D) H2) : KC K (gName j) tYes te vs σ Q (.ref a) H := by
  refine ⟨a, rfl, ⟨_, hx⟩, fun D nD => ?_⟩
  refine lc_list (xs := xs.map f) (fun i H2 => Same H H2 ∧ H2 D = some (.lst (((xs.take i).map F).map h))) ⟨Same.one nD, upd_same⟩ (fun i H2 _ p => p.1.seq hx) (fun i x H2 hi p => ⟨hw x, ?_⟩) (fun H2 p => ?_)
  · obtain ⟨y, hy, rfl⟩ := map_get hi
    refine tYes_ok (iteT ?_)
    refine hs i y H2 _ hy p.1 fun H4 s4 => ?_
    refine ⟨_, s4 _ _ p.2, ?_, Same.new (p.1.trans s4) nD, ?_⟩
    · rw [List.length_map, List.length_map, List.length_take]
      exact Nat.lt_of_lt_of_le (Nat.lt_of_le_of_lt (Nat.min_le_right _ _) z) (by decide)
    · rw [upd_same, List.take_add_one, hy, List.map_append, List.map_append]; rfl
  · obtain ⟨p1, p2⟩ := p
    rw [List.length_map, List.take_length] at p2
    exact hd D H2 nD p1 p2
/-- .. over a list of lists (as their addresses, xss what stands there) -/
theorem k_lcLf {γ : Type} {as : List Addr} {xss : List γ} (F : γ → β) (hx : SqL K H a (as.map V.ref)) (hl : as.length = xss.length) (z : as.length < 1000000) (hw : ∀ v : V, wipe ((wipe σ vs).set j (some v)) vs = wipe σ vs)
    (hs : ∀ (i : Nat) (p : Addr) (x : γ) (H2 : Hp) (R : VK), as[i]? = some p → xss[i]? = some x → Same H H2 → (∀ H3, Same H2 H3 → R (h (F x)) H3) → te ((wipe σ vs).set j (some (.ref p))) H2 R)
    (hd : ∀ D H2, H D = none → Same H H2 → H2 D = some (.lst ((xss.map F).map h)) → Q (.ref D) H2) : KC K (gName j) tYes te vs σ Q (.ref a) H := by
  have e1 : (as.zip xss).map (fun p => V.ref p.1) = as.map V.ref := by
    have : (as.zip xss).map Prod.fst = as := List.map_fst_zip (by omega)
    conv => rhs; rw [← this, List.map_map]
    rfl
  have e2 : (as.zip xss).map (fun p => F p.2) = xss.map F := by
    have : (as.zip xss).map Prod.snd = xss := List.map_snd_zip (by omega)
    conv => rhs; rw [← this, List.map_map]
    rfl
  refine k_lcV (xs := as.zip xss) (f := fun p => V.ref p.1) (h := h) (fun p => F p.2) (by rw [e1]; exact hx) (by rw [List.length_zip]; omega) hw (fun i x H2 R hi s2 k => ?_) (fun D H2 nD s2 hD => hd D H2 nD s2 (by rw [e2] at hD; exact hD))
  obtain ⟨p, y⟩ := x
  obtain ⟨h1, h2⟩ := List.getElem?_zip_eq_some.mp hi
  exact hs i p y H2 R h1 h2 s2 k
/-- elements that are values, over a range -/
theorem k_lcR1 {n : Int} (F : Nat → β) (z : 0 ≤ n ∧ n < 1000000) (hw : ∀ v : V, wipe ((wipe σ vs).set j (some v)) vs = wipe σ vs)
    (hs : ∀ (i : Nat) (H2 : Hp) (R : VK), (i : Int) < n → Same H H2 → (∀ H3, Same H2 H3 → R (h (F i)) H3) → te ((wipe σ vs).set j (some (.int (i : Nat)))) H2 R)
    (hd : ∀ D H2, H D = none → Same H H2 → H2 D = some (.lst (((List.range n.toNat).map F).map h)) → Q (.ref D) H2) : KCR1 (gName j) tYes te vs σ Q [.int n] H := by
  refine ⟨n, rfl, by omega, by omega, fun D nD => ?_⟩
  refine lc_range (lo := 0) (n := n.toNat) (fun i H2 => Same H H2 ∧ H2 D = some (.lst (((List.range i).map F).map h))) ⟨Same.one nD, upd_same⟩ (fun i H2 hi p => ⟨hw _, ?_⟩) (fun H2 p => hd D H2 nD p.1 p.2)
  have e0 : (0 : Int) + (i : Int) = (i : Int) := Int.zero_add _
  rw [e0]
  refine tYes_ok (iteT ?_)
  refine hs i H2 _ (by omega) p.1 fun H4 s4 => ?_
  refine ⟨_, s4 _ _ p.2, ?_, Same.new (p.1.trans s4) nD, ?_⟩
  · rw [List.length_map, List.length_map, List.length_range]
    exact Nat.lt_of_lt_of_le (show i < 1000000 by omega) (by decide)
  · rw [upd_same, List.range_succ, List.map_append, List.map_append]; rfl
theorem k_lcR2 {lo n : Int} (F : Int → β) (z : 0 ≤ lo ∧ lo ≤ 1000000 ∧ -1 ≤ n ∧ n < 1000000) (hw : ∀ v : V, wipe ((wipe σ vs).set j (some v)) vs = wipe σ vs)
    (hs : ∀ (i : Nat) (H2 : Hp) (R : VK), lo + (i : Int) < n → Same H H2 → (∀ H3, Same H2 H3 → R (h (F (lo + i))) H3) → te ((wipe σ vs).set j (some (.int (lo + (i : Nat))))) H2 R)
    (hd : ∀ D H2, H D = none → Same H H2 → H2 D = some (.lst (((List.range (n - lo).toNat).map fun i : Nat => F (lo + i)).map h)) → Q (.ref D) H2) : KCR2 (gName j) tYes te vs σ Q [.int lo, .int n] H := by
  refine ⟨lo, n, rfl, by omega, fun D nD => ?_⟩
  refine lc_range (lo := lo) (n := (n - lo).toNat) (fun i H2 => Same H H2 ∧ H2 D = some (.lst (((List.range i).map fun i : Nat => F (lo + i)).map h))) ⟨Same.one nD, upd_same⟩ (fun i H2 hi p => ⟨hw _, ?_⟩) (fun H2 p => hd D H2 nD p.1 p.2)
  refine tYes_ok (iteT ?_)
  refine hs i H2 _ (by omega) p.1 fun H4 s4 => ?_
  refine ⟨_, s4 _ _ p.2, ?_, Same.new (p.1.trans s4) nD, ?_⟩
  · rw [List.length_map, List.length_map, List.length_range]
    exact Nat.lt_of_lt_of_le (show i < 1000002 by omega) (by decide)
  · rw [upd_same, List.range_succ, List.map_append, List.map_append]; rfl
/-- elements that are new objects, over a list -/
theorem k_lcN {xs : List α} (obj : α → HO) (hx : SqL K H a (xs.map f)) (z : xs.length < 1000000) (hw : ∀ v : V, wipe ((wipe σ vs).set j (some v)) vs = wipe σ vs)
    (hs : ∀ (i : Nat) (x : α) (H2 : Hp) (R : VK), xs[i]? = some x → Same H H2 → (∀ p H3, H2 p = none → Same H2 H3 → H3 p = some (obj x) → R (.ref p) H3) → te ((wipe σ vs).set j (some (f x))) H2 R)
    (hd : ∀ D as H2, H D = none → Same H H2 → News H H2 obj as xs → D ∉ as → H2 D = some (.lst (as.map V.ref)) → Q (.ref D) H2) : KC K (gName j) tYes te vs σ Q (.ref a) H := by
  refine ⟨a, rfl, ⟨_, hx⟩, fun D nD => ?_⟩
  refine lc_list (xs := xs.map f) (fun i H2 => Same H H2 ∧ ∃ as, News H H2 obj as (xs.take i) ∧ D ∉ as ∧ H2 D = some (.lst (as.map V.ref)))
    ⟨Same.one nD, [], ⟨rfl, List.nodup_nil, fun i p x h => by simp at h⟩, by simp, upd_same⟩ (fun i H2 _ p => p.1.seq hx) (fun i x H2 hi p => ⟨hw x, ?_⟩) (fun H2 p => ?_)
  · obtain ⟨y, hy, rfl⟩ := map_get hi
    obtain ⟨p1, as, ⟨n1, n2, n3⟩, p3, p4⟩ := p
    have hil : i < xs.length := (List.getElem?_eq_some_iff.mp hy).1
    have hl : as.length = i := by rw [n1, List.length_take]; omega
    refine tYes_ok (iteT ?_)
    refine hs i y H2 _ hy p1 fun p H4 np s4 hp => ?_
    have pD : p ≠ D := (ne_of_none p4 np).symm
    have pas : p ∉ as := fun hm => by
      obtain ⟨k, hk⟩ := List.mem_iff_getElem?.mp hm
      have hkl : k < as.length := (List.getElem?_eq_some_iff.mp hk).1
      obtain ⟨x, hx'⟩ : ∃ x, (xs.take i)[k]? = some x := ⟨_, List.getElem?_eq_getElem (by rw [← n1]; exact hkl)⟩
      have := (n3 k p x hk hx').2
      rw [np] at this; cases this
    refine ⟨_, s4 _ _ p4, ?_, Same.new (p1.trans s4) nD, as ++ [p], ⟨?_, ?_, ?_⟩, ?_, ?_⟩
    · rw [List.length_map, hl]
      exact Nat.lt_of_lt_of_le (show i < 1000000 by omega) (by decide)
    · rw [List.length_append, n1, List.take_add_one, hy, List.length_append]; rfl
    · exact List.nodup_append.mpr ⟨n2, by simp, fun x hx y hy => by
        have : y = p := by simpa using hy
        subst this
        exact fun e => pas (e ▸ hx)⟩
    · intro k q x hk hx'
      rw [List.take_add_one, hy] at hx'
      by_cases hki : k < i
      · rw [List.getElem?_append_left (by omega)] at hk
        rw [List.getElem?_append_left (by rw [List.length_take]; omega)] at hx'
        obtain ⟨m1, m2⟩ := n3 k q x hk hx'
        have qD : q ≠ D := fun e => p3 (e ▸ List.mem_of_getElem? hk)
        exact ⟨m1, by rw [upd_ne qD]; exact s4 _ _ m2⟩
      · rw [List.getElem?_append_right (by omega), hl] at hk
        rw [List.getElem?_append_right (by rw [List.length_take]; omega), List.length_take] at hx'
        have e0 : k - i = 0 := by
          cases hz : k - i with
          | zero => rfl
          | succ m => rw [hz] at hk; simp at hk
        have e1 : k - min i xs.length = 0 := by omega
        rw [e0] at hk; rw [e1] at hx'
        have h1 : p = q := Option.some.inj hk
        have h2 : y = x := Option.some.inj hx'
        subst h1 h2
        exact ⟨p1.free np, by rw [upd_ne pD]; exact hp⟩
    · intro hm
      rcases List.mem_append.mp hm with hm | hm
      · exact p3 hm
      · exact pD (by simpa using hm : D = p).symm
    · rw [upd_same, List.map_append]; rfl
  · obtain ⟨p1, as, n, p3, p4⟩ := p
    rw [List.length_map, List.take_length] at n
    exact hd D as H2 nD p1 n p3 p4
end
section
variable {K : PySem.W.Frag} {σ : L2.St} {H : Hp} {Q : VK} {te : TE} {a : Addr} {j : Nat} {vs : List Nat}
/-- .. over a list of lists (as their addresses, xss what stands there) -/
theorem k_lcNf {γ : Type} {as : List Addr} {xss : List γ} (obj : γ → HO) (hx : SqL K H a (as.map V.ref)) (hl : as.length = xss.length) (z : as.length < 1000000) (hw : ∀ v : V, wipe ((wipe σ vs).set j (some v)) vs = wipe σ vs)
    (hs : ∀ (i : Nat) (p : Addr) (x : γ) (H2 : Hp) (R : VK), as[i]? = some p → xss[i]? = some x → Same H H2 → (∀ q H3, H2 q = none → Same H2 H3 → H3 q = some (obj x) → R (.ref q) H3) → te ((wipe σ vs).set j (some (.ref p))) H2 R)
    (hd : ∀ D bs H2, H D = none → Same H H2 → News H H2 obj bs xss → D ∉ bs → H2 D = some (.lst (bs.map V.ref)) → Q (.ref D) H2) : KC K (gName j) tYes te vs σ Q (.ref a) H := by
  have e1 : (as.zip xss).map (fun p => V.ref p.1) = as.map V.ref := by
    have : (as.zip xss).map Prod.fst = as := List.map_fst_zip (by omega)
    conv => rhs; rw [← this, List.map_map]
    rfl
  refine k_lcN (xs := as.zip xss) (f := fun p => V.ref p.1) (fun p => obj p.2) (by rw [e1]; exact hx) (by rw [List.length_zip]; omega) hw (fun i x H2 R hi s2 k => ?_) (fun D bs H2 nD s2 n hn hD => hd D bs H2 nD s2 ⟨by rw [n.1, List.length_zip]; omega, n.2.1, fun i q x hq hx => ?_⟩ hn hD)
  · obtain ⟨p, y⟩ := x
    obtain ⟨h1, h2⟩ := List.getElem?_zip_eq_some.mp hi
    exact hs i p y H2 R h1 h2 s2 k
  · have hi : i < as.length := by rw [hl]; exact (List.getElem?_eq_some_iff.mp hx).1
    exact n.2.2 i q (as[i], x) hq (List.getElem?_zip_eq_some.mpr ⟨List.getElem?_eq_getElem hi, hx⟩)
end
section
variable {α : Type} {H1 H2 H3 : Hp} {obj : α → HO} {as : List Addr} {xs : List α}
theorem News.nil : News H1 H2 obj [] [] := ⟨rfl, List.nodup_nil, fun i p x h => by simp at h⟩
theorem News.len (n : News H1 H2 obj as xs) : as.length = xs.length := n.1
theorem News.get (n : News H1 H2 obj as xs) {i : Nat} {x : α} (h : xs[i]? = some x) : ∃ p, as[i]? = some p ∧ H1 p = none ∧ H2 p = some (obj x) := by
  have hi : i < as.length := by rw [n.1]; exact (List.getElem?_eq_some_iff.mp h).1
  exact ⟨as[i], List.getElem?_eq_getElem hi, n.2.2 i _ x (List.getElem?_eq_getElem hi) h⟩
theorem News.mem (n : News H1 H2 obj as xs) {p : Addr} (h : p ∈ as) : ∃ x ∈ xs, H1 p = none ∧ H2 p = some (obj x) := by
  obtain ⟨i, hi⟩ := List.mem_iff_getElem?.mp h
  have hl : i < xs.length := by rw [← n.1]; exact (List.getElem?_eq_some_iff.mp hi).1
  exact ⟨xs[i], List.getElem_mem hl, n.2.2 i p _ hi (List.getElem?_eq_getElem hl)⟩
theorem News.same (n : News H1 H2 obj as xs) (s : Same H2 H3) : News H1 H3 obj as xs := ⟨n.1, n.2.1, fun i p x h h' => ⟨(n.2.2 i p x h h').1, s _ _ (n.2.2 i p x h h').2⟩⟩
theorem News.back (n : News H1 H2 obj as xs) {H0 : Hp} (s : Same H0 H1) : News H0 H2 obj as xs := ⟨n.1, n.2.1, fun i p x h h' => ⟨s.free (n.2.2 i p x h h').1, (n.2.2 i p x h h').2⟩⟩
theorem News.mut (n : News H1 H2 obj as xs) {p : Addr} {o : HO} (h : p ∉ as) : News H1 (upd H2 p o) obj as xs := ⟨n.1, n.2.1, fun i q x hq hx => ⟨(n.2.2 i q x hq hx).1, by
  rw [upd_ne (fun e => h (by rw [← e]; exact List.mem_of_getElem? hq))]; exact (n.2.2 i q x hq hx).2⟩⟩
theorem News.notin (n : News H1 H2 obj as xs) {p : Addr} (h : H2 p = none) : p ∉ as := fun hm => by
  obtain ⟨x, _, _, e⟩ := n.mem hm
  rw [h] at e; cases e
theorem News.notin1 (n : News H1 H2 obj as xs) {p : Addr} {o : HO} (h : H1 p = some o) : p ∉ as := fun hm => by
  obtain ⟨x, _, e, _⟩ := n.mem hm
  rw [h] at e; cases e
theorem News.snoc (n : News H1 H2 obj as xs) {p : Addr} {x : α} (h : p ∉ as) (h1 : H1 p = none) (h2 : H2 p = some (obj x)) : News H1 H2 obj (as ++ [p]) (xs ++ [x]) := by
  refine ⟨by rw [List.length_append, List.length_append, n.1]; rfl, List.nodup_append.mpr ⟨n.2.1, by simp, fun a ha b hb => ?_⟩, fun i q y hq hy => ?_⟩
  · have : b = p := by simpa using hb
    subst this
    exact fun e => h (e ▸ ha)
  · by_cases hi : i < as.length
    · rw [List.getElem?_append_left hi] at hq
      rw [List.getElem?_append_left (by rw [← n.1]; exact hi)] at hy
      exact n.2.2 i q y hq hy
    · rw [List.getElem?_append_right (by omega)] at hq
      rw [List.getElem?_append_right (by rw [← n.1]; omega), ← n.1] at hy
      have e0 : i - as.length = 0 := by
        cases hz : i - as.length with
        | zero => rfl
        | succ m => rw [hz] at hq; simp at hq
      rw [e0] at hq hy
      have e1 : p = q := Option.some.inj hq
      have e2 : x = y := Option.some.inj hy
      subst e1 e2
      exact ⟨h1, h2⟩
theorem News.reverse (n : News H1 H2 obj as xs) : News H1 H2 obj as.reverse xs.reverse := by
  refine ⟨by rw [List.length_reverse, List.length_reverse, n.1], (List.reverse_perm as).nodup_iff.mpr n.2.1, fun i p x hp hx => ?_⟩
  have hi : i < as.length := by have := (List.getElem?_eq_some_iff.mp hp).1; rwa [List.length_reverse] at this
  rw [List.getElem?_reverse hi] at hp
  rw [List.getElem?_reverse (by rw [← n.1]; exact hi), ← n.1] at hx
  exact n.2.2 _ p x hp hx
theorem nm_snoc {p q : Addr} (h : p ∉ as) (ne : p ≠ q) : p ∉ as ++ [q] := fun hm => by
  rcases List.mem_append.mp hm with hm | hm
  · exact h hm
  · exact ne (by simpa using hm)
end
/-- a pair of ints as an object -/
abbrev oP (p : Int × Int) : HO := .tup [.int p.1, .int p.2]
/-- pairs that stand at their places -/
def Tf (H : Hp) (ts : List Addr) (ps : List (Int × Int)) : Prop := ts.length = ps.length ∧ ∀ (i : Nat) (t : Addr) (p : Int × Int), ts[i]? = some t → ps[i]? = some p → H t = some (oP p)
theorem Tf.same {H H' : Hp} {ts : List Addr} {ps : List (Int × Int)} (h : Tf H ts ps) (s : Same H H') : Tf H' ts ps := ⟨h.1, fun i t p a b => s _ _ (h.2 i t p a b)⟩
theorem Tf.of {H0 H : Hp} {ts : List Addr} {ps : List (Int × Int)} (n : News H0 H oP ts ps) : Tf H ts ps := ⟨n.1, fun i t p a b => (n.2.2 i t p a b).2⟩
section
variable {K : PySem.W.Frag} {σ : L2.St} {H : Hp} {D : Ends} {tb : TS} {a : Addr} {ts : List Addr} {ps : List (Int × Int)}
/-- for x, y in a list of pairs -/
theorem k_lstP {j1 j2 : Nat} (Pv : Nat → L2.St → Hp → Prop) (hx : SqL K H a (ts.map V.ref)) (hl : ts.length = ps.length) (h0 : Pv 0 σ H)
    (hk : ∀ (i : Nat) (σ : L2.St) (H : Hp), i ≤ ts.length → Pv i σ H → SqL K H a (ts.map V.ref) ∧ Tf H ts ps)
    (hs : ∀ (i : Nat) (p : Int × Int) (σ : L2.St) (H : Hp), ps[i]? = some p → Pv i σ H → tb { nx := Pv (i + 1), rt := D.rt, ct := Pv (i + 1), bk := D.nx } ((σ.set j1 (some (.int p.1))).set j2 (some (.int p.2))) H) (hd : ∀ σ H, Pv ps.length σ H → D.nx σ H) :
    KL K (gTup K 2 (gCons (gName j1) (gCons (gName j2) gNil))) tb D σ (.ref a) H := by
  refine k_lst (f := V.ref) ts Pv hx h0 (fun i σ H hi p => (hk i σ H hi p).1) (fun i t σ H ht p => ?_) (fun σ H p => hd σ H (by rw [← hl]; exact p))
  have hi : i < ts.length := (List.getElem?_eq_some_iff.mp ht).1
  have hp : ps[i]? = some ps[i] := List.getElem?_eq_getElem (by omega)
  exact ⟨t, _, rfl, SqT.of ((hk i σ H (by omega) p).2.2 i t _ ht hp), rfl, _, _, rfl, _, _, rfl, rfl, hs i _ σ H hp p⟩
end
/-- a list of ints as an object -/
abbrev oL (r : List Int) : HO := .lst (r.map V.int)
/-! ### ifs -/
theorem ite_nT {A B : Prop} (h : B) : if (!true) = true then A else B := iteF h
theorem ite_nF {A B : Prop} (h : A) : if (!false) = true then A else B := iteT h
theorem ite_bl {b : Bool} {A B : Prop} (h1 : b = true → A) (h2 : b = false → B) : if b = true then A else B := by
  cases b with
  | true => exact iteT (h1 rfl)
  | false => exact iteF (h2 rfl)
theorem ite_y {b : Bool} {A B : Prop} (h : b = true) (a : A) : if b = true then A else B := by subst h; exact iteT a
theorem ite_n {b : Bool} {A B : Prop} (h : b = false) (a : B) : if b = true then A else B := by subst h; exact iteF a
theorem ite_dec {c : Prop} [Decidable c] {A B : Prop} (h1 : c → A) (h2 : ¬ c → B) : if decide c = true then A else B := by
  by_cases h : c
  · rw [if_pos (decide_eq_true h)]; exact h1 h
  · rw [if_neg (by rw [decide_eq_false h]; exact Bool.false_ne_true)]; exact h2 h
theorem ite_ndec {c : Prop} [Decidable c] {A B : Prop} (h1 : ¬ c → A) (h2 : c → B) : if (!decide c) = true then A else B := by
  by_cases h : c
  · rw [if_neg (by rw [decide_eq_true h]; exact Bool.false_ne_true)]; exact h2 h
  · rw [if_pos (by rw [decide_eq_false h]; rfl)]; exact h1 h
theorem ite_decY {c : Prop} [Decidable c] {A B : Prop} (h : c) (a : A) : if decide c = true then A else B := ite_dec (fun _ => a) (fun n => absurd h n)
theorem ite_decN {c : Prop} [Decidable c] {A B : Prop} (h : ¬ c) (a : B) : if decide c = true then A else B := ite_dec (fun n => absurd n h) (fun _ => a)
theorem ite_ndecY {c : Prop} [Decidable c] {A B : Prop} (h : ¬ c) (a : A) : if (!decide c) = true then A else B := ite_ndec (fun _ => a) (fun n => absurd n h)
theorem ite_ndecN {c : Prop} [Decidable c] {A B : Prop} (h : c) (a : B) : if (!decide c) = true then A else B := ite_ndec (fun n => absurd h n) (fun _ => a)
/-! ### dicts whose keys are ints -/
section
variable {σ : L2.St} {H : Hp} {D : Ends} {Q : VK} {td ty tv : TE} {a : Addr} {kvs : List (Key × V)} {i : Int} {v : V}
def KDP (D : Ends) (σ : L2.St) (v x y : V) (H : Hp) : Prop := ∃ a H4, x = .ref a ∧ DPut H a y v H4 ∧ D.nx σ H4
theorem r_dput (h : tv σ H fun v H1 => td σ H1 fun x H2 => ty σ H2 fun y H3 => KDP D σ v x y H3) : sDPut td ty tv D σ H := h
theorem k_dput (h : H a = some (.dK kvs)) (z : kvs.length < 1000000) (q : D.nx σ (upd H a (.dK (putK kvs (.inl i) v)))) : KDP D σ v (.ref a) (.int i) H := ⟨a, _, rfl, DPut.k (k := .inl i) h (Nat.lt_of_lt_of_le z (by decide)), q⟩
def KDG (Q : VK) (x y : V) (H : Hp) : Prop := ∃ a v, x = .ref a ∧ DGet H a y (some v) ∧ Q v H
theorem e_dget (h : td σ H fun x H1 => ty σ H1 fun y H2 => KDG Q x y H2) : tDGet td ty σ H Q := h
theorem k_dget (h : H a = some (.dK kvs)) (e : valV kvs (.inl i) = some v) (q : Q v H) : KDG Q (.ref a) (.int i) H := ⟨a, v, rfl, by have := DGet.k (k := .inl i) h; rw [e] at this; exact this, q⟩
def KDN (Q : VK) (y x : V) (H : Hp) : Prop := ∃ a o, x = .ref a ∧ DGet H a y o ∧ Q (.bl (!o.isSome)) H
theorem e_dnin (h : ty σ H fun y H1 => td σ H1 fun x H2 => KDN Q y x H2) : tDNotIn ty td σ H Q := h
theorem k_dnin (h : H a = some (.dK kvs)) (q : Q (.bl (!(valV kvs (.inl i)).isSome)) H) : KDN Q (.int i) (.ref a) H := ⟨a, _, rfl, DGet.k (k := .inl i) h, q⟩
theorem e_dnew (h : ∀ p, H p = none → Q (.ref p) (upd H p (.dK []))) : tDNewK σ H Q := h
end
end Bo

/-! == of data -/
namespace Bo
open PySem PySem.Spec PyProof.Rows L2
/-- a kind of data: told apart by ==, of a depth -/
structure Emb {α : Type} [DecidableEq α] (f : α → PyData) (k : Nat) : Prop where
  eq : ∀ x y, PyData.eqv (f x) (f y) = decide (x = y)
  lay : ∀ x, (f x).canLay0 = true
  dep : ∀ x, (f x).depth ≤ k
def dI (i : Int) : PyData := .int i
def dB (b : Bool) : PyData := .bool b
def dS (s : Str) : PyData := .str s
def dL {α : Type} (f : α → PyData) (xs : List α) : PyData := .list (xs.map f)
def dP {α β : Type} (f : α → PyData) (g : β → PyData) (p : α × β) : PyData := .tuple [f p.1, g p.2]
theorem emb_I : Emb dI 0 := ⟨fun x y => by
  show PyData.eqv (.int x) (.int y) = _
  rw [PyData.eqv, Bool.eq_iff_iff]; simp, fun x => by show PyData.canLay0 (.int x) = true; simp [PyData.canLay0], fun x => by show PyData.depth (.int x) ≤ 0; simp [PyData.depth]⟩
theorem emb_B : Emb dB 0 := ⟨fun x y => by
  show PyData.eqv (.bool x) (.bool y) = _
  rw [PyData.eqv, Bool.eq_iff_iff]; simp, fun x => by show PyData.canLay0 (.bool x) = true; simp [PyData.canLay0], fun x => by show PyData.depth (.bool x) ≤ 0; simp [PyData.depth]⟩
section
variable {α β : Type} [DecidableEq α] [DecidableEq β] {f : α → PyData} {g : β → PyData} {k l : Nat}
theorem eqvAll_map (E : Emb f k) : ∀ xs ys : List α, PyData.eqvAll (xs.map f) (ys.map f) = decide (xs = ys)
  | [], [] => by rw [Bool.eq_iff_iff]; simp [PyData.eqvAll]
  | [], y :: ys => by rw [Bool.eq_iff_iff]; simp [PyData.eqvAll]
  | x :: xs, [] => by rw [Bool.eq_iff_iff]; simp [PyData.eqvAll]
  | x :: xs, y :: ys => by
    have ih := eqvAll_map E xs ys
    rw [List.map_cons, List.map_cons, PyData.eqvAll, ih, E.eq, Bool.eq_iff_iff]
    simp
theorem layAll_map (E : Emb f k) : ∀ xs : List α, PyData.canLayAll0 (xs.map f) = true
  | [] => by simp [PyData.canLayAll0]
  | x :: xs => by
    rw [List.map_cons]
    simp only [PyData.canLayAll0, E.lay, layAll_map E xs, Bool.and_self]
theorem depAll_map (E : Emb f k) : ∀ xs : List α, PyData.depthAll (xs.map f) ≤ k
  | [] => by simp [PyData.depthAll]
  | x :: xs => by
    rw [List.map_cons]
    have h1 := E.dep x
    have h2 := depAll_map E xs
    simp only [PyData.depthAll]
    omega
theorem emb_L (E : Emb f k) : Emb (dL f) (k + 1) := ⟨fun x y => by
  show PyData.eqv (.list _) (.list _) = _
  rw [PyData.eqv]; exact eqvAll_map E x y, fun x => by
  show PyData.canLay0 (.list _) = true
  rw [PyData.canLay0]; exact layAll_map E x, fun x => by
  show PyData.depth (.list _) ≤ _
  rw [PyData.depth]
  have := depAll_map E x
  omega⟩
theorem emb_P (E : Emb f k) (F : Emb g l) : Emb (dP f g) (max k l + 1) := ⟨fun x y => by
  show PyData.eqv (.tuple _) (.tuple _) = _
  rw [PyData.eqv, PyData.eqvAll, PyData.eqvAll, PyData.eqvAll, E.eq, F.eq, Bool.eq_iff_iff]
  obtain ⟨a, b⟩ := x
  obtain ⟨c, d⟩ := y
  simp, fun x => by
  show PyData.canLay0 (.tuple _) = true
  rw [PyData.canLay0, PyData.canLayAll0, PyData.canLayAll0, PyData.canLayAll0, E.lay, F.lay]; rfl, fun x => by
  show PyData.depth (.tuple _) ≤ _
  have h1 := E.dep x.1
  have h2 := F.dep x.2
  rw [PyData.depth, PyData.depthAll, PyData.depthAll, PyData.depthAll]
  omega⟩
variable {K : PySem.W.Frag} {H : Hp} {x y : V} {Q : VK} {a b : α}
theorem Emb.shaped (E : Emb f k) (hk : k ≤ 60) (a : α) : SeqAt.shaped (f a) = true := by
  unfold SeqAt.shaped
  rw [E.lay, Bool.true_and]
  have := E.dep a
  exact decide_eq_true (by omega)
theorem o_eqD (E : Emb f k) (hk : k ≤ 60) (h1 : Dp K H x (f a)) (h2 : Dp K H y (f b)) (q : Q (.bl (decide (a = b))) H) : rEqD K x y H Q :=
  ⟨_, _, h1, h2, E.shaped hk a, E.shaped hk b, by rw [E.eq]; exact q⟩
theorem o_neD (E : Emb f k) (hk : k ≤ 60) (h1 : Dp K H x (f a)) (h2 : Dp K H y (f b)) (q : Q (.bl (!decide (a = b))) H) : rNeD K x y H Q :=
  ⟨_, _, h1, h2, E.shaped hk a, E.shaped hk b, by rw [E.eq]; exact q⟩
end
section
variable {K : PySem.W.Frag} {H : Hp} {Q : VK}
theorem dpAll_ints : ∀ ns : List Int, DpAll K H (ns.map V.int) (ns.map dI)
  | [] => .nil
  | n :: r => .cons (.int n) (dpAll_ints r)
theorem dpAll_bls : ∀ ns : List Bool, DpAll K H (ns.map V.bl) (ns.map dB)
  | [] => .nil
  | n :: r => .cons (.bl n) (dpAll_bls r)
theorem dp_ints {p : Addr} {ns : List Int} (h : SqL K H p (ns.map V.int)) : Dp K H (.ref p) (dL dI ns) := .lst h (dpAll_ints ns)
theorem dp_bls {p : Addr} {ns : List Bool} (h : SqL K H p (ns.map V.bl)) : Dp K H (.ref p) (dL dB ns) := .lst h (dpAll_bls ns)
theorem dpAll_of {α : Type} {f : α → PyData} : ∀ {vs : List V} {xs : List α}, vs.length = xs.length → (∀ (i : Nat) (v : V) (x : α), vs[i]? = some v → xs[i]? = some x → Dp K H v (f x)) → DpAll K H vs (xs.map f)
  | [], [], _, _ => .nil
  | v :: vs, x :: xs, hl, h => .cons (h 0 v x rfl rfl) (dpAll_of (by simpa using hl) fun i v x hv hx => h (i + 1) v x (by simpa using hv) (by simpa using hx))
  | [], _ :: _, hl, _ => by simp at hl
  | _ :: _, [], hl, _ => by simp at hl
theorem dp_lists {p : Addr} {as : List Addr} {xss : List (List Int)} (h : SqL K H p (as.map V.ref)) (hl : as.length = xss.length) (hh : ∀ (i : Nat) (a : Addr) (x : List Int), as[i]? = some a → xss[i]? = some x → SqL K H a (x.map V.int)) : Dp K H (.ref p) (dL (dL dI) xss) :=
  .lst h (dpAll_of (by rw [List.length_map]; exact hl) fun i v x hv hx => by
    obtain ⟨a, ha, rfl⟩ := map_get hv
    exact dp_ints (hh i a x ha hx))
theorem dp_news {H0 : Hp} {p : Addr} {as : List Addr} {xss : List (List Int)} (h : SqL K H p (as.map V.ref)) (n : News H0 H oL as xss) : Dp K H (.ref p) (dL (dL dI) xss) :=
  dp_lists h n.len fun i a x ha hx => SqL.of (n.2.2 i a x ha hx).2
/-- == of two lists of ints -/
theorem o_eqL {p q : Addr} {ns ms : List Int} (h1 : SqL K H p (ns.map V.int)) (h2 : SqL K H q (ms.map V.int)) (k : Q (.bl (decide (ns = ms))) H) : rEqD K (.ref p) (.ref q) H Q := o_eqD (emb_L emb_I) (by decide) (dp_ints h1) (dp_ints h2) k
theorem o_neL {p q : Addr} {ns ms : List Int} (h1 : SqL K H p (ns.map V.int)) (h2 : SqL K H q (ms.map V.int)) (k : Q (.bl (!decide (ns = ms))) H) : rNeD K (.ref p) (.ref q) H Q := o_neD (emb_L emb_I) (by decide) (dp_ints h1) (dp_ints h2) k
theorem o_eqBs {p q : Addr} {ns ms : List Bool} (h1 : SqL K H p (ns.map V.bl)) (h2 : SqL K H q (ms.map V.bl)) (k : Q (.bl (decide (ns = ms))) H) : rEqD K (.ref p) (.ref q) H Q := o_eqD (emb_L emb_B) (by decide) (dp_bls h1) (dp_bls h2) k
theorem o_eqLL {p q : Addr} {as bs : List Addr} {H0 H1 : Hp} {xs ys : List (List Int)} (h1 : SqL K H p (as.map V.ref)) (h2 : SqL K H q (bs.map V.ref)) (n1 : News H0 H oL as xs) (n2 : News H1 H oL bs ys) (k : Q (.bl (decide (xs = ys))) H) : rEqD K (.ref p) (.ref q) H Q :=
  o_eqD (emb_L (emb_L emb_I)) (by decide) (dp_news h1 n1) (dp_news h2 n2) k
theorem o_neLL {p q : Addr} {as bs : List Addr} {H0 H1 : Hp} {xs ys : List (List Int)} (h1 : SqL K H p (as.map V.ref)) (h2 : SqL K H q (bs.map V.ref)) (n1 : News H0 H oL as xs) (n2 : News H1 H oL bs ys) (k : Q (.bl (!decide (xs = ys))) H) : rNeD K (.ref p) (.ref q) H Q :=
  o_neD (emb_L (emb_L emb_I)) (by decide) (dp_news h1 n1) (dp_news h2 n2) k
end
/-! ### what sorted gives, against 0, 1, .. -/
theorem upTo_get {n i : Nat} (h : i < n) : (upTo n)[i]? = some (i : Int) := by
  unfold upTo
  rw [List.getElem?_map, List.getElem?_range h]; rfl
theorem mem_upTo {n : Nat} {x : Int} : x ∈ upTo n ↔ 0 ≤ x ∧ x < n := by
  unfold upTo
  rw [List.mem_map]
  constructor
  · rintro ⟨i, hi, rfl⟩
    have := List.mem_range.mp hi
    show (0 : Int) ≤ (i : Int) ∧ (i : Int) < n
    omega
  · rintro ⟨h0, h1⟩
    exact ⟨x.toNat, List.mem_range.mpr (by omega), by show ((x.toNat : Nat) : Int) = x; omega⟩
theorem upTo_nodup (n : Nat) : (upTo n).Nodup := by
  unfold upTo
  refine List.Pairwise.map _ (fun a b h => ?_) List.nodup_range
  show (a : Int) ≠ (b : Int)
  omega
theorem upTo_succ (n : Nat) : upTo (n + 1) = upTo n ++ [(n : Int)] := by
  unfold upTo
  rw [List.range_succ, List.map_append]; rfl
theorem upTo_sorted (n : Nat) : (upTo n).Pairwise (· ≤ ·) := by
  unfold upTo
  refine List.Pairwise.map (R := (· < ·)) _ (fun a b h => ?_) List.pairwise_lt_range
  show (a : Int) ≤ (b : Int)
  omega
theorem sorted_unique : ∀ {l m : List Int}, l.Perm m → l.Pairwise (· ≤ ·) → m.Pairwise (· ≤ ·) → l = m
  | [], m, h, _, _ => (List.nil_perm.mp h).symm
  | a :: l, m, h, hl, hm => by
    cases m with
    | nil => exact absurd h.length_eq (by simp)
    | cons b m =>
      have hab : a ≤ b := by
        have : b ∈ a :: l := h.mem_iff.mpr (by simp)
        rcases List.mem_cons.mp this with e | e
        · omega
        · exact (List.pairwise_cons.mp hl).1 b e
      have hba : b ≤ a := by
        have : a ∈ b :: m := h.mem_iff.mp (by simp)
        rcases List.mem_cons.mp this with e | e
        · omega
        · exact (List.pairwise_cons.mp hm).1 a e
      have e : a = b := by omega
      subst e
      rw [sorted_unique (List.Perm.cons_inv h) (List.pairwise_cons.mp hl).2 (List.pairwise_cons.mp hm).2]
/-- sorted(things) == list(range(n)) -/
def isAll (things : List Int) (n : Nat) : Bool := decide (things.Perm (upTo n))
theorem sorted_isAll {things ns : List Int} {n : Nat} (p : ns.Perm things) (s : ns.Pairwise (· ≤ ·)) : decide (ns = upTo n) = isAll things n := by
  unfold isAll
  rw [Bool.eq_iff_iff, decide_eq_true_eq, decide_eq_true_eq]
  constructor
  · rintro rfl; exact p.symm
  · intro h; exact sorted_unique (p.trans h) s (upTo_sorted n)
end Bo

namespace Bo
open PySem PySem.Spec PyProof.Rows L2
def topS (i : Nat) : Stmt := PySem.Challenge.pw_backorder_k06_answers_by_hand.main.body.getD i (.Pass ⟨0, 0, 0, 0⟩)
abbrev s_is_number : Stmt := topS 5
abbrev N_is_number : List Str := ["thing", "low", "high"]
theorem sc_is_number : FnScope N_is_number ["thing", "low", "high"] (defScope s_is_number) := ⟨rfl, rfl, rfl, by decide +kernel, rfl, by decide +kernel, by decide +kernel⟩
abbrev s_check_row : Stmt := topS 6
abbrev N_check_row : List Str := ["row", "thing"]
theorem sc_check_row : FnScope N_check_row ["row"] (defScope s_check_row) := ⟨rfl, rfl, rfl, by decide +kernel, rfl, by decide +kernel, by decide +kernel⟩
abbrev s_places_of : Stmt := topS 7
abbrev N_places_of : List Str := ["row", "found", "place", "thing"]
theorem sc_places_of : FnScope N_places_of ["row"] (defScope s_places_of) := ⟨rfl, rfl, rfl, by decide +kernel, rfl, by decide +kernel, by decide +kernel⟩
abbrev s_rings_of : Stmt := topS 9
abbrev N_rings_of : List Str := ["row", "met", "found", "thing", "ring"]
theorem sc_rings_of : FnScope N_rings_of ["row"] (defScope s_rings_of) := ⟨rfl, rfl, rfl, by decide +kernel, rfl, by decide +kernel, by decide +kernel⟩
abbrev s_is_ring : Stmt := topS 10
abbrev N_is_ring : List Str := ["ring", "many", "thing"]
theorem sc_is_ring : FnScope N_is_ring ["ring", "many"] (defScope s_is_ring) := ⟨rfl, rfl, rfl, by decide +kernel, rfl, by decide +kernel, by decide +kernel⟩
abbrev s_is_order : Stmt := topS 13
abbrev N_is_order : List Str := ["row", "place"]
theorem sc_is_order : FnScope N_is_order ["row"] (defScope s_is_order) := ⟨rfl, rfl, rfl, by decide +kernel, rfl, by decide +kernel, by decide +kernel⟩
abbrev s_Exchanged___init__ : Stmt := inClass (topS 14) 0
abbrev N_Exchanged___init__ : List Str := ["self", "pairs", "rings", "ring"]
theorem sc_Exchanged___init__ : FnScope N_Exchanged___init__ ["self", "pairs", "rings"] (defScope s_Exchanged___init__) := ⟨rfl, rfl, rfl, by decide +kernel, rfl, by decide +kernel, by decide +kernel⟩
abbrev s_Exchanged_shows : Stmt := inClass (topS 14) 1
abbrev N_Exchanged_shows : List Str := ["self", "row", "found", "one", "other", "kept"]
theorem sc_Exchanged_shows : FnScope N_Exchanged_shows ["self", "row"] (defScope s_Exchanged_shows) := ⟨rfl, rfl, rfl, by decide +kernel, rfl, by decide +kernel, by decide +kernel⟩
abbrev s_Exchanged_rings_show : Stmt := inClass (topS 14) 2
abbrev N_Exchanged_rings_show : List Str := ["self", "row", "things", "ring", "k"]
theorem sc_Exchanged_rings_show : FnScope N_Exchanged_rings_show ["self", "row"] (defScope s_Exchanged_rings_show) := ⟨rfl, rfl, rfl, by decide +kernel, rfl, by decide +kernel, by decide +kernel⟩
abbrev s_Fronted___init__ : Stmt := inClass (topS 15) 0
abbrev N_Fronted___init__ : List Str := ["self", "things"]
theorem sc_Fronted___init__ : FnScope N_Fronted___init__ ["self", "things"] (defScope s_Fronted___init__) := ⟨rfl, rfl, rfl, by decide +kernel, rfl, by decide +kernel, by decide +kernel⟩
abbrev s_Fronted_shows : Stmt := inClass (topS 15) 1
abbrev N_Fronted_shows : List Str := ["self", "row", "found", "thing", "many"]
theorem sc_Fronted_shows : FnScope N_Fronted_shows ["self", "row"] (defScope s_Fronted_shows) := ⟨rfl, rfl, rfl, by decide +kernel, rfl, by decide +kernel, by decide +kernel⟩
abbrev s_longest_run : Stmt := topS 16
abbrev N_longest_run : List Str := ["row", "places", "best", "first", "thing"]
theorem sc_longest_run : FnScope N_longest_run ["row"] (defScope s_longest_run) := ⟨rfl, rfl, rfl, by decide +kernel, rfl, by decide +kernel, by decide +kernel⟩
abbrev s_Ended___init__ : Stmt := inClass (topS 17) 0
abbrev N_Ended___init__ : List Str := ["self", "moves"]
theorem sc_Ended___init__ : FnScope N_Ended___init__ ["self", "moves"] (defScope s_Ended___init__) := ⟨rfl, rfl, rfl, by decide +kernel, rfl, by decide +kernel, by decide +kernel⟩
abbrev s_Ended_shows : Stmt := inClass (topS 17) 1
abbrev N_Ended_shows : List Str := ["self", "row", "found", "thing", "end"]
theorem sc_Ended_shows : FnScope N_Ended_shows ["self", "row"] (defScope s_Ended_shows) := ⟨rfl, rfl, rfl, by decide +kernel, rfl, by decide +kernel, by decide +kernel⟩
abbrev s_Put___init__ : Stmt := inClass (topS 18) 0
abbrev N_Put___init__ : List Str := ["self", "moves", "falls", "fall"]
theorem sc_Put___init__ : FnScope N_Put___init__ ["self", "moves", "falls"] (defScope s_Put___init__) := ⟨rfl, rfl, rfl, by decide +kernel, rfl, by decide +kernel, by decide +kernel⟩
abbrev s_Put_shows : Stmt := inClass (topS 18) 1
abbrev N_Put_shows : List Str := ["self", "row", "found", "thing", "place"]
theorem sc_Put_shows : FnScope N_Put_shows ["self", "row"] (defScope s_Put_shows) := ⟨rfl, rfl, rfl, by decide +kernel, rfl, by decide +kernel, by decide +kernel⟩
abbrev s_Put_falls_show : Stmt := inClass (topS 18) 2
abbrev N_Put_falls_show : List Str := ["self", "row", "places", "things", "fall", "k", "thing"]
theorem sc_Put_falls_show : FnScope N_Put_falls_show ["self", "row"] (defScope s_Put_falls_show) := ⟨rfl, rfl, rfl, by decide +kernel, rfl, by decide +kernel, by decide +kernel⟩
abbrev s_exchanged : Stmt := topS 20
abbrev N_exchanged : List Str := ["row", "found", "places", "pairs", "place", "thing", "other"]
theorem sc_exchanged : FnScope N_exchanged ["row"] (defScope s_exchanged) := ⟨rfl, rfl, rfl, by decide +kernel, rfl, by decide +kernel, by decide +kernel⟩
abbrev s_fronted : Stmt := topS 21
abbrev N_fronted : List Str := ["row", "places", "first"]
theorem sc_fronted : FnScope N_fronted ["row"] (defScope s_fronted) := ⟨rfl, rfl, rfl, by decide +kernel, rfl, by decide +kernel, by decide +kernel⟩
abbrev s_ended : Stmt := topS 22
abbrev N_ended : List Str := ["row", "first", "many", "moves", "thing"]
theorem sc_ended : FnScope N_ended ["row"] (defScope s_ended) := ⟨rfl, rfl, rfl, by decide +kernel, rfl, by decide +kernel, by decide +kernel⟩
abbrev s_pile_for : Stmt := topS 23
abbrev N_pile_for : List Str := ["piles", "thing", "low", "high", "middle"]
theorem sc_pile_for : FnScope N_pile_for ["piles", "thing"] (defScope s_pile_for) := ⟨rfl, rfl, rfl, by decide +kernel, rfl, by decide +kernel, by decide +kernel⟩
abbrev s_falls_and_kept : Stmt := topS 24
abbrev N_falls_and_kept : List Str := ["row", "piles", "ahead", "thing", "at", "kept"]
theorem sc_falls_and_kept : FnScope N_falls_and_kept ["row"] (defScope s_falls_and_kept) := ⟨rfl, rfl, rfl, by decide +kernel, rfl, by decide +kernel, by decide +kernel⟩
abbrev s_put : Stmt := topS 25
abbrev N_put : List Str := ["row", "falls", "kept", "stays", "thing", "found", "moves", "place"]
theorem sc_put : FnScope N_put ["row"] (defScope s_put) := ⟨rfl, rfl, rfl, by decide +kernel, rfl, by decide +kernel, by decide +kernel⟩
abbrev s__law_cell_at : Stmt := topS 27
abbrev N__law_cell_at : List Str := ["_law_script", "_law_k"]
theorem sc__law_cell_at : FnScope N__law_cell_at ["_law_script", "_law_k"] (defScope s__law_cell_at) := ⟨rfl, rfl, rfl, by decide +kernel, rfl, by decide +kernel, by decide +kernel⟩
abbrev s__law_draw : Stmt := topS 28
abbrev N__law_draw : List Str := ["_law_cell", "_law_k", "_law_many", "_law_primes"]
theorem sc__law_draw : FnScope N__law_draw ["_law_cell", "_law_k", "_law_many"] (defScope s__law_draw) := ⟨rfl, rfl, rfl, by decide +kernel, rfl, by decide +kernel, by decide +kernel⟩
abbrev s__law_row : Stmt := topS 29
abbrev N__law_row : List Str := ["_law_script", "_law_kind", "_law_row_here", "_law_k", "_law_away"]
theorem sc__law_row : FnScope N__law_row ["_law_script"] (defScope s__law_row) := ⟨rfl, rfl, rfl, by decide +kernel, rfl, by decide +kernel, by decide +kernel⟩
abbrev s__law_exchanged : Stmt := topS 32
abbrev N__law_exchanged : List Str := ["_law_row_here", "_law_pairs_here", "_law_found", "_law_one", "_law_other", "_law_kept"]
theorem sc__law_exchanged : FnScope N__law_exchanged ["_law_row_here", "_law_pairs_here"] (defScope s__law_exchanged) := ⟨rfl, rfl, rfl, by decide +kernel, rfl, by decide +kernel, by decide +kernel⟩
abbrev s__law_ringed : Stmt := topS 33
abbrev N__law_ringed : List Str := ["_law_row_here", "_law_told", "_law_things", "_law_ring", "_law_thing", "_law_k"]
theorem sc__law_ringed : FnScope N__law_ringed ["_law_row_here", "_law_told"] (defScope s__law_ringed) := ⟨rfl, rfl, rfl, by decide +kernel, rfl, by decide +kernel, by decide +kernel⟩
abbrev s__law_fronted : Stmt := topS 34
abbrev N__law_fronted : List Str := ["_law_row_here", "_law_things", "_law_found", "_law_thing", "_law_at"]
theorem sc__law_fronted : FnScope N__law_fronted ["_law_row_here", "_law_things"] (defScope s__law_fronted) := ⟨rfl, rfl, rfl, by decide +kernel, rfl, by decide +kernel, by decide +kernel⟩
abbrev s__law_front_due : Stmt := topS 35
abbrev N__law_front_due : List Str := ["_law_row_here", "_law_things", "_law_many"]
theorem sc__law_front_due : FnScope N__law_front_due ["_law_row_here", "_law_things"] (defScope s__law_front_due) := ⟨rfl, rfl, rfl, by decide +kernel, rfl, by decide +kernel, by decide +kernel⟩
abbrev s__law_ended : Stmt := topS 36
abbrev N__law_ended : List Str := ["_law_row_here", "_law_moves", "_law_found", "_law_thing", "_law_end", "_law_at"]
theorem sc__law_ended : FnScope N__law_ended ["_law_row_here", "_law_moves"] (defScope s__law_ended) := ⟨rfl, rfl, rfl, by decide +kernel, rfl, by decide +kernel, by decide +kernel⟩
abbrev s__law_run : Stmt := topS 37
abbrev N__law_run : List Str := ["_law_row_here", "_law_best", "_law_many", "_law_thing"]
theorem sc__law_run : FnScope N__law_run ["_law_row_here"] (defScope s__law_run) := ⟨rfl, rfl, rfl, by decide +kernel, rfl, by decide +kernel, by decide +kernel⟩
abbrev s__law_end_due : Stmt := topS 38
abbrev N__law_end_due : List Str := ["_law_row_here", "_law_moves"]
theorem sc__law_end_due : FnScope N__law_end_due ["_law_row_here", "_law_moves"] (defScope s__law_end_due) := ⟨rfl, rfl, rfl, by decide +kernel, rfl, by decide +kernel, by decide +kernel⟩
abbrev s__law_put : Stmt := topS 39
abbrev N__law_put : List Str := ["_law_row_here", "_law_moves", "_law_found", "_law_thing", "_law_place", "_law_at"]
theorem sc__law_put : FnScope N__law_put ["_law_row_here", "_law_moves"] (defScope s__law_put) := ⟨rfl, rfl, rfl, by decide +kernel, rfl, by decide +kernel, by decide +kernel⟩
abbrev s__law_fallen : Stmt := topS 40
abbrev N__law_fallen : List Str := ["_law_row_here", "_law_falls", "_law_places", "_law_things", "_law_place", "_law_thing", "_law_fall", "_law_k"]
theorem sc__law_fallen : FnScope N__law_fallen ["_law_row_here", "_law_falls"] (defScope s__law_fallen) := ⟨rfl, rfl, rfl, by decide +kernel, rfl, by decide +kernel, by decide +kernel⟩
abbrev s__law_put_due : Stmt := topS 41
abbrev N__law_put_due : List Str := ["_law_row_here", "_law_moves", "_law_falls"]
theorem sc__law_put_due : FnScope N__law_put_due ["_law_row_here", "_law_moves", "_law_falls"] (defScope s__law_put_due) := ⟨rfl, rfl, rfl, by decide +kernel, rfl, by decide +kernel, by decide +kernel⟩
abbrev s__law_says : Stmt := topS 42
abbrev N__law_says : List Str := ["_law_told", "_law_due"]
theorem sc__law_says : FnScope N__law_says ["_law_told", "_law_due"] (defScope s__law_says) := ⟨rfl, rfl, rfl, by decide +kernel, rfl, by decide +kernel, by decide +kernel⟩
abbrev s__law_bent : Stmt := topS 43
abbrev N__law_bent : List Str := ["_law_some", "_law_cell", "_law_more", "_law_kind", "_law_many", "_law_at", "_law_other", "_law_found"]
theorem sc__law_bent : FnScope N__law_bent ["_law_some", "_law_cell", "_law_more"] (defScope s__law_bent) := ⟨rfl, rfl, rfl, by decide +kernel, rfl, by decide +kernel, by decide +kernel⟩
abbrev s__law_bent_parts : Stmt := topS 44
abbrev N__law_bent_parts : List Str := ["_law_parts", "_law_cell", "_law_many", "_law_kind", "_law_found", "_law_at", "_law_part"]
theorem sc__law_bent_parts : FnScope N__law_bent_parts ["_law_parts", "_law_cell", "_law_many"] (defScope s__law_bent_parts) := ⟨rfl, rfl, rfl, by decide +kernel, rfl, by decide +kernel, by decide +kernel⟩
abbrev s__law_exchanges_right : Stmt := topS 45
abbrev N__law_exchanges_right : List Str := ["_law_row_here", "_law_cell", "_law_told", "_law_many", "_law_drawn", "_law_pairs_here", "_law_parts", "_law_handed", "_law_answer", "_law_ring", "_law_due"]
theorem sc__law_exchanges_right : FnScope N__law_exchanges_right ["_law_row_here", "_law_cell"] (defScope s__law_exchanges_right) := ⟨rfl, rfl, rfl, by decide +kernel, rfl, by decide +kernel, by decide +kernel⟩
abbrev s__law_ends_right : Stmt := topS 46
abbrev N__law_ends_right : List Str := ["_law_row_here", "_law_cell", "_law_many", "_law_things", "_law_handed", "_law_answer", "_law_drawn", "_law_moves"]
theorem sc__law_ends_right : FnScope N__law_ends_right ["_law_row_here", "_law_cell"] (defScope s__law_ends_right) := ⟨rfl, rfl, rfl, by decide +kernel, rfl, by decide +kernel, by decide +kernel⟩
abbrev s__law_puts_right : Stmt := topS 47
abbrev N__law_puts_right : List Str := ["_law_row_here", "_law_cell", "_law_told", "_law_many", "_law_drawn", "_law_moves", "_law_falls", "_law_handed", "_law_answer", "_law_fall"]
theorem sc__law_puts_right : FnScope N__law_puts_right ["_law_row_here", "_law_cell"] (defScope s__law_puts_right) := ⟨rfl, rfl, rfl, by decide +kernel, rfl, by decide +kernel, by decide +kernel⟩
abbrev s__law_few_right : Stmt := topS 48
abbrev N__law_few_right : List Str := ["_law_things", "_law_due", "_law_falls", "_law_moves", "_law_pairs_here", "_law_told"]
theorem sc__law_few_right : FnScope N__law_few_right [] (defScope s__law_few_right) := ⟨rfl, rfl, rfl, by decide +kernel, rfl, by decide +kernel, by decide +kernel⟩
abbrev s_law : Stmt := topS 49
abbrev N_law : List Str := ["_law_script", "_law_row_here", "_law_k", "_law_cell"]
theorem sc_law : FnScope N_law ["_law_script"] (defScope s_law) := ⟨rfl, rfl, rfl, by decide +kernel, rfl, by decide +kernel, by decide +kernel⟩
structure Top (K : PySem.W.Frag) (mg : Str → Option Value) (C_Exchanged C_Fronted C_Ended C_Put C_Answer : Addr) : Prop where
  d_is_number : Df K mg "is_number" s_is_number ["thing", "low", "high"]
  d_check_row : Df K mg "check_row" s_check_row ["row"]
  d_places_of : Df K mg "places_of" s_places_of ["row"]
  d_rings_of : Df K mg "rings_of" s_rings_of ["row"]
  d_is_ring : Df K mg "is_ring" s_is_ring ["ring", "many"]
  d_is_order : Df K mg "is_order" s_is_order ["row"]
  k_Exchanged : Dk K mg "Exchanged" C_Exchanged "Exchanged.__init__" s_Exchanged___init__ ["self", "pairs", "rings"]
  m_Exchanged_shows : Dm K C_Exchanged "shows" "Exchanged.shows" s_Exchanged_shows ["self", "row"]
  m_Exchanged_rings_show : Dm K C_Exchanged "rings_show" "Exchanged.rings_show" s_Exchanged_rings_show ["self", "row"]
  k_Fronted : Dk K mg "Fronted" C_Fronted "Fronted.__init__" s_Fronted___init__ ["self", "things"]
  m_Fronted_shows : Dm K C_Fronted "shows" "Fronted.shows" s_Fronted_shows ["self", "row"]
  d_longest_run : Df K mg "longest_run" s_longest_run ["row"]
  k_Ended : Dk K mg "Ended" C_Ended "Ended.__init__" s_Ended___init__ ["self", "moves"]
  m_Ended_shows : Dm K C_Ended "shows" "Ended.shows" s_Ended_shows ["self", "row"]
  k_Put : Dk K mg "Put" C_Put "Put.__init__" s_Put___init__ ["self", "moves", "falls"]
  m_Put_shows : Dm K C_Put "shows" "Put.shows" s_Put_shows ["self", "row"]
  m_Put_falls_show : Dm K C_Put "falls_show" "Put.falls_show" s_Put_falls_show ["self", "row"]
  d_exchanged : Df K mg "exchanged" s_exchanged ["row"]
  d_fronted : Df K mg "fronted" s_fronted ["row"]
  d_ended : Df K mg "ended" s_ended ["row"]
  d_pile_for : Df K mg "pile_for" s_pile_for ["piles", "thing"]
  d_falls_and_kept : Df K mg "falls_and_kept" s_falls_and_kept ["row"]
  d_put : Df K mg "put" s_put ["row"]
  d__law_cell_at : Df K mg "_law_cell_at" s__law_cell_at ["_law_script", "_law_k"]
  d__law_draw : Df K mg "_law_draw" s__law_draw ["_law_cell", "_law_k", "_law_many"]
  d__law_row : Df K mg "_law_row" s__law_row ["_law_script"]
  d__law_exchanged : Df K mg "_law_exchanged" s__law_exchanged ["_law_row_here", "_law_pairs_here"]
  d__law_ringed : Df K mg "_law_ringed" s__law_ringed ["_law_row_here", "_law_told"]
  d__law_fronted : Df K mg "_law_fronted" s__law_fronted ["_law_row_here", "_law_things"]
  d__law_front_due : Df K mg "_law_front_due" s__law_front_due ["_law_row_here", "_law_things"]
  d__law_ended : Df K mg "_law_ended" s__law_ended ["_law_row_here", "_law_moves"]
  d__law_run : Df K mg "_law_run" s__law_run ["_law_row_here"]
  d__law_end_due : Df K mg "_law_end_due" s__law_end_due ["_law_row_here", "_law_moves"]
  d__law_put : Df K mg "_law_put" s__law_put ["_law_row_here", "_law_moves"]
  d__law_fallen : Df K mg "_law_fallen" s__law_fallen ["_law_row_here", "_law_falls"]
  d__law_put_due : Df K mg "_law_put_due" s__law_put_due ["_law_row_here", "_law_moves", "_law_falls"]
  d__law_says : Df K mg "_law_says" s__law_says ["_law_told", "_law_due"]
  d__law_bent : Df K mg "_law_bent" s__law_bent ["_law_some", "_law_cell", "_law_more"]
  d__law_bent_parts : Df K mg "_law_bent_parts" s__law_bent_parts ["_law_parts", "_law_cell", "_law_many"]
  d__law_exchanges_right : Df K mg "_law_exchanges_right" s__law_exchanges_right ["_law_row_here", "_law_cell"]
  d__law_ends_right : Df K mg "_law_ends_right" s__law_ends_right ["_law_row_here", "_law_cell"]
  d__law_puts_right : Df K mg "_law_puts_right" s__law_puts_right ["_law_row_here", "_law_cell"]
  d__law_few_right : Df K mg "_law_few_right" s__law_few_right []
  d_law : Df K mg "law" s_law ["_law_script"]
  b_all : mg "all" = none
  b_any : mg "any" = none
  b_bool : mg "bool" = none
  b_enumerate : mg "enumerate" = none
  b_int : mg "int" = none
  b_isinstance : mg "isinstance" = none
  b_len : mg "len" = none
  b_list : mg "list" = none
  b_max : mg "max" = none
  b_min : mg "min" = none
  b_range : mg "range" = none
  b_set : mg "set" = none
  b_sorted : mg "sorted" = none
  g_MOST : ∃ t, mg "MOST" = some (.int 1000000 t)
  c_Exchanged : mg "Exchanged" = some (.ref C_Exchanged)
  cl_Exchanged : Cls K C_Exchanged
  na_Exchanged_pairs : NoAttr K C_Exchanged "pairs"
  na_Exchanged_rings : NoAttr K C_Exchanged "rings"
  c_Fronted : mg "Fronted" = some (.ref C_Fronted)
  cl_Fronted : Cls K C_Fronted
  na_Fronted_things : NoAttr K C_Fronted "things"
  c_Ended : mg "Ended" = some (.ref C_Ended)
  cl_Ended : Cls K C_Ended
  na_Ended_moves : NoAttr K C_Ended "moves"
  c_Put : mg "Put" = some (.ref C_Put)
  cl_Put : Cls K C_Put
  na_Put_moves : NoAttr K C_Put "moves"
  na_Put_falls : NoAttr K C_Put "falls"
end Bo

/-! what rings.py and rows.py compute, as plain functions -/
namespace Bo
open PySem L2
/-- from t on, as long as t isn't met -/
def ringFrom (row : List Int) : Nat → List Bool → Int → List Int → List Bool × List Int
  | 0, met, _, ring => (met, ring)
  | n + 1, met, t, ring => if gb met t = true then (met, ring) else ringFrom row n (met.set t.toNat true) (gt row t) (ring ++ [t])
def ringAt (row : List Int) (met : List Bool) (t : Int) (ring : List Int) : List Bool × List Int := ringFrom row (met.count false) met t ring
theorem count_set : ∀ {met : List Bool} {k : Nat}, met[k]? = some false → (met.set k true).count false + 1 = met.count false
  | [], k, h => by simp at h
  | b :: r, 0, h => by
    have e : b = false := by simpa using h
    subst e
    simp
  | b :: r, k + 1, h => by
    have ih := count_set (met := r) (k := k) (by simpa using h)
    cases b <;> simp <;> omega
theorem gb_get {met : List Bool} {t : Int} (h0 : 0 ≤ t ∧ t < met.length) : met[t.toNat]? = some (gb met t) := by
  unfold gb
  rw [List.getD_eq_getElem?_getD, List.getElem?_eq_getElem (by omega)]; rfl
theorem ringAt_met {row : List Int} {met : List Bool} {t : Int} {ring : List Int} (h : gb met t = true) : ringAt row met t ring = (met, ring) := by
  unfold ringAt
  cases met.count false with
  | zero => rfl
  | succ n => unfold ringFrom; rw [if_pos h]
theorem ringAt_next {row : List Int} {met : List Bool} {t : Int} {ring : List Int} (h : gb met t = false) (h0 : 0 ≤ t ∧ t < met.length) :
    ringAt row met t ring = ringAt row (met.set t.toNat true) (gt row t) (ring ++ [t]) := by
  have hg := gb_get h0
  rw [h] at hg
  have hc := count_set hg
  unfold ringAt
  rw [← hc]
  conv => lhs; unfold ringFrom
  rw [if_neg (by rw [h]; exact Bool.false_ne_true)]
def ringsAux (row : List Int) : Nat → List Bool × List (List Int)
  | 0 => (row.map fun _ => false, [])
  | i + 1 => ((ringAt row (ringsAux row i).1 (i : Int) []).1, if (ringAt row (ringsAux row i).1 (i : Int) []).2 = [] then (ringsAux row i).2 else (ringsAux row i).2 ++ [(ringAt row (ringsAux row i).1 (i : Int) []).2])
/-- the rings of a row, as rings_of makes them -/
def ringsOf (row : List Int) : List (List Int) := (ringsAux row row.length).2
theorem ringFrom_length (row : List Int) : ∀ (n : Nat) (met : List Bool) (t : Int) (ring : List Int), (ringFrom row n met t ring).1.length = met.length
  | 0, met, t, ring => rfl
  | n + 1, met, t, ring => by
    unfold ringFrom
    split
    · rfl
    · rw [ringFrom_length row n, List.length_set]
theorem ringsAux_length (row : List Int) : ∀ i, (ringsAux row i).1.length = row.length
  | 0 => by simp [ringsAux]
  | i + 1 => by
    show (ringAt row (ringsAux row i).1 (i : Int) []).1.length = row.length
    unfold ringAt
    rw [ringFrom_length, ringsAux_length row i]
theorem ringsAux_count (row : List Int) : ∀ i, (ringsAux row i).2.length ≤ i
  | 0 => Nat.le_refl _
  | i + 1 => by
    have ih := ringsAux_count row i
    show (if _ then (ringsAux row i).2 else (ringsAux row i).2 ++ [_]).length ≤ i + 1
    split
    · omega
    · rw [List.length_append]; simp; exact ih
def primesL : List Int := [1000003, 1000033, 1000037, 1000039, 1000081, 1000099, 1000117, 1000121, 1000133, 1000151, 1000159, 1000171, 1000183, 1000187, 1000193, 1000199]
theorem primes_at (k : Int) : ∃ p, 0 < p ∧ atI (primesL.map V.int) (k % 16) = some (.int p) := by
  have h0 : 0 ≤ k % 16 := Int.emod_nonneg _ (by decide)
  have h1 : k % 16 < 16 := Int.emod_lt_of_pos _ (by decide)
  refine ⟨gt primesL (k % 16), ?_, at_gt (by show -(16 : Int) ≤ _; omega) (by show _ < (16 : Int); omega)⟩
  have hm := gt_mem (ns := primesL) (i := k % 16) (by show -(16 : Int) ≤ _; omega) (by show _ < (16 : Int); omega)
  have ha : ∀ x ∈ primesL, 0 < x := by decide
  exact ha _ hm
theorem ins_row {ns : List Int} {i : Nat} {k : Int} (hl : ns.length = i) (hb : ∀ x ∈ ns, 0 ≤ x ∧ x < i) (hn : ns.Nodup) : (ins ns k (i : Int)).length = i + 1 ∧ (∀ x ∈ ins ns k (i : Int), 0 ≤ x ∧ x < ((i + 1 : Nat) : Int)) ∧ (ins ns k (i : Int)).Nodup := by
  have hp : (ins ns k (i : Int)).Perm ((i : Int) :: ns) := by
    unfold ins
    rw [List.append_assoc, List.singleton_append]
    refine List.perm_middle.trans ?_
    rw [List.take_append_drop]
  refine ⟨by rw [hp.length_eq, List.length_cons, hl], fun x hx => ?_, hp.nodup_iff.mpr (List.nodup_cons.mpr ⟨fun h => ?_, hn⟩)⟩
  · rcases List.mem_cons.mp (hp.mem_iff.mp hx) with e | e
    · omega
    · have := hb x e; omega
  · have := hb _ h; omega
/-- lists that stand at their places -/
def Lf (H : Hp) (as : List Addr) (xss : List (List Int)) : Prop := as.length = xss.length ∧ ∀ (i : Nat) (p : Addr) (x : List Int), as[i]? = some p → xss[i]? = some x → H p = some (oL x)
theorem Lf.same {H H' : Hp} {as : List Addr} {xss : List (List Int)} (h : Lf H as xss) (s : Same H H') : Lf H' as xss := ⟨h.1, fun i p x a b => s _ _ (h.2 i p x a b)⟩
theorem Lf.of {H0 H : Hp} {as : List Addr} {xss : List (List Int)} (n : News H0 H oL as xss) : Lf H as xss := ⟨n.1, fun i p x a b => (n.2.2 i p x a b).2⟩
/-! ### rings told -/
def isRing (ring : List Int) (many : Int) : Bool := !ring.isEmpty && ring.all fun x => isNum (.int x) 0 (many - 1)
def setRing (ring : List Int) : Nat → List Int → List Int
  | 0, f => f
  | k + 1, f => st (setRing ring k f) (gt ring ((k : Int) - 1)) (gt ring (k : Int))
theorem setRing_length (ring : List Int) : ∀ k f, (setRing ring k f).length = f.length
  | 0, f => rfl
  | k + 1, f => by
    show (st _ _ _).length = _
    rw [st_length, setRing_length ring k]
def rowOf (many : Nat) (told : List (List Int)) : List Int := told.foldl (fun f r => setRing r r.length f) (upTo many)
theorem foldl_take {α β : Type} {g : β → α → β} {b : β} {xs : List α} {i : Nat} {x : α} (h : xs[i]? = some x) : (xs.take (i + 1)).foldl g b = g ((xs.take i).foldl g b) x := by
  rw [List.take_add_one, h, List.foldl_append]; rfl
theorem rowOf_len (told : List (List Int)) : ∀ f : List Int, (told.foldl (fun f r => setRing r r.length f) f).length = f.length := by
  induction told with
  | nil => intro f; rfl
  | cons r t ih => intro f; rw [List.foldl_cons, ih, setRing_length]
theorem flatten_take {α : Type} {xs : List (List α)} {i : Nat} {x : List α} (h : xs[i]? = some x) : (xs.take (i + 1)).flatten = (xs.take i).flatten ++ x := by
  rw [List.take_add_one, h, List.flatten_append]; simp
theorem flatten_take_le {α : Type} (xs : List (List α)) (i : Nat) : (xs.take i).flatten.length ≤ xs.flatten.length := by
  conv => rhs; rw [← List.take_append_drop i xs, List.flatten_append, List.length_append]
  omega
/-- a ring of a row -/
def okRing (row ring : List Int) : Bool := (!ring.isEmpty && ring.all fun x => decide (0 ≤ x) && decide (x < row.length)) && (List.range ring.length).all fun k => decide (gt row (gt ring ((k : Int) - 1)) = gt ring (k : Int))
def ringed (row : List Int) (told : List (List Int)) : Bool := told.all (okRing row) && isAll told.flatten row.length
theorem any_not {α : Type} (P : α → Bool) (l : List α) : (l.map fun x => !P x).any id = !(l.all P) := by
  induction l with
  | nil => rfl
  | cons x r ih => rw [List.map_cons, List.any_cons, List.all_cons, ih]; cases P x <;> rfl
end Bo

/-! the rings of a row: the mathematics -/
namespace Bo
open PySem L2
theorem perm_of_mem : ∀ {l m : List Int}, l.Nodup → m.Nodup → (∀ x, x ∈ l ↔ x ∈ m) → l.Perm m
  | [], m, _, _, h => by
    have : m = [] := List.eq_nil_iff_forall_not_mem.mpr fun x hx => by simpa using (h x).mpr hx
    subst this; exact .nil
  | a :: l, m, hl, hm, h => by
    have ha : a ∈ m := (h a).mp (by simp)
    have hl' := List.nodup_cons.mp hl
    have p := List.perm_cons_erase ha
    refine .trans (.cons a ?_) p.symm
    refine perm_of_mem hl'.2 (hm.erase a) fun x => ?_
    rw [hm.mem_erase_iff]
    constructor
    · intro hx
      exact ⟨fun e => hl'.1 (e ▸ hx), (h x).mp (List.mem_cons_of_mem _ hx)⟩
    · rintro ⟨n, hx⟩
      rcases List.mem_cons.mp ((h x).mpr hx) with e | e
      · exact absurd e n
      · exact e
theorem gb_false_get {met : List Bool} {t : Int} (h : gb met t = false) (h0 : 0 ≤ t) : t < met.length := by
  unfold gb at h
  rw [List.getD_eq_getElem?_getD] at h
  by_cases c : t.toNat < met.length
  · omega
  · rw [List.getElem?_eq_none (by omega)] at h
    cases h
theorem gb_set {met : List Bool} {t x : Int} (h0 : 0 ≤ t) (h1 : t < met.length) (hx : 0 ≤ x) : gb (met.set t.toNat true) x = true ↔ gb met x = true ∨ x = t := by
  unfold gb
  rw [List.getD_eq_getElem?_getD, List.getD_eq_getElem?_getD]
  by_cases c : x = t
  · subst c
    rw [List.getElem?_set_self (by omega)]
    simp
  · rw [List.getElem?_set_ne (by omega)]
    simp [c]
theorem gt_inj {row : List Int} (R : IsRow row) {x y : Int} (hx : 0 ≤ x ∧ x < row.length) (hy : 0 ≤ y ∧ y < row.length) (e : gt row x = gt row y) : x = y := by
  have h1 : row[x.toNat]? = some (gt row x) := by
    have := gt_some (ns := row) (i := x.toNat) (by omega)
    rwa [show ((x.toNat : Nat) : Int) = x by omega] at this
  have h2 : row[y.toNat]? = some (gt row y) := by
    have := gt_some (ns := row) (i := y.toNat) (by omega)
    rwa [show ((y.toNat : Nat) : Int) = y by omega] at this
  rw [e] at h1
  have := nd_ix R.nd h1 h2
  omega
theorem gt_bd {row : List Int} (R : IsRow row) {x : Int} (hx : 0 ≤ x ∧ x < row.length) : 0 ≤ gt row x ∧ gt row x < row.length := R.bd _ (gt_mem (by omega) (by omega))
/-- on the way round a ring -/
structure RI (row : List Int) (met0 : List Bool) (t0 : Int) (met : List Bool) (t : Int) (ring : List Int) : Prop where
  len : met.length = row.length
  mem : ∀ x : Int, 0 ≤ x → (gb met x = true ↔ gb met0 x = true ∨ x ∈ ring)
  nd : ring.Nodup
  out : ∀ x ∈ ring, gb met0 x = false
  bd : ∀ x ∈ ring, 0 ≤ x ∧ x < row.length
  bt : 0 ≤ t ∧ t < row.length
  ch : ∀ k, k + 1 < ring.length → gt row (ring.getD k 0) = ring.getD (k + 1) 0
  st : ring = [] ∧ t = t0 ∨ ring ≠ [] ∧ ring.getD 0 0 = t0 ∧ t = gt row (ring.getD (ring.length - 1) 0)
theorem getD_app {l : List Int} {x : Int} {k : Nat} (h : k < l.length) : (l ++ [x]).getD k 0 = l.getD k 0 := by
  rw [List.getD_eq_getElem?_getD, List.getD_eq_getElem?_getD, List.getElem?_append_left h]
theorem getD_last {l : List Int} {x : Int} : (l ++ [x]).getD l.length 0 = x := by
  rw [List.getD_eq_getElem?_getD, List.getElem?_append_right (Nat.le_refl _)]; simp
theorem RI.next {row : List Int} (R : IsRow row) {met0 met : List Bool} {t0 t : Int} {ring : List Int} (I : RI row met0 t0 met t ring) (h : gb met t = false) : RI row met0 t0 (met.set t.toNat true) (gt row t) (ring ++ [t]) := by
  have hl := I.len
  have bt := I.bt
  have nt : ¬ (gb met0 t = true ∨ t ∈ ring) := fun z => by
    have := (I.mem t bt.1).mpr z
    rw [h] at this; cases this
  refine ⟨by rw [List.length_set]; exact I.len, fun x hx => ?_, ?_, fun x hx => ?_, fun x hx => ?_, gt_bd R bt, fun k hk => ?_, .inr ⟨by simp, ?_, ?_⟩⟩
  · rw [gb_set bt.1 (by omega) hx, I.mem x hx, List.mem_append, List.mem_singleton, or_assoc]
  · exact List.nodup_append.mpr ⟨I.nd, by simp, fun a ha b hb => by
      have : b = t := by simpa using hb
      subst this
      exact fun e => nt (.inr (e ▸ ha))⟩
  · rcases List.mem_append.mp hx with hx | hx
    · exact I.out x hx
    · have : x = t := by simpa using hx
      subst this
      cases e : gb met0 x with
      | false => rfl
      | true => exact absurd (.inl e) nt
  · rcases List.mem_append.mp hx with hx | hx
    · exact I.bd x hx
    · have : x = t := by simpa using hx
      subst this; exact bt
  · rw [List.length_append, List.length_singleton] at hk
    by_cases c : k + 1 < ring.length
    · rw [getD_app (by omega), getD_app c]; exact I.ch k c
    · have e : k + 1 = ring.length := by omega
      rw [getD_app (by omega), e, getD_last]
      rcases I.st with ⟨e1, _⟩ | ⟨_, _, e2⟩
      · subst e1; simp at e
      · rw [e2, ← e]; rfl
  · rcases I.st with ⟨e1, e2⟩ | ⟨e1, e2, _⟩
    · subst e1 e2; rfl
    · rw [getD_app (List.length_pos_iff.mpr e1)]; exact e2
  · rw [List.length_append, List.length_singleton, Nat.add_sub_cancel, getD_last]
theorem gb_all {met : List Bool} (h : met.count false = 0) (t : Int) : gb met t = true := by
  unfold gb
  rw [List.getD_eq_getElem?_getD]
  cases e : met[t.toNat]? with
  | none => rfl
  | some b =>
    cases b with
    | true => rfl
    | false =>
      have : false ∈ met := List.mem_of_getElem? e
      exact absurd (List.count_pos_iff.mpr this) (by omega)
theorem RI.run {row : List Int} (R : IsRow row) {met0 : List Bool} {t0 : Int} : ∀ (n : Nat) (met : List Bool) (t : Int) (ring : List Int), met.count false = n → RI row met0 t0 met t ring →
    ∃ t', RI row met0 t0 (ringFrom row n met t ring).1 t' (ringFrom row n met t ring).2 ∧ gb (ringFrom row n met t ring).1 t' = true
  | 0, met, t, ring, hn, I => ⟨t, I, gb_all hn t⟩
  | n + 1, met, t, ring, hn, I => by
    by_cases c : gb met t = true
    · have e : ringFrom row (n + 1) met t ring = (met, ring) := by unfold ringFrom; rw [if_pos c]
      rw [e]; exact ⟨t, I, c⟩
    · have c' : gb met t = false := by simpa using c
      have e : ringFrom row (n + 1) met t ring = ringFrom row n (met.set t.toNat true) (gt row t) (ring ++ [t]) := by
        conv => lhs; unfold ringFrom
        rw [if_neg c]
      rw [e]
      have hg := gb_get (met := met) (t := t) (by rw [I.len]; exact I.bt)
      rw [c'] at hg
      have := count_set hg
      exact RI.run R n _ _ _ (by omega) (I.next R c')
/-- a whole ring -/
structure Ring (row r : List Int) : Prop where
  ne : r ≠ []
  bd : ∀ x ∈ r, 0 ≤ x ∧ x < row.length
  ch : ∀ k, k + 1 < r.length → gt row (r.getD k 0) = r.getD (k + 1) 0
  cl : gt row (r.getD (r.length - 1) 0) = r.getD 0 0
theorem getD_mem {l : List Int} {k : Nat} (h : k < l.length) : l.getD k 0 ∈ l := List.mem_of_getElem? (getD_some h)
theorem mem_getD {l : List Int} {x : Int} (h : x ∈ l) : ∃ k, k < l.length ∧ l.getD k 0 = x := by
  obtain ⟨k, hk, e⟩ := List.mem_iff_getElem.mp h
  exact ⟨k, hk, by rw [List.getD_eq_getElem?_getD, List.getElem?_eq_getElem hk]; exact e⟩
theorem getD_inj {l : List Int} (hn : l.Nodup) {i j : Nat} (hi : i < l.length) (hj : j < l.length) (e : l.getD i 0 = l.getD j 0) : i = j :=
  nd_ix hn (getD_some hi) (by rw [e]; exact getD_some hj)
/-- what a turn of the outer loop gives -/
theorem RI.done {row : List Int} (R : IsRow row) {met0 met : List Bool} {t0 t : Int} {ring : List Int} (I : RI row met0 t0 met t ring) (h : gb met t = true) (bk : ∀ y : Int, 0 ≤ y ∧ y < row.length → gb met0 (gt row y) = true → gb met0 y = true) :
    (ring = [] ∧ gb met0 t0 = true ∧ (∀ x : Int, 0 ≤ x → (gb met x = true ↔ gb met0 x = true))) ∨ (Ring row ring ∧ ring.getD 0 0 = t0 ∧ (∀ y : Int, 0 ≤ y ∧ y < row.length → gb met (gt row y) = true → gb met y = true)) := by
  rcases I.st with ⟨e1, e2⟩ | ⟨e1, e2, e3⟩
  · subst e1 e2
    refine .inl ⟨rfl, ?_, fun x hx => by rw [I.mem x hx]; simp⟩
    have := (I.mem t I.bt.1).mp h
    simpa using this
  · have hp := List.length_pos_iff.mpr e1
    have hlast := getD_mem (l := ring) (k := ring.length - 1) (by omega)
    have bl := I.bd _ hlast
    have et : t = t0 := by
      rcases (I.mem t I.bt.1).mp h with z | z
      · rw [e3] at z
        have := bk _ bl z
        rw [I.out _ hlast] at this; cases this
      · obtain ⟨k, hk, ek⟩ := mem_getD z
        cases k with
        | zero => rw [← ek, e2]
        | succ k =>
          have c := I.ch k hk
          rw [ek, e3] at c
          have hk' := getD_mem (l := ring) (k := k) (by omega)
          have := getD_inj I.nd (by omega) (by omega) (gt_inj R (I.bd _ hk') bl c)
          omega
    refine .inr ⟨⟨e1, I.bd, I.ch, by rw [← e3, et, e2]⟩, e2, fun y hy z => ?_⟩
    rcases (I.mem _ (gt_bd R hy).1).mp z with z | z
    · exact (I.mem y hy.1).mpr (.inl (bk y hy z))
    · refine (I.mem y hy.1).mpr (.inr ?_)
      obtain ⟨k, hk, ek⟩ := mem_getD z
      cases k with
      | zero =>
        have : y = ring.getD (ring.length - 1) 0 := gt_inj R hy bl (by rw [← ek, e2, ← et, e3])
        rw [this]; exact hlast
      | succ k =>
        have hk' := getD_mem (l := ring) (k := k) (by omega)
        have : y = ring.getD k 0 := gt_inj R hy (I.bd _ hk') (by rw [I.ch k hk, ek])
        rw [this]; exact hk'
/-- behind i turns of the outer loop -/
structure RO (row : List Int) (i : Nat) (met : List Bool) (found : List (List Int)) : Prop where
  len : met.length = row.length
  mem : ∀ x : Int, 0 ≤ x → x < row.length → (gb met x = true ↔ x ∈ found.flatten)
  nd : found.flatten.Nodup
  rg : ∀ r ∈ found, Ring row r
  below : ∀ x : Int, 0 ≤ x → x < i → x < row.length → gb met x = true
  bk : ∀ y : Int, 0 ≤ y ∧ y < row.length → gb met (gt row y) = true → gb met y = true
  least : ∀ r ∈ found, ∀ x ∈ r, r.getD 0 0 ≤ x
  up : (found.map fun r => r.getD 0 0).Pairwise (· < ·)
  heads : ∀ r ∈ found, r.getD 0 0 < i
theorem RO.all {row : List Int} (R : IsRow row) : ∀ i, i ≤ row.length → RO row i (ringsAux row i).1 (ringsAux row i).2
  | 0, _ => by
    have e : ∀ x : Int, 0 ≤ x → x < row.length → gb (row.map fun _ => false) x = false := fun x h0 h1 => by
      unfold gb
      rw [List.getD_eq_getElem?_getD, List.getElem?_map, List.getElem?_eq_getElem (by omega)]; rfl
    refine ⟨by simp [ringsAux], fun x h0 h1 => ?_, by simp [ringsAux], by simp [ringsAux], fun x h0 h1 _ => by omega, fun y hy z => ?_, by simp [ringsAux], by simp [ringsAux], by simp [ringsAux]⟩
    · show gb (row.map fun _ => false) x = true ↔ x ∈ ([] : List (List Int)).flatten
      rw [e x h0 h1]; simp
    · have z' : gb (row.map fun _ => false) (gt row y) = true := z
      have := gt_bd R hy
      rw [e _ this.1 this.2] at z'; cases z'
  | i + 1, hi => by
    have O := RO.all R i (by omega)
    have I0 : RI row (ringsAux row i).1 i (ringsAux row i).1 i [] := ⟨O.len, fun x _ => by simp, List.nodup_nil, by simp, by simp, by omega, fun k hk => by simp at hk, .inl ⟨rfl, rfl⟩⟩
    obtain ⟨t', I, ht⟩ := RI.run R _ _ _ _ rfl I0
    have e1 : (ringsAux row (i + 1)).1 = (ringFrom row ((ringsAux row i).1.count false) (ringsAux row i).1 i []).1 := rfl
    have e2 : (ringsAux row (i + 1)).2 = if (ringFrom row ((ringsAux row i).1.count false) (ringsAux row i).1 i []).2 = [] then (ringsAux row i).2 else (ringsAux row i).2 ++ [(ringFrom row ((ringsAux row i).1.count false) (ringsAux row i).1 i []).2] := rfl
    rw [e1, e2]
    generalize (ringFrom row ((ringsAux row i).1.count false) (ringsAux row i).1 i []).1 = met at *
    generalize (ringFrom row ((ringsAux row i).1.count false) (ringsAux row i).1 i []).2 = ring at *
    rcases I.done R ht O.bk with ⟨z1, z2, z3⟩ | ⟨z1, z2, z3⟩
    · rw [if_pos z1]
      refine ⟨I.len, fun x h0 h1 => by rw [z3 x h0, O.mem x h0 h1], O.nd, O.rg, fun x h0 h1 h2 => ?_, fun y hy z => ?_, O.least, O.up, fun r hr => by have := O.heads r hr; omega⟩
      · rw [z3 x h0]
        by_cases c : x < i
        · exact O.below x h0 c h2
        · have : x = i := by omega
          subst this; exact z2
      · rw [z3 _ (gt_bd R hy).1] at z
        rw [z3 y hy.1]
        exact O.bk y hy z
    · rw [if_neg z1.ne]
      have lst : ∀ x ∈ ring, (i : Int) ≤ x := fun x hx => by
        have bx := I.bd x hx
        by_cases c : x < i
        · have := O.below x bx.1 c bx.2
          rw [I.out x hx] at this; cases this
        · omega
      refine ⟨I.len, fun x h0 h1 => ?_, ?_, fun r hr => ?_, fun x h0 h1 h2 => ?_, z3, fun r hr => ?_, ?_, fun r hr => ?_⟩
      · rw [I.mem x h0, O.mem x h0 h1, List.flatten_append, List.mem_append]; simp
      · rw [List.flatten_append]
        refine List.nodup_append.mpr ⟨O.nd, by simpa using I.nd, fun a ha b hb e => ?_⟩
        have hb' : b ∈ ring := by simpa using hb
        subst e
        have bx := I.bd a hb'
        have := (O.mem a bx.1 bx.2).mpr ha
        rw [I.out a hb'] at this; cases this
      · rcases List.mem_append.mp hr with hr | hr
        · exact O.rg r hr
        · have : r = ring := by simpa using hr
          subst this; exact z1
      · rw [I.mem x h0]
        by_cases c : x < i
        · exact .inl (O.below x h0 c h2)
        · have : x = i := by omega
          subst this
          exact .inr (by rw [← z2]; exact getD_mem (List.length_pos_iff.mpr z1.ne))
      · rcases List.mem_append.mp hr with hr | hr
        · exact O.least r hr
        · have : r = ring := by simpa using hr
          subst this
          intro x hx; rw [z2]; exact lst x hx
      · rw [List.map_append]
        refine List.pairwise_append.mpr ⟨O.up, by simp, fun a ha b hb => ?_⟩
        obtain ⟨r, hr, rfl⟩ := List.mem_map.mp ha
        have hb' : b = ring.getD 0 0 := by simpa using hb
        rw [hb', z2]
        exact O.heads r hr
      · rcases List.mem_append.mp hr with hr | hr
        · have := O.heads r hr; omega
        · have : r = ring := by simpa using hr
          subst this; rw [z2]; omega
theorem RO.of {row : List Int} (R : IsRow row) : RO row row.length (ringsAux row row.length).1 (ringsOf row) := RO.all R _ (Nat.le_refl _)
theorem Ring.ok {row r : List Int} (h : Ring row r) : okRing row r = true := by
  unfold okRing
  rw [Bool.and_eq_true, Bool.and_eq_true, List.all_eq_true, List.all_eq_true]
  refine ⟨⟨?_, fun x hx => ?_⟩, fun k hk => ?_⟩
  · cases r with
    | nil => exact absurd rfl h.ne
    | cons _ _ => rfl
  · have := h.bd x hx
    rw [Bool.and_eq_true, decide_eq_true_eq, decide_eq_true_eq]; exact this
  · have hk' := List.mem_range.mp hk
    rw [decide_eq_true_eq, gt_nat]
    cases k with
    | zero =>
      have e : gt r (((0 : Nat) : Int) - 1) = r.getD (r.length - 1) 0 := by
        unfold gt
        rw [if_neg (by omega)]
        congr 1; omega
      rw [e]; exact h.cl
    | succ k =>
      have e : gt r (((k + 1 : Nat) : Int) - 1) = r.getD k 0 := by
        rw [show ((k + 1 : Nat) : Int) - 1 = (k : Int) by omega, gt_nat]
      rw [e]; exact h.ch k hk'
theorem ringsOf_perm {row : List Int} (R : IsRow row) : (ringsOf row).flatten.Perm (upTo row.length) := by
  have O := RO.of R
  refine perm_of_mem O.nd (upTo_nodup _) fun x => ?_
  rw [mem_upTo]
  constructor
  · intro hx
    obtain ⟨r, hr, hx⟩ := List.mem_flatten.mp hx
    exact (O.rg r hr).bd x hx
  · rintro ⟨h0, h1⟩
    exact (O.mem x h0 h1).mp (O.below x h0 h1 h1)
theorem ringsOf_ringed {row : List Int} (R : IsRow row) : ringed row (ringsOf row) = true := by
  unfold ringed isAll
  rw [Bool.and_eq_true, List.all_eq_true, decide_eq_true_eq]
  exact ⟨fun r hr => ((RO.of R).rg r hr).ok, ringsOf_perm R⟩
end Bo

/-! of rings the row -/
namespace Bo
open PySem L2
theorem gt_st {f : List Int} {i x y : Int} (hi : 0 ≤ i ∧ i < f.length) (hy : 0 ≤ y) : gt (st f i x) y = if y = i then x else gt f y := by
  unfold gt st
  rw [if_pos hy, if_pos hy, List.getD_eq_getElem?_getD, List.getD_eq_getElem?_getD]
  by_cases c : y = i
  · subst c
    rw [if_pos rfl, List.getElem?_set_self (by omega)]; rfl
  · rw [if_neg c, List.getElem?_set_ne (by omega)]
theorem gt_upTo {n : Nat} {y : Int} (h : 0 ≤ y ∧ y < n) : gt (upTo n) y = y := by
  have := gt_get (upTo_get (n := n) (i := y.toNat) (by omega))
  rw [show ((y.toNat : Nat) : Int) = y by omega] at this
  exact this
theorem okRing_ne {row r : List Int} (h : okRing row r = true) : r ≠ [] := by
  intro e; subst e; simp [okRing] at h
theorem okRing_bd {row r : List Int} (h : okRing row r = true) : ∀ x ∈ r, 0 ≤ x ∧ x < row.length := fun x hx => by
  unfold okRing at h
  rw [Bool.and_eq_true, Bool.and_eq_true, List.all_eq_true] at h
  have := h.1.2 x hx
  rw [Bool.and_eq_true, decide_eq_true_eq, decide_eq_true_eq] at this
  exact this
theorem okRing_at {row r : List Int} (h : okRing row r = true) {k : Nat} (hk : k < r.length) : gt row (gt r ((k : Int) - 1)) = gt r (k : Int) := by
  unfold okRing at h
  rw [Bool.and_eq_true] at h
  exact of_decide_eq_true (List.all_eq_true.mp h.2 k (List.mem_range.mpr hk))
theorem okRing_isRing {row r : List Int} (h : okRing row r = true) : isRing r (row.length : Nat) = true := by
  unfold isRing
  rw [Bool.and_eq_true, List.all_eq_true]
  refine ⟨?_, fun x hx => ?_⟩
  · cases r with
    | nil => exact absurd rfl (okRing_ne h)
    | cons _ _ => rfl
  · have := okRing_bd h x hx
    rw [isNum_int, decide_eq_true this.1, decide_eq_true (by omega)]; rfl
/-- a row on the way: each place as in order or as in row -/
structure Half (row f : List Int) : Prop where
  len : f.length = row.length
  at_ : ∀ y : Int, 0 ≤ y ∧ y < row.length → gt f y = y ∨ gt f y = gt row y
theorem Half.step {row f : List Int} (h : Half row f) {i : Int} (hi : 0 ≤ i ∧ i < row.length) : Half row (st f i (gt row i)) ∧ gt (st f i (gt row i)) i = gt row i ∧ ∀ y : Int, 0 ≤ y ∧ y < row.length → gt f y = gt row y → gt (st f i (gt row i)) y = gt row y := by
  have hl := h.len
  refine ⟨⟨by rw [st_length, h.len], fun y hy => ?_⟩, ?_, fun y hy e => ?_⟩
  · rw [gt_st (by omega) hy.1]
    by_cases c : y = i
    · rw [if_pos c, c]; exact .inr rfl
    · rw [if_neg c]; exact h.at_ y hy
  · rw [gt_st (by omega) hi.1, if_pos rfl]
  · rw [gt_st (by omega) hy.1]
    by_cases c : y = i
    · rw [if_pos c, c]
    · rw [if_neg c]; exact e
theorem gt_pred_bd {row r : List Int} (h : okRing row r = true) {k : Nat} (hk : k < r.length) : 0 ≤ gt r ((k : Int) - 1) ∧ gt r ((k : Int) - 1) < row.length :=
  okRing_bd h _ (gt_mem (by omega) (by omega))
theorem setRing_half {row r : List Int} (h : okRing row r = true) : ∀ (k : Nat) (f : List Int), k ≤ r.length → Half row f → Half row (setRing r k f) ∧ (∀ j, j < k → gt (setRing r k f) (gt r ((j : Int) - 1)) = gt row (gt r ((j : Int) - 1))) ∧
    ∀ y : Int, 0 ≤ y ∧ y < row.length → gt f y = gt row y → gt (setRing r k f) y = gt row y
  | 0, f, _, hf => ⟨hf, fun j hj => absurd hj (Nat.not_lt_zero _), fun y _ e => e⟩
  | k + 1, f, hk, hf => by
    obtain ⟨h1, h2, h3⟩ := setRing_half h k f (by omega) hf
    have hb := gt_pred_bd h (k := k) (by omega)
    have e : setRing r (k + 1) f = st (setRing r k f) (gt r ((k : Int) - 1)) (gt row (gt r ((k : Int) - 1))) := by
      show st _ _ _ = _
      rw [okRing_at h (by omega)]
    rw [e]
    obtain ⟨s1, s2, s3⟩ := h1.step hb
    refine ⟨s1, fun j hj => ?_, fun y hy e => s3 y hy (h3 y hy e)⟩
    by_cases c : j = k
    · subst c; exact s2
    · exact s3 _ (gt_pred_bd h (by omega)) (h2 j (by omega))
theorem setRing_all {row r : List Int} (h : okRing row r = true) {f : List Int} (hf : Half row f) : Half row (setRing r r.length f) ∧ (∀ y ∈ r, gt (setRing r r.length f) y = gt row y) ∧ ∀ y : Int, 0 ≤ y ∧ y < row.length → gt f y = gt row y → gt (setRing r r.length f) y = gt row y := by
  obtain ⟨h1, h2, h3⟩ := setRing_half h r.length f (Nat.le_refl _) hf
  refine ⟨h1, fun y hy => ?_, h3⟩
  obtain ⟨k, hk, e⟩ := mem_getD hy
  by_cases c : k + 1 < r.length
  · have := h2 (k + 1) c
    rw [show ((k + 1 : Nat) : Int) - 1 = (k : Int) by omega, gt_nat, e] at this
    exact this
  · have := h2 0 (by omega)
    have e0 : gt r (((0 : Nat) : Int) - 1) = y := by
      unfold gt
      rw [if_neg (by omega), ← e]
      congr 1; omega
    rw [e0] at this
    exact this
theorem rowOf_half {row : List Int} : ∀ (told : List (List Int)) (f : List Int), (∀ r ∈ told, okRing row r = true) → Half row f → Half row (told.foldl (fun f r => setRing r r.length f) f) ∧
    (∀ y ∈ told.flatten, gt (told.foldl (fun f r => setRing r r.length f) f) y = gt row y) ∧ ∀ y : Int, 0 ≤ y ∧ y < row.length → gt f y = gt row y → gt (told.foldl (fun f r => setRing r r.length f) f) y = gt row y
  | [], f, _, hf => ⟨hf, by simp, fun y _ e => e⟩
  | r :: t, f, h, hf => by
    obtain ⟨a1, a2, a3⟩ := setRing_all (h r (by simp)) hf
    obtain ⟨b1, b2, b3⟩ := rowOf_half t _ (fun r hr => h r (List.mem_cons_of_mem _ hr)) a1
    rw [List.foldl_cons]
    refine ⟨b1, fun y hy => ?_, fun y hy e => b3 y hy (a3 y hy e)⟩
    rw [List.flatten_cons] at hy
    rcases List.mem_append.mp hy with hy | hy
    · exact b3 y (okRing_bd (h r (by simp)) y hy) (a2 y hy)
    · exact b2 y hy
theorem ext_gt {f g : List Int} (hl : f.length = g.length) (h : ∀ y : Int, 0 ≤ y ∧ y < g.length → gt f y = gt g y) : f = g := by
  apply List.ext_getElem hl
  intro i h1 h2
  have := h i (by omega)
  rw [gt_nat, gt_nat, List.getD_eq_getElem?_getD, List.getD_eq_getElem?_getD, List.getElem?_eq_getElem h1, List.getElem?_eq_getElem h2] at this
  exact this
/-- rings of a row that hold all that doesn't stand at its place tell the row -/
theorem rowOf_is {row : List Int} {told : List (List Int)} (h : ∀ r ∈ told, okRing row r = true) (hm : ∀ y : Int, 0 ≤ y ∧ y < row.length → gt row y ≠ y → y ∈ told.flatten) : rowOf row.length told = row := by
  have h0 : Half row (upTo row.length) := ⟨upTo_length _, fun y hy => .inl (gt_upTo hy)⟩
  obtain ⟨b1, b2, _⟩ := rowOf_half told _ h h0
  refine ext_gt b1.len fun y hy => ?_
  by_cases c : gt row y = y
  · rcases b1.at_ y hy with e | e
    · show gt (rowOf _ _) y = _
      rw [c]; exact e
    · exact e
  · exact b2 y (hm y hy c)
theorem okRing_one {row r : List Int} (h : okRing row r = true) (hl : r.length ≤ 1) {x : Int} (hx : x ∈ r) : gt row x = x := by
  obtain ⟨k, hk, e⟩ := mem_getD hx
  have hk0 : k = 0 := by omega
  subst hk0
  have := okRing_at h (k := 0) hk
  have e1 : gt r (((0 : Nat) : Int) - 1) = x := by
    unfold gt
    rw [if_neg (by omega), ← e]
    congr 1; omega
  rw [e1, gt_nat, e] at this
  exact this
/-- .. as rings_of tells them -/
theorem rowOf_ringsOf {row : List Int} (R : IsRow row) : rowOf row.length (ringsOf row) = row := by
  have h := ringsOf_ringed R
  unfold ringed at h
  rw [Bool.and_eq_true, List.all_eq_true] at h
  exact rowOf_is h.1 fun y hy _ => ((ringsOf_perm R).mem_iff).mpr (mem_upTo.mpr hy)
/-! ### a ring begun elsewhere -/
theorem rot_perm (r : List Int) (a : Nat) : (r.drop a ++ r.take a).Perm r := by
  refine List.perm_append_comm.trans ?_
  rw [List.take_append_drop]
theorem rot_getD (r : List Int) (a k : Nat) (ha : a < r.length) (hk : k < r.length) : (r.drop a ++ r.take a).getD k 0 = if k < r.length - a then r.getD (a + k) 0 else r.getD (k - (r.length - a)) 0 := by
  rw [List.getD_eq_getElem?_getD]
  by_cases c : k < r.length - a
  · rw [if_pos c, List.getElem?_append_left (by rw [List.length_drop]; exact c), List.getElem?_drop, List.getD_eq_getElem?_getD]
  · rw [if_neg c, List.getElem?_append_right (by rw [List.length_drop]; omega), List.length_drop, List.getElem?_take_of_lt (by omega), List.getD_eq_getElem?_getD]
theorem okRing_iff {row r : List Int} : okRing row r = true ↔ r ≠ [] ∧ (∀ x ∈ r, 0 ≤ x ∧ x < row.length) ∧ ∀ k, k < r.length → gt row (r.getD k 0) = if k + 1 < r.length then r.getD (k + 1) 0 else r.getD 0 0 := by
  constructor
  · intro h
    refine ⟨okRing_ne h, okRing_bd h, fun k hk => ?_⟩
    by_cases c : k + 1 < r.length
    · rw [if_pos c]
      have := okRing_at h c
      rw [show ((k + 1 : Nat) : Int) - 1 = (k : Int) by omega, gt_nat, gt_nat] at this
      exact this
    · rw [if_neg c]
      have := okRing_at h (k := 0) (by omega)
      have e : gt r (((0 : Nat) : Int) - 1) = r.getD k 0 := by
        unfold gt
        rw [if_neg (by omega)]
        congr 1; omega
      rw [e, gt_nat] at this
      exact this
  · rintro ⟨h1, h2, h3⟩
    unfold okRing
    rw [Bool.and_eq_true, Bool.and_eq_true, List.all_eq_true, List.all_eq_true]
    have hp := List.length_pos_iff.mpr h1
    refine ⟨⟨?_, fun x hx => ?_⟩, fun k hk => ?_⟩
    · cases r with
      | nil => exact absurd rfl h1
      | cons _ _ => rfl
    · have := h2 x hx
      rw [Bool.and_eq_true, decide_eq_true_eq, decide_eq_true_eq]; exact this
    · have hk' := List.mem_range.mp hk
      rw [decide_eq_true_eq, gt_nat]
      cases k with
      | zero =>
        have e : gt r (((0 : Nat) : Int) - 1) = r.getD (r.length - 1) 0 := by
          unfold gt
          rw [if_neg (by omega)]
          congr 1; omega
        have := h3 (r.length - 1) (by omega)
        rw [if_neg (by omega)] at this
        rw [e]; exact this
      | succ k =>
        have := h3 k (by omega)
        rw [if_pos hk'] at this
        rw [show ((k + 1 : Nat) : Int) - 1 = (k : Int) by omega, gt_nat]
        exact this
theorem okRing_rot {row r : List Int} (h : okRing row r = true) {a : Nat} (ha : a < r.length) : okRing row (r.drop a ++ r.take a) = true := by
  obtain ⟨h1, h2, h3⟩ := okRing_iff.mp h
  have p := rot_perm r a
  have hl : (r.drop a ++ r.take a).length = r.length := p.length_eq
  refine okRing_iff.mpr ⟨fun e => h1 (by rw [e] at p; exact List.nil_perm.mp p), fun x hx => h2 x (p.mem_iff.mp hx), fun k hk => ?_⟩
  rw [hl] at hk ⊢
  rw [rot_getD r a k ha hk]
  by_cases c : k + 1 < r.length
  · rw [if_pos c, rot_getD r a (k + 1) ha c]
    by_cases d : k < r.length - a
    · rw [if_pos d, h3 _ (by omega)]
      by_cases e : k + 1 < r.length - a
      · rw [if_pos e, if_pos (by omega)]; rfl
      · rw [if_neg e, if_neg (by omega)]
        congr 1; omega
    · rw [if_neg d, if_neg (by omega), h3 _ (by omega), if_pos (by omega)]
      congr 1; omega
  · rw [if_neg c, rot_getD r a 0 ha (by omega)]
    by_cases d : k < r.length - a
    · have ha0 : a = 0 := by omega
      subst ha0
      rw [if_pos d, if_pos (by omega), h3 _ (by omega), if_neg (by omega)]
    · rw [if_neg d, h3 _ (by omega), if_pos (by omega), if_pos (by omega)]
      congr 1; omega
/-- the two last of n + 2 change places -/
theorem rowOf_two (n : Nat) : (rowOf (n + 2) [[(n : Int), (n : Int) + 1]]).drop n = [(n : Int) + 1, (n : Int)] := by
  have e : rowOf (n + 2) [[(n : Int), (n : Int) + 1]] = st (st (upTo (n + 2)) ((n : Int) + 1) n) n ((n : Int) + 1) := rfl
  rw [e]
  apply List.ext_getElem?
  intro i
  unfold st
  rw [List.getElem?_drop]
  have h1 : ((n : Int) + 1).toNat = n + 1 := by omega
  have h2 : (n : Int).toNat = n := by omega
  rw [h1, h2]
  have hl : (upTo (n + 2)).length = n + 2 := upTo_length _
  cases i with
  | zero =>
    show (((upTo (n + 2)).set (n + 1) (n : Int)).set n ((n : Int) + 1))[n]? = _
    rw [List.getElem?_set_self (by rw [List.length_set]; omega)]; rfl
  | succ i =>
    cases i with
    | zero =>
      show (((upTo (n + 2)).set (n + 1) (n : Int)).set n ((n : Int) + 1))[n + 1]? = _
      rw [List.getElem?_set_ne (by omega), List.getElem?_set_self (by omega)]; rfl
    | succ i =>
      rw [List.getElem?_eq_none (by rw [List.length_set, List.length_set]; omega)]; rfl
theorem mem_le_flatten {α : Type} : ∀ {l : List (List α)} {r : List α}, r ∈ l → r.length ≤ l.flatten.length
  | a :: l, r, h => by
    rw [List.flatten_cons, List.length_append]
    rcases List.mem_cons.mp h with e | h
    · subst e; omega
    · have := mem_le_flatten h; omega
theorem ringsOf_flat {row : List Int} (R : IsRow row) : (ringsOf row).flatten.length = row.length := by
  rw [(ringsOf_perm R).length_eq, upTo_length]
theorem ringsOf_len {row : List Int} (R : IsRow row) {r : List Int} (h : r ∈ ringsOf row) : r.length ≤ row.length := by
  rw [← ringsOf_flat R]; exact mem_le_flatten h
theorem ringsOf_okR {row : List Int} (R : IsRow row) {r : List Int} (h : r ∈ ringsOf row) : okRing row r = true := ((RO.of R).rg r h).ok
theorem getD_gt0 (r : List Int) : gt r 0 = r.getD 0 0 := by
  exact gt_nat r 0
theorem heads_up {row : List Int} (R : IsRow row) : ((ringsOf row).map fun x => gt x 0).Pairwise (· ≤ ·) := by
  have := (RO.of R).up
  have e : ((ringsOf row).map fun x => gt x 0) = (ringsOf row).map fun r => r.getD 0 0 := List.map_congr_left fun r _ => getD_gt0 r
  rw [e]
  exact this.imp fun h => by omega
/-- rings of a row told otherwise, behind i of them -/
structure Told (row : List Int) (found : List (List Int)) (i : Nat) (told : List (List Int)) : Prop where
  ok : ∀ t ∈ told, okRing row t = true
  nd : told.flatten.Nodup
  sub : ∀ x ∈ told.flatten, x ∈ (found.take i).flatten
  big : ∀ r ∈ found.take i, 1 < r.length → ∀ x ∈ r, x ∈ told.flatten
  len : told.length ≤ i
theorem Told.zero (row : List Int) (found : List (List Int)) : Told row found 0 [] := ⟨by simp, by simp, by simp, by simp, Nat.le_refl _⟩
theorem Told.put {row : List Int} {found told : List (List Int)} {i : Nat} {r : List Int} (h : Told row found i told) (hn : found.flatten.Nodup) (hr : found[i]? = some r) (ho : okRing row r = true) {a : Nat} (ha : a < r.length) : Told row found (i + 1) (told ++ [r.drop a ++ r.take a]) := by
  have p := rot_perm r a
  have e : (told ++ [r.drop a ++ r.take a]).flatten = told.flatten ++ (r.drop a ++ r.take a) := by rw [List.flatten_append]; simp
  have hn2 : ((found.take (i + 1)).flatten).Nodup := by
    have : found.flatten = (found.take (i + 1)).flatten ++ (found.drop (i + 1)).flatten := by rw [← List.flatten_append, List.take_append_drop]
    rw [this] at hn
    exact (List.nodup_append.mp hn).1
  rw [flatten_take hr] at hn2
  obtain ⟨_, n2, n3⟩ := List.nodup_append.mp hn2
  refine ⟨fun t ht => ?_, ?_, fun x hx => ?_, fun s hs hl x hx => ?_, by rw [List.length_append]; simp; exact h.len⟩
  · rcases List.mem_append.mp ht with ht | ht
    · exact h.ok t ht
    · have : t = r.drop a ++ r.take a := by simpa using ht
      subst this; exact okRing_rot ho ha
  · rw [e]
    exact List.nodup_append.mpr ⟨h.nd, p.nodup_iff.mpr n2, fun x hx y hy z => n3 x (h.sub x hx) y (p.mem_iff.mp hy) z⟩
  · rw [flatten_take hr]
    rw [e] at hx
    rcases List.mem_append.mp hx with hx | hx
    · exact List.mem_append_left _ (h.sub x hx)
    · exact List.mem_append_right _ (p.mem_iff.mp hx)
  · rw [e]
    rw [List.take_add_one, hr] at hs
    rcases List.mem_append.mp hs with hs | hs
    · exact List.mem_append_left _ (h.big s hs hl x hx)
    · have : s = r := by simpa using hs
      subst this
      exact List.mem_append_right _ (p.mem_iff.mpr hx)
theorem Told.skip {row : List Int} {found told : List (List Int)} {i : Nat} {r : List Int} (h : Told row found i told) (hr : found[i]? = some r) (hl : ¬ 1 < r.length) : Told row found (i + 1) told := by
  refine ⟨h.ok, h.nd, fun x hx => ?_, fun s hs hl' x hx => ?_, Nat.le_succ_of_le h.len⟩
  · rw [flatten_take hr]; exact List.mem_append_left _ (h.sub x hx)
  · rw [List.take_add_one, hr] at hs
    rcases List.mem_append.mp hs with hs | hs
    · exact h.big s hs hl' x hx
    · have : s = r := by simpa using hs
      subst this; exact absurd hl' hl
/-- what of_rings asks of rings, and that they tell the row -/
structure Tells (row : List Int) (told : List (List Int)) : Prop where
  ok : ∀ t ∈ told, okRing row t = true
  nd : told.flatten.Nodup
  len : told.length ≤ 1000
  flat : told.flatten.length ≤ 1000
  is : rowOf row.length told = row
theorem nodup_sub_len : ∀ {l m : List Int}, l.Nodup → (∀ x ∈ l, x ∈ m) → l.length ≤ m.length
  | [], m, _, _ => Nat.zero_le _
  | a :: l, m, hn, hs => by
    have ha : a ∈ m := hs a (by simp)
    have hn' := List.nodup_cons.mp hn
    have ih := nodup_sub_len (l := l) (m := m.erase a) hn'.2 fun x hx => by
      have ne : x ≠ a := fun e => hn'.1 (by rw [← e]; exact hx)
      exact (List.mem_erase_of_ne ne).mpr (hs x (List.mem_cons_of_mem _ hx))
    rw [List.length_erase_of_mem ha] at ih
    have := List.length_pos_iff.mpr (List.ne_nil_of_mem ha)
    rw [List.length_cons]; omega
theorem nodup_le {row l : List Int} (hn : l.Nodup) (hb : ∀ x ∈ l, 0 ≤ x ∧ x < row.length) : l.length ≤ row.length := by
  have : l.length ≤ (upTo row.length).length := by
    have hs : l ⊆ upTo row.length := fun x hx => mem_upTo.mpr (hb x hx)
    exact nodup_sub_len hn hs
  rwa [upTo_length] at this
theorem Told.tells {row : List Int} {told : List (List Int)} (R : IsRow row) (h : Told row (ringsOf row) (ringsOf row).length told) : Tells row told ∧ Tells row told.reverse := by
  have hl := R.len
  have ob : ∀ x ∈ told.flatten, 0 ≤ x ∧ x < row.length := fun x hx => by
    obtain ⟨t, ht, hx⟩ := List.mem_flatten.mp hx
    exact okRing_bd (h.ok t ht) x hx
  have fl := nodup_le h.nd ob
  have big : ∀ y : Int, 0 ≤ y ∧ y < row.length → gt row y ≠ y → y ∈ told.flatten := fun y hy ny => by
    have hm : y ∈ (ringsOf row).flatten := ((ringsOf_perm R).mem_iff).mpr (mem_upTo.mpr hy)
    obtain ⟨r, hr, hy'⟩ := List.mem_flatten.mp hm
    have ho := ringsOf_okR R hr
    refine h.big r (by rw [List.take_length]; exact hr) ?_ y hy'
    by_cases c : 1 < r.length
    · exact c
    · exact absurd (okRing_one ho (by omega) hy') ny
  have cnt : (ringsOf row).length ≤ row.length := ringsAux_count row row.length
  have hlen := h.len
  have pr : told.reverse.flatten.Perm told.flatten := (List.reverse_perm told).flatten
  refine ⟨⟨h.ok, h.nd, by omega, by omega, rowOf_is h.ok big⟩, ⟨fun t ht => h.ok t (List.mem_reverse.mp ht), pr.nodup_iff.mpr h.nd, by rw [List.length_reverse]; omega, by rw [pr.length_eq]; omega, rowOf_is (fun t ht => h.ok t (List.mem_reverse.mp ht)) fun y hy ny => (pr.mem_iff).mpr (big y hy ny)⟩⟩
theorem ringsOf_tells {row : List Int} (R : IsRow row) : Tells row (ringsOf row) := by
  have hl := R.len
  have cnt : (ringsOf row).length ≤ row.length := ringsAux_count row row.length
  exact ⟨fun t ht => ringsOf_okR R ht, (RO.of R).nd, by omega, by rw [ringsOf_flat R]; omega, rowOf_ringsOf R⟩
end Bo

/-! places, exchanges -/
namespace Bo
open PySem L2
/-- for each thing its place, as places_of makes it -/
def plAux (ns : List Int) : Nat → List Int
  | 0 => ns.map fun _ => 0
  | i + 1 => st (plAux ns i) (gt ns (i : Int)) (i : Int)
def placesOf (ns : List Int) : List Int := plAux ns ns.length
theorem plAux_length (ns : List Int) : ∀ i, (plAux ns i).length = ns.length
  | 0 => by simp [plAux]
  | i + 1 => by show (st _ _ _).length = _; rw [st_length, plAux_length ns i]
theorem placesOf_length (ns : List Int) : (placesOf ns).length = ns.length := plAux_length ns _
theorem plAux_at {ns : List Int} (R : IsRow ns) : ∀ i, i ≤ ns.length → ∀ k : Nat, k < i → gt (plAux ns i) (gt ns (k : Int)) = (k : Int)
  | 0, _, k, hk => absurd hk (Nat.not_lt_zero _)
  | i + 1, hi, k, hk => by
    show gt (st (plAux ns i) (gt ns (i : Int)) (i : Int)) (gt ns (k : Int)) = k
    have bi := gt_bd R (x := (i : Int)) (by omega)
    have bk := gt_bd R (x := (k : Int)) (by omega)
    rw [gt_st (by rw [plAux_length]; exact bi) bk.1]
    by_cases c : k = i
    · subst c; rw [if_pos rfl]
    · have : gt ns (k : Int) ≠ gt ns (i : Int) := fun e => c (by have := gt_inj R (by omega) (by omega) e; omega)
      rw [if_neg this]
      exact plAux_at R i (by omega) k (by omega)
/-- the place of the thing that stands at a place -/
theorem placesOf_gt {ns : List Int} (R : IsRow ns) {x : Int} (h : 0 ≤ x ∧ x < ns.length) : gt (placesOf ns) (gt ns x) = x := by
  have := plAux_at R ns.length (Nat.le_refl _) x.toNat (by omega)
  rwa [show ((x.toNat : Nat) : Int) = x by omega] at this
theorem row_surj {ns : List Int} (R : IsRow ns) {y : Int} (h : 0 ≤ y ∧ y < ns.length) : ∃ x : Int, (0 ≤ x ∧ x < ns.length) ∧ gt ns x = y := by
  have hm : y ∈ (ringsOf ns).flatten := ((ringsOf_perm R).mem_iff).mpr (mem_upTo.mpr h)
  obtain ⟨r, hr, hy⟩ := List.mem_flatten.mp hm
  have ho := ringsOf_okR R hr
  obtain ⟨k, hk, e⟩ := mem_getD hy
  refine ⟨gt r ((k : Int) - 1), gt_pred_bd ho hk, ?_⟩
  rw [okRing_at ho hk, gt_nat, e]
theorem gt_placesOf {ns : List Int} (R : IsRow ns) {y : Int} (h : 0 ≤ y ∧ y < ns.length) : (0 ≤ gt (placesOf ns) y ∧ gt (placesOf ns) y < ns.length) ∧ gt ns (gt (placesOf ns) y) = y := by
  obtain ⟨x, hx, e⟩ := row_surj R h
  rw [← e, placesOf_gt R hx]
  exact ⟨hx, rfl⟩
theorem row_mem {ns : List Int} (R : IsRow ns) {y : Int} (h : 0 ≤ y ∧ y < ns.length) : y ∈ ns := by
  obtain ⟨x, hx, e⟩ := row_surj R h
  rw [← e]; exact gt_mem (by omega) (by omega)
theorem row_perm {ns : List Int} (R : IsRow ns) : ns.Perm (upTo ns.length) :=
  perm_of_mem R.nd (upTo_nodup _) fun x => ⟨fun h => mem_upTo.mpr (R.bd x h), fun h => row_mem R (mem_upTo.mp h)⟩
theorem order_all (ns : List Int) : ((List.range ns.length).map fun i : Nat => decide (gt ns (i : Int) = (i : Int))).all id = decide (ns = upTo ns.length) := by
  rw [List.all_map, Bool.eq_iff_iff, List.all_eq_true, decide_eq_true_eq]
  constructor
  · intro h
    refine ext_gt (upTo_length _).symm fun y hy => ?_
    rw [upTo_length] at hy
    have := h y.toNat (List.mem_range.mpr (by omega))
    have := of_decide_eq_true this
    rw [show ((y.toNat : Nat) : Int) = y by omega] at this
    rw [this, gt_upTo hy]
  · intro h i hi
    have hi' := List.mem_range.mp hi
    show decide (gt ns (i : Int) = (i : Int)) = true
    rw [h, decide_eq_true_eq]
    exact gt_upTo (by omega)
/-! ### exchanges -/
def swap (f : List Int) (p : Int × Int) : List Int := st (st f p.1 (gt f p.2)) p.2 (gt f p.1)
def swapOk (n : Nat) (p : Int × Int) : Bool := decide (0 ≤ p.1) && (decide (p.1 < p.2) && decide (p.2 < n))
theorem swap_length (f : List Int) (p : Int × Int) : (swap f p).length = f.length := by unfold swap; rw [st_length, st_length]
theorem swaps_length : ∀ (ps : List (Int × Int)) (f : List Int), (ps.foldl swap f).length = f.length
  | [], f => rfl
  | p :: ps, f => by rw [List.foldl_cons, swaps_length ps, swap_length]
/-- the row behind exchanges; an empty one for what are none -/
def exL (ns : List Int) (ps : List (Int × Int)) : List Int := if ps.all (swapOk ns.length) = true then ps.foldl swap ns else []
/-- what Exchanged's shows says -/
def exShows (ns : List Int) (ps : List (Int × Int)) (rs : List (List Int)) : Bool := ps.all (swapOk ns.length) && (decide (ps.foldl swap ns = upTo ns.length) && (ringed ns rs && decide ((rs.length : Int) + ps.length = ns.length)))
theorem exDue {ns : List Int} {ps : List (Int × Int)} {rs : List (List Int)} : exShows ns ps rs = ((decide (exL ns ps = upTo ns.length) || decide (ns = [])) && (ringed ns rs && decide ((ps.length : Int) + rs.length = ns.length))) := by
  unfold exShows exL
  have e : decide ((rs.length : Int) + ps.length = ns.length) = decide ((ps.length : Int) + rs.length = ns.length) := by
    rw [Int.add_comm]
  rw [e]
  cases hA : ps.all (swapOk ns.length) with
  | true =>
    rw [if_pos rfl, Bool.true_and]
    by_cases hn : ns = []
    · subst hn
      have : ps.foldl swap [] = upTo ([] : List Int).length := List.eq_nil_of_length_eq_zero (by rw [swaps_length]; rfl)
      rw [decide_eq_true this]; rfl
    · rw [decide_eq_false hn, Bool.or_false]
  | false =>
    rw [if_neg Bool.false_ne_true, Bool.false_and]
    by_cases hn : ns = []
    · subst hn
      have hp : ps ≠ [] := by rintro rfl; simp at hA
      have : decide ((ps.length : Int) + rs.length = (([] : List Int).length : Nat)) = false := decide_eq_false (by
        have := List.length_pos_iff.mpr hp
        simp; omega)
      rw [this, Bool.and_false, Bool.and_false]
    · have : ([] : List Int) ≠ upTo ns.length := fun e => hn (List.eq_nil_of_length_eq_zero (by rw [← upTo_length ns.length, ← e]; rfl))
      rw [decide_eq_false this, decide_eq_false hn]; rfl
end Bo

/-! a row done often; the fewest exchanges -/
namespace Bo
open PySem L2
def it (ns : List Int) : Nat → Int → Int
  | 0, x => x
  | m + 1, x => gt ns (it ns m x)
theorem it_add (ns : List Int) : ∀ (a b : Nat) (x : Int), it ns (a + b) x = it ns a (it ns b x)
  | 0, b, x => by rw [Nat.zero_add]; rfl
  | a + 1, b, x => by
    rw [Nat.succ_add]
    show gt ns (it ns (a + b) x) = gt ns (it ns a (it ns b x))
    rw [it_add ns a b x]
theorem it_mod (ns : List Int) {k : Nat} {x : Int} (hk : 0 < k) (e : it ns k x = x) : ∀ m, it ns m x = it ns (m % k) x := by
  intro m
  induction m using Nat.strongRecOn with
  | _ m ih =>
    by_cases c : m < k
    · rw [Nat.mod_eq_of_lt c]
    · have h := ih (m - k) (by omega)
      rw [show m = (m - k) + k by omega, it_add, e, h, Nat.add_mod_right]
theorem ring_it {row r : List Int} (h : okRing row r = true) {a : Nat} (ha : a < r.length) : ∀ m, it row m (r.getD a 0) = r.getD ((a + m) % r.length) 0
  | 0 => by rw [Nat.add_zero, Nat.mod_eq_of_lt ha]; rfl
  | m + 1 => by
    show gt row (it row m _) = _
    have hm : (a + m) % r.length < r.length := Nat.mod_lt _ (by omega)
    rw [ring_it h ha m, (okRing_iff.mp h).2.2 _ hm, ← Nat.add_assoc, ← Nat.mod_add_mod (a + m) r.length 1]
    by_cases c : (a + m) % r.length + 1 < r.length
    · rw [if_pos c, Nat.mod_eq_of_lt c]
    · rw [if_neg c, show (a + m) % r.length + 1 = r.length by omega, Nat.mod_self]
/-- the greatest of its ring -/
def isTop (ns : List Int) (x : Int) : Prop := ∀ m, it ns m x ≤ x
def topOf (l : List Int) : Int := l.foldr max 0
theorem topOf_le : ∀ {l : List Int} {x : Int}, x ∈ l → x ≤ topOf l
  | [], x, h => by simp at h
  | a :: r, x, h => by
    show x ≤ max a (topOf r)
    rcases List.mem_cons.mp h with rfl | h
    · omega
    · have := topOf_le h; omega
theorem topOf_mem : ∀ {l : List Int}, l ≠ [] → (∀ x ∈ l, 0 ≤ x) → topOf l ∈ l
  | [], h, _ => absurd rfl h
  | [a], _, h => by
    show max a 0 ∈ [a]
    have := h a (by simp)
    rw [show max a 0 = a by omega]; simp
  | a :: b :: r, _, h => by
    show max a (topOf (b :: r)) ∈ a :: b :: r
    have ih := topOf_mem (l := b :: r) (by simp) fun x hx => h x (List.mem_cons_of_mem _ hx)
    by_cases c : a ≤ topOf (b :: r)
    · rw [show max a (topOf (b :: r)) = topOf (b :: r) by omega]; exact List.mem_cons_of_mem _ ih
    · rw [show max a (topOf (b :: r)) = a by omega]; simp
theorem tops_nodup : ∀ {rs : List (List Int)}, rs.flatten.Nodup → (∀ r ∈ rs, topOf r ∈ r) → (rs.map topOf).Nodup
  | [], _, _ => List.nodup_nil
  | r :: rs, hn, h => by
    rw [List.flatten_cons, List.nodup_append] at hn
    rw [List.map_cons, List.nodup_cons]
    refine ⟨fun hm => ?_, tops_nodup hn.2.1 fun x hx => h x (List.mem_cons_of_mem _ hx)⟩
    obtain ⟨r', hr', e⟩ := List.mem_map.mp hm
    have h1 := h r (by simp)
    have h2 := h r' (List.mem_cons_of_mem _ hr')
    exact hn.2.2 _ h1 _ (List.mem_flatten.mpr ⟨r', hr', h2⟩) e.symm
theorem tops_mem {ns : List Int} (R : IsRow ns) (x : Int) : x ∈ (ringsOf ns).map topOf ↔ (0 ≤ x ∧ x < ns.length) ∧ isTop ns x := by
  have tm : ∀ r ∈ ringsOf ns, topOf r ∈ r := fun r hr => topOf_mem (okRing_ne (ringsOf_okR R hr)) fun x hx => (okRing_bd (ringsOf_okR R hr) x hx).1
  constructor
  · intro h
    obtain ⟨r, hr, rfl⟩ := List.mem_map.mp h
    have ok := ringsOf_okR R hr
    refine ⟨okRing_bd ok _ (tm r hr), fun m => ?_⟩
    obtain ⟨a, ha, e⟩ := mem_getD (tm r hr)
    have := ring_it ok ha m
    rw [e] at this
    rw [this]
    exact topOf_le (getD_mem (Nat.mod_lt _ (by omega)))
  · rintro ⟨hb, ht⟩
    have hm : x ∈ (ringsOf ns).flatten := ((ringsOf_perm R).mem_iff).mpr (mem_upTo.mpr hb)
    obtain ⟨r, hr, hx⟩ := List.mem_flatten.mp hm
    have ok := ringsOf_okR R hr
    obtain ⟨a, ha, e⟩ := mem_getD hx
    obtain ⟨b, hb2, e2⟩ := mem_getD (tm r hr)
    have := ring_it ok ha (b + r.length - a)
    rw [show a + (b + r.length - a) = b + r.length by omega, Nat.add_mod_right, Nat.mod_eq_of_lt hb2, e, e2] at this
    have h1 := ht (b + r.length - a)
    rw [this] at h1
    have h2 := topOf_le hx
    exact List.mem_map.mpr ⟨r, hr, by omega⟩
theorem tops_count {ns tops : List Int} (R : IsRow ns) (hn : tops.Nodup) (hm : ∀ x, x ∈ tops ↔ (0 ≤ x ∧ x < ns.length) ∧ isTop ns x) : (ringsOf ns).length = tops.length := by
  have fl : (ringsOf ns).flatten.Nodup := (ringsOf_perm R).symm.nodup (upTo_nodup _)
  have tm : ∀ r ∈ ringsOf ns, topOf r ∈ r := fun r hr => topOf_mem (okRing_ne (ringsOf_okR R hr)) fun x hx => (okRing_bd (ringsOf_okR R hr) x hx).1
  have := (perm_of_mem (tops_nodup fl tm) hn fun x => (tops_mem R x).trans (hm x).symm).length_eq
  rw [List.length_map] at this
  exact this
/-- found, places, pairs, after so many turns of exchanged -/
structure XS where
  f : List Int
  pl : List Int
  ps : List (Int × Int)
def exStep (i : Int) (s : XS) : XS := if gt s.f i = i then s else ⟨st s.f (gt s.pl i) (gt s.f i), st s.pl (gt s.f i) (gt s.pl i), s.ps ++ [(i, gt s.pl i)]⟩
def exAux (ns : List Int) : Nat → XS
  | 0 => ⟨ns, placesOf ns, []⟩
  | i + 1 => exStep i (exAux ns i)
def exPairs (ns : List Int) : List (Int × Int) := (exAux ns ns.length).ps
structure XI (ns : List Int) (i : Nat) (s : XS) : Prop where
  fl : s.f.length = ns.length
  pll : s.pl.length = ns.length
  ok : s.ps.all (swapOk ns.length) = true
  dn : ∀ j : Int, 0 ≤ j ∧ j < i → gt (s.ps.foldl swap ns) j = j
  ff : ∀ j : Int, i ≤ j ∧ j < ns.length → gt s.f j = gt (s.ps.foldl swap ns) j
  pp : ∀ x : Int, i ≤ x ∧ x < ns.length → (i ≤ gt s.pl x ∧ gt s.pl x < ns.length) ∧ gt (s.ps.foldl swap ns) (gt s.pl x) = x
  qq : ∀ x : Int, i ≤ x ∧ x < ns.length → (i ≤ gt (s.ps.foldl swap ns) x ∧ gt (s.ps.foldl swap ns) x < ns.length) ∧ gt s.pl (gt (s.ps.foldl swap ns) x) = x
  fr : ∀ x : Int, i ≤ x ∧ x < ns.length → ∃ k, 0 < k ∧ it ns k x = gt (s.ps.foldl swap ns) x ∧ ∀ m, 0 < m → m < k → it ns m x < i
  ct : ∃ tops : List Int, tops.Nodup ∧ (∀ x, x ∈ tops ↔ (0 ≤ x ∧ x < i) ∧ isTop ns x) ∧ s.ps.length + tops.length = i
theorem XI.zero {ns : List Int} (R : IsRow ns) : XI ns 0 ⟨ns, placesOf ns, []⟩ where
  fl := rfl
  pll := placesOf_length ns
  ok := rfl
  dn := fun j h => by omega
  ff := fun j h => rfl
  pp := fun x h => by
    have := gt_placesOf R (y := x) (by omega)
    exact ⟨⟨by simpa using this.1.1, this.1.2⟩, this.2⟩
  qq := fun x h => by
    have := gt_bd R (x := x) (by omega)
    exact ⟨⟨by simpa using this.1, this.2⟩, placesOf_gt R (by omega)⟩
  fr := fun x h => ⟨1, by omega, rfl, fun m h1 h2 => by omega⟩
  ct := ⟨[], List.nodup_nil, fun x => by simp; omega, rfl⟩
theorem XI.step {ns : List Int} {i : Nat} {s : XS} (I : XI ns i s) (hi : i < ns.length) : XI ns (i + 1) (exStep i s) := by
  obtain ⟨f, pl, ps⟩ := s
  obtain ⟨fl, pll, ok, dn, ff, pp, qq, fr, ct⟩ := I
  dsimp only at fl pll ok dn ff pp qq fr ct
  generalize hg : ps.foldl swap ns = g at dn ff pp qq fr
  have gl : g.length = ns.length := by rw [← hg]; exact swaps_length _ _
  have hfi : gt f (i : Int) = gt g (i : Int) := ff i (by omega)
  obtain ⟨tops, tn, tm, tl⟩ := ct
  unfold exStep
  by_cases c : gt f (i : Int) = i
  · rw [if_pos c]
    rw [hfi] at c
    refine ⟨fl, pll, ok, ?_, ?_, ?_, ?_, ?_, ?_⟩ <;> dsimp only <;> (try rw [hg])
    · intro j hj
      by_cases e : j = i
      · rw [e]; exact c
      · exact dn j (by omega)
    · intro j hj; exact ff j (by omega)
    · intro x hx
      obtain ⟨a, b⟩ := pp x (by omega)
      refine ⟨⟨?_, a.2⟩, b⟩
      have : gt pl x ≠ i := fun e => by rw [e, c] at b; omega
      omega
    · intro x hx
      obtain ⟨a, b⟩ := qq x (by omega)
      refine ⟨⟨?_, a.2⟩, b⟩
      have : gt g x ≠ i := fun e => by
        have h1 := (qq i (by omega)).2
        rw [c] at h1
        rw [e, h1] at b; omega
      omega
    · intro x hx
      obtain ⟨k, k0, e, h⟩ := fr x (by omega)
      exact ⟨k, k0, e, fun m h1 h2 => by have := h m h1 h2; omega⟩
    · refine ⟨tops ++ [(i : Int)], ?_, ?_, by simp; omega⟩
      · rw [List.nodup_append]
        refine ⟨tn, by simp, fun a ha b hb e => ?_⟩
        have := ((tm a).mp ha).1
        simp at hb; omega
      · obtain ⟨k, k0, e, h⟩ := fr i (by omega)
        rw [c] at e
        have top : isTop ns i := fun m => by
          rw [it_mod ns k0 e m]
          have := Nat.mod_lt m k0
          by_cases z : m % k = 0
          · rw [z]; exact Int.le_refl _
          · have := h (m % k) (by omega) this; omega
        intro x
        rw [List.mem_append, tm x]
        constructor
        · rintro (⟨a, b⟩ | a)
          · exact ⟨by omega, b⟩
          · have : x = i := by simpa using a
            subst this
            exact ⟨by omega, top⟩
        · rintro ⟨a, b⟩
          by_cases e : x = i
          · right; simp [e]
          · left; exact ⟨by omega, b⟩
  · rw [if_neg c]
    rw [hfi] at c
    obtain ⟨ob, og⟩ := pp i (by omega)
    obtain ⟨tb, tg⟩ := qq i (by omega)
    have on : gt pl (i : Int) ≠ i := fun e => by rw [e] at og; exact c og
    have ne2 : ∀ x : Int, x ≠ i → gt g x = i → i ≤ x ∧ x < ns.length → x = gt pl (i : Int) := fun x _ e hx => by
      have := (qq x hx).2; rw [e] at this; exact this.symm
    rw [hfi]
    generalize ho : gt pl (i : Int) = o at *
    generalize ht : gt g (i : Int) = t at *
    have hg' : (ps ++ [((i : Int), o)]).foldl swap ns = st (st g i i) o t := by
      rw [List.foldl_append, hg]
      show st (st g i (gt g o)) o (gt g i) = _
      rw [og, ht]
    have g' : ∀ y : Int, 0 ≤ y → gt (st (st g i i) o t) y = if y = o then t else if y = i then (i : Int) else gt g y := fun y hy => by
      rw [gt_st (by rw [st_length]; omega) hy, gt_st (by omega) hy]
    have f' : ∀ y : Int, 0 ≤ y → gt (st f o t) y = if y = o then t else gt f y := fun y hy => gt_st (by omega) hy
    have p' : ∀ y : Int, 0 ≤ y → gt (st pl t o) y = if y = t then o else gt pl y := fun y hy => gt_st (by omega) hy
    refine ⟨?_, ?_, ?_, ?_, ?_, ?_, ?_, ?_, ?_⟩ <;> dsimp only <;> (try rw [hg'])
    · rw [st_length]; exact fl
    · rw [st_length]; exact pll
    · rw [List.all_append, ok]
      show (true && (swapOk ns.length ((i : Int), o) && true)) = true
      unfold swapOk
      rw [decide_eq_true (show (0 : Int) ≤ i by omega), decide_eq_true (show (i : Int) < o by omega), decide_eq_true (show o < ns.length by omega)]; rfl
    · intro j hj
      rw [g' j hj.1, if_neg (by omega)]
      by_cases e : j = i
      · rw [if_pos e, e]
      · rw [if_neg e]; exact dn j (by omega)
    · intro j hj
      rw [g' j (by omega), f' j (by omega), if_neg (show j ≠ i by omega)]
      by_cases e : j = o
      · rw [if_pos e, if_pos e]
      · rw [if_neg e, if_neg e]; exact ff j (by omega)
    · intro x hx
      rw [p' x (by omega)]
      by_cases e : x = t
      · rw [if_pos e, g' o (by omega), if_pos rfl]
        exact ⟨⟨by omega, by omega⟩, e.symm⟩
      · rw [if_neg e]
        obtain ⟨a, b⟩ := pp x (by omega)
        have h1 : gt pl x ≠ i := fun z => by rw [z, ht] at b; exact e b.symm
        have h2 : gt pl x ≠ o := fun z => by rw [z, og] at b; omega
        rw [g' _ (by omega), if_neg h2, if_neg h1]
        exact ⟨⟨by omega, a.2⟩, b⟩
    · intro x hx
      rw [g' x (by omega), if_neg (show x ≠ i by omega)]
      by_cases e : x = o
      · rw [if_pos e, p' t (by omega), if_pos rfl]
        exact ⟨⟨by omega, by omega⟩, e.symm⟩
      · rw [if_neg e]
        obtain ⟨a, b⟩ := qq x (by omega)
        have h1 : gt g x ≠ i := fun z => e (ne2 x (by omega) z (by omega))
        have h2 : gt g x ≠ t := fun z => by rw [z, tg] at b; omega
        rw [p' _ (by omega), if_neg h2]
        exact ⟨⟨by omega, a.2⟩, b⟩
    · intro x hx
      rw [g' x (by omega), if_neg (show x ≠ i by omega)]
      by_cases e : x = o
      · rw [if_pos e]
        obtain ⟨k1, k10, e1, h1⟩ := fr x (by omega)
        obtain ⟨k2, k20, e2, h2⟩ := fr i (by omega)
        rw [e, og] at e1
        rw [ht] at e2
        refine ⟨k2 + k1, by omega, by rw [it_add, e, e1, e2], fun m m0 hm => ?_⟩
        by_cases c1 : m < k1
        · have := h1 m m0 c1; omega
        · by_cases c2 : m = k1
          · rw [c2, e, e1]; omega
          · have := h2 (m - k1) (by omega) (by omega)
            rw [show m = (m - k1) + k1 by omega, it_add, e, e1]; omega
      · rw [if_neg e]
        obtain ⟨k, k0, e, h⟩ := fr x (by omega)
        exact ⟨k, k0, e, fun m h1 h2 => by have := h m h1 h2; omega⟩
    · refine ⟨tops, tn, fun x => ?_, by simp; omega⟩
      rw [tm x]
      constructor
      · rintro ⟨a, b⟩; exact ⟨by omega, b⟩
      · rintro ⟨a, b⟩
        refine ⟨?_, b⟩
        have : x ≠ i := fun e => by
          subst e
          obtain ⟨k, k0, e, h⟩ := fr i (by omega)
          have := b k
          rw [e, ht] at this; omega
        omega
theorem XI.all {ns : List Int} (R : IsRow ns) : ∀ i, i ≤ ns.length → XI ns i (exAux ns i)
  | 0, _ => XI.zero R
  | i + 1, h => (XI.all R i (by omega)).step (by omega)
theorem exPairs_len {ns : List Int} (R : IsRow ns) : (ringsOf ns).length + (exPairs ns).length = ns.length := by
  obtain ⟨tops, tn, tm, tl⟩ := (XI.all R _ (Nat.le_refl _)).ct
  rw [tops_count R tn tm]
  unfold exPairs; omega
theorem exPairs_shows {ns : List Int} (R : IsRow ns) : exShows ns (exPairs ns) (ringsOf ns) = true := by
  have I := XI.all R _ (Nat.le_refl _)
  have e : (exPairs ns).foldl swap ns = upTo ns.length := ext_gt (by rw [swaps_length, upTo_length]) fun y hy => by
    rw [upTo_length] at hy
    rw [gt_upTo hy]; exact I.dn y hy
  have l := exPairs_len R
  unfold exShows
  rw [show (exPairs ns).all (swapOk ns.length) = true from I.ok, decide_eq_true e, ringsOf_ringed R, decide_eq_true (by omega)]
  rfl
theorem isAll_len {l : List Int} {n : Nat} (h : isAll l n = true) : l.length = n := by
  unfold isAll at h
  have := (of_decide_eq_true h).length_eq
  rwa [upTo_length] at this
theorem ringed_len {row : List Int} {told : List (List Int)} (h : told.flatten.length ≠ row.length) : ringed row told = false := by
  unfold ringed
  rw [show isAll told.flatten row.length = false from Bool.eq_false_iff.mpr fun z => h (isAll_len z), Bool.and_false]
theorem exShows_len {row : List Int} {ps : List (Int × Int)} {told : List (List Int)} (h : told.flatten.length ≠ row.length) : exShows row ps told = false := by
  unfold exShows
  rw [ringed_len h, Bool.false_and, Bool.and_false, Bool.and_false]
end Bo

/-! answers as objects -/
namespace Bo
open PySem PySem.Spec PyProof.Rows L2
theorem okRing_split (ns r : List Int) : okRing ns r = (isRing r (ns.length : Nat) && (List.range r.length).all fun k => decide (gt ns (gt r ((k : Int) - 1)) = gt r (k : Int))) := by
  unfold okRing isRing
  have e : (fun x : Int => decide (0 ≤ x) && decide (x < (ns.length : Int))) = fun x => isNum (.int x) 0 ((ns.length : Int) - 1) := by
    funext x
    rw [isNum_int, show decide (x ≤ (ns.length : Int) - 1) = decide (x < (ns.length : Int)) from decide_eq_decide.mpr (by omega)]
  rw [e]
theorem isRing_bd {r : List Int} {n : Nat} (h : isRing r (n : Nat) = true) : ∀ x ∈ r, 0 ≤ x ∧ x < (n : Int) := fun x hx => by
  unfold isRing at h
  rw [Bool.and_eq_true, List.all_eq_true] at h
  have := h.2 x hx
  rw [isNum_int, Bool.and_eq_true, decide_eq_true_eq, decide_eq_true_eq] at this
  omega
theorem exAux_skip {ns : List Int} {i : Nat} (h : gt (exAux ns i).f (i : Int) = i) : exAux ns (i + 1) = exAux ns i := if_pos h
theorem exAux_go {ns : List Int} {i : Nat} (h : ¬ gt (exAux ns i).f (i : Int) = i) : exAux ns (i + 1) = ⟨st (exAux ns i).f (gt (exAux ns i).pl i) (gt (exAux ns i).f i), st (exAux ns i).pl (gt (exAux ns i).f i) (gt (exAux ns i).pl i), (exAux ns i).ps ++ [((i : Int), gt (exAux ns i).pl i)]⟩ := if_neg h
theorem News.nlst {H1 H2 : Hp} {ts : List Addr} {ps : List (Int × Int)} (n : News H1 H2 oP ts ps) {p : Addr} {xs : List V} (h : H2 p = some (.lst xs)) : p ∉ ts := fun hm => by
  obtain ⟨x, _, _, e⟩ := n.mem hm
  rw [h] at e; cases e
theorem Tf.nlst {H : Hp} {ts : List Addr} {ps : List (Int × Int)} (n : Tf H ts ps) {p : Addr} {xs : List V} (h : H p = some (.lst xs)) : p ∉ ts := fun hm => by
  obtain ⟨i, hi, e⟩ := List.getElem_of_mem hm
  have hj : i < ps.length := by rw [← n.1]; exact hi
  have := n.2 i p ps[i] (by rw [List.getElem?_eq_getElem hi, e]) (List.getElem?_eq_getElem hj)
  rw [h] at this; cases this
theorem Tf.mut {H : Hp} {ts : List Addr} {ps : List (Int × Int)} (n : Tf H ts ps) {p : Addr} {xs : List V} {o : HO} (h : H p = some (.lst xs)) : Tf (upd H p o) ts ps := ⟨n.1, fun i t q a b => by
  have ne : t ≠ p := fun e => n.nlst h (by rw [← e]; exact List.mem_of_getElem? a)
  rw [upd_ne ne]; exact n.2 i t q a b⟩
theorem Lf.mut {H : Hp} {bs : List Addr} {rs : List (List Int)} (n : Lf H bs rs) {p : Addr} {o : HO} (h : p ∉ bs) : Lf (upd H p o) bs rs := ⟨n.1, fun i t q a b => by
  have ne : t ≠ p := fun e => h (by rw [← e]; exact List.mem_of_getElem? a)
  rw [upd_ne ne]; exact n.2 i t q a b⟩
theorem Lf.snoc {H : Hp} {bs : List Addr} {rs : List (List Int)} (n : Lf H bs rs) {p : Addr} {r : List Int} (h : H p = some (oL r)) : Lf H (bs ++ [p]) (rs ++ [r]) := ⟨by rw [List.length_append, List.length_append, n.1]; rfl, fun i t q a b => by
  by_cases c : i < bs.length
  · rw [List.getElem?_append_left c] at a
    rw [List.getElem?_append_left (by rw [← n.1]; exact c)] at b
    exact n.2 i t q a b
  · rw [List.getElem?_append_right (by omega)] at a
    rw [List.getElem?_append_right (by rw [← n.1]; omega)] at b
    have e : i - bs.length = 0 := by
      cases z : i - bs.length with
      | zero => rfl
      | succ m => rw [z] at a; simp at a
    rw [e] at a
    rw [← n.1, e] at b
    have a' : p = t := by simpa using a
    have b' : r = q := by simpa using b
    rw [← a', ← b']; exact h⟩
theorem Lf.put {H : Hp} {bs : List Addr} {rs : List (List Int)} (n : Lf H bs rs) (nd : bs.Nodup) {k : Nat} {p : Addr} {r' : List Int} (hk : bs[k]? = some p) : Lf (upd H p (oL r')) bs (rs.set k r') := ⟨by rw [List.length_set]; exact n.1, fun i t q a b => by
  have hkl : k < rs.length := by rw [← n.1]; exact (List.getElem?_eq_some_iff.mp hk).1
  by_cases c : i = k
  · subst c
    rw [List.getElem?_set_self hkl] at b
    rw [hk] at a
    have a' : p = t := Option.some.inj a
    have b' : r' = q := Option.some.inj b
    rw [← a', ← b']; exact upd_same
  · rw [List.getElem?_set_ne (Ne.symm c)] at b
    have ne : t ≠ p := fun e => by
      subst e
      exact c (nd_ix nd a hk)
    rw [upd_ne ne]; exact n.2 i t q a b⟩
theorem flat_put : ∀ {rs : List (List Int)} {k : Nat} {r : List Int}, rs[k]? = some r → (rs.set k (r ++ [0])).flatten.length = rs.flatten.length + 1
  | [], k, r, h => by simp at h
  | x :: rs, 0, r, h => by
    have : x = r := Option.some.inj h
    subst this
    simp; omega
  | x :: rs, k + 1, r, h => by
    have := flat_put (rs := rs) (k := k) (r := r) h
    rw [List.set_cons_succ, List.flatten_cons, List.flatten_cons, List.length_append, List.length_append, this]; omega
theorem ne_kind {H : Hp} {x y : Addr} {o o' : HO} (h : H x = some o) (h' : H y = some o') (n : o ≠ o') : x ≠ y := fun e => by
  subst e; rw [h] at h'; exact n (Option.some.inj h')
theorem m_popS {α : Type} {H : Hp} {Q : VK} {l : Addr} {f : α → V} {xs : List α} {y : α} (h : H l = some (.lst ((xs ++ [y]).map f))) (q : Q (f y) (upd H l (.lst (xs.map f)))) : rPop (.ref l) [] H Q :=
  ⟨l, (xs ++ [y]).map f, f y, rfl, rfl, h, by simp, by rw [List.map_append]; show Q (f y) (upd H l (.lst ((xs.map f ++ [f y]).dropLast))); rw [List.dropLast_concat]; exact q⟩
theorem o_notB {H : Hp} {Q : VK} {a b : Bool} (q : Q (.bl (!decide (a = b))) H) : rNotB (.bl a) (.bl b) H Q := ⟨a, b, rfl, rfl, q⟩
theorem c_isiO {K : PySem.W.Frag} {H : Hp} {Q : VK} {x : V} {C D : Addr} {b : Bool} (ty : TyX K H x (.ref C)) (e : PySem.W.kitOne K (.ref C) (.ref D) = some b) (q : Q (.bl b) H) : rIsi K [x, .ref D] H Q := ⟨x, .ref D, _, _, b, rfl, .own D, ty, e, q⟩
/-! ### what an Exchanged holds -/
def exF (pp pr : Addr) : List (Str × V) := putF "rings" (.ref pr) (putF "pairs" (.ref pp) [])
theorem exF_pairs (pp pr : Addr) : (exF pp pr).lookup ("pairs" : Str) = some (V.ref pp) := by unfold exF; rw [lookup_putF, if_neg (by decide), lookup_putF, if_pos rfl]
theorem exF_rings (pp pr : Addr) : (exF pp pr).lookup ("rings" : Str) = some (V.ref pr) := by unfold exF; rw [lookup_putF, if_pos rfl]
theorem exF_none {m : Str} (pp pr : Addr) (h1 : m ≠ ("rings" : Str)) (h2 : m ≠ ("pairs" : Str)) : (exF pp pr).lookup m = none := by unfold exF; rw [lookup_putF, if_neg h1, lookup_putF, if_neg h2]; rfl
structure ExA (C : Addr) (H : Hp) (x pp pr : Addr) (ts bs : List Addr) (ps : List (Int × Int)) (rs : List (List Int)) : Prop where
  ob : ∃ dx, H x = some (.ins C dx (exF pp pr))
  hp : H pp = some (.lst (ts.map V.ref))
  hr : H pr = some (.lst (bs.map V.ref))
  tf : Tf H ts ps
  lf : Lf H bs rs
theorem ExA.same {C : Addr} {H H' : Hp} {x pp pr : Addr} {ts bs : List Addr} {ps : List (Int × Int)} {rs : List (List Int)} (h : ExA C H x pp pr ts bs ps rs) (s : Same H H') : ExA C H' x pp pr ts bs ps rs where
  ob := by obtain ⟨dx, e⟩ := h.ob; exact ⟨dx, s _ _ e⟩
  hp := s _ _ h.hp
  hr := s _ _ h.hr
  tf := h.tf.same s
  lf := h.lf.same s
section
variable {C : Addr} {H : Hp} {x pp pr : Addr} {ts bs : List Addr} {ps : List (Int × Int)} {rs : List (List Int)}
theorem ExA.setR (O : ExA C H x pp pr ts bs ps rs) (npe : pp ≠ pr) {bs' : List Addr} {rs' : List (List Int)} (L : Lf H bs' rs') (nm : pr ∉ bs') : ExA C (upd H pr (.lst (bs'.map V.ref))) x pp pr ts bs' ps rs' where
  ob := by obtain ⟨dx, e⟩ := O.ob; exact ⟨dx, lift_ne e (ne_kind e O.hr (fun z => by cases z))⟩
  hp := lift_ne O.hp npe
  hr := upd_same
  tf := O.tf.mut O.hr
  lf := L.mut nm
theorem ExA.setB (O : ExA C H x pp pr ts bs ps rs) (m1 : pp ∉ bs) (m2 : pr ∉ bs) (nd : bs.Nodup) {k : Nat} {p : Addr} {r r' : List Int} (hk : bs[k]? = some p) (hr : H p = some (oL r)) : ExA C (upd H p (oL r')) x pp pr ts bs ps (rs.set k r') where
  ob := by obtain ⟨dx, e⟩ := O.ob; exact ⟨dx, lift_ne e (ne_kind e hr (fun z => by cases z))⟩
  hp := lift_ne O.hp (fun e => m1 (by rw [e]; exact List.mem_of_getElem? hk))
  hr := lift_ne O.hr (fun e => m2 (by rw [e]; exact List.mem_of_getElem? hk))
  tf := O.tf.mut hr
  lf := O.lf.put nd hk
end
end Bo

namespace Bo
open PySem PySem.Spec PyProof.Rows L2
section
variable {K : PySem.W.Frag} {σ : L2.St} {H : Hp} {Q : VK} {te : TE} {j : Nat} {vs : List Nat}
/-- elements that are new objects, over a range -/
theorem k_lcR2N {lo n : Int} (obj : Int → HO) (z : 0 ≤ lo ∧ lo ≤ 1000000 ∧ -1 ≤ n ∧ n < 1000000) (hw : ∀ v : V, wipe ((wipe σ vs).set j (some v)) vs = wipe σ vs)
    (hs : ∀ (i : Nat) (H2 : Hp) (R : VK), lo + (i : Int) < n → Same H H2 → (∀ p H3, H2 p = none → Same H2 H3 → H3 p = some (obj (lo + i)) → R (.ref p) H3) → te ((wipe σ vs).set j (some (.int (lo + (i : Nat))))) H2 R)
    (hd : ∀ D as H2, H D = none → Same H H2 → News H H2 obj as ((List.range (n - lo).toNat).map fun i : Nat => lo + i) → D ∉ as → H2 D = some (.lst (as.map V.ref)) → Q (.ref D) H2) : KCR2 (gName j) tYes te vs σ Q [.int lo, .int n] H := by
  refine ⟨lo, n, rfl, by omega, fun D nD => ?_⟩
  refine lc_range (lo := lo) (n := (n - lo).toNat) (fun i H2 => Same H H2 ∧ ∃ as, News H H2 obj as ((List.range i).map fun i : Nat => lo + i) ∧ D ∉ as ∧ H2 D = some (.lst (as.map V.ref))) ⟨Same.one nD, [], News.nil, by simp, upd_same⟩ (fun i H2 hi p => ⟨hw _, ?_⟩) (fun H2 ⟨p1, as, n1, p2, p3⟩ => hd D as H2 nD p1 n1 p2 p3)
  obtain ⟨p1, as, n1, p2, p3⟩ := p
  have la := n1.len
  rw [List.length_map, List.length_range] at la
  refine tYes_ok (iteT ?_)
  refine hs i H2 _ (by omega) p1 fun p H4 np s4 hp => ?_
  have e : D ≠ p := neo np p3
  refine ⟨_, s4 _ _ p3, ?_, Same.new (p1.trans s4) nD, as ++ [p], ?_, nm_snoc p2 e, by rw [upd_same, List.map_append]; rfl⟩
  · rw [List.length_map, la]
    exact Nat.lt_of_lt_of_le (show i < 1000002 by omega) (by decide)
  · rw [List.range_succ, List.map_append]
    exact ((n1.same s4).snoc (n1.notin np) (p1.free np) hp).mut (nm_snoc p2 e)
theorem k_lcR1N {n : Int} (obj : Int → HO) (z : 0 ≤ n ∧ n < 1000000) (hw : ∀ v : V, wipe ((wipe σ vs).set j (some v)) vs = wipe σ vs)
    (hs : ∀ (i : Nat) (H2 : Hp) (R : VK), (i : Int) < n → Same H H2 → (∀ p H3, H2 p = none → Same H2 H3 → H3 p = some (obj (i : Int)) → R (.ref p) H3) → te ((wipe σ vs).set j (some (.int (i : Nat)))) H2 R)
    (hd : ∀ D as H2, H D = none → Same H H2 → News H H2 obj as ((List.range n.toNat).map Int.ofNat) → D ∉ as → H2 D = some (.lst (as.map V.ref)) → Q (.ref D) H2) : KCR1 (gName j) tYes te vs σ Q [.int n] H := by
  refine ⟨n, rfl, by omega, by omega, fun D nD => ?_⟩
  refine lc_range (lo := 0) (n := n.toNat) (fun i H2 => Same H H2 ∧ ∃ as, News H H2 obj as ((List.range i).map Int.ofNat) ∧ D ∉ as ∧ H2 D = some (.lst (as.map V.ref))) ⟨Same.one nD, [], News.nil, by simp, upd_same⟩ (fun i H2 hi p => ⟨hw _, ?_⟩) (fun H2 ⟨p1, as, n1, p2, p3⟩ => hd D as H2 nD p1 n1 p2 p3)
  obtain ⟨p1, as, n1, p2, p3⟩ := p
  have la := n1.len
  rw [List.length_map, List.length_range] at la
  have e0 : (0 : Int) + (i : Int) = (i : Int) := Int.zero_add _
  rw [e0]
  refine tYes_ok (iteT ?_)
  refine hs i H2 _ (by omega) p1 fun p H4 np s4 hp => ?_
  have e : D ≠ p := neo np p3
  refine ⟨_, s4 _ _ p3, ?_, Same.new (p1.trans s4) nD, as ++ [p], ?_, nm_snoc p2 e, by rw [upd_same, List.map_append]; rfl⟩
  · rw [List.length_map, la]
    exact Nat.lt_of_lt_of_le (show i < 1000002 by omega) (by decide)
  · rw [List.range_succ, List.map_append]
    exact ((n1.same s4).snoc (n1.notin np) (p1.free np) hp).mut (nm_snoc p2 e)
/-- a pair taken apart -/
theorem k_tup2 {K : PySem.W.Frag} {j1 j2 : Nat} {p : Addr} {u v : V} {R : L2.St → Hp → Prop} (h : SqT K H p [u, v]) (q : R ((σ.set j1 (some u)).set j2 (some v)) H) : gTup K 2 (gCons (gName j1) (gCons (gName j2) gNil)) (.ref p) σ H R :=
  ⟨p, _, rfl, h, rfl, _, _, rfl, _, _, rfl, rfl, q⟩
theorem o_ninT {K : PySem.W.Frag} {l : Addr} {ns : List Int} {i : Int} (h : SqT K H l (ns.map V.int)) (q : Q (.bl (!decide (i ∈ ns))) H) : rIn K true (.int i) (.ref l) H Q := ⟨l, _, rfl, .inr h, rfl, all_flat ns, by
  show Q (.bl (!inV (.int i) (ns.map V.int))) H
  rw [inV_ints]; exact q⟩
end
theorem News.map {α β : Type} {H1 H2 : Hp} {obj : β → HO} {g : α → β} {as : List Addr} {xs : List α} (n : News H1 H2 (fun x => obj (g x)) as xs) : News H1 H2 obj as (xs.map g) := ⟨by rw [List.length_map]; exact n.1, n.2.1, fun i p x hp hx => by
  rw [List.getElem?_map] at hx
  cases e : xs[i]? with
  | none => rw [e] at hx; cases hx
  | some y =>
    rw [e] at hx
    have : g y = x := Option.some.inj hx
    subst this
    exact n.2.2 i p y hp e⟩
theorem Tf.app {H : Hp} {as bs : List Addr} {xs ys : List (Int × Int)} (h : Tf H as xs) (h' : Tf H bs ys) : Tf H (as ++ bs) (xs ++ ys) := ⟨by rw [List.length_append, List.length_append, h.1, h'.1], fun i t p a b => by
  by_cases c : i < as.length
  · rw [List.getElem?_append_left c] at a
    rw [List.getElem?_append_left (by rw [← h.1]; exact c)] at b
    exact h.2 i t p a b
  · rw [List.getElem?_append_right (by omega)] at a
    rw [List.getElem?_append_right (by rw [← h.1]; omega), ← h.1] at b
    exact h'.2 _ t p a b⟩
end Bo

/-! to the front, to the ends -/
namespace Bo
open PySem PySem.Spec PyProof.Rows L2
def mv (f : List Int) (x : Int) : List Int := x :: f.erase x
def mb (f : List Int) (x : Int) : List Int := f.erase x ++ [x]
theorem mv_perm {f : List Int} {x : Int} (h : x ∈ f) : (mv f x).Perm f := (List.perm_cons_erase h).symm
theorem mb_perm {f : List Int} {x : Int} (h : x ∈ f) : (mb f x).Perm f := List.perm_append_comm.trans (List.perm_cons_erase h).symm
theorem mvs_perm : ∀ {ts f : List Int}, (∀ x ∈ ts, x ∈ f) → (ts.foldl mv f).Perm f
  | [], f, _ => .refl _
  | x :: ts, f, h => by
    have h1 := mv_perm (h x (by simp))
    exact (mvs_perm fun y hy => h1.mem_iff.mpr (h y (List.mem_cons_of_mem _ hy))).trans h1
theorem mvs_is : ∀ {L f : List Int}, L.Nodup → f.Nodup → (∀ x ∈ L, x ∈ f) → L.foldl mv f = L.reverse ++ f.filter fun y => decide (y ∉ L)
  | [], f, _, _, _ => (List.filter_eq_self.mpr fun _ _ => decide_eq_true (List.not_mem_nil)).symm
  | x :: L, f, hL, hf, h => by
    obtain ⟨nx, nL⟩ := List.nodup_cons.mp hL
    have h1 := mv_perm (h x (by simp))
    rw [List.foldl_cons, mvs_is nL (h1.symm.nodup hf) fun y hy => h1.mem_iff.mpr (h y (List.mem_cons_of_mem _ hy)), List.reverse_cons, List.append_assoc]
    congr 1
    unfold mv
    rw [List.filter_cons, if_pos (by simpa using nx), hf.erase_eq_filter, List.filter_filter, List.singleton_append]
    congr 1
    apply List.filter_congr
    intro y _
    by_cases c : y = x
    · simp [c]
    · simp [c]
theorem mbs_is : ∀ {L f : List Int}, L.Nodup → f.Nodup → (∀ x ∈ L, x ∈ f) → L.foldl mb f = (f.filter fun y => decide (y ∉ L)) ++ L
  | [], f, _, _, _ => by rw [List.append_nil]; exact (List.filter_eq_self.mpr fun _ _ => decide_eq_true (List.not_mem_nil)).symm
  | x :: L, f, hL, hf, h => by
    obtain ⟨nx, nL⟩ := List.nodup_cons.mp hL
    have h1 := mb_perm (h x (by simp))
    rw [List.foldl_cons, mbs_is nL (h1.symm.nodup hf) fun y hy => h1.mem_iff.mpr (h y (List.mem_cons_of_mem _ hy))]
    unfold mb
    rw [List.filter_append, List.filter_cons, if_pos (by simpa using nx), List.filter_nil, List.append_assoc, List.singleton_append, hf.erase_eq_filter, List.filter_filter]
    congr 1
    apply List.filter_congr
    intro y _
    by_cases c : y = x
    · simp [c]
    · simp [c]
/-! ### places -/
theorem idx_places {ns : List Int} (R : IsRow ns) {x : Int} (h : 0 ≤ x ∧ x < ns.length) : (ns.idxOf x : Int) = gt (placesOf ns) x := by
  obtain ⟨j, h1, _, _, h4⟩ := find_first (row_mem R h)
  obtain ⟨b, e⟩ := gt_placesOf R h
  have h2 := gt_some (ns := ns) (i := (gt (placesOf ns) x).toNat) (by omega)
  rw [show (((gt (placesOf ns) x).toNat : Nat) : Int) = gt (placesOf ns) x by omega, e] at h2
  have := nd_ix R.nd h1 h2
  omega
theorem places_inj {ns : List Int} (R : IsRow ns) {x y : Int} (hx : 0 ≤ x ∧ x < ns.length) (hy : 0 ≤ y ∧ y < ns.length) (e : gt (placesOf ns) x = gt (placesOf ns) y) : x = y := by
  have h1 := (gt_placesOf R hx).2
  have h2 := (gt_placesOf R hy).2
  rw [e] at h1; omega
/-- things from a below b stand one behind the other -/
def Inc (ns : List Int) (a b : Int) : Prop := ∀ x : Int, a ≤ x ∧ x + 1 < b → gt (placesOf ns) x < gt (placesOf ns) (x + 1)
theorem inc_lt {ns : List Int} {a b : Int} (h : Inc ns a b) : ∀ (d : Nat) (x : Int), a ≤ x → x + d + 1 < b → gt (placesOf ns) x < gt (placesOf ns) (x + d + 1)
  | 0, x, h1, h2 => by
    have := h x ⟨h1, by omega⟩
    rwa [show x + ((0 : Nat) : Int) + 1 = x + 1 by omega]
  | d + 1, x, h1, h2 => by
    have a1 := inc_lt h d x h1 (by omega)
    have a2 := h (x + d + 1) ⟨by omega, by omega⟩
    rw [show x + ((d + 1 : Nat) : Int) + 1 = x + d + 1 + 1 by omega]
    omega
theorem inc_all {ns : List Int} {a b x y : Int} (h : Inc ns a b) (h1 : a ≤ x) (h2 : x < y) (h3 : y < b) : gt (placesOf ns) x < gt (placesOf ns) y := by
  have := inc_lt h (y - x - 1).toNat x h1 (by omega)
  rwa [show x + ((y - x - 1).toNat : Int) + 1 = y by omega] at this
theorem row_sorted {ns : List Int} (R : IsRow ns) {a b : Int} (h0 : 0 ≤ a) (hb : b ≤ ns.length) (h : Inc ns a b) : (ns.filter fun x => decide (a ≤ x) && decide (x < b)).Pairwise (· ≤ ·) := by
  rw [List.pairwise_filter, List.pairwise_iff_getElem]
  intro i j hi hj hij pa pb
  rw [Bool.and_eq_true, decide_eq_true_eq, decide_eq_true_eq] at pa pb
  by_cases c : ns[i] ≤ ns[j]
  · exact c
  · exfalso
    have hl := inc_all h pb.1 (show ns[j] < ns[i] by omega) pa.2
    have e1 : gt ns (i : Int) = ns[i] := gt_get (List.getElem?_eq_getElem hi)
    have e2 : gt ns (j : Int) = ns[j] := gt_get (List.getElem?_eq_getElem hj)
    have p1 := placesOf_gt R (x := (i : Int)) (by omega)
    have p2 := placesOf_gt R (x := (j : Int)) (by omega)
    rw [e1] at p1; rw [e2] at p2
    rw [p1, p2] at hl; omega
theorem rest_is {ns : List Int} (R : IsRow ns) {a b : Int} (h0 : 0 ≤ a) (hab : a ≤ b) (hb : b ≤ ns.length) (h : Inc ns a b) : (ns.filter fun x => decide (a ≤ x) && decide (x < b)) = (List.range (b - a).toNat).map fun i : Nat => a + i := by
  refine sorted_unique (perm_of_mem (R.nd.filter _) ?_ fun x => ?_) (row_sorted R h0 hb h) ?_
  · exact List.pairwise_map.mpr (List.nodup_range.imp fun e z => e (by omega))
  · rw [List.mem_filter, Bool.and_eq_true, decide_eq_true_eq, decide_eq_true_eq, List.mem_map]
    constructor
    · rintro ⟨h1, h2, h3⟩
      exact ⟨(x - a).toNat, List.mem_range.mpr (by omega), by omega⟩
    · rintro ⟨i, hi, rfl⟩
      have := List.mem_range.mp hi
      exact ⟨row_mem R (by omega), by omega, by omega⟩
  · exact List.pairwise_map.mpr (List.pairwise_lt_range.imp fun e => by omega)
theorem upTo_split {a b : Nat} : upTo a ++ ((List.range b).map fun i : Nat => (a : Int) + i) = upTo (a + b) := by
  unfold upTo
  rw [List.range_add, List.map_append, List.map_map]
  congr 1
/-! ### to the front -/
def frTail (row : List Int) (m : Int) : Bool := decide (m = 0) || (decide (m < row.length) && decide ((row.idxOf (m - 1) : Int) > (row.idxOf m : Int)))
def frShows (row things : List Int) : Bool := (things.all fun x => decide (x ∈ row)) && (decide (things.foldl mv row = upTo row.length) && (decide ((nodup_len things : Int) = (things.length : Nat)) && frTail row things.length))
/-- the row behind; an empty one where a thing isn't there -/
def frL (row things : List Int) : List Int := if (things.all fun x => decide (x ∈ row)) = true then things.foldl mv row else []
theorem frDue (row things : List Int) : frShows row things = (decide (frL row things = upTo row.length) && (decide ((nodup_len things : Int) = (things.length : Nat)) && frTail row things.length)) := by
  unfold frShows frL
  cases hA : things.all fun x => decide (x ∈ row) with
  | true => rw [if_pos rfl, Bool.true_and]
  | false =>
    rw [if_neg Bool.false_ne_true, Bool.false_and]
    by_cases hn : row = []
    · subst hn
      have hp : things ≠ [] := by rintro rfl; simp at hA
      have := List.length_pos_iff.mpr hp
      have : frTail [] (things.length : Nat) = false := by
        unfold frTail
        rw [decide_eq_false (by omega), decide_eq_false (by simp), Bool.false_and]; rfl
      rw [this, Bool.and_false, Bool.and_false]
    · have : ([] : List Int) ≠ upTo row.length := fun e => hn (List.eq_nil_of_length_eq_zero (by rw [← upTo_length row.length, ← e]; rfl))
      rw [decide_eq_false this]; rfl
structure FrIs (ns : List Int) (k : Nat) : Prop where
  le : k ≤ ns.length
  inc : Inc ns k ns.length
  stop : k = 0 ∨ (k < ns.length ∧ gt (placesOf ns) k < gt (placesOf ns) ((k : Int) - 1))
theorem frFold {ns : List Int} (R : IsRow ns) {k : Nat} (hk : k ≤ ns.length) : (upTo k).reverse.foldl mv ns = upTo k ++ ns.filter fun x => decide ((k : Int) ≤ x) && decide (x < ns.length) := by
  rw [mvs_is ((List.reverse_perm _).symm.nodup (upTo_nodup k)) R.nd fun x hx => row_mem R (by have := mem_upTo.mp (List.mem_reverse.mp hx); omega), List.reverse_reverse]
  congr 1
  apply List.filter_congr
  intro y hy
  have := R.bd y hy
  have e : y ∈ (upTo k).reverse ↔ 0 ≤ y ∧ y < k := List.mem_reverse.trans mem_upTo
  rw [Bool.eq_iff_iff, Bool.and_eq_true, decide_eq_true_eq, decide_eq_true_eq, decide_eq_true_eq, e]
  omega
theorem FrIs.shows {ns : List Int} (R : IsRow ns) {k : Nat} (I : FrIs ns k) : frShows ns (upTo k).reverse = true := by
  have hk := I.le
  have l : (upTo k).reverse.length = k := by rw [List.length_reverse, upTo_length]
  have a1 : ((upTo k).reverse.all fun x => decide (x ∈ ns)) = true := List.all_eq_true.mpr fun x hx => decide_eq_true (row_mem R (by have := mem_upTo.mp (List.mem_reverse.mp hx); omega))
  have a2 : (upTo k).reverse.foldl mv ns = upTo ns.length := by
    rw [frFold R hk, rest_is R (by omega) (by omega) (Int.le_refl _) I.inc, upTo_split]
    congr 1; omega
  have a3 : nodup_len (upTo k).reverse = (upTo k).reverse.length := (nodup_len_eq _).mpr ((List.reverse_perm _).symm.nodup (upTo_nodup k))
  have a4 : frTail ns (k : Nat) = true := by
    unfold frTail
    rcases I.stop with h | ⟨h1, h2⟩
    · subst h; rfl
    · by_cases c : k = 0
      · subst c; rfl
      · rw [idx_places R (x := (k : Int) - 1) (by omega), idx_places R (x := (k : Int)) (by omega), decide_eq_true (show gt (placesOf ns) ((k : Int) - 1) > gt (placesOf ns) (k : Int) from h2), decide_eq_true (show (k : Int) < ns.length by omega), Bool.and_self, Bool.or_true]
  unfold frShows
  rw [a1, decide_eq_true a2, a3, l, a4, decide_eq_true rfl]; rfl
/-! ### to the ends -/
def em (f : List Int) (p : Int × Int) : List Int := if p.2 = 1 then f.erase p.1 ++ [p.1] else p.1 :: f.erase p.1
def emOk (row : List Int) (p : Int × Int) : Bool := decide (p.1 ∈ row) && decide (p.2 ∈ ([0, 1] : List Int))
theorem em_perm {f : List Int} {p : Int × Int} (h : p.1 ∈ f) : (em f p).Perm f := by
  unfold em
  split
  · exact mb_perm h
  · exact mv_perm h
theorem ems_perm : ∀ {ps : List (Int × Int)} {f : List Int}, (∀ p ∈ ps, p.1 ∈ f) → (ps.foldl em f).Perm f
  | [], f, _ => .refl _
  | x :: ts, f, h => by
    have h1 := em_perm (h x (by simp))
    exact (ems_perm fun y hy => h1.mem_iff.mpr (h y (List.mem_cons_of_mem _ hy))).trans h1
theorem em_fronts (L : List Int) (f : List Int) : (L.map fun x => (x, (0 : Int))).foldl em f = L.foldl mv f := by
  rw [List.foldl_map]; rfl
theorem em_backs (L : List Int) (f : List Int) : (L.map fun x => (x, (1 : Int))).foldl em f = L.foldl mb f := by
  rw [List.foldl_map]; rfl
structure LR where
  b0 : Int
  b1 : Int
  fi : Int
def lrFi (ns : List Int) (i : Nat) (fi : Int) : Int := if 0 < (i : Int) ∧ gt (placesOf ns) i < gt (placesOf ns) ((i : Int) - 1) then i else fi
def lrStep (ns : List Int) (i : Nat) (s : LR) : LR := if (i : Int) + 1 - lrFi ns i s.fi > s.b1 then ⟨lrFi ns i s.fi, (i : Int) + 1 - lrFi ns i s.fi, lrFi ns i s.fi⟩ else ⟨s.b0, s.b1, lrFi ns i s.fi⟩
def lr (ns : List Int) : Nat → LR
  | 0 => ⟨0, 0, 0⟩
  | i + 1 => lrStep ns i (lr ns i)
def runOf (ns : List Int) : LR := lr ns ns.length
structure LI (ns : List Int) (i : Nat) (s : LR) : Prop where
  b : 0 ≤ s.b0 ∧ 0 ≤ s.b1 ∧ s.b0 + s.b1 ≤ i
  f : 0 ≤ s.fi ∧ s.fi ≤ i ∧ (i = 0 → s.fi = 0) ∧ (0 < i → s.fi < i)
  best : Inc ns s.b0 (s.b0 + s.b1)
  here : Inc ns s.fi i
theorem LI.step {ns : List Int} (R : IsRow ns) {i : Nat} {s : LR} (I : LI ns i s) (hi : i < ns.length) : LI ns (i + 1) (lrStep ns i s) := by
  obtain ⟨b0, b1, fi⟩ := s
  obtain ⟨b, f, best, here⟩ := I
  dsimp only at b f best here
  have hf : (0 ≤ lrFi ns i fi ∧ lrFi ns i fi ≤ i) ∧ Inc ns (lrFi ns i fi) ((i + 1 : Nat) : Int) := by
    unfold lrFi
    by_cases c : 0 < (i : Int) ∧ gt (placesOf ns) i < gt (placesOf ns) ((i : Int) - 1)
    · rw [if_pos c]
      exact ⟨by omega, fun x hx => by omega⟩
    · rw [if_neg c]
      refine ⟨by omega, fun x hx => ?_⟩
      by_cases e : x + 1 < i
      · exact here x ⟨hx.1, e⟩
      · have ex : x = (i : Int) - 1 := by omega
        subst ex
        have h1 : gt (placesOf ns) ((i : Int) - 1) ≠ gt (placesOf ns) i := fun z => by
          have := places_inj R (by omega) (by omega) z; omega
        rw [show (i : Int) - 1 + 1 = i by omega]
        omega
  generalize hl : lrFi ns i fi = l at hf
  unfold lrStep
  dsimp only
  rw [hl]
  obtain ⟨⟨l0, l1⟩, l2⟩ := hf
  split
  · exact ⟨by dsimp only; omega, by dsimp only; omega, by dsimp only; rw [show l + ((i : Int) + 1 - l) = ((i + 1 : Nat) : Int) by omega]; exact l2, l2⟩
  · exact ⟨by dsimp only; omega, by dsimp only; omega, best, l2⟩
theorem LI.all {ns : List Int} (R : IsRow ns) : ∀ i, i ≤ ns.length → LI ns i (lr ns i)
  | 0, _ => ⟨by dsimp [lr]; omega, by dsimp [lr]; omega, fun x hx => by dsimp [lr] at hx; omega, fun x hx => by dsimp [lr] at hx; omega⟩
  | i + 1, h => (LI.all R i (by omega)).step R (by omega)
def enShows (row : List Int) (moves : List (Int × Int)) : Bool := moves.all (emOk row) && (decide (moves.foldl em row = upTo row.length) && decide ((moves.length : Int) + (runOf row).b1 = row.length))
def enL (row : List Int) (moves : List (Int × Int)) : List Int := if moves.all (emOk row) = true then moves.foldl em row else []
theorem enDue (row : List Int) (moves : List (Int × Int)) : enShows row moves = (decide (enL row moves = upTo row.length) && decide ((moves.length : Int) = row.length - (runOf row).b1)) := by
  unfold enShows enL
  have e : decide ((moves.length : Int) + (runOf row).b1 = row.length) = decide ((moves.length : Int) = row.length - (runOf row).b1) := decide_eq_decide.mpr (by omega)
  rw [e]
  cases hA : moves.all (emOk row) with
  | true => rw [if_pos rfl, Bool.true_and]
  | false =>
    rw [if_neg Bool.false_ne_true, Bool.false_and]
    by_cases hn : row = []
    · subst hn
      have hp : moves ≠ [] := by rintro rfl; simp at hA
      have := List.length_pos_iff.mpr hp
      rw [decide_eq_false (show ¬ (moves.length : Int) = ([] : List Int).length - (runOf []).b1 by show ¬ (moves.length : Int) = 0 - 0; omega), Bool.and_false]
    · have : ([] : List Int) ≠ upTo row.length := fun e => hn (List.eq_nil_of_length_eq_zero (by rw [← upTo_length row.length, ← e]; rfl))
      rw [decide_eq_false this]; rfl
/-- the moves of ended -/
def enMoves (ns : List Int) : List (Int × Int) := ((upTo (runOf ns).b0.toNat).map fun x => (x, (0 : Int))).reverse ++ ((List.range ((ns.length : Int) - ((runOf ns).b0 + (runOf ns).b1)).toNat).map fun i : Nat => (runOf ns).b0 + (runOf ns).b1 + (i : Int)).map fun x => (x, (1 : Int))
theorem enMoves_len {ns : List Int} (R : IsRow ns) : ((enMoves ns).length : Int) + (runOf ns).b1 = ns.length := by
  have I := (LI.all R _ (Nat.le_refl _)).b
  change 0 ≤ (runOf ns).b0 ∧ 0 ≤ (runOf ns).b1 ∧ (runOf ns).b0 + (runOf ns).b1 ≤ ns.length at I
  unfold enMoves
  rw [List.length_append, List.length_reverse, List.length_map, upTo_length, List.length_map, List.length_map, List.length_range]
  omega
theorem enMoves_shows {ns : List Int} (R : IsRow ns) : enShows ns (enMoves ns) = true := by
  have hl := enMoves_len R
  have I := LI.all R _ (Nat.le_refl _)
  have I1 : 0 ≤ (runOf ns).b0 ∧ 0 ≤ (runOf ns).b1 ∧ (runOf ns).b0 + (runOf ns).b1 ≤ ns.length := I.b
  have I2 : Inc ns (runOf ns).b0 ((runOf ns).b0 + (runOf ns).b1) := I.best
  have hall : (enMoves ns).all (emOk ns) = true := by
    unfold enMoves
    generalize (runOf ns).b0 = a at *
    generalize (runOf ns).b1 = b at *
    rw [List.all_append, Bool.and_eq_true, List.all_eq_true, List.all_eq_true]
    constructor
    · intro p hp
      obtain ⟨x, hx, rfl⟩ := List.mem_map.mp (List.mem_reverse.mp hp)
      have := mem_upTo.mp hx
      unfold emOk
      rw [decide_eq_true (row_mem R (y := x) (by omega)), decide_eq_true (by simp)]; rfl
    · intro p hp
      obtain ⟨x, hx, rfl⟩ := List.mem_map.mp hp
      obtain ⟨i, hi, rfl⟩ := List.mem_map.mp hx
      have := List.mem_range.mp hi
      unfold emOk
      rw [decide_eq_true (row_mem R (y := a + b + (i : Int)) (by omega)), decide_eq_true (by simp)]; rfl
  have hf : (enMoves ns).foldl em ns = upTo ns.length := by
    unfold enMoves
    generalize (runOf ns).b0 = a at *
    generalize (runOf ns).b1 = b at *
    obtain ⟨k, rfl⟩ : ∃ k : Nat, a = (k : Int) := ⟨a.toNat, by omega⟩
    have hk : k ≤ ns.length := by omega
    rw [List.foldl_append, ← List.map_reverse, em_fronts, em_backs, Int.toNat_natCast, frFold R hk]
    generalize hLL : ((List.range ((ns.length : Int) - ((k : Int) + b)).toNat).map fun i : Nat => (k : Int) + b + (i : Int)) = LL
    have mL : ∀ x, x ∈ LL ↔ (k : Int) + b ≤ x ∧ x < ns.length := fun x => by
      rw [← hLL, List.mem_map]
      constructor
      · rintro ⟨i, hi, rfl⟩
        have := List.mem_range.mp hi; omega
      · intro h
        exact ⟨(x - (k + b)).toNat, List.mem_range.mpr (by omega), by omega⟩
    have nL : LL.Nodup := by
      rw [← hLL]
      exact List.pairwise_map.mpr (List.nodup_range.imp fun e z => e (by omega))
    have pf : (upTo k ++ ns.filter fun x => decide ((k : Int) ≤ x) && decide (x < ns.length)).Perm ns := by
      rw [← frFold R hk]
      exact mvs_perm fun x hx => row_mem R (by have := mem_upTo.mp (List.mem_reverse.mp hx); omega)
    rw [mbs_is nL (pf.symm.nodup R.nd) fun x hx => pf.mem_iff.mpr (row_mem R (by have := (mL x).mp hx; omega)), List.filter_append, List.filter_filter]
    have e1 : (upTo k).filter (fun y => decide (y ∉ LL)) = upTo k := List.filter_eq_self.mpr fun x hx => decide_eq_true (fun z => by
      have := mem_upTo.mp hx
      have := (mL x).mp z
      omega)
    have e2 : (ns.filter fun x => decide (x ∉ LL) && (decide ((k : Int) ≤ x) && decide (x < ns.length))) = ns.filter fun x => decide ((k : Int) ≤ x) && decide (x < (k : Int) + b) := by
      apply List.filter_congr
      intro y hy
      have := R.bd y hy
      rw [Bool.eq_iff_iff, Bool.and_eq_true, Bool.and_eq_true, Bool.and_eq_true, decide_eq_true_eq, decide_eq_true_eq, decide_eq_true_eq, decide_eq_true_eq, mL]
      omega
    rw [e1, e2, rest_is R (by omega) (by omega) (by omega) I2, ← hLL]
    obtain ⟨b', rfl⟩ : ∃ k : Nat, b = (k : Int) := ⟨b.toNat, by omega⟩
    rw [show ((k : Int) + b' - k).toNat = b' by omega, upTo_split]
    have := upTo_split (a := k + b') (b := ((ns.length : Int) - ((k : Int) + b')).toNat)
    rw [show (((k + b' : Nat)) : Int) = (k : Int) + b' by omega] at this
    rw [this]
    congr 1; omega
  unfold enShows
  rw [hall, decide_eq_true hf, decide_eq_true hl]; rfl
theorem enShows_len {row : List Int} {moves : List (Int × Int)} (h : (moves.length : Int) + (runOf row).b1 ≠ row.length) : enShows row moves = false := by
  unfold enShows
  rw [decide_eq_false h, Bool.and_false, Bool.and_false]
end Bo

/-! Fronted, Ended as objects -/
namespace Bo
open PySem PySem.Spec PyProof.Rows L2
def oneF (n : Str) (p : Addr) : List (Str × V) := putF n (.ref p) []
theorem oneF_at (n : Str) (p : Addr) : (oneF n p).lookup n = some (V.ref p) := by unfold oneF; rw [lookup_putF, if_pos rfl]
theorem oneF_none {m n : Str} (p : Addr) (h : m ≠ n) : (oneF n p).lookup m = none := by unfold oneF; rw [lookup_putF, if_neg h]; rfl
structure FrA (C : Addr) (H : Hp) (x pt : Addr) (things : List Int) : Prop where
  ob : ∃ dx, H x = some (.ins C dx (oneF "things" pt))
  ht : H pt = some (.lst (things.map V.int))
theorem FrA.same {C : Addr} {H H' : Hp} {x pt : Addr} {things : List Int} (h : FrA C H x pt things) (s : Same H H') : FrA C H' x pt things where
  ob := by obtain ⟨dx, e⟩ := h.ob; exact ⟨dx, s _ _ e⟩
  ht := s _ _ h.ht
theorem FrA.put {C : Addr} {H : Hp} {x pt : Addr} {things : List Int} (h : FrA C H x pt things) (t' : List Int) : FrA C (upd H pt (.lst (t'.map V.int))) x pt t' where
  ob := by obtain ⟨dx, e⟩ := h.ob; exact ⟨dx, lift_ne e (ne_kind e h.ht (fun z => by cases z))⟩
  ht := upd_same
structure EnA (C : Addr) (H : Hp) (x pm : Addr) (ts : List Addr) (ps : List (Int × Int)) : Prop where
  ob : ∃ dx, H x = some (.ins C dx (oneF "moves" pm))
  hm : H pm = some (.lst (ts.map V.ref))
  tf : Tf H ts ps
theorem EnA.same {C : Addr} {H H' : Hp} {x pm : Addr} {ts : List Addr} {ps : List (Int × Int)} (h : EnA C H x pm ts ps) (s : Same H H') : EnA C H' x pm ts ps where
  ob := by obtain ⟨dx, e⟩ := h.ob; exact ⟨dx, s _ _ e⟩
  hm := s _ _ h.hm
  tf := h.tf.same s
theorem Tf.one {H : Hp} {t : Addr} {p : Int × Int} (h : H t = some (oP p)) : Tf H [t] [p] := ⟨rfl, fun i t' p' a b => by
  cases i with
  | zero =>
    have e1 : t = t' := by simpa using a
    have e2 : p = p' := by simpa using b
    rw [← e1, ← e2]; exact h
  | succ i => simp at a⟩
theorem EnA.put {C : Addr} {H : Hp} {x pm : Addr} {ts : List Addr} {ps : List (Int × Int)} (h : EnA C H x pm ts ps) {ts' : List Addr} {ps' : List (Int × Int)} (T : Tf H ts' ps') : EnA C (upd H pm (.lst (ts'.map V.ref))) x pm ts' ps' where
  ob := by obtain ⟨dx, e⟩ := h.ob; exact ⟨dx, lift_ne e (ne_kind e h.hm (fun z => by cases z))⟩
  hm := upd_same
  tf := T.mut h.hm
theorem cut_erase {f : List Int} {x : Int} (h : x ∈ f) : f.take (f.idxOf x) ++ f.drop (f.idxOf x + 1) = f.erase x := by
  obtain ⟨j, _, _, h3, h4⟩ := find_first h
  rw [h4, ← h3, List.eraseIdx_eq_take_drop_succ]
theorem fold_mem {row : List Int} {ts : List Int} (h : (ts.all fun x => decide (x ∈ row)) = true) : (ts.foldl mv row).Perm row := mvs_perm fun x hx => of_decide_eq_true (List.all_eq_true.mp h x hx)
theorem em_mem {row : List Int} {ps : List (Int × Int)} (h : ps.all (emOk row) = true) : (ps.foldl em row).Perm row := ems_perm fun p hp => by
  have := List.all_eq_true.mp h p hp
  unfold emOk at this
  rw [Bool.and_eq_true] at this
  exact of_decide_eq_true this.1
def KPar3 (k l m : Nat) (D : Ends) (σ : L2.St) (vs : List V) (H : Hp) : Prop := ∃ u v w, vs = [u, v, w] ∧ D.nx (((σ.set k (some u)).set l (some v)).set m (some w)) H
theorem r_par3 {k l m : Nat} {ta : TA} {D : Ends} {σ : L2.St} {H : Hp} (h : ta σ H fun vs H1 => KPar3 k l m D σ vs H1) : tPar3 k l m ta D σ H := h
theorem k_par3 {k l m : Nat} {D : Ends} {σ : L2.St} {H : Hp} {x y z : V} (h : D.nx (((σ.set k (some x)).set l (some y)).set m (some z)) H) : KPar3 k l m D σ [x, y, z] H := ⟨x, y, z, rfl, h⟩
theorem IsRow.rev {ns : List Int} (R : IsRow ns) : IsRow ns.reverse := ⟨by rw [List.length_reverse]; exact R.len, fun x hx => by rw [List.length_reverse]; exact R.bd x (List.mem_reverse.mp hx), (List.reverse_perm ns).symm.nodup R.nd⟩
theorem IsRow.more {ns : List Int} (R : IsRow ns) (h : ns.length < 1000) : IsRow (ns ++ [(ns.length : Int)]) := by
  refine ⟨by simp; omega, fun x hx => ?_, ?_⟩
  · rw [List.length_append]
    rcases List.mem_append.mp hx with hx | hx
    · have := R.bd x hx; simp; omega
    · have : x = ns.length := by simpa using hx
      subst this; simp; omega
  · refine List.nodup_append.mpr ⟨R.nd, by simp, fun x hx y hy e => ?_⟩
    have h1 := R.bd x hx
    have h2 : y = ns.length := by simpa using hy
    omega
theorem ins_0 (f : List Int) (x : Int) : ins f 0 x = x :: f := by unfold ins; simp
theorem ins_len (f : List Int) (x : Int) : ins f (f.length : Nat) x = f ++ [x] := by unfold ins; rw [Int.toNat_natCast]; simp
end Bo

/-! put in elsewhere -/
namespace Bo
open PySem PySem.Spec PyProof.Rows L2
/-- a thing out of the row and in at a place -/
def pm (f : List Int) (p : Int × Int) : List Int := ins (f.erase p.1) p.2 p.1
def pmOk (row : List Int) (p : Int × Int) : Bool := decide (p.1 ∈ row) && (decide (0 ≤ p.2) && decide (p.2 < row.length))
theorem ins_perm (f : List Int) (i x : Int) : (ins f i x).Perm (x :: f) := by
  unfold ins
  rw [List.append_assoc]
  show (f.take i.toNat ++ (x :: f.drop i.toNat)).Perm _
  refine List.perm_middle.trans (List.Perm.cons x ?_)
  rw [List.take_append_drop]
theorem pm_perm {f : List Int} {p : Int × Int} (h : p.1 ∈ f) : (pm f p).Perm f := (ins_perm _ _ _).trans (List.perm_cons_erase h).symm
theorem pms_perm : ∀ {ps : List (Int × Int)} {f : List Int}, (∀ p ∈ ps, p.1 ∈ f) → (ps.foldl pm f).Perm f
  | [], f, _ => .refl _
  | x :: ts, f, h => by
    have h1 := pm_perm (h x (by simp))
    exact (pms_perm fun y hy => h1.mem_iff.mpr (h y (List.mem_cons_of_mem _ hy))).trans h1
theorem pm_mem {row : List Int} {ps : List (Int × Int)} (h : ps.all (pmOk row) = true) : (ps.foldl pm row).Perm row := pms_perm fun p hp => by
  have := List.all_eq_true.mp h p hp
  unfold pmOk at this
  rw [Bool.and_eq_true] at this
  exact of_decide_eq_true this.1
/-- a falling part: its things in their turn, each less than the one ahead -/
def fallOk (ns fall : List Int) : Bool := (fall.all fun x => decide (0 ≤ x) && decide (x < ns.length)) && (List.range (fall.length - 1)).all fun k => decide (gt fall ((k : Int) + 1) < gt fall (k : Int)) && decide (gt (placesOf ns) (gt fall (k : Int)) < gt (placesOf ns) (gt fall ((k : Int) + 1)))
def fallen (ns : List Int) (falls : List (List Int)) : Bool := falls.all (fallOk ns) && isAll falls.flatten ns.length
def putShows (ns : List Int) (ps : List (Int × Int)) (falls : List (List Int)) : Bool := ps.all (pmOk ns) && (decide (ps.foldl pm ns = upTo ns.length) && (fallen ns falls && decide ((falls.length : Int) + ps.length = ns.length)))
def putL (ns : List Int) (ps : List (Int × Int)) : List Int := if ps.all (pmOk ns) = true then ps.foldl pm ns else []
theorem putDue (ns : List Int) (ps : List (Int × Int)) (falls : List (List Int)) : putShows ns ps falls = (decide (putL ns ps = upTo ns.length) && (fallen ns falls && decide ((ps.length : Int) + falls.length = ns.length))) := by
  unfold putShows putL
  have e : decide ((falls.length : Int) + ps.length = ns.length) = decide ((ps.length : Int) + falls.length = ns.length) := by rw [Int.add_comm]
  rw [e]
  cases hA : ps.all (pmOk ns) with
  | true => rw [if_pos rfl, Bool.true_and]
  | false =>
    rw [if_neg Bool.false_ne_true, Bool.false_and]
    by_cases hn : ns = []
    · subst hn
      have hp : ps ≠ [] := by rintro rfl; simp at hA
      have := List.length_pos_iff.mpr hp
      rw [decide_eq_false (show ¬ (ps.length : Int) + falls.length = (([] : List Int).length : Nat) by simp; omega), Bool.and_false, Bool.and_false]
    · have : ([] : List Int) ≠ upTo ns.length := fun e => hn (List.eq_nil_of_length_eq_zero (by rw [← upTo_length ns.length, ← e]; rfl))
      rw [decide_eq_false this]; rfl
theorem putShows_fall {ns : List Int} {ps : List (Int × Int)} {falls : List (List Int)} (h : fallen ns falls = false) : putShows ns ps falls = false := by
  unfold putShows
  rw [h, Bool.false_and, Bool.and_false, Bool.and_false]
theorem fallen_len {row : List Int} {told : List (List Int)} (h : told.flatten.length ≠ row.length) : fallen row told = false := by
  unfold fallen
  rw [show isAll told.flatten row.length = false from Bool.eq_false_iff.mpr fun z => h (isAll_len z), Bool.and_false]
/-- falls, as a word of order -/
def Falls (ns : List Int) (l : List Int) : Prop := l.Pairwise fun a b => b < a ∧ gt (placesOf ns) a < gt (placesOf ns) b
theorem Falls.ok {ns l : List Int} (h : Falls ns l) (hb : ∀ x ∈ l, 0 ≤ x ∧ x < ns.length) : fallOk ns l = true := by
  unfold fallOk
  rw [Bool.and_eq_true, List.all_eq_true, List.all_eq_true]
  refine ⟨fun x hx => by rw [decide_eq_true (hb x hx).1, decide_eq_true (hb x hx).2]; rfl, fun k hk => ?_⟩
  have hk' := List.mem_range.mp hk
  have := List.pairwise_iff_getElem.mp h k (k + 1) (by omega) (by omega) (by omega)
  have e1 : gt l (k : Int) = l[k]'(by omega) := gt_get (List.getElem?_eq_getElem (by omega))
  have e2 : gt l ((k : Int) + 1) = l[k + 1]'(by omega) := by
    rw [show (k : Int) + 1 = ((k + 1 : Nat) : Int) by omega]
    exact gt_get (List.getElem?_eq_getElem (by omega))
  rw [e1, e2, decide_eq_true this.1, decide_eq_true this.2]; rfl
/-! ### the moves of put -/
structure PuS where
  f : List Int
  ms : List (Int × Int)
def puAt (f : List Int) (i : Nat) : Int := if 0 < (i : Int) then (((f.erase (i : Int)).idxOf ((i : Int) - 1) : Nat) : Int) + 1 else 0
def puStep (kept : List Int) (i : Nat) (s : PuS) : PuS := if (i : Int) ∈ kept then s else ⟨ins (s.f.erase (i : Int)) (puAt s.f i) (i : Int), s.ms ++ [((i : Int), puAt s.f i)]⟩
def puAux (ns kept : List Int) : Nat → PuS
  | 0 => ⟨ns, []⟩
  | i + 1 => puStep kept i (puAux ns kept i)
def puMoves (ns kept : List Int) : List (Int × Int) := (puAux ns kept ns.length).ms
/-- things that rise in their turn -/
structure Kept (ns kept : List Int) : Prop where
  bd : ∀ x ∈ kept, 0 ≤ x ∧ x < ns.length
  up : kept.Pairwise fun a b => b < a ∧ gt (placesOf ns) b < gt (placesOf ns) a
structure PuI (ns kept : List Int) (i : Nat) (s : PuS) : Prop where
  ok : s.ms.all (pmOk ns) = true
  is : s.ms.foldl pm ns = s.f
  perm : s.f.Perm ns
  up : s.f.Pairwise fun (a b : Int) => (a < (i : Int) ∨ a ∈ kept) → (b < (i : Int) ∨ b ∈ kept) → a < b
  ct : ∃ ks : List Int, ks.Nodup ∧ (∀ x, x ∈ ks ↔ x < i ∧ x ∈ kept) ∧ s.ms.length + ks.length = i
theorem kept_lt {ns kept : List Int} (K : Kept ns kept) {a b : Int} (ha : a ∈ kept) (hb : b ∈ kept) (h : gt (placesOf ns) a < gt (placesOf ns) b) : a < b := by
  obtain ⟨i, hi, rfl⟩ := List.getElem_of_mem ha
  obtain ⟨j, hj, rfl⟩ := List.getElem_of_mem hb
  have := List.pairwise_iff_getElem.mp K.up
  rcases Nat.lt_trichotomy i j with c | c | c
  · have := this i j hi hj c; omega
  · subst c; omega
  · exact (this j i hj hi c).1
theorem PuI.zero {ns kept : List Int} (R : IsRow ns) (K : Kept ns kept) : PuI ns kept 0 ⟨ns, []⟩ where
  ok := rfl
  is := rfl
  perm := .refl _
  up := by
    rw [List.pairwise_iff_getElem]
    intro i j hi hj hij ha hb
    have a0 := (R.bd _ (List.getElem_mem hi)).1
    have b0 := (R.bd _ (List.getElem_mem hj)).1
    have ha' : ns[i] ∈ kept := by rcases ha with h | h; omega; exact h
    have hb' : ns[j] ∈ kept := by rcases hb with h | h; omega; exact h
    refine kept_lt K ha' hb' ?_
    change i < ns.length at hi
    change j < ns.length at hj
    have e1 : gt ns (i : Int) = ns[i] := gt_get (List.getElem?_eq_getElem hi)
    have e2 : gt ns (j : Int) = ns[j] := gt_get (List.getElem?_eq_getElem hj)
    show gt (placesOf ns) ns[i] < gt (placesOf ns) ns[j]
    rw [← e1, ← e2, placesOf_gt R (x := (i : Int)) (by omega), placesOf_gt R (x := (j : Int)) (by omega)]
    omega
  ct := ⟨[], List.nodup_nil, fun x => by
    simp only [List.not_mem_nil, false_iff]
    rintro ⟨h1, h2⟩
    have := K.bd x h2; omega, rfl⟩
theorem PuI.step {ns kept : List Int} (R : IsRow ns) (K : Kept ns kept) {i : Nat} {s : PuS} (I : PuI ns kept i s) (hi : i < ns.length) : PuI ns kept (i + 1) (puStep kept i s) := by
  obtain ⟨f, ms⟩ := s
  obtain ⟨ok, is, perm, up, ks, kn, km, kl⟩ := I
  dsimp only at ok is perm up kl
  have fn : f.Nodup := perm.symm.nodup R.nd
  have hif : (i : Int) ∈ f := perm.mem_iff.mpr (row_mem R (by omega))
  have fl := perm.length_eq
  unfold puStep
  by_cases c : (i : Int) ∈ kept
  · rw [if_pos c]
    have wk : ∀ a : Int, (a < ((i + 1 : Nat) : Int) ∨ a ∈ kept) → (a < (i : Int) ∨ a ∈ kept) := fun a ha => by
      rcases ha with ha | ha
      · by_cases e : a = (i : Int)
        · right; rw [e]; exact c
        · left; omega
      · exact .inr ha
    refine ⟨ok, is, perm, up.imp fun h ha hb => h (wk _ ha) (wk _ hb), ks ++ [(i : Int)], ?_, fun x => ?_, by simp; omega⟩
    · refine List.nodup_append.mpr ⟨kn, by simp, fun a ha b hb e => ?_⟩
      have := ((km a).mp ha).1
      have : b = i := by simpa using hb
      omega
    · rw [List.mem_append, km x]
      constructor
      · rintro (⟨a, b⟩ | a)
        · exact ⟨by omega, b⟩
        · have : x = i := by simpa using a
          subst this; exact ⟨by omega, c⟩
      · rintro ⟨a, b⟩
        by_cases e : x = i
        · right; simp [e]
        · left; exact ⟨by omega, b⟩
  · rw [if_neg c]
    have el := List.length_erase_of_mem hif
    have fe : (f.erase (i : Int)).Nodup := fn.erase _
    have ni : (i : Int) ∉ f.erase (i : Int) := fun z => ((List.Nodup.mem_erase_iff fn).mp z).1 rfl
    have upe : (f.erase (i : Int)).Pairwise fun (a b : Int) => (a < (i : Int) ∨ a ∈ kept) → (b < (i : Int) ∨ b ∈ kept) → a < b := up.sublist List.erase_sublist
    -- the place
    have hp : (0 ≤ puAt f i ∧ puAt f i < ns.length) ∧ (∀ a ∈ (f.erase (i : Int)).take (puAt f i).toNat, (a < i ∨ a ∈ kept) → a < i) ∧ (∀ b ∈ (f.erase (i : Int)).drop (puAt f i).toNat, (b < i ∨ b ∈ kept) → (i : Int) < b) := by
      unfold puAt
      by_cases c0 : 0 < (i : Int)
      · rw [if_pos c0]
        have hm : (i : Int) - 1 ∈ f.erase (i : Int) := (List.Nodup.mem_erase_iff fn).mpr ⟨by omega, perm.mem_iff.mpr (row_mem R (by omega))⟩
        obtain ⟨q, h1, _, _, h4⟩ := find_first hm
        rw [h4]
        have hq := (List.getElem?_eq_some_iff.mp h1).1
        have eq : (f.erase (i : Int))[q] = (i : Int) - 1 := (List.getElem?_eq_some_iff.mp h1).2
        rw [List.pairwise_iff_getElem] at upe
        rw [show ((q : Int) + 1).toNat = q + 1 by omega]
        refine ⟨by omega, fun a ha => ?_, fun b hb => ?_⟩
        · obtain ⟨k, hk, rfl⟩ := List.getElem_of_mem ha
          rw [List.getElem_take]
          have hk' : k < q + 1 := by rw [List.length_take] at hk; omega
          intro ta
          by_cases e : k = q
          · subst e; rw [eq]; omega
          · have := upe k q (by omega) hq (by omega) ta (.inl (by rw [eq]; omega))
            rw [eq] at this; omega
        · obtain ⟨k, hk, rfl⟩ := List.getElem_of_mem hb
          rw [List.getElem_drop]
          rw [List.length_drop] at hk
          intro tb
          have hlt : q + 1 + k < (f.erase (i : Int)).length := by omega
          have := upe q (q + 1 + k) hq hlt (by omega) (.inl (by rw [eq]; omega)) tb
          rw [eq] at this
          have h2 : (f.erase (i : Int))[q + 1 + k] ≠ i := fun z => ni (by have := List.getElem_mem hlt; rw [z] at this; exact this)
          omega
      · rw [if_neg c0]
        refine ⟨by omega, fun a ha => by simp at ha, fun b hb _ => ?_⟩
        have hb' : b ∈ f.erase (i : Int) := by simpa using hb
        have h1 : b ≠ i := fun z => ni (by rw [z] at hb'; exact hb')
        have := R.bd b (perm.mem_iff.mp (List.mem_of_mem_erase hb'))
        omega
    generalize puAt f i = p at hp
    obtain ⟨pb, hA, hB⟩ := hp
    refine ⟨?_, ?_, ?_, ?_, ks, kn, fun x => ?_, by simp; omega⟩
    · rw [List.all_append, ok]
      show (true && (pmOk ns ((i : Int), p) && true)) = true
      unfold pmOk
      rw [decide_eq_true (row_mem R (y := (i : Int)) (by omega)), decide_eq_true pb.1, decide_eq_true pb.2]; rfl
    · rw [List.foldl_append, is]; rfl
    · exact (pm_perm (p := ((i : Int), p)) hif).trans perm
    · show (ins (f.erase (i : Int)) p i).Pairwise _
      unfold ins
      have sp : ∀ {a : Int}, a ∈ f.erase (i : Int) → (a < ((i + 1 : Nat) : Int) ∨ a ∈ kept) → (a < i ∨ a ∈ kept) := fun {a} ha h => by
        rcases h with h | h
        · left
          have : a ≠ i := fun z => ni (by rw [z] at ha; exact ha)
          omega
        · exact .inr h
      have upe2 : (f.erase (i : Int)).Pairwise fun (a b : Int) => (a < ((i + 1 : Nat) : Int) ∨ a ∈ kept) → (b < ((i + 1 : Nat) : Int) ∨ b ∈ kept) → a < b := by
        rw [List.pairwise_iff_getElem] at upe ⊢
        exact fun x y hx hy hxy ha hb => upe x y hx hy hxy (sp (List.getElem_mem hx) ha) (sp (List.getElem_mem hy) hb)
      have spl : (f.erase (i : Int)).take p.toNat ++ (f.erase (i : Int)).drop p.toNat = f.erase (i : Int) := List.take_append_drop ..
      rw [← spl, List.pairwise_append] at upe2
      obtain ⟨u1, u2, u3⟩ := upe2
      rw [List.append_assoc, List.pairwise_append]
      refine ⟨u1, ?_, ?_⟩
      · rw [List.singleton_append, List.pairwise_cons]
        exact ⟨fun b hb _ tb => hB b hb (sp (List.mem_of_mem_drop hb) tb), u2⟩
      · intro a ha b hb ta tb
        have h1 := hA a ha (sp (List.mem_of_mem_take ha) ta)
        rcases List.mem_append.mp hb with hb | hb
        · have : b = i := by simpa using hb
          omega
        · exact u3 a ha b hb ta tb
    · rw [km x]
      constructor
      · rintro ⟨a, b⟩; exact ⟨by omega, b⟩
      · rintro ⟨a, b⟩
        refine ⟨?_, b⟩
        have : x ≠ i := fun z => c (by rw [← z]; exact b)
        omega
theorem PuI.all {ns kept : List Int} (R : IsRow ns) (K : Kept ns kept) : ∀ i, i ≤ ns.length → PuI ns kept i (puAux ns kept i)
  | 0, _ => PuI.zero R K
  | i + 1, h => (PuI.all R K i (by omega)).step R K (by omega)
theorem Kept.nodup {ns kept : List Int} (K : Kept ns kept) : kept.Nodup := K.up.imp fun h e => by omega
theorem puMoves_len {ns kept : List Int} (R : IsRow ns) (K : Kept ns kept) : (puMoves ns kept).length + kept.length = ns.length := by
  obtain ⟨ks, kn, km, kl⟩ := (PuI.all R K _ (Nat.le_refl _)).ct
  have : ks.Perm kept := perm_of_mem kn K.nodup fun x => (km x).trans ⟨fun h => h.2, fun h => ⟨(K.bd x h).2, h⟩⟩
  rw [← this.length_eq]; exact kl
theorem puMoves_shows {ns kept : List Int} (R : IsRow ns) (K : Kept ns kept) {falls : List (List Int)} (hf : fallen ns falls = true) (hl : falls.length = kept.length) : putShows ns (puMoves ns kept) falls = true := by
  have I := PuI.all R K _ (Nat.le_refl _)
  have l := puMoves_len R K
  have e : (puMoves ns kept).foldl pm ns = upTo ns.length := by
    refine I.is.trans (sorted_unique (I.perm.trans (row_perm R)) ?_ (upTo_sorted _))
    have hb : ∀ x ∈ (puAux ns kept ns.length).f, x < ns.length := fun x hx => (R.bd x (I.perm.mem_iff.mp hx)).2
    have := I.up
    rw [List.pairwise_iff_getElem] at this ⊢
    exact fun i j hi hj hij => Int.le_of_lt (this i j hi hj hij (.inl (hb _ (List.getElem_mem hi))) (.inl (hb _ (List.getElem_mem hj))))
  unfold putShows
  rw [show (puMoves ns kept).all (pmOk ns) = true from I.ok, decide_eq_true e, hf, decide_eq_true (by omega)]
  rfl
/-! ### piles -/
def lastI (l : List Int) : Int := gt l (-1)
theorem lastI_snoc (l : List Int) (x : Int) : lastI (l ++ [x]) = x := by
  unfold lastI gt
  rw [if_neg (by omega), List.length_append, show ((-1 : Int) + ((l.length + [x].length : Nat) : Int)).toNat = l.length by simp; omega]
  exact getD_last
theorem lastI_mem {l : List Int} (h : l ≠ []) : lastI l ∈ l := gt_mem (by have := List.length_pos_iff.mpr h; omega) (by omega)
def topAt (piles : List (List Int)) (j : Nat) : Int := lastI (piles.getD j [])
/-- where a thing belongs -/
structure At (piles : List (List Int)) (x : Int) (at_ : Nat) : Prop where
  le : at_ ≤ piles.length
  lo : ∀ j, j < at_ → topAt piles j ≤ x
  hi : ∀ j, at_ ≤ j → j < piles.length → x < topAt piles j
def putIn (piles : List (List Int)) (at_ : Nat) (x : Int) : List (List Int) := if at_ = piles.length then piles ++ [[x]] else piles.set at_ (piles.getD at_ [] ++ [x])
/-- the thing behind which it stands in the pile ahead; -1 for the first -/
def aheadOf (piles : List (List Int)) (at_ : Nat) : Int := if at_ = 0 then -1 else topAt piles (at_ - 1)
structure PI (ns : List Int) (i : Nat) (piles : List (List Int)) (ah : Int → Option Int) : Prop where
  perm : piles.flatten.Perm (ns.take i)
  ne : ∀ p ∈ piles, p ≠ []
  fall : ∀ p ∈ piles, Falls ns p
  tops : ∀ j k, j < k → k < piles.length → topAt piles j < topAt piles k
  chain : ∀ j p, piles[j]? = some p → ∀ y ∈ p, ∃ z, ah y = some z ∧ (j = 0 → z = -1) ∧ (0 < j → ∃ p', piles[j - 1]? = some p' ∧ z ∈ p' ∧ z < y ∧ gt (placesOf ns) z < gt (placesOf ns) y)
theorem PI.zero (ns : List Int) : PI ns 0 [] fun _ => none := ⟨.refl _, by simp, by simp, fun j k _ h => by simp at h, fun j p h => by simp at h⟩
theorem PI.place {ns : List Int} (R : IsRow ns) {i : Nat} {piles : List (List Int)} {ah : Int → Option Int} (I : PI ns i piles ah) (hi : i < ns.length) {y : Int} (hy : y ∈ piles.flatten) : (0 ≤ y ∧ y < ns.length) ∧ gt (placesOf ns) y < i ∧ y ≠ gt ns (i : Int) := by
  have h1 := I.perm.mem_iff.mp hy
  obtain ⟨k, hk, e⟩ := List.getElem_of_mem h1
  rw [List.length_take] at hk
  rw [List.getElem_take] at e
  have e1 : gt ns (k : Int) = ns[k] := gt_get (List.getElem?_eq_getElem (by omega))
  refine ⟨R.bd y (List.mem_of_mem_take h1), ?_, fun z => ?_⟩
  · rw [← e, ← e1, placesOf_gt R (by omega)]; omega
  · rw [← e, ← e1] at z
    have := gt_inj R (by omega) (by omega) z
    omega
theorem getD_at {piles : List (List Int)} {j : Nat} {p : List Int} (h : piles[j]? = some p) : piles.getD j [] = p := by rw [List.getD_eq_getElem?_getD, h]; rfl
theorem top_mem {piles : List (List Int)} (ne : ∀ p ∈ piles, p ≠ []) {j : Nat} (h : j < piles.length) : ∃ p, piles[j]? = some p ∧ topAt piles j ∈ p ∧ p ∈ piles := by
  have e : piles[j]? = some piles[j] := List.getElem?_eq_getElem h
  refine ⟨_, e, ?_, List.getElem_mem h⟩
  unfold topAt
  rw [getD_at e]
  exact lastI_mem (ne _ (List.getElem_mem h))
theorem putIn_get {piles : List (List Int)} {at_ : Nat} {x : Int} (h : at_ ≤ piles.length) (j : Nat) : (putIn piles at_ x)[j]? = if j = at_ then some (piles.getD at_ [] ++ [x]) else piles[j]? := by
  unfold putIn
  by_cases c : at_ = piles.length
  · rw [if_pos c]
    by_cases e : j = at_
    · rw [if_pos e, List.getElem?_append_right (by omega), e, c, Nat.sub_self, List.getD_eq_getElem?_getD, List.getElem?_eq_none (Nat.le_refl _)]; rfl
    · rw [if_neg e]
      by_cases l : j < piles.length
      · rw [List.getElem?_append_left l]
      · rw [List.getElem?_append_right (by omega), List.getElem?_eq_none (by simp; omega), List.getElem?_eq_none (by omega)]
  · rw [if_neg c]
    by_cases e : j = at_
    · rw [if_pos e, e, List.getElem?_set_self (by omega)]
    · rw [if_neg e, List.getElem?_set_ne (Ne.symm e)]
theorem putIn_len {piles : List (List Int)} {at_ : Nat} {x : Int} : (putIn piles at_ x).length = if at_ = piles.length then piles.length + 1 else piles.length := by
  unfold putIn
  split
  · simp
  · rw [List.length_set]
theorem flat_set : ∀ {piles : List (List Int)} {k : Nat} {r : List Int} {x : Int}, piles[k]? = some r → (piles.set k (r ++ [x])).flatten.Perm (piles.flatten ++ [x])
  | [], k, r, x, h => by simp at h
  | p :: ps, 0, r, x, h => by
    have : p = r := Option.some.inj h
    subst this
    rw [List.set_cons_zero, List.flatten_cons, List.flatten_cons, List.append_assoc, List.append_assoc]
    exact List.Perm.append_left p List.perm_append_comm
  | p :: ps, k + 1, r, x, h => by
    rw [List.set_cons_succ, List.flatten_cons, List.flatten_cons, List.append_assoc]
    exact List.Perm.append_left p (flat_set h)
theorem putIn_flat {piles : List (List Int)} {at_ : Nat} {x : Int} (h : at_ ≤ piles.length) : (putIn piles at_ x).flatten.Perm (piles.flatten ++ [x]) := by
  unfold putIn
  by_cases c : at_ = piles.length
  · rw [if_pos c, List.flatten_append]; exact .refl _
  · rw [if_neg c]
    have e : piles[at_]? = some piles[at_] := List.getElem?_eq_getElem (by omega)
    rw [getD_at e]
    exact flat_set e
theorem topAt_putIn {piles : List (List Int)} {at_ : Nat} {x : Int} (h : at_ ≤ piles.length) (j : Nat) : topAt (putIn piles at_ x) j = if j = at_ then x else topAt piles j := by
  unfold topAt
  rw [List.getD_eq_getElem?_getD, putIn_get h j]
  by_cases c : j = at_
  · rw [if_pos c, if_pos c]; exact lastI_snoc _ _
  · rw [if_neg c, if_neg c, ← List.getD_eq_getElem?_getD]
theorem PI.step {ns : List Int} (R : IsRow ns) {i : Nat} {piles : List (List Int)} {ah : Int → Option Int} (I : PI ns i piles ah) (hi : i < ns.length) {at_ : Nat} (A : At piles (gt ns (i : Int)) at_) :
    PI ns (i + 1) (putIn piles at_ (gt ns (i : Int))) fun y => if y = gt ns (i : Int) then some (aheadOf piles at_) else ah y := by
  have hx := gt_some hi
  have hxb := gt_bd R (x := (i : Int)) (by omega)
  have hxp := placesOf_gt R (x := (i : Int)) (by omega)
  generalize gt ns (i : Int) = x at *
  have pl : ∀ {j : Nat} {p : List Int} {y : Int}, piles[j]? = some p → y ∈ p → (0 ≤ y ∧ y < ns.length) ∧ gt (placesOf ns) y < i ∧ y ≠ x := fun h hy => by
    have := I.place R hi (List.mem_flatten.mpr ⟨_, List.mem_of_getElem? h, hy⟩)
    rwa [gt_get hx] at this
  have low : ∀ {p : List Int}, piles[at_]? = some p → ∀ y ∈ p, x < y := fun {p} h y hy => by
    have hlt := (List.getElem?_eq_some_iff.mp h).1
    have h1 := A.hi at_ (Nat.le_refl _) hlt
    have ht : topAt piles at_ = lastI p := by unfold topAt; rw [getD_at h]
    -- the last of a falling part is its least
    have hf := I.fall p (List.mem_of_getElem? h)
    obtain ⟨k, hk, rfl⟩ := List.getElem_of_mem hy
    have el : lastI p = p[p.length - 1]'(by omega) := by
      unfold lastI gt
      rw [if_neg (by omega), show ((-1 : Int) + (p.length : Int)).toNat = p.length - 1 by omega, List.getD_eq_getElem?_getD, List.getElem?_eq_getElem (by omega)]; rfl
    by_cases e : k = p.length - 1
    · subst e; rw [ht, el] at h1; exact h1
    · have := List.pairwise_iff_getElem.mp hf k (p.length - 1) hk (by omega) (by omega)
      rw [ht, el] at h1; omega
  refine ⟨?_, ?_, ?_, ?_, ?_⟩
  · rw [List.take_add_one, hx]
    exact (putIn_flat A.le).trans (List.Perm.append_right _ I.perm)
  · intro p hp
    obtain ⟨j, hj⟩ := List.mem_iff_getElem?.mp hp
    rw [putIn_get A.le] at hj
    by_cases c : j = at_
    · rw [if_pos c] at hj
      have := Option.some.inj hj
      rw [← this]; simp
    · rw [if_neg c] at hj; exact I.ne p (List.mem_of_getElem? hj)
  · intro p hp
    obtain ⟨j, hj⟩ := List.mem_iff_getElem?.mp hp
    rw [putIn_get A.le] at hj
    by_cases c : j = at_
    · rw [if_pos c] at hj
      have e := Option.some.inj hj
      rw [← e]
      cases hz : piles[at_]? with
      | none =>
        rw [List.getD_eq_getElem?_getD, hz]
        exact List.pairwise_singleton _ _
      | some q =>
        rw [getD_at hz]
        refine List.pairwise_append.mpr ⟨I.fall q (List.mem_of_getElem? hz), List.pairwise_singleton _ _, fun a ha b hb => ?_⟩
        have : b = x := by simpa using hb
        subst this
        have h1 := pl hz ha
        rw [hxp]
        exact ⟨low hz a ha, h1.2.1⟩
    · rw [if_neg c] at hj; exact I.fall p (List.mem_of_getElem? hj)
  · intro j k hjk hk
    rw [topAt_putIn A.le, topAt_putIn A.le]
    rw [putIn_len] at hk
    by_cases c1 : k = at_
    · rw [if_pos c1, if_neg (by omega)]
      have h1 := A.lo j (by omega)
      have hjl : j < piles.length := by have := A.le; omega
      obtain ⟨p, hp, hm, _⟩ := top_mem I.ne hjl
      have := (pl hp hm).2.2
      omega
    · rw [if_neg c1]
      have hkl : k < piles.length := by split at hk <;> omega
      by_cases c2 : j = at_
      · rw [if_pos c2]; exact A.hi k (by omega) hkl
      · rw [if_neg c2]; exact I.tops j k hjk hkl
  · intro j p hj y hy
    -- what stood there before
    have old : ∀ q, piles[j]? = some q → y ∈ q → ∃ z, (if y = x then some (aheadOf piles at_) else ah y) = some z ∧ (j = 0 → z = -1) ∧ (0 < j → ∃ p', (putIn piles at_ x)[j - 1]? = some p' ∧ z ∈ p' ∧ z < y ∧ gt (placesOf ns) z < gt (placesOf ns) y) := fun q hq hyq => by
      rw [if_neg (pl hq hyq).2.2]
      obtain ⟨z, h1, h2, h3⟩ := I.chain j q hq y hyq
      refine ⟨z, h1, h2, fun h0 => ?_⟩
      obtain ⟨p', h4, h5, h6⟩ := h3 h0
      by_cases c : j - 1 = at_
      · exact ⟨_, by rw [putIn_get A.le, if_pos c], by rw [← c, getD_at h4]; exact List.mem_append_left _ h5, h6⟩
      · exact ⟨p', by rw [putIn_get A.le, if_neg c]; exact h4, h5, h6⟩
    rw [putIn_get A.le] at hj
    by_cases c : j = at_
    · rw [if_pos c] at hj
      have e := Option.some.inj hj
      rw [← e] at hy
      rcases List.mem_append.mp hy with hy | hy
      · cases hz : piles[at_]? with
        | none => rw [List.getD_eq_getElem?_getD, hz] at hy; simp at hy
        | some q =>
          rw [getD_at hz] at hy
          exact old q (by rw [c]; exact hz) hy
      · have ey : y = x := by simpa using hy
        rw [if_pos ey]
        refine ⟨_, rfl, fun h0 => ?_, fun h0 => ?_⟩
        · unfold aheadOf; rw [if_pos (by omega)]
        · unfold aheadOf
          rw [if_neg (by omega), putIn_get A.le, if_neg (by omega), c]
          obtain ⟨p', hp, hm, _⟩ := top_mem I.ne (j := at_ - 1) (by have := A.le; omega)
          have h1 := A.lo (at_ - 1) (by omega)
          have h2 := pl hp hm
          refine ⟨p', hp, hm, by omega, ?_⟩
          rw [ey, hxp]; exact h2.2.1
    · rw [if_neg c] at hj
      exact old p hj hy
/-! ### what is kept: from the last pile down -/
structure KI (ns : List Int) (piles : List (List Int)) (m : Nat) (t : Int) (kept : List Int) : Prop where
  ct : kept.length + m = piles.length
  bd : ∀ x ∈ kept, 0 ≤ x ∧ x < ns.length
  up : kept.Pairwise fun a b => b < a ∧ gt (placesOf ns) b < gt (placesOf ns) a
  at0 : m = 0 → t = -1
  at1 : 0 < m → (∃ p, piles[m - 1]? = some p ∧ t ∈ p) ∧ (0 ≤ t ∧ t < ns.length) ∧ ∀ a ∈ kept, t < a ∧ gt (placesOf ns) t < gt (placesOf ns) a
theorem PI.bd {ns : List Int} (R : IsRow ns) {piles : List (List Int)} {ah : Int → Option Int} (I : PI ns ns.length piles ah) {j : Nat} {p : List Int} (h : piles[j]? = some p) {y : Int} (hy : y ∈ p) : 0 ≤ y ∧ y < ns.length := by
  have := I.perm.mem_iff.mp (List.mem_flatten.mpr ⟨p, List.mem_of_getElem? h, hy⟩)
  rw [List.take_length] at this
  exact R.bd y this
theorem KI.zero {ns : List Int} (R : IsRow ns) {piles : List (List Int)} {ah : Int → Option Int} (I : PI ns ns.length piles ah) {t : Int} (h0 : piles.length = 0 → t = -1) (h1 : 0 < piles.length → t = topAt piles (piles.length - 1)) : KI ns piles piles.length t [] where
  ct := by simp
  bd := by simp
  up := List.Pairwise.nil
  at0 := h0
  at1 := fun h => by
    obtain ⟨p, hp, hm, _⟩ := top_mem I.ne (j := piles.length - 1) (by omega)
    rw [h1 h]
    exact ⟨⟨p, hp, hm⟩, I.bd R hp hm, by simp⟩
theorem KI.step {ns : List Int} (R : IsRow ns) {piles : List (List Int)} {ah : Int → Option Int} (I : PI ns ns.length piles ah) {m : Nat} {t : Int} {kept : List Int} (J : KI ns piles m t kept) (h : 0 < m) : ∃ z, ah t = some z ∧ KI ns piles (m - 1) z (kept ++ [t]) := by
  obtain ⟨⟨p, hp, hm⟩, tb, ta⟩ := J.at1 h
  obtain ⟨z, h1, h2, h3⟩ := I.chain (m - 1) p hp t hm
  refine ⟨z, h1, ⟨by have := J.ct; simp; omega, fun x hx => ?_, ?_, fun h0 => h2 h0, fun h0 => ?_⟩⟩
  · rcases List.mem_append.mp hx with hx | hx
    · exact J.bd x hx
    · have : x = t := by simpa using hx
      subst this; exact tb
  · refine List.pairwise_append.mpr ⟨J.up, List.pairwise_singleton _ _, fun a ha b hb => ?_⟩
    have : b = t := by simpa using hb
    subst this; exact ta a ha
  · obtain ⟨p', h4, h5, h6, h7⟩ := h3 h0
    refine ⟨⟨p', h4, h5⟩, I.bd R h4 h5, fun a ha => ?_⟩
    rcases List.mem_append.mp ha with ha | ha
    · have := ta a ha; omega
    · have : a = t := by simpa using ha
      subst this; exact ⟨h6, h7⟩
theorem KI.done {ns : List Int} {piles : List (List Int)} {t : Int} {m : Nat} {kept : List Int} (J : KI ns piles m t kept) (h : ¬ 0 ≤ t) : m = 0 ∧ Kept ns kept ∧ piles.length = kept.length := by
  have hm : m = 0 := by
    by_cases c : 0 < m
    · have := (J.at1 c).2.1; omega
    · omega
  subst hm
  exact ⟨rfl, ⟨J.bd, J.up⟩, by have := J.ct; omega⟩
theorem PI.fallen {ns : List Int} (R : IsRow ns) {piles : List (List Int)} {ah : Int → Option Int} (I : PI ns ns.length piles ah) : fallen ns piles = true := by
  unfold Bo.fallen
  have h1 : piles.all (fallOk ns) = true := List.all_eq_true.mpr fun p hp => (I.fall p hp).ok fun x hx => by
    obtain ⟨j, hj⟩ := List.mem_iff_getElem?.mp hp
    exact I.bd R hj hx
  have h2 : isAll piles.flatten ns.length = true := by
    unfold isAll
    have := I.perm
    rw [List.take_length] at this
    exact decide_eq_true (this.trans (row_perm R))
  rw [h1, h2]; rfl
end Bo

/-! Put as an object; dicts -/
namespace Bo
open PySem PySem.Spec PyProof.Rows L2
theorem News.put {α : Type} {H1 H2 : Hp} {obj : α → HO} {as : List Addr} {xs : List α} (n : News H1 H2 obj as xs) {k : Nat} {p : Addr} {y : α} (hk : as[k]? = some p) : News H1 (upd H2 p (obj y)) obj as (xs.set k y) := by
  refine ⟨by rw [List.length_set]; exact n.1, n.2.1, fun i t q a b => ?_⟩
  have hkl : k < xs.length := by rw [← n.1]; exact (List.getElem?_eq_some_iff.mp hk).1
  by_cases c : i = k
  · subst c
    rw [List.getElem?_set_self hkl] at b
    rw [hk] at a
    have a' : p = t := Option.some.inj a
    have b' : y = q := Option.some.inj b
    rw [← a', ← b']
    exact ⟨(n.2.2 i p _ hk (List.getElem?_eq_getElem hkl)).1, upd_same⟩
  · rw [List.getElem?_set_ne (Ne.symm c)] at b
    have ne : t ≠ p := fun e => by
      subst e
      exact c (nd_ix n.2.1 a hk)
    rw [upd_ne ne]; exact n.2.2 i t q a b
/-- an inner list is none of these -/
theorem News.notl {H1 H2 : Hp} {as : List Addr} {xs : List (List Int)} (n : News H1 H2 oL as xs) {p : Addr} {kvs : List (Key × V)} (h : H2 p = some (.dK kvs)) : p ∉ as := fun hm => by
  obtain ⟨x, _, _, e⟩ := n.mem hm
  rw [h] at e; cases e
def mid (piles : List (List Int)) (at_ : Nat) : List (List Int) := if at_ = piles.length then piles ++ [[]] else piles
theorem mid_set {piles : List (List Int)} {at_ : Nat} {x : Int} (h : at_ ≤ piles.length) : (mid piles at_).set at_ ((mid piles at_).getD at_ [] ++ [x]) = putIn piles at_ x := by
  unfold mid putIn
  by_cases c : at_ = piles.length
  · rw [if_pos c, if_pos c, List.set_append_right _ _ (by omega), c, Nat.sub_self, List.getD_eq_getElem?_getD, List.getElem?_append_right (Nat.le_refl _), Nat.sub_self]
    rfl
  · rw [if_neg c, if_neg c]
theorem mid_at {piles : List (List Int)} {at_ : Nat} (h : at_ ≤ piles.length) : (mid piles at_)[at_]? = some ((mid piles at_).getD at_ []) ∧ at_ < (mid piles at_).length := by
  have hl : at_ < (mid piles at_).length := by
    unfold mid
    split
    · simp; omega
    · omega
  exact ⟨by rw [List.getD_eq_getElem?_getD, List.getElem?_eq_getElem hl]; rfl, hl⟩
theorem mid_get {piles : List (List Int)} {at_ j : Nat} (h : j < piles.length) : (mid piles at_)[j]? = piles[j]? := by
  unfold mid
  split
  · rw [List.getElem?_append_left h]
  · rfl
theorem mid_len {piles : List (List Int)} {at_ : Nat} {m : Nat} (h : ∀ p ∈ piles, p.length ≤ m) : ((mid piles at_).getD at_ []).length ≤ m := by
  rw [List.getD_eq_getElem?_getD]
  cases e : (mid piles at_)[at_]? with
  | none => simp
  | some p =>
    have hm := List.mem_of_getElem? e
    unfold mid at hm
    split at hm
    · rcases List.mem_append.mp hm with hm | hm
      · exact h p hm
      · have : p = [] := by simpa using hm
        subst this; simp
    · exact h p hm
theorem putK_len (kvs : List (Key × V)) (k : Key) (v : V) : (putK kvs k v).length ≤ kvs.length + 1 := by
  unfold putK
  split
  · rw [List.length_map]; omega
  · rw [List.length_append]; exact Nat.le_refl _
theorem At.mk' {piles : List (List Int)} {x : Int} {lo : Nat} (h : lo ≤ piles.length) (h1 : ∀ j, j < lo → topAt piles j ≤ x) (h2 : ∀ j, lo ≤ j → j < piles.length → x < topAt piles j) : At piles x lo := ⟨h, h1, h2⟩
/-! ### what a Put holds -/
def puF (pp pr : Addr) : List (Str × V) := putF "falls" (.ref pr) (putF "moves" (.ref pp) [])
theorem puF_moves (pp pr : Addr) : (puF pp pr).lookup ("moves" : Str) = some (V.ref pp) := by unfold puF; rw [lookup_putF, if_neg (by decide), lookup_putF, if_pos rfl]
theorem puF_falls (pp pr : Addr) : (puF pp pr).lookup ("falls" : Str) = some (V.ref pr) := by unfold puF; rw [lookup_putF, if_pos rfl]
theorem puF_none {m : Str} (pp pr : Addr) (h1 : m ≠ ("falls" : Str)) (h2 : m ≠ ("moves" : Str)) : (puF pp pr).lookup m = none := by unfold puF; rw [lookup_putF, if_neg h1, lookup_putF, if_neg h2]; rfl
structure PuA (C : Addr) (H : Hp) (x pp pr : Addr) (ts bs : List Addr) (ps : List (Int × Int)) (rs : List (List Int)) : Prop where
  ob : ∃ dx, H x = some (.ins C dx (puF pp pr))
  hp : H pp = some (.lst (ts.map V.ref))
  hr : H pr = some (.lst (bs.map V.ref))
  tf : Tf H ts ps
  lf : Lf H bs rs
section
variable {C : Addr} {H : Hp} {x pp pr : Addr} {ts bs : List Addr} {ps : List (Int × Int)} {rs : List (List Int)}
theorem PuA.same {H' : Hp} (h : PuA C H x pp pr ts bs ps rs) (s : Same H H') : PuA C H' x pp pr ts bs ps rs where
  ob := by obtain ⟨dx, e⟩ := h.ob; exact ⟨dx, s _ _ e⟩
  hp := s _ _ h.hp
  hr := s _ _ h.hr
  tf := h.tf.same s
  lf := h.lf.same s
theorem PuA.setR (O : PuA C H x pp pr ts bs ps rs) (npe : pp ≠ pr) {bs' : List Addr} {rs' : List (List Int)} (L : Lf H bs' rs') (nm : pr ∉ bs') : PuA C (upd H pr (.lst (bs'.map V.ref))) x pp pr ts bs' ps rs' where
  ob := by obtain ⟨dx, e⟩ := O.ob; exact ⟨dx, lift_ne e (ne_kind e O.hr (fun z => by cases z))⟩
  hp := lift_ne O.hp npe
  hr := upd_same
  tf := O.tf.mut O.hr
  lf := L.mut nm
theorem PuA.setB (O : PuA C H x pp pr ts bs ps rs) (m1 : pp ∉ bs) (m2 : pr ∉ bs) (nd : bs.Nodup) {k : Nat} {p : Addr} {r r' : List Int} (hk : bs[k]? = some p) (hr : H p = some (oL r)) : PuA C (upd H p (oL r')) x pp pr ts bs ps (rs.set k r') where
  ob := by obtain ⟨dx, e⟩ := O.ob; exact ⟨dx, lift_ne e (ne_kind e hr (fun z => by cases z))⟩
  hp := lift_ne O.hp (fun e => m1 (by rw [e]; exact List.mem_of_getElem? hk))
  hr := lift_ne O.hr (fun e => m2 (by rw [e]; exact List.mem_of_getElem? hk))
  tf := O.tf.mut hr
  lf := O.lf.put nd hk
end
theorem fallOk_split (ns fall : List Int) : fallOk ns fall = (((fall.map fun x => isNum (.int x) 0 ((ns.length : Int) - 1)).all id) && (List.range (fall.length - 1)).all fun k => decide (gt fall ((k : Int) + 1) < gt fall (k : Int)) && decide (gt (placesOf ns) (gt fall (k : Int)) < gt (placesOf ns) (gt fall ((k : Int) + 1)))) := by
  unfold fallOk
  have e : (fun x : Int => decide (0 ≤ x) && decide (x < (ns.length : Int))) = fun x => isNum (.int x) 0 ((ns.length : Int) - 1) := by
    funext x
    rw [isNum_int, show decide (x ≤ (ns.length : Int) - 1) = decide (x < (ns.length : Int)) from decide_eq_decide.mpr (by omega)]
  rw [e, List.all_map]; rfl
theorem nums_bd {ns fall : List Int} (h : (fall.map fun x => isNum (.int x) 0 ((ns.length : Int) - 1)).all id = true) : ∀ x ∈ fall, 0 ≤ x ∧ x < (ns.length : Int) := fun x hx => by
  rw [List.all_map, List.all_eq_true] at h
  have := h x hx
  change isNum (.int x) 0 ((ns.length : Int) - 1) = true at this
  rw [isNum_int, Bool.and_eq_true, decide_eq_true_eq, decide_eq_true_eq] at this
  omega
/-- [] in a list of lists -/
theorem o_inLL {K : PySem.W.Frag} {H H0 : Hp} {Q : VK} {p q : Addr} {ns : List Int} {as : List Addr} {xs : List (List Int)} (h1 : SqL K H p (ns.map V.int)) (h2 : SqL K H q (as.map V.ref)) (L : Lf H as xs) (k : Q (.bl (decide (ns ∈ xs))) H) : rInD K (.ref p) (.ref q) H Q := by
  refine ⟨dL dI ns, xs.map (dL dI), dp_ints h1, dp_lists h2 L.1 (fun i a x ha hx => SqL.of (L.2 i a x ha hx)), (emb_L emb_I).shaped (by decide) ns, (emb_L (emb_L emb_I)).shaped (by decide) xs, ?_⟩
  have e : ((xs.map (dL dI)).any fun z => PyData.eqv z (dL dI ns)) = decide (ns ∈ xs) := by
    rw [List.any_map, Bool.eq_iff_iff, List.any_eq_true, decide_eq_true_eq]
    constructor
    · rintro ⟨x, hx, e⟩
      change PyData.eqv (dL dI x) (dL dI ns) = true at e
      rw [(emb_L emb_I).eq, decide_eq_true_eq] at e
      rw [← e]; exact hx
    · intro h
      refine ⟨ns, h, ?_⟩
      show PyData.eqv (dL dI ns) (dL dI ns) = true
      rw [(emb_L emb_I).eq, decide_eq_true rfl]
  rw [e]; exact k
end Bo

/-! lists bent by hand: what stands behind it -/
namespace Bo
open PySem PySem.Spec PyProof.Rows L2
theorem exDue2 {ns : List Int} {ps : List (Int × Int)} {rs : List (List Int)} : exShows ns ps rs = ((decide (exL ns ps = upTo ns.length) && ringed ns rs) && decide ((ps.length : Int) + rs.length = ns.length)) := by
  rw [exDue]
  by_cases h : ns = []
  · subst h
    have e : exL [] ps = upTo ([] : List Int).length := by
      unfold exL
      split
      · exact List.eq_nil_of_length_eq_zero (by rw [swaps_length]; rfl)
      · rfl
    rw [decide_eq_true e, Bool.true_or, Bool.true_and, Bool.true_and]
  · rw [decide_eq_false h, Bool.or_false, Bool.and_assoc]
theorem Tf.ex {H : Hp} : ∀ {as : List Addr}, (∀ a ∈ as, ∃ p : Int × Int, H a = some (oP p)) → ∃ ps, Tf H as ps
  | [], _ => ⟨[], rfl, fun i t p a b => by simp at a⟩
  | x :: as, h => by
    obtain ⟨p, hp⟩ := h x (by simp)
    obtain ⟨ps, T⟩ := Tf.ex (as := as) fun a ha => h a (List.mem_cons_of_mem _ ha)
    exact ⟨p :: ps, Tf.app (Tf.one hp) T⟩
theorem Tf.at {H : Hp} {as : List Addr} {ps : List (Int × Int)} (T : Tf H as ps) {a : Addr} (h : a ∈ as) : ∃ p : Int × Int, H a = some (oP p) := by
  obtain ⟨i, hi, e⟩ := List.getElem_of_mem h
  have hj : i < ps.length := by rw [← T.1]; exact hi
  exact ⟨ps[i], T.2 i a ps[i] (by rw [List.getElem?_eq_getElem hi, e]) (List.getElem?_eq_getElem hj)⟩
theorem Tf.bent {H : Hp} {ts ts' : List Addr} {ps : List (Int × Int)} {t : Addr} {p : Int × Int} (T : Tf H ts ps) (h : H t = some (oP p)) (m : ∀ y ∈ ts', y ∈ ts ∨ y = t) : ∃ ps', Tf H ts' ps' :=
  Tf.ex fun a ha => by
    rcases m a ha with z | z
    · exact T.at z
    · exact ⟨p, by rw [z]; exact h⟩
theorem Lf.setA {H : Hp} {fs : List Addr} {gs : List (List Int)} (L : Lf H fs gs) (k : Nat) {p : Addr} {r : List Int} (h : H p = some (oL r)) : Lf H (fs.set k p) (gs.set k r) := ⟨by rw [List.length_set, List.length_set]; exact L.1, fun i t q a b => by
  by_cases c : i = k
  · subst c
    have hl : i < fs.length := by
      have := (List.getElem?_eq_some_iff.mp a).1
      rwa [List.length_set] at this
    rw [List.getElem?_set_self hl] at a
    rw [List.getElem?_set_self (by rw [← L.1]; exact hl)] at b
    have a' : p = t := Option.some.inj a
    have b' : r = q := Option.some.inj b
    rw [← a', ← b']; exact h
  · rw [List.getElem?_set_ne (Ne.symm c)] at a b
    exact L.2 i t q a b⟩
theorem Lf.erase {H : Hp} {fs : List Addr} {gs : List (List Int)} (L : Lf H fs gs) (k : Nat) : Lf H (fs.eraseIdx k) (gs.eraseIdx k) := ⟨by rw [List.length_eraseIdx, List.length_eraseIdx, L.1], fun i t q a b => by
  rw [List.getElem?_eraseIdx] at a b
  split at a
  · next c => rw [if_pos c] at b; exact L.2 i t q a b
  · next c => rw [if_neg c] at b; exact L.2 (i + 1) t q a b⟩
theorem Lf.app {H : Hp} {as bs : List Addr} {xs ys : List (List Int)} (h : Lf H as xs) (h' : Lf H bs ys) : Lf H (as ++ bs) (xs ++ ys) := ⟨by rw [List.length_append, List.length_append, h.1, h'.1], fun i t p a b => by
  by_cases c : i < as.length
  · rw [List.getElem?_append_left c] at a
    rw [List.getElem?_append_left (by rw [← h.1]; exact c)] at b
    exact h.2 i t p a b
  · rw [List.getElem?_append_right (by omega)] at a
    rw [List.getElem?_append_right (by rw [← h.1]; omega), ← h.1] at b
    exact h'.2 _ t p a b⟩
theorem Lf.nil {H : Hp} : Lf H [] [] := ⟨rfl, fun i t p a b => by simp at a⟩
theorem Lf.two {H : Hp} {p q : Addr} {r s : List Int} (h : H p = some (oL r)) (h' : H q = some (oL s)) : Lf H [p, q] [r, s] := (Lf.nil.snoc h).snoc h'
theorem Lf.rev {H : Hp} {as : List Addr} {xs : List (List Int)} (h : Lf H as xs) : Lf H as.reverse xs.reverse := ⟨by rw [List.length_reverse, List.length_reverse, h.1], fun i p x hp hx => by
  have hi : i < as.length := by have := (List.getElem?_eq_some_iff.mp hp).1; rwa [List.length_reverse] at this
  rw [List.getElem?_reverse hi] at hp
  rw [List.getElem?_reverse (by rw [← h.1]; exact hi), ← h.1] at hx
  exact h.2 _ p x hp hx⟩
theorem Lf.get {H : Hp} {as : List Addr} {xs : List (List Int)} (L : Lf H as xs) {k : Nat} (h : k < xs.length) : ∃ p r, as[k]? = some p ∧ xs[k]? = some r ∧ H p = some (oL r) := by
  have h' : k < as.length := by rw [L.1]; exact h
  exact ⟨as[k], xs[k], List.getElem?_eq_getElem h', List.getElem?_eq_getElem h, L.2 k _ _ (List.getElem?_eq_getElem h') (List.getElem?_eq_getElem h)⟩
theorem flat_setl : ∀ {rs : List (List Int)} {k : Nat} {r : List Int} (r' : List Int), rs[k]? = some r → (rs.set k r').flatten.length + r.length = rs.flatten.length + r'.length
  | [], k, r, _, h => by simp at h
  | x :: rs, 0, r, r', h => by
    have : x = r := Option.some.inj h
    subst this
    rw [List.set_cons_zero, List.flatten_cons, List.flatten_cons, List.length_append, List.length_append]; omega
  | x :: rs, k + 1, r, r', h => by
    have := flat_setl (rs := rs) (k := k) (r := r) r' h
    rw [List.set_cons_succ, List.flatten_cons, List.flatten_cons, List.length_append, List.length_append]; omega
theorem flat_erase : ∀ {rs : List (List Int)} {k : Nat} {r : List Int}, rs[k]? = some r → (rs.eraseIdx k).flatten.length + r.length = rs.flatten.length
  | [], k, r, h => by simp at h
  | x :: rs, 0, r, h => by
    have : x = r := Option.some.inj h
    subst this
    rw [List.eraseIdx_zero, List.tail_cons, List.flatten_cons, List.length_append]; omega
  | x :: rs, k + 1, r, h => by
    have := flat_erase (rs := rs) (k := k) (r := r) h
    rw [List.eraseIdx_cons_succ, List.flatten_cons, List.flatten_cons, List.length_append, List.length_append]; omega
theorem erase_len {α : Type} {xs : List α} {k : Nat} (h : k < xs.length) : (xs.eraseIdx k).length + 1 = xs.length := by
  rw [List.length_eraseIdx, if_pos h]; omega
theorem flat_get_le {rs : List (List Int)} {k : Nat} {r : List Int} (h : rs[k]? = some r) : r.length ≤ rs.flatten.length := by
  have := flat_erase h; omega
theorem flat_rev (rs : List (List Int)) : rs.reverse.flatten.length = rs.flatten.length := by
  induction rs with
  | nil => rfl
  | cons x rs ih => rw [List.reverse_cons, List.flatten_append, List.length_append, ih, List.flatten_cons, List.flatten_nil, List.append_nil, List.flatten_cons, List.length_append]; omega
theorem nm_set {as : List Addr} {p q : Addr} (k : Nat) (h : q ∉ as) (n : q ≠ p) : q ∉ as.set k p := fun hm => by
  rcases List.mem_or_eq_of_mem_set hm with z | z
  · exact h z
  · exact n z
theorem nm_erase {as : List Addr} {q : Addr} (k : Nat) (h : q ∉ as) : q ∉ as.eraseIdx k := fun hm => h (List.mem_of_mem_eraseIdx hm)
section
variable {K : PySem.W.Frag} {H : Hp} {Q : VK} {α : Type} {f : α → V}
theorem m_popA {l : Addr} {xs : List α} {i : Int} {y : α} (h : H l = some (.lst (xs.map f))) (z : 0 ≤ i ∧ i < xs.length) (zz : xs.length < 1000000) (e : xs[i.toNat]? = some y) (q : Q (f y) (upd H l (.lst ((xs.eraseIdx i.toNat).map f)))) : rPopAt (.ref l) [.int i] H Q := by
  refine ⟨l, xs.map f, i, i.toNat, f y, rfl, rfl, h, by omega, by omega, ?_, by rw [List.getElem?_map, e]; rfl, ?_⟩
  · unfold PySem.seqIndex?
    rw [List.length_map]
    simp only [show ¬ i < 0 by omega, if_false]
    rw [if_pos (by simp; omega)]
  · have e2 : (xs.map f).eraseIdx i.toNat = (xs.eraseIdx i.toNat).map f := by
      apply List.ext_getElem?
      intro j
      rw [List.getElem?_map, List.getElem?_eraseIdx, List.getElem?_eraseIdx, List.getElem?_map, List.getElem?_map]
      split <;> rfl
    rw [e2]; exact q
/-- some slice -/
theorem o_slAny {p : Addr} {xs : List α} {lo hi : Option Int} (h : SqL K H p (xs.map f)) (q : ∀ (zs : List α) (l : Addr), H l = none → (∀ z ∈ zs, z ∈ xs) → zs.length ≤ xs.length → Q (.ref l) (upd H l (.lst (zs.map f)))) : rSlL K (.ref p) lo hi H Q := by
  refine ⟨p, _, rfl, h, fun l nl => ?_⟩
  unfold cutV
  rw [← List.map_drop, ← List.map_take]
  refine q _ l nl (fun z hz => List.mem_of_mem_drop (List.mem_of_mem_take hz)) ?_
  rw [List.length_take, List.length_drop]; omega
theorem r_asgT {te : TE} {g : TG} {D : Ends} {σ : L2.St} (h : te σ H fun v H1 => g v σ H1 D.nx) : tAsg te g D σ H := h
theorem g_two {σ : L2.St} {g1 g2 : TG} {p : Addr} {u v : V} {R : L2.St → Hp → Prop} (h : SqT K H p [u, v]) (q : g1 u σ H fun σ1 H1 => gCons g2 gNil [v] σ1 H1 R) : gTup K 2 (gCons g1 (gCons g2 gNil)) (.ref p) σ H R := ⟨p, _, rfl, h, rfl, _, _, rfl, q⟩
theorem g_last {σ : L2.St} {g2 : TG} {v : V} {R : L2.St → Hp → Prop} (q : g2 v σ H fun σ1 H1 => gNil [] σ1 H1 R) : gCons g2 gNil [v] σ H R := ⟨_, _, rfl, q⟩
theorem g_nil {σ : L2.St} {R : L2.St → Hp → Prop} (q : R σ H) : gNil [] σ H R := ⟨rfl, q⟩
theorem g_sub {σ : L2.St} {to ti : TE} {t : TSet} {v : V} {R : L2.St → Hp → Prop} (h : to σ H fun o H1 => ti σ H1 fun i H2 => t o i v H2 fun H3 => R σ H3) : gSub to ti t v σ H R := h
end
section
variable {K : PySem.W.Frag} {H H0 : Hp} {Q : VK}
theorem dpAll_pairs {ts : List Addr} {ps : List (Int × Int)} (T : Tf H ts ps) : DpAll K H (ts.map V.ref) (ps.map (dP dI dI)) :=
  dpAll_of (by rw [List.length_map]; exact T.1) fun i v x hv hx => by
    obtain ⟨a, ha, rfl⟩ := map_get hv
    exact .tup (SqT.of (T.2 i a x ha hx)) (.cons (.int _) (.cons (.int _) .nil))
theorem dp_pairs {p : Addr} {ts : List Addr} {ps : List (Int × Int)} (h : SqL K H p (ts.map V.ref)) (T : Tf H ts ps) : Dp K H (.ref p) (dL (dP dI dI) ps) := .lst h (dpAll_pairs T)
/-- == of two lists of pairs -/
theorem o_eqPP {p q : Addr} {as bs : List Addr} {xs ys : List (Int × Int)} (h1 : SqL K H p (as.map V.ref)) (h2 : SqL K H q (bs.map V.ref)) (n1 : Tf H as xs) (n2 : Tf H bs ys) (k : Q (.bl (decide (xs = ys))) H) : rEqD K (.ref p) (.ref q) H Q :=
  o_eqD (emb_L (emb_P emb_I emb_I)) (by decide) (dp_pairs h1 n1) (dp_pairs h2 n2) k
theorem o_nePP {p q : Addr} {as bs : List Addr} {xs ys : List (Int × Int)} (h1 : SqL K H p (as.map V.ref)) (h2 : SqL K H q (bs.map V.ref)) (n1 : Tf H as xs) (n2 : Tf H bs ys) (k : Q (.bl (!decide (xs = ys))) H) : rNeD K (.ref p) (.ref q) H Q :=
  o_neD (emb_L (emb_P emb_I emb_I)) (by decide) (dp_pairs h1 n1) (dp_pairs h2 n2) k
theorem o_neLf {p q : Addr} {as bs : List Addr} {xs ys : List (List Int)} (h1 : SqL K H p (as.map V.ref)) (h2 : SqL K H q (bs.map V.ref)) (n1 : Lf H as xs) (n2 : Lf H bs ys) (k : Q (.bl (!decide (xs = ys))) H) : rNeD K (.ref p) (.ref q) H Q :=
  o_neD (emb_L (emb_L emb_I)) (by decide) (dp_lists h1 n1.1 fun i a x ha hx => SqL.of (n1.2 i a x ha hx)) (dp_lists h2 n2.1 fun i a x ha hx => SqL.of (n2.2 i a x ha hx)) k
theorem o_eqLf {p q : Addr} {as bs : List Addr} {xs ys : List (List Int)} (h1 : SqL K H p (as.map V.ref)) (h2 : SqL K H q (bs.map V.ref)) (n1 : Lf H as xs) (n2 : Lf H bs ys) (k : Q (.bl (decide (xs = ys))) H) : rEqD K (.ref p) (.ref q) H Q :=
  o_eqD (emb_L (emb_L emb_I)) (by decide) (dp_lists h1 n1.1 fun i a x ha hx => SqL.of (n1.2 i a x ha hx)) (dp_lists h2 n2.1 fun i a x ha hx => SqL.of (n2.2 i a x ha hx)) k
end
theorem flat_mem_le {rs : List (List Int)} {r : List Int} (h : r ∈ rs) : r.length ≤ rs.flatten.length := by
  obtain ⟨i, hi⟩ := List.mem_iff_getElem?.mp h
  exact flat_get_le hi
section
variable {C : Addr} {H : Hp} {x pp pr pt q : Addr} {ts bs : List Addr} {ps : List (Int × Int)} {rs : List (List Int)} {xs : List V} {o : HO} {things : List Int}
theorem ExA.mutQ (O : ExA C H x pp pr ts bs ps rs) (hq : H q = some (.lst xs)) (e1 : pp ≠ q) (e2 : pr ≠ q) (e3 : q ∉ bs) : ExA C (upd H q o) x pp pr ts bs ps rs where
  ob := by obtain ⟨dx, e⟩ := O.ob; exact ⟨dx, lift_ne e (ne_kind e hq (fun z => by cases z))⟩
  hp := lift_ne O.hp e1
  hr := lift_ne O.hr e2
  tf := O.tf.mut hq
  lf := O.lf.mut e3
theorem PuA.mutQ (O : PuA C H x pp pr ts bs ps rs) (hq : H q = some (.lst xs)) (e1 : pp ≠ q) (e2 : pr ≠ q) (e3 : q ∉ bs) : PuA C (upd H q o) x pp pr ts bs ps rs where
  ob := by obtain ⟨dx, e⟩ := O.ob; exact ⟨dx, lift_ne e (ne_kind e hq (fun z => by cases z))⟩
  hp := lift_ne O.hp e1
  hr := lift_ne O.hr e2
  tf := O.tf.mut hq
  lf := O.lf.mut e3
theorem FrA.mutQ (O : FrA C H x pt things) (hq : H q = some (.lst xs)) (e1 : pt ≠ q) : FrA C (upd H q o) x pt things where
  ob := by obtain ⟨dx, e⟩ := O.ob; exact ⟨dx, lift_ne e (ne_kind e hq (fun z => by cases z))⟩
  ht := lift_ne O.ht e1
theorem EnA.mutQ (O : EnA C H x pt ts ps) (hq : H q = some (.lst xs)) (e1 : pt ≠ q) : EnA C (upd H q o) x pt ts ps where
  ob := by obtain ⟨dx, e⟩ := O.ob; exact ⟨dx, lift_ne e (ne_kind e hq (fun z => by cases z))⟩
  hm := lift_ne O.hm e1
  tf := O.tf.mut hq
end
end Bo

namespace Bo
open PySem PySem.Spec PyProof.Rows L2
/-! an int as a test -/
def tTru (K : PySem.W.Frag) (ta : TE) : TT := fun σ H Q => ta σ H fun x H' => ∃ k, TruV K x H' k ∧ Q k H'
section
variable {X : Cx} {a : Expr} {ta : TE}
theorem pt_tru (ha : PE X a ta) (he : ∀ whole, isTrue a X.env whole = (do let v ← whole; standAt a.pos; holding [v] (truthy v)) := by intro _; rfl) : PT X a (tTru X.K ta) := pt_truth ha he
end
section
variable {K : PySem.W.Frag} {σ : L2.St} {H : Hp} {ta : TE} {R : Bool → Hp → Prop} {i : Int}
def KTru (K : PySem.W.Frag) (R : Bool → Hp → Prop) (x : V) (H : Hp) : Prop := ∃ k, TruV K x H k ∧ R k H
theorem t_tru (h : ta σ H fun x H' => KTru K R x H') : tTru K ta σ H R := h
theorem k_truI (q : R (i != 0) H) : KTru K R (.int i) H := ⟨_, rfl, q⟩
end
end Bo

namespace Bo
open PySem PySem.Spec PyProof.Rows L2
/-! ### steps of a reading: each a row of its own -/
local macro_rules | `(tactic| walk_at "ne") => `(tactic| first
  | assumption
  | (apply Ne.symm; assumption)
  | (apply neo; assumption; walk_at "hp")
  | (apply Ne.symm; apply neo; assumption; walk_at "hp"))
local macro_rules | `(tactic| walk_at "hp") => `(tactic| first
  | assumption
  | exact upd_same
  | (apply lift_ne; walk_at "hp"; walk_at "ne")
  | (apply Same.up; assumption; walk_at "hp"))
local macro_rules | `(tactic| walk_at "same") => `(tactic| first
  | assumption
  | exact Same.refl _
  | (apply Same.new; walk_at "same"; walk_at "fr")
  | (apply same_trans; assumption; walk_at "same"))
local macro_rules | `(tactic| walk_at "fr") => `(tactic| first
  | assumption
  | (apply same_free; assumption; walk_at "same"))
local macro_rules | `(tactic| walk_at "sq") => `(tactic| first
  | assumption
  | (apply SqL.of; walk_at "hp")
  | (apply same_seq; assumption; walk_at "same"))
local macro_rules | `(tactic| walk_at "sqt") => `(tactic| first
  | assumption
  | (apply SqT.of; walk_at "hp")
  | (apply same_sqt; assumption; walk_at "same"))
local macro_rules | `(tactic| walk_at "nw") => `(tactic| first
  | assumption
  | (apply News.mut; walk_at "nw"; (first | assumption | (refine News.notin (by assumption) ?_; assumption)))
  | (apply News.same; walk_at "nw"; walk_at "same"))
/-! one step -/
local macro_rules | `(tactic| walk_at "go1") => `(tactic| first
  | with_reducible refine r_seq ?_
  | with_reducible refine r_asgN ?_
  | with_reducible refine r_set ?_
  | with_reducible refine r_ret ?_
  | with_reducible refine r_drop ?_
  | with_reducible refine r_if ?_
  | with_reducible refine r_next ?_
  | ((with_reducible apply r_nxD); with_reducible refine r_nx ?_)
  | ((with_reducible apply r_rtD); with_reducible refine r_rt ?_)
  | with_reducible refine r_par ?_
  | with_reducible refine k_par ?_
  | with_reducible refine r_fld ?_
  | ((with_reducible apply r_aug); exact rfl)
  | with_reducible refine i_ip ?_
  | ((with_reducible apply e_var); exact rfl)
  | with_reducible refine e_c ?_
  | with_reducible refine e_op ?_
  | with_reducible refine e_un ?_
  | with_reducible refine o_I0 ?_
  | with_reducible refine o_neg ?_
  | with_reducible refine o_eqI ?_
  | with_reducible refine o_neI ?_
  | with_reducible refine o_eqB ?_
  | with_reducible refine o_neB ?_
  | with_reducible refine o_eqS ?_
  | with_reducible refine o_neS ?_
  | with_reducible refine a_nil ?_
  | with_reducible refine a_cons ?_
  | with_reducible refine e_cb ?_
  | with_reducible refine e_call ?_
  | with_reducible refine e_make ?_
  | with_reducible refine e_meth ?_
  | with_reducible refine e_fld ?_
  | with_reducible refine e_lst ?_
  | with_reducible refine e_tup ?_
  | with_reducible refine e_bm ?_
  | with_reducible refine e_bm0 ?_
  | with_reducible refine e_rev ?_
  | with_reducible refine e_sl ?_
  | with_reducible refine e_nopart ?_
  | with_reducible refine e_part ?_
  | with_reducible refine i_ok ?_
  | with_reducible refine e_lenset ?_
  | with_reducible refine e_listRg1 ?_
  | with_reducible refine t_test ?_
  | with_reducible refine t_B ?_
  | with_reducible refine b_ok ?_
  | with_reducible refine t_and ?_
  | with_reducible refine t_or ?_
  | with_reducible refine t_not ?_
  | with_reducible refine v_and ?_
  | with_reducible refine v_or ?_
  | with_reducible refine v_not ?_
  | with_reducible refine e_if ?_
  | with_reducible refine e_chain ?_
  | with_reducible refine e_chain3 ?_
  | with_reducible refine iteT ?_
  | with_reducible refine iteF ?_
  | with_reducible refine ite_nT ?_
  | with_reducible refine ite_nF ?_
  | with_reducible refine r_forL ?_
  | with_reducible refine r_forT ?_
  | with_reducible refine r_forE ?_
  | with_reducible refine r_forR1 ?_
  | with_reducible refine r_forR2 ?_
  | with_reducible refine e_lcL ?_
  | with_reducible refine e_lcR1 ?_
  | with_reducible refine e_lcR2 ?_
  | with_reducible refine r_dput ?_
  | with_reducible refine e_dget ?_
  | with_reducible refine e_dnin ?_
  | with_reducible refine c_max2 ?_
  | with_reducible refine c_min2 ?_
  | ((with_reducible apply c_isiI); (first | exact (show kitB "int" _ = some true by decide +kernel) | exact (show kitB "int" _ = some false by decide +kernel)))
  | ((with_reducible apply m_ty); walk_at "sq"))
local macro_rules | `(tactic| walk_at "go2") => `(tactic| first
  | ((with_reducible apply o_ixI); walk_at "sq"; omega)
  | ((with_reducible refine o_mod ?_ ?_); omega)
  | ((with_reducible refine o_fdiv ?_ ?_); omega)
  | ((with_reducible refine o_mulR ?_ ?_); omega)
  | ((with_reducible refine o_mulL ?_ ?_); omega)
  | ((with_reducible apply c_lenM); walk_at "sq")
  | ((with_reducible apply c_all); walk_at "sq")
  | ((with_reducible apply c_any); walk_at "sq")
  | ((with_reducible apply o_in); walk_at "sq")
  | ((with_reducible apply o_nin); walk_at "sq")
  | ((with_reducible apply o_ixB); walk_at "sq"; omega)
  | ((with_reducible apply m_setB); walk_at "hp"; omega)
  | ((with_reducible apply m_appR); walk_at "hp"; omega)
  | ((with_reducible apply m_ins); walk_at "hp"; omega; omega)
  | ((with_reducible apply m_appM); walk_at "hp"; exact rfl; omega)
  | ((with_reducible apply m_setI); walk_at "hp"; omega))
local macro_rules | `(tactic| walk_at "d") => `(tactic| try dsimp only)
local macro_rules | `(tactic| walk_at "k") => `(tactic| try dsimp only [cxOf, Cx.nox, Cx.blk])
local macro_rules | `(tactic| walk_at "go") => `(tactic| repeat (first | walk_at "go1" | walk_at "go2"))

section
variable {P : Program} {w : World} {K : PySem.W.Frag} {mg : Str → Option Value} {base : Heap} {C_Exchanged C_Fronted C_Ended C_Put C_Answer : Addr} (T : Top K mg C_Exchanged C_Fronted C_Ended C_Put C_Answer)
include T
def sp_is_number (K : PySem.W.Frag) : Sp := fun vs H Q _ => ∃ (x : V) (lo hi : Int) (t : String), vs = [x, .int lo, .int hi] ∧ TyX K H x (.type t) ∧ Q (.bl (isNum x lo hi)) H
theorem ok_is_number : Cc P w K mg base 1 "is_number" (sp_is_number K) := by
  refine Cc.mk' T.d_is_number sc_is_number ?_ ?_
  · rintro vs H Q E ⟨x, lo, hi, t, rfl, _⟩; rfl
  · rintro f cdv A outer s H vs Q E hr ⟨x, lo, hi, t, rfl, ty, q⟩
    refine ⟨_, (pss_one (ps_ret (pe_and (pe_callB (r := rIsi K) call_isi (by rfl) T.b_isinstance PyProof.Rows.boot_isinstance (pa_cons (pv 0) (pa_cons (pe_bltn (v := .ty "int") (by rfl) T.b_int PyProof.Rows.boot_int rfl) pa_nil))) (pe_and (pe_not (pe_callB (r := rIsi K) call_isi (by rfl) T.b_isinstance PyProof.Rows.boot_isinstance (pa_cons (pv 0) (pa_cons (pe_bltn (v := .ty "bool") (by rfl) T.b_bool PyProof.Rows.boot_bool rfl) pa_nil)))) (pe_one (pe_chain op_le op_le (pv 1) (pv 0) (pv 2))))))), ?_⟩
    walk_at "k"
    walk_at "go"
    refine c_isi ty (kit_int ty) ?_
    walk_at "go"
    refine ite_bl (fun h1 => ?_) (fun h1 => ?_)
    · walk_at "go"
      refine c_isi ty (kit_bool ty) ?_
      walk_at "go"
      refine ite_bl (fun h2 => ?_) (fun h2 => ?_)
      · obtain ⟨i, rfl⟩ : ∃ i, x = .int i := by
          cases x <;> simp [isIntV, isBlV] at h1 h2 ⊢
        walk_at "go"
        rw [isNum_int] at q
        refine ite_dec (fun h3 => ?_) (fun h3 => ?_)
        · walk_at "go"
          rw [decide_eq_true h3, Bool.true_and] at q
          exact q
        · walk_at "go"
          rw [decide_eq_false h3, Bool.false_and] at q
          exact q
      · walk_at "go"
        have e : isNum x lo hi = false := by
          cases x <;> simp [isIntV, isBlV, isNum] at h1 h2 ⊢
        rw [e] at q; exact q
    · walk_at "go"
      have e : isNum x lo hi = false := by
        cases x <;> simp [isIntV, isNum] at h1 ⊢
      rw [e] at q; exact q
def sp_check_row (K : PySem.W.Frag) : Sp := fun vs H Q _ => ∃ (a : Addr) (ns : List Int), vs = [.ref a] ∧ SqL K H a (ns.map V.int) ∧ IsRow ns ∧ ∀ H', Same H H' → Q .non H'
theorem ok_check_row : Cc P w K mg base 2 "check_row" (sp_check_row K) := by
  have c_is_number := ok_is_number (P := P) (w := w) (base := base) T
  obtain ⟨tM, g_MOST⟩ := T.g_MOST
  refine Cc.mk' T.d_check_row sc_check_row ?_ ?_
  · rintro vs H Q E ⟨a, ns, rfl, _⟩; rfl
  · rintro f cdv A outer s H vs Q E hr ⟨a, ns, rfl, hS, R, q⟩
    have hl := R.len
    refine ⟨_, (pss_cons (ps_if (PW.pt (pw_or (pt_not (pt_val (pe_callB (r := rIsi K) call_isi (by rfl) T.b_isinstance PyProof.Rows.boot_isinstance (pa_cons (pv 0) (pa_cons (pe_bltn (v := .ty "list") (by rfl) T.b_list PyProof.Rows.boot_list rfl) pa_nil))))) (pw_or (pt_cmpR op_gt (pe_callB (r := rLen2 K) call_len_seq (by rfl) T.b_len PySem.boot_len (pa_cons (pv 0) pa_nil)) (pe_glob (v := .int 1000000) (by rfl) g_MOST ⟨_, rfl⟩) (nomark _)) (pw_or1 (pt_not (pt_val (pe_callB (r := rAll K) (cr_all rfl) (by rfl) T.b_all PyProof.Rows.boot_all (pa_cons (pe_lc (own := [("thing", 1)]) (g := gName 1) (tt := tYes) rfl sc_check_row.nd (pi_list (pv 0)) (blkOk_by (own := [("thing", 1)]) (N := N_check_row) (sc := defScope s_check_row) (by decide +kernel)) (fun _ _ _ _ _ => (pg_name (i := 1) sc_check_row.nd rfl (Or.inl rfl))) (fun _ _ _ _ _ => pts_nil) (fun _ _ _ _ _ => (pe_cc c_is_number (hr.mono (by decide)) (by rfl) (pa_cons (pv 1) (pa_cons pe_int (pa_cons (pe_op op_sub (pe_callB (r := rLen2 K) call_len_seq (by rfl) T.b_len PySem.boot_len (pa_cons (pv 0) pa_nil)) pe_int) pa_nil)))))) pa_nil)))))))) pss_never pss_nil)
      (pss_one (ps_if (pt_cmpR op_ne (pe_lenSetG (by rfl) T.b_len (by rfl) T.b_set (pv 0)) (pe_callB (r := rLen2 K) call_len_seq (by rfl) T.b_len PySem.boot_len (pa_cons (pv 0) pa_nil)) (nomark _)) pss_never pss_nil))), ?_⟩
    walk_at "k"
    walk_at "go"
    refine c_isiL hS (show kitB "list" "list" = some true by decide +kernel) ?_
    walk_at "go"
    refine ite_decN (by omega) ?_
    walk_at "go"
    refine k_lcV (xs := ns) (f := V.int) (h := V.bl) (fun x => isNum (.int x) 0 ((ns.length : Int) - 1)) (by walk_at "sq") (by omega) (fun _ => rfl) ?_ ?_
    · intro i x H2 R' hx s2 k2
      walk_at "go"
      refine ⟨.int x, 0, _, "int", rfl, .base (.int x), ?_⟩
      exact k2 H2 (Same.refl _)
    · intro D H2 nD s2 hD
      walk_at "go"
      rw [R.all_num]
      walk_at "go"
      refine c_lenset (by walk_at "sq") (by omega) ?_
      walk_at "go"
      rw [(nodup_len_eq ns).mpr R.nd]
      refine ite_ndecN rfl ?_
      walk_at "go"
      exact q _ s2
def sp_rings_of (K : PySem.W.Frag) : Sp := fun vs H Q _ => ∃ (a : Addr) (ns : List Int), vs = [.ref a] ∧ SqL K H a (ns.map V.int) ∧ IsRow ns ∧
  ∀ p as H', Same H H' → H p = none → News H H' oL as (ringsOf ns) → p ∉ as → H' p = some (.lst (as.map V.ref)) → Q (.ref p) H'
theorem ok_rings_of : Cc P w K mg base 1 "rings_of" (sp_rings_of K) := by
  refine Cc.mk' T.d_rings_of sc_rings_of ?_ ?_
  · rintro vs H Q E ⟨a, ns, rfl, _⟩; rfl
  · rintro f cdv A outer s H vs Q E hr ⟨a, ns, rfl, hS, R, q⟩
    have hl := R.len
    refine ⟨_, (pss_cons (ps_setLc (i := 1) (own := [("thing", 3)]) (g := gName 3) (tt := tYes) rfl sc_rings_of.nd rfl rfl (sw_true rfl rfl rfl (by decide +kernel)) (pi_list (pv 0)) (blkOk_by (own := [("thing", 3)]) (N := N_rings_of) (sc := defScope s_rings_of) (by decide +kernel)) (fun _ _ _ _ _ => (pg_name (i := 3) sc_rings_of.nd rfl (Or.inl rfl))) (fun _ _ _ _ _ => pts_nil) (fun _ _ _ _ _ => pe_bl))
      (pss_cons (ps_set (i := 2) sc_rings_of.nd rfl (by first | exact Or.inl rfl | exact Or.inr rfl) (pe_lst pa_nil))
      (pss_cons (ps_for PassesOwn.never rfl (pi_range1 (by rfl) T.b_range (pa_cons (pe_callB (r := rLen2 K) call_len_seq (by rfl) T.b_len PySem.boot_len (pa_cons (pv 0) pa_nil)) pa_nil)) (pg_name (i := 3) sc_rings_of.nd rfl (by first | exact Or.inl rfl | exact Or.inr rfl)) (pss_cons (ps_set (i := 4) sc_rings_of.nd rfl (by first | exact Or.inl rfl | exact Or.inr rfl) (pe_lst pa_nil))
      (pss_cons (ps_while PassesOwn.never (pt_not (pt_val (pe_ix (r := rIxL K) ix_list (pv 1) (pv 3) (fun _ _ => rfl)))) (pss_cons (ps_asg pe_bl (pg_sub (pv 1) (pv 3) set_list))
      (pss_cons (ps_expr (pe_bm PySem.F.plainAttrs_list PySem.F.slot_list_append PySem.F.type_list_append mt_append (pv 4) (pa_cons (pv 3) pa_nil)))
      (pss_one (ps_set (i := 3) sc_rings_of.nd rfl (by first | exact Or.inl rfl | exact Or.inr rfl) (pe_ix (r := rIxL K) ix_list (pv 0) (pv 3) (fun _ _ => rfl)))))))
      (pss_one (ps_if (pt_cmpR op_gt (pe_callB (r := rLen2 K) call_len_seq (by rfl) T.b_len PySem.boot_len (pa_cons (pv 4) pa_nil)) pe_int (nomark _)) (pss_one (ps_expr (pe_bm PySem.F.plainAttrs_list PySem.F.slot_list_append PySem.F.type_list_append mt_append (pv 2) (pa_cons (pv 4) pa_nil)))) pss_nil)))))
      (pss_one (ps_ret (pv 2)))))), ?_⟩
    walk_at "k"
    walk_at "go"
    refine k_lcV (xs := ns) (f := V.int) (h := V.bl) (fun _ => false) (by walk_at "sq") (by omega) (fun _ => rfl) (fun i x H2 R' hx s2 k2 => k2 H2 (Same.refl _)) ?_
    intro pm H1 npm s1 hpm
    walk_at "go"
    refine ⟨Nat.zero_le _, fun pf npf => ?_⟩
    have hmf : pm ≠ pf := by walk_at "ne"
    have npf0 : H pf = none := by walk_at "fr"
    walk_at "go"
    refine k_rng1 (fun i σ H' => ∃ as th rg, σ = [some (.ref a), some (.ref pm), some (.ref pf), th, rg] ∧ Same H H' ∧ H' pm = some (.lst ((ringsAux ns i).1.map V.bl)) ∧ H' pf = some (.lst (as.map V.ref)) ∧ News H H' oL as (ringsAux ns i).2 ∧ pm ∉ as ∧ pf ∉ as)
      (by omega) ⟨[], none, none, rfl, by walk_at "same", by walk_at "hp", by walk_at "hp", News.nil, by simp, by simp⟩ ?_ ?_
    · rintro i σ H' hi ⟨as, th, rg, rfl, s2, h1, h2, n2, m1, m2⟩
      walk_at "go"
      refine ⟨Nat.zero_le _, fun pr npr => ?_⟩
      walk_at "go"
      walk_at "d"
      have prm : pr ≠ pm := by walk_at "ne"
      have prf : pr ≠ pf := by walk_at "ne"
      have hpr0 : H pr = none := by walk_at "fr"
      have pra : pr ∉ as := n2.notin npr
      have ml := ringsAux_length ns i
      refine r_while (fun m σ H'' => ∃ met ring t, m = met.count false ∧ σ = [some (.ref a), some (.ref pm), some (.ref pf), some (.int t), some (.ref pr)] ∧ Same H H'' ∧ H'' pm = some (.lst (met.map V.bl)) ∧ H'' pf = some (.lst (as.map V.ref)) ∧
          News H H'' oL as (ringsAux ns i).2 ∧ H'' pr = some (.lst (ring.map V.int)) ∧ met.length = ns.length ∧ (0 ≤ t ∧ t < ns.length) ∧ ring.length + met.count false = (ringsAux ns i).1.count false ∧ ringAt ns met t ring = ringAt ns (ringsAux ns i).1 i [])
        _ ⟨(ringsAux ns i).1, [], i, rfl, rfl, by walk_at "same", by walk_at "hp", by walk_at "hp", by walk_at "nw", by walk_at "hp", ml, by omega, by simp, rfl⟩ ?_
      rintro m σ H'' ⟨met, ring, t, rfl, rfl, s3, h3, h4, n3, h5, l3, bt, lr, e3⟩
      have hcl : (ringsAux ns i).1.count false ≤ ns.length := by rw [← ml]; exact List.count_le_length ..
      walk_at "go"
      cases hb : gb met t with
      | false =>
        walk_at "go"
        refine ⟨_, fun σ2 H2 h => h, ?_⟩
        walk_at "go"
        have hc := count_set (by rw [← hb]; exact gb_get (met := met) (t := t) (by omega))
        have bt2 := R.bd (gt ns t) (gt_mem (by omega) (by omega))
        refine ⟨_, ?_, met.set t.toNat true, ring ++ [t], gt ns t, rfl, rfl, by walk_at "same", by walk_at "hp", by walk_at "hp", by walk_at "nw", by walk_at "hp", by rw [List.length_set]; exact l3, bt2, by rw [List.length_append]; simp; omega, ?_⟩
        · omega
        · rw [← e3]
          exact (ringAt_next hb (by omega)).symm
      | true =>
        walk_at "go"
        rw [ringAt_met hb] at e3
        have e4 : ringsAux ns (i + 1) = (met, if ring = [] then (ringsAux ns i).2 else (ringsAux ns i).2 ++ [ring]) := by
          show ((ringAt ns (ringsAux ns i).1 (i : Int) []).1, if (ringAt ns (ringsAux ns i).1 (i : Int) []).2 = [] then _ else _) = _
          rw [← e3]
        refine ite_dec (fun h6 => ?_) (fun h6 => ?_)
        · have hn : ring ≠ [] := by rintro rfl; simp at h6
          rw [if_neg hn] at e4
          have la : as.length = (ringsAux ns i).2.length := n3.len
          have lb : (ringsAux ns i).2.length ≤ i := ringsAux_count ns i
          walk_at "go"
          refine ⟨as ++ [pr], _, _, rfl, by walk_at "same", ?_, by walk_at "hp", ?_, nm_snoc m1 prm.symm, nm_snoc m2 prf.symm⟩
          · rw [e4]; walk_at "hp"
          · rw [e4]
            refine News.snoc (by walk_at "nw") pra hpr0 ?_
            walk_at "hp"
        · have hn : ring = [] := by
            cases ring with
            | nil => rfl
            | cons x r => exact absurd (by simp) h6
          rw [if_pos hn] at e4
          walk_at "go"
          refine ⟨as, _, _, rfl, by walk_at "same", ?_, by walk_at "hp", ?_, m1, m2⟩
          · rw [e4]; walk_at "hp"
          · rw [e4]; walk_at "nw"
    · rintro σ H' ⟨as, th, rg, rfl, s2, h1, h2, n2, m1, m2⟩
      walk_at "go"
      rw [Int.toNat_natCast] at n2
      exact q pf as H' s2 npf0 n2 m2 h2
end
end Bo

namespace Bo
open PySem PySem.Spec PyProof.Rows L2
/-! ### steps of a reading: each a row of its own -/
local macro_rules | `(tactic| walk_at "ne") => `(tactic| first
  | assumption
  | (apply Ne.symm; assumption)
  | (apply neo; assumption; walk_at "hp")
  | (apply Ne.symm; apply neo; assumption; walk_at "hp"))
local macro_rules | `(tactic| walk_at "hp") => `(tactic| first
  | assumption
  | exact upd_same
  | (apply lift_ne; walk_at "hp"; walk_at "ne")
  | (apply Same.up; assumption; walk_at "hp"))
local macro_rules | `(tactic| walk_at "same") => `(tactic| first
  | assumption
  | exact Same.refl _
  | (apply Same.new; walk_at "same"; walk_at "fr")
  | (apply same_trans; assumption; walk_at "same"))
local macro_rules | `(tactic| walk_at "fr") => `(tactic| first
  | assumption
  | (apply same_free; assumption; walk_at "same"))
local macro_rules | `(tactic| walk_at "sq") => `(tactic| first
  | assumption
  | (apply SqL.of; walk_at "hp")
  | (apply same_seq; assumption; walk_at "same"))
local macro_rules | `(tactic| walk_at "sqt") => `(tactic| first
  | assumption
  | (apply SqT.of; walk_at "hp")
  | (apply same_sqt; assumption; walk_at "same"))
local macro_rules | `(tactic| walk_at "nw") => `(tactic| first
  | assumption
  | (apply News.mut; walk_at "nw"; (first | assumption | (refine News.notin (by assumption) ?_; assumption)))
  | (apply News.same; walk_at "nw"; walk_at "same"))
/-! one step -/
local macro_rules | `(tactic| walk_at "go1") => `(tactic| first
  | with_reducible refine r_seq ?_
  | with_reducible refine r_asgN ?_
  | with_reducible refine r_set ?_
  | with_reducible refine r_ret ?_
  | with_reducible refine r_drop ?_
  | with_reducible refine r_if ?_
  | with_reducible refine r_next ?_
  | ((with_reducible apply r_nxD); with_reducible refine r_nx ?_)
  | ((with_reducible apply r_rtD); with_reducible refine r_rt ?_)
  | with_reducible refine r_par ?_
  | with_reducible refine k_par ?_
  | with_reducible refine r_fld ?_
  | ((with_reducible apply r_aug); exact rfl)
  | with_reducible refine i_ip ?_
  | ((with_reducible apply e_var); exact rfl)
  | with_reducible refine e_c ?_
  | with_reducible refine e_op ?_
  | with_reducible refine e_un ?_
  | with_reducible refine o_I0 ?_
  | with_reducible refine o_neg ?_
  | with_reducible refine o_eqI ?_
  | with_reducible refine o_neI ?_
  | with_reducible refine o_eqB ?_
  | with_reducible refine o_neB ?_
  | with_reducible refine o_eqS ?_
  | with_reducible refine o_neS ?_
  | with_reducible refine a_nil ?_
  | with_reducible refine a_cons ?_
  | with_reducible refine e_cb ?_
  | with_reducible refine e_call ?_
  | with_reducible refine e_make ?_
  | with_reducible refine e_meth ?_
  | with_reducible refine e_fld ?_
  | with_reducible refine e_lst ?_
  | with_reducible refine e_tup ?_
  | with_reducible refine e_bm ?_
  | with_reducible refine e_bm0 ?_
  | with_reducible refine e_rev ?_
  | with_reducible refine e_sl ?_
  | with_reducible refine e_nopart ?_
  | with_reducible refine e_part ?_
  | with_reducible refine i_ok ?_
  | with_reducible refine e_lenset ?_
  | with_reducible refine e_listRg1 ?_
  | with_reducible refine t_test ?_
  | with_reducible refine t_B ?_
  | with_reducible refine b_ok ?_
  | with_reducible refine t_and ?_
  | with_reducible refine t_or ?_
  | with_reducible refine t_not ?_
  | with_reducible refine v_and ?_
  | with_reducible refine v_or ?_
  | with_reducible refine v_not ?_
  | with_reducible refine e_if ?_
  | with_reducible refine e_chain ?_
  | with_reducible refine e_chain3 ?_
  | with_reducible refine iteT ?_
  | with_reducible refine iteF ?_
  | with_reducible refine ite_nT ?_
  | with_reducible refine ite_nF ?_
  | with_reducible refine r_forL ?_
  | with_reducible refine r_forT ?_
  | with_reducible refine r_forE ?_
  | with_reducible refine r_forR1 ?_
  | with_reducible refine r_forR2 ?_
  | with_reducible refine e_lcL ?_
  | with_reducible refine e_lcR1 ?_
  | with_reducible refine e_lcR2 ?_
  | with_reducible refine r_dput ?_
  | with_reducible refine e_dget ?_
  | with_reducible refine e_dnin ?_
  | with_reducible refine c_max2 ?_
  | with_reducible refine c_min2 ?_
  | ((with_reducible apply c_isiI); (first | exact (show kitB "int" _ = some true by decide +kernel) | exact (show kitB "int" _ = some false by decide +kernel)))
  | ((with_reducible apply m_ty); walk_at "sq"))
local macro_rules | `(tactic| walk_at "go2") => `(tactic| first
  | ((with_reducible apply o_ixI); walk_at "sq"; omega)
  | ((with_reducible refine o_mod ?_ ?_); omega)
  | ((with_reducible refine o_fdiv ?_ ?_); omega)
  | ((with_reducible refine o_mulR ?_ ?_); omega)
  | ((with_reducible refine o_mulL ?_ ?_); omega)
  | ((with_reducible apply c_lenM); walk_at "sq")
  | ((with_reducible apply c_all); walk_at "sq")
  | ((with_reducible apply c_any); walk_at "sq")
  | ((with_reducible apply o_in); walk_at "sq")
  | ((with_reducible apply o_nin); walk_at "sq")
  | ((with_reducible apply o_ixB); walk_at "sq"; omega)
  | ((with_reducible apply m_setB); walk_at "hp"; omega)
  | ((with_reducible apply m_appR); walk_at "hp"; omega)
  | ((with_reducible apply m_ins); walk_at "hp"; omega; omega)
  | ((with_reducible apply m_appM); walk_at "hp"; exact rfl; omega)
  | ((with_reducible apply m_setI); walk_at "hp"; omega))
local macro_rules | `(tactic| walk_at "d") => `(tactic| try dsimp only)
local macro_rules | `(tactic| walk_at "k") => `(tactic| try dsimp only [cxOf, Cx.nox, Cx.blk])
local macro_rules | `(tactic| walk_at "go") => `(tactic| repeat (first | walk_at "go1" | walk_at "go2"))

section
variable {P : Program} {w : World} {K : PySem.W.Frag} {mg : Str → Option Value} {base : Heap} {C_Exchanged C_Fronted C_Ended C_Put C_Answer : Addr} (T : Top K mg C_Exchanged C_Fronted C_Ended C_Put C_Answer)
include T

def sp_cell_at (K : PySem.W.Frag) : Sp := fun vs H Q _ => ∃ (a : Addr) (ns : List Int) (k : Int), vs = [.ref a, .int k] ∧ SqL K H a (ns.map V.int) ∧ 0 ≤ k ∧ ∀ r, Q (.int r) H
theorem ok__law_cell_at : Cc P w K mg base 1 "_law_cell_at" (sp_cell_at K) := by
  refine Cc.mk' T.d__law_cell_at sc__law_cell_at ?_ ?_
  · rintro vs H Q E ⟨a, ns, k, rfl, _⟩; rfl
  · rintro f cdv A outer s H vs Q E hr ⟨a, ns, k, rfl, hS, h0, q⟩
    refine ⟨_, (pss_cons (ps_if (pt_cmpR op_lt (pv 1) (pe_callB (r := rLen2 K) call_len_seq (by rfl) T.b_len PySem.boot_len (pa_cons (pv 0) pa_nil)) (nomark _)) (pss_one (ps_ret (pe_ix (r := rIxL K) ix_list (pv 0) (pv 1) (fun _ _ => rfl)))) pss_nil)
      (pss_one (ps_ret pe_int))), ?_⟩
    walk_at "k"
    walk_at "go"
    refine ite_dec (fun h => ?_) (fun h => ?_)
    · walk_at "go"
      exact q _
    · walk_at "go"
      exact q _
def sp_draw (K : PySem.W.Frag) : Sp := fun vs H Q _ => ∃ (c k m : Int), vs = [.int c, .int k, .int m] ∧ 0 < m ∧ ∀ r H', 0 ≤ r → r < m → Same H H' → Q (.int r) H'
theorem ok__law_draw : Cc P w K mg base 1 "_law_draw" (sp_draw K) := by
  refine Cc.mk' T.d__law_draw sc__law_draw ?_ ?_
  · rintro vs H Q E ⟨c, k, m, rfl, _⟩; rfl
  · rintro f cdv A outer s H vs Q E hr ⟨c, k, m, rfl, h0, q⟩
    refine ⟨_, (pss_cons (ps_set (i := 3) sc__law_draw.nd rfl (by first | exact Or.inl rfl | exact Or.inr rfl) (pe_tup (pa_cons pe_int (pa_cons pe_int (pa_cons pe_int (pa_cons pe_int (pa_cons pe_int (pa_cons pe_int (pa_cons pe_int (pa_cons pe_int (pa_cons pe_int (pa_cons pe_int (pa_cons pe_int (pa_cons pe_int (pa_cons pe_int (pa_cons pe_int (pa_cons pe_int (pa_cons pe_int pa_nil))))))))))))))))))
      (pss_one (ps_ret (pe_op op_mod (pe_op op_mod (pe_op op_add (pe_op op_mul (pv 0) pe_int) (pe_op op_mul (pv 1) pe_int)) (pe_ix (r := rIxT K) ix_tup (pv 3) (pe_op op_mod (pv 1) pe_int) (fun _ _ => rfl))) (pv 2))))), ?_⟩
    walk_at "k"
    walk_at "go"
    refine ⟨by show 16 ≤ sizeLine; decide, fun p np => ?_⟩
    walk_at "go"
    obtain ⟨pr, hp, e⟩ := primes_at k
    refine o_ixT (SqT.of upd_same) e ?_
    walk_at "go"
    exact q _ _ (Int.emod_nonneg _ (by omega)) (Int.emod_lt_of_pos _ h0) (Same.one np)
/-- the row that a law builds of its script: some row of as many things -/
def sp_law_row (K : PySem.W.Frag) : Sp := fun vs H Q _ => ∃ (a : Addr) (ns : List Int), vs = [.ref a] ∧ SqL K H a (ns.map V.int) ∧ ns.length ≤ 63 ∧
  ∀ p r H', Same H H' → H p = none → IsRow r → r.length = ns.length → H' p = some (.lst (r.map V.int)) → Q (.ref p) H'
theorem ok__law_row : Cc P w K mg base 2 "_law_row" (sp_law_row K) := by
  have c__law_draw := ok__law_draw (P := P) (w := w) (base := base) T
  have c__law_cell_at := ok__law_cell_at (P := P) (w := w) (base := base) T
  refine Cc.mk' T.d__law_row sc__law_row ?_ ?_
  · rintro vs H Q E ⟨a, ns, rfl, _⟩; rfl
  · rintro f cdv A outer s H vs Q E hr ⟨a, ns, rfl, hS, hl, q⟩
    refine ⟨_, (pss_cons (ps_par (i := 1) (j := 2) rfl sc__law_row.nd rfl rfl (by decide) rfl rfl (pa_cons (pe_cc c__law_draw (hr.mono (by decide)) (by rfl) (pa_cons (pe_cc c__law_cell_at (hr.mono (by decide)) (by rfl) (pa_cons (pv 0) (pa_cons pe_int pa_nil))) (pa_cons pe_int (pa_cons pe_int pa_nil)))) (pa_cons (pe_lst pa_nil) pa_nil)) (by rfl))
      (pss_cons (ps_for PassesOwn.never rfl (pi_range1 (by rfl) T.b_range (pa_cons (pe_callB (r := rLen2 K) call_len_seq (by rfl) T.b_len PySem.boot_len (pa_cons (pv 0) pa_nil)) pa_nil)) (pg_name (i := 3) sc__law_row.nd rfl (by first | exact Or.inl rfl | exact Or.inr rfl)) (pss_cons (ps_set (i := 4) sc__law_row.nd rfl (by first | exact Or.inl rfl | exact Or.inr rfl) (pe_cc c__law_draw (hr.mono (by decide)) (by rfl) (pa_cons (pe_ix (r := rIxL K) ix_list (pv 0) (pv 3) (fun _ _ => rfl)) (pa_cons (pe_op op_add (pe_op op_mod (pv 3) pe_int) pe_int) (pa_cons (pe_op op_add (pv 3) pe_int) pa_nil)))))
      (Bo.pss_cut (ps_if (pt_cmpR op_eq (pv 1) pe_int (nomark _)) (pss_one (ps_set (i := 4) sc__law_row.nd rfl (by first | exact Or.inl rfl | exact Or.inr rfl) (pe_callB (r := rMin2) (call_min2 rfl) (by rfl) T.b_min PyProof.Rows.boot_min (pa_cons (pv 4) (pa_cons (pe_cc c__law_draw (hr.mono (by decide)) (by rfl) (pa_cons (pe_ix (r := rIxL K) ix_list (pv 0) (pv 3) (fun _ _ => rfl)) (pa_cons (pe_op op_add (pe_op op_mod (pv 3) pe_int) pe_int) (pa_cons pe_int pa_nil)))) pa_nil))))) pss_nil)
      (Bo.pss_cut (ps_if (pt_cmpR op_eq (pv 1) pe_int (nomark _)) (pss_one (ps_set (i := 4) sc__law_row.nd rfl (by first | exact Or.inl rfl | exact Or.inr rfl) (pe_callB (r := rMax2) (call_max2 rfl) (by rfl) T.b_max PyProof.Rows.boot_max (pa_cons (pv 4) (pa_cons (pe_op op_sub (pv 3) (pe_cc c__law_draw (hr.mono (by decide)) (by rfl) (pa_cons (pe_ix (r := rIxL K) ix_list (pv 0) (pv 3) (fun _ _ => rfl)) (pa_cons (pe_op op_add (pe_op op_mod (pv 3) pe_int) pe_int) (pa_cons pe_int pa_nil))))) pa_nil))))) pss_nil)
      (Bo.pss_cut (ps_if (PW.pt (pw_and (pt_cmpR op_eq (pv 1) pe_int (nomark _)) (pw_and1 (pt_cmpR op_gt (pe_op op_mod (pv 4) pe_int) pe_int (nomark _))))) (pss_one (ps_set (i := 4) sc__law_row.nd rfl (by first | exact Or.inl rfl | exact Or.inr rfl) pe_int)) pss_nil)
      (pss_one (ps_expr (pe_bm (r := rIns) PySem.F.plainAttrs_list PySem.F.slot_list_insert PySem.F.type_list_insert mt_insert (pv 2) (pa_cons (pe_op op_sub (pv 3) (pv 4)) (pa_cons (pv 3) pa_nil))))))))))
      (pss_one (ps_ret (pv 2))))), ?_⟩
    walk_at "k"
    walk_at "go"
    refine ⟨a, ns, 0, rfl, hS, by decide, fun c => ?_⟩
    walk_at "go"
    refine ⟨c, 6, 4, rfl, by decide, fun kind H1 k0 k1 s1 => ?_⟩
    walk_at "go"
    refine ⟨Nat.zero_le _, fun p np => ?_⟩
    have np0 : H p = none := by walk_at "fr"
    walk_at "go"
    refine k_rng1 (fun i σ H' => ∃ r kk aw, σ = [some (.ref a), some (.int kind), some (.ref p), kk, aw] ∧ Same H H' ∧ H' p = some (.lst (r.map V.int)) ∧ r.length = i ∧ (∀ x ∈ r, 0 ≤ x ∧ x < (i : Int)) ∧ r.Nodup)
      (by omega) ⟨[], none, none, rfl, by walk_at "same", by walk_at "hp", rfl, by simp, List.nodup_nil⟩ ?_ ?_
    · rintro i σ H' hi ⟨r, kk, aw, rfl, s2, h1, l1, b1, n1⟩
      walk_at "d"
      walk_at "go"
      -- the last step, once how far is known
      have fin : ∀ (away : Int) (H3 : Hp), 0 ≤ away → away ≤ i → Same H H3 → H3 p = some (.lst (r.map V.int)) → ∃ (r' : List Int) (kk' aw' : Option V), ([some (.ref a), some (.int kind), some (.ref p), some (.int (i : Int)), some (.int away)] : L2.St) = [some (.ref a), some (.int kind), some (.ref p), kk', aw'] ∧
          Same H (upd H3 p (.lst ((ins r ((i : Int) - away) (i : Int)).map V.int))) ∧ (upd H3 p (.lst ((ins r ((i : Int) - away) (i : Int)).map V.int))) p = some (.lst (r'.map V.int)) ∧ r'.length = i + 1 ∧ (∀ x ∈ r', 0 ≤ x ∧ x < ((i + 1 : Nat) : Int)) ∧ r'.Nodup := by
        intro away H3 a0 a1 s3 h3
        obtain ⟨e1, e2, e3⟩ := ins_row (k := (i : Int) - away) l1 b1 n1
        exact ⟨_, _, _, rfl, by walk_at "same", upd_same, e1, e2, e3⟩
      refine ⟨_, _, _, rfl, by omega, fun a0 H3 a1 a2 s3 => ?_⟩
      walk_at "go"
      refine c_nocut ?_
      walk_at "go"
      refine ite_dec (fun hk => ?_) (fun hk => ?_)
      · walk_at "go"
        refine ⟨_, _, _, rfl, by omega, fun b H4 b1 b2 s4 => ?_⟩
        walk_at "go"
        refine c_nocut ?_
        walk_at "go"
        refine ite_decN (by omega) ?_
        walk_at "go"
        refine c_nocut ?_
        walk_at "go"
        refine ite_decN (by omega) ?_
        walk_at "go"
        exact fin _ _ (by omega) (by omega) (by walk_at "same") (by walk_at "hp")
      · walk_at "go"
        refine c_nocut ?_
        walk_at "go"
        refine ite_dec (fun hk2 => ?_) (fun hk2 => ?_)
        · walk_at "go"
          refine ⟨_, _, _, rfl, by omega, fun b H4 b1 b2 s4 => ?_⟩
          walk_at "go"
          refine c_nocut ?_
          walk_at "go"
          refine ite_decN (by omega) ?_
          walk_at "go"
          exact fin _ _ (by omega) (by omega) (by walk_at "same") (by walk_at "hp")
        · walk_at "go"
          refine c_nocut ?_
          walk_at "go"
          refine ite_dec (fun hk3 => ?_) (fun hk3 => ?_)
          · walk_at "go"
            refine ite_dec (fun hk4 => ?_) (fun hk4 => ?_)
            · walk_at "go"
              exact fin _ _ (by omega) (by omega) (by walk_at "same") (by walk_at "hp")
            · walk_at "go"
              exact fin _ _ (by omega) (by omega) (by walk_at "same") (by walk_at "hp")
          · walk_at "go"
            exact fin _ _ (by omega) (by omega) (by walk_at "same") (by walk_at "hp")
    · rintro σ H' ⟨r, kk, aw, rfl, s2, h1, l1, b1, n1⟩
      walk_at "go"
      rw [Int.toNat_natCast] at l1 b1
      exact q p r H' s2 np0 ⟨by omega, by rw [l1]; exact b1, n1⟩ l1 h1
end
end Bo

namespace Bo
open PySem PySem.Spec PyProof.Rows L2
/-! ### steps of a reading: each a row of its own -/
local macro_rules | `(tactic| walk_at "ne") => `(tactic| first
  | assumption
  | (apply Ne.symm; assumption)
  | (apply neo; assumption; walk_at "hp")
  | (apply Ne.symm; apply neo; assumption; walk_at "hp"))
local macro_rules | `(tactic| walk_at "hp") => `(tactic| first
  | assumption
  | exact upd_same
  | (apply lift_ne; walk_at "hp"; walk_at "ne")
  | (apply Same.up; assumption; walk_at "hp"))
local macro_rules | `(tactic| walk_at "same") => `(tactic| first
  | assumption
  | exact Same.refl _
  | (apply Same.new; walk_at "same"; walk_at "fr")
  | (apply same_trans; assumption; walk_at "same"))
local macro_rules | `(tactic| walk_at "fr") => `(tactic| first
  | assumption
  | (apply same_free; assumption; walk_at "same"))
local macro_rules | `(tactic| walk_at "sq") => `(tactic| first
  | assumption
  | (apply SqL.of; walk_at "hp")
  | (apply same_seq; assumption; walk_at "same"))
local macro_rules | `(tactic| walk_at "sqt") => `(tactic| first
  | assumption
  | (apply SqT.of; walk_at "hp")
  | (apply same_sqt; assumption; walk_at "same"))
local macro_rules | `(tactic| walk_at "nw") => `(tactic| first
  | assumption
  | (apply News.mut; walk_at "nw"; (first | assumption | (refine News.notin (by assumption) ?_; assumption)))
  | (apply News.same; walk_at "nw"; walk_at "same"))
/-! one step -/
local macro_rules | `(tactic| walk_at "go1") => `(tactic| first
  | with_reducible refine r_seq ?_
  | with_reducible refine r_asgN ?_
  | with_reducible refine r_set ?_
  | with_reducible refine r_ret ?_
  | with_reducible refine r_drop ?_
  | with_reducible refine r_if ?_
  | with_reducible refine r_next ?_
  | ((with_reducible apply r_nxD); with_reducible refine r_nx ?_)
  | ((with_reducible apply r_rtD); with_reducible refine r_rt ?_)
  | with_reducible refine r_par ?_
  | with_reducible refine k_par ?_
  | with_reducible refine r_fld ?_
  | ((with_reducible apply r_aug); exact rfl)
  | with_reducible refine i_ip ?_
  | ((with_reducible apply e_var); exact rfl)
  | with_reducible refine e_c ?_
  | with_reducible refine e_op ?_
  | with_reducible refine e_un ?_
  | with_reducible refine o_I0 ?_
  | with_reducible refine o_neg ?_
  | with_reducible refine o_eqI ?_
  | with_reducible refine o_neI ?_
  | with_reducible refine o_eqB ?_
  | with_reducible refine o_neB ?_
  | with_reducible refine o_eqS ?_
  | with_reducible refine o_neS ?_
  | with_reducible refine a_nil ?_
  | with_reducible refine a_cons ?_
  | with_reducible refine e_cb ?_
  | with_reducible refine e_call ?_
  | with_reducible refine e_make ?_
  | with_reducible refine e_meth ?_
  | with_reducible refine e_fld ?_
  | with_reducible refine e_lst ?_
  | with_reducible refine e_tup ?_
  | with_reducible refine e_bm ?_
  | with_reducible refine e_bm0 ?_
  | with_reducible refine e_rev ?_
  | with_reducible refine e_sl ?_
  | with_reducible refine e_nopart ?_
  | with_reducible refine e_part ?_
  | with_reducible refine i_ok ?_
  | with_reducible refine e_lenset ?_
  | with_reducible refine e_listRg1 ?_
  | with_reducible refine t_test ?_
  | with_reducible refine t_B ?_
  | with_reducible refine b_ok ?_
  | with_reducible refine t_and ?_
  | with_reducible refine t_or ?_
  | with_reducible refine t_not ?_
  | with_reducible refine v_and ?_
  | with_reducible refine v_or ?_
  | with_reducible refine v_not ?_
  | with_reducible refine e_if ?_
  | with_reducible refine e_chain ?_
  | with_reducible refine e_chain3 ?_
  | with_reducible refine iteT ?_
  | with_reducible refine iteF ?_
  | with_reducible refine ite_nT ?_
  | with_reducible refine ite_nF ?_
  | with_reducible refine r_forL ?_
  | with_reducible refine r_forT ?_
  | with_reducible refine r_forE ?_
  | with_reducible refine r_forR1 ?_
  | with_reducible refine r_forR2 ?_
  | with_reducible refine e_lcL ?_
  | with_reducible refine e_lcR1 ?_
  | with_reducible refine e_lcR2 ?_
  | with_reducible refine r_dput ?_
  | with_reducible refine e_dget ?_
  | with_reducible refine e_dnin ?_
  | with_reducible refine c_max2 ?_
  | with_reducible refine c_min2 ?_
  | ((with_reducible apply c_isiI); (first | exact (show kitB "int" _ = some true by decide +kernel) | exact (show kitB "int" _ = some false by decide +kernel)))
  | ((with_reducible apply m_ty); walk_at "sq"))
local macro_rules | `(tactic| walk_at "go2") => `(tactic| first
  | ((with_reducible apply o_ixI); walk_at "sq"; omega)
  | ((with_reducible refine o_mod ?_ ?_); omega)
  | ((with_reducible refine o_fdiv ?_ ?_); omega)
  | ((with_reducible refine o_mulR ?_ ?_); omega)
  | ((with_reducible refine o_mulL ?_ ?_); omega)
  | ((with_reducible apply c_lenM); walk_at "sq")
  | ((with_reducible apply c_all); walk_at "sq")
  | ((with_reducible apply c_any); walk_at "sq")
  | ((with_reducible apply o_in); walk_at "sq")
  | ((with_reducible apply o_nin); walk_at "sq")
  | ((with_reducible apply o_ixB); walk_at "sq"; omega)
  | ((with_reducible apply m_setB); walk_at "hp"; omega)
  | ((with_reducible apply m_appR); walk_at "hp"; omega)
  | ((with_reducible apply m_ins); walk_at "hp"; omega; omega)
  | ((with_reducible apply m_appM); walk_at "hp"; exact rfl; omega)
  | ((with_reducible apply m_setI); walk_at "hp"; omega))
local macro_rules | `(tactic| walk_at "d") => `(tactic| try dsimp only)
local macro_rules | `(tactic| walk_at "k") => `(tactic| try dsimp only [cxOf, Cx.nox, Cx.blk])
local macro_rules | `(tactic| walk_at "go") => `(tactic| repeat (first | walk_at "go1" | walk_at "go2"))

section
variable {P : Program} {w : World} {K : PySem.W.Frag} {mg : Str → Option Value} {base : Heap} {C_Exchanged C_Fronted C_Ended C_Put C_Answer : Addr} (T : Top K mg C_Exchanged C_Fronted C_Ended C_Put C_Answer)
include T

def sp_is_ring (K : PySem.W.Frag) : Sp := fun vs H Q _ => ∃ (a : Addr) (ns : List Int) (many : Int), vs = [.ref a, .int many] ∧ SqL K H a (ns.map V.int) ∧ ns.length ≤ 1000 ∧ ∀ H', Same H H' → Q (.bl (isRing ns many)) H'
theorem ok_is_ring : Cc P w K mg base 2 "is_ring" (sp_is_ring K) := by
  have c_is_number := ok_is_number (P := P) (w := w) (base := base) T
  refine Cc.mk' T.d_is_ring sc_is_ring ?_ ?_
  · rintro vs H Q E ⟨a, ns, many, rfl, _⟩; rfl
  · rintro f cdv A outer s H vs Q E hr ⟨a, ns, many, rfl, hS, hl, q⟩
    refine ⟨_, (pss_one (ps_ret (pe_and (pe_callB (r := rIsi K) call_isi (by rfl) T.b_isinstance PyProof.Rows.boot_isinstance (pa_cons (pv 0) (pa_cons (pe_bltn (v := .ty "list") (by rfl) T.b_list PyProof.Rows.boot_list rfl) pa_nil))) (pe_and (pe_cmpR op_gt (pe_callB (r := rLen2 K) call_len_seq (by rfl) T.b_len PySem.boot_len (pa_cons (pv 0) pa_nil)) pe_int (nomark _)) (pe_one (pe_callB (r := rAll K) (cr_all rfl) (by rfl) T.b_all PyProof.Rows.boot_all (pa_cons (pe_lc (own := [("thing", 2)]) (g := gName 2) (tt := tYes) rfl sc_is_ring.nd (pi_list (pv 0)) (blkOk_by (own := [("thing", 2)]) (N := N_is_ring) (sc := defScope s_is_ring) (by decide +kernel)) (fun _ _ _ _ _ => (pg_name (i := 2) sc_is_ring.nd rfl (Or.inl rfl))) (fun _ _ _ _ _ => pts_nil) (fun _ _ _ _ _ => (pe_cc c_is_number (hr.mono (by decide)) (by rfl) (pa_cons (pv 2) (pa_cons pe_int (pa_cons (pe_op op_sub (pv 1) pe_int) pa_nil)))))) pa_nil))))))), ?_⟩
    walk_at "k"
    walk_at "go"
    refine c_isiL hS (show kitB "list" "list" = some true by decide +kernel) ?_
    walk_at "go"
    refine ite_dec (fun h => ?_) (fun h => ?_)
    · walk_at "go"
      refine k_lcV (xs := ns) (f := V.int) (h := V.bl) (fun x => isNum (.int x) 0 (many - 1)) (by walk_at "sq") (by omega) (fun _ => rfl) ?_ ?_
      · intro i x H2 R' hx s2 k2
        walk_at "go"
        exact ⟨.int x, 0, _, "int", rfl, .base (.int x), k2 H2 (Same.refl _)⟩
      · intro D H2 nD s2 hD
        walk_at "go"
        have e : isRing ns many = (ns.map fun x => isNum (.int x) 0 (many - 1)).all id := by
          unfold isRing
          rw [List.all_map]
          cases ns with
          | nil => simp at h
          | cons x r => rfl
        rw [← e]
        exact q _ s2
    · walk_at "go"
      have e : isRing ns many = false := by
        cases ns with
        | nil => rfl
        | cons x r => simp at h
      have := q H (Same.refl _)
      rw [e] at this
      exact this
end
end Bo

namespace Bo
open PySem PySem.Spec PyProof.Rows L2
/-! ### steps of a reading: each a row of its own -/
local macro_rules | `(tactic| walk_at "ne") => `(tactic| first
  | assumption
  | (apply Ne.symm; assumption)
  | (apply neo; assumption; walk_at "hp")
  | (apply Ne.symm; apply neo; assumption; walk_at "hp"))
local macro_rules | `(tactic| walk_at "hp") => `(tactic| first
  | assumption
  | exact upd_same
  | (apply lift_ne; walk_at "hp"; walk_at "ne")
  | (apply Same.up; assumption; walk_at "hp"))
local macro_rules | `(tactic| walk_at "same") => `(tactic| first
  | assumption
  | exact Same.refl _
  | (apply Same.new; walk_at "same"; walk_at "fr")
  | (apply same_trans; assumption; walk_at "same"))
local macro_rules | `(tactic| walk_at "fr") => `(tactic| first
  | assumption
  | (apply same_free; assumption; walk_at "same"))
local macro_rules | `(tactic| walk_at "sq") => `(tactic| first
  | assumption
  | (apply SqL.of; walk_at "hp")
  | (apply same_seq; assumption; walk_at "same"))
local macro_rules | `(tactic| walk_at "sqt") => `(tactic| first
  | assumption
  | (apply SqT.of; walk_at "hp")
  | (apply same_sqt; assumption; walk_at "same"))
local macro_rules | `(tactic| walk_at "nw") => `(tactic| first
  | assumption
  | (apply News.mut; walk_at "nw"; (first | assumption | (refine News.notin (by assumption) ?_; assumption)))
  | (apply News.same; walk_at "nw"; walk_at "same"))
/-! one step -/
local macro_rules | `(tactic| walk_at "go1") => `(tactic| first
  | with_reducible refine r_seq ?_
  | with_reducible refine r_asgN ?_
  | with_reducible refine r_set ?_
  | with_reducible refine r_ret ?_
  | with_reducible refine r_drop ?_
  | with_reducible refine r_if ?_
  | with_reducible refine r_next ?_
  | ((with_reducible apply r_nxD); with_reducible refine r_nx ?_)
  | ((with_reducible apply r_rtD); with_reducible refine r_rt ?_)
  | with_reducible refine r_par ?_
  | with_reducible refine k_par ?_
  | with_reducible refine r_fld ?_
  | ((with_reducible apply r_aug); exact rfl)
  | with_reducible refine i_ip ?_
  | ((with_reducible apply e_var); exact rfl)
  | with_reducible refine e_c ?_
  | with_reducible refine e_op ?_
  | with_reducible refine e_un ?_
  | with_reducible refine o_I0 ?_
  | with_reducible refine o_neg ?_
  | with_reducible refine o_eqI ?_
  | with_reducible refine o_neI ?_
  | with_reducible refine o_eqB ?_
  | with_reducible refine o_neB ?_
  | with_reducible refine o_eqS ?_
  | with_reducible refine o_neS ?_
  | with_reducible refine a_nil ?_
  | with_reducible refine a_cons ?_
  | with_reducible refine e_cb ?_
  | with_reducible refine e_call ?_
  | with_reducible refine e_make ?_
  | with_reducible refine e_meth ?_
  | with_reducible refine e_fld ?_
  | with_reducible refine e_lst ?_
  | with_reducible refine e_tup ?_
  | with_reducible refine e_bm ?_
  | with_reducible refine e_bm0 ?_
  | with_reducible refine e_rev ?_
  | with_reducible refine e_sl ?_
  | with_reducible refine e_nopart ?_
  | with_reducible refine e_part ?_
  | with_reducible refine i_ok ?_
  | with_reducible refine e_lenset ?_
  | with_reducible refine e_listRg1 ?_
  | with_reducible refine t_test ?_
  | with_reducible refine t_B ?_
  | with_reducible refine b_ok ?_
  | with_reducible refine t_and ?_
  | with_reducible refine t_or ?_
  | with_reducible refine t_not ?_
  | with_reducible refine v_and ?_
  | with_reducible refine v_or ?_
  | with_reducible refine v_not ?_
  | with_reducible refine e_if ?_
  | with_reducible refine e_chain ?_
  | with_reducible refine e_chain3 ?_
  | with_reducible refine iteT ?_
  | with_reducible refine iteF ?_
  | with_reducible refine ite_nT ?_
  | with_reducible refine ite_nF ?_
  | with_reducible refine r_forL ?_
  | with_reducible refine r_forT ?_
  | with_reducible refine r_forE ?_
  | with_reducible refine r_forR1 ?_
  | with_reducible refine r_forR2 ?_
  | with_reducible refine e_lcL ?_
  | with_reducible refine e_lcR1 ?_
  | with_reducible refine e_lcR2 ?_
  | with_reducible refine r_dput ?_
  | with_reducible refine e_dget ?_
  | with_reducible refine e_dnin ?_
  | with_reducible refine c_max2 ?_
  | with_reducible refine c_min2 ?_
  | ((with_reducible apply c_isiI); (first | exact (show kitB "int" _ = some true by decide +kernel) | exact (show kitB "int" _ = some false by decide +kernel)))
  | ((with_reducible apply m_ty); walk_at "sq"))
local macro_rules | `(tactic| walk_at "go2") => `(tactic| first
  | ((with_reducible apply o_ixI); walk_at "sq"; omega)
  | ((with_reducible refine o_mod ?_ ?_); omega)
  | ((with_reducible refine o_fdiv ?_ ?_); omega)
  | ((with_reducible refine o_mulR ?_ ?_); omega)
  | ((with_reducible refine o_mulL ?_ ?_); omega)
  | ((with_reducible apply c_lenM); walk_at "sq")
  | ((with_reducible apply c_all); walk_at "sq")
  | ((with_reducible apply c_any); walk_at "sq")
  | ((with_reducible apply o_in); walk_at "sq")
  | ((with_reducible apply o_nin); walk_at "sq")
  | ((with_reducible apply o_ixB); walk_at "sq"; omega)
  | ((with_reducible apply m_setB); walk_at "hp"; omega)
  | ((with_reducible apply m_appR); walk_at "hp"; omega)
  | ((with_reducible apply m_ins); walk_at "hp"; omega; omega)
  | ((with_reducible apply m_appM); walk_at "hp"; exact rfl; omega)
  | ((with_reducible apply m_setI); walk_at "hp"; omega))
local macro_rules | `(tactic| walk_at "d") => `(tactic| try dsimp only)
local macro_rules | `(tactic| walk_at "k") => `(tactic| try dsimp only [cxOf, Cx.nox, Cx.blk])
local macro_rules | `(tactic| walk_at "go") => `(tactic| repeat (first | walk_at "go1" | walk_at "go2"))

section
variable {P : Program} {w : World} {K : PySem.W.Frag} {mg : Str → Option Value} {base : Heap} {C_Exchanged C_Fronted C_Ended C_Put C_Answer : Addr} (T : Top K mg C_Exchanged C_Fronted C_Ended C_Put C_Answer)
include T

def sp_ringed (K : PySem.W.Frag) : Sp := fun vs H Q _ => ∃ (a b : Addr) (ns : List Int) (as : List Addr) (told : List (List Int)), vs = [.ref a, .ref b] ∧ SqL K H a (ns.map V.int) ∧ SqL K H b (as.map V.ref) ∧ Lf H as told ∧ ns.length ≤ 1000 ∧ (∀ r ∈ told, r.length ≤ 1000) ∧ told.flatten.length ≤ 10000 ∧
  ∀ H', Same H H' → Q (.bl (ringed ns told)) H'
theorem ok__law_ringed : Cc P w K mg base 1 "_law_ringed" (sp_ringed K) := by
  skip
  refine Cc.mk' T.d__law_ringed sc__law_ringed ?_ ?_
  · rintro vs H Q E ⟨a, b, ns, as, told, rfl, _⟩; rfl
  · rintro f cdv A outer s H vs Q E hr ⟨a, b, ns, as, told, rfl, hA, hB, hL, hn, hb, hl, q⟩
    refine ⟨_, (pss_cons (ps_set (i := 2) sc__law_ringed.nd rfl (by first | exact Or.inl rfl | exact Or.inr rfl) (pe_lst pa_nil))
      (pss_cons (ps_for PassesOwn.never rfl (pi_list (pv 1)) (pg_name (i := 3) sc__law_ringed.nd rfl (by first | exact Or.inl rfl | exact Or.inr rfl)) (pss_cons (ps_if (PW.pt (pw_or (pt_cmpR (r := rEqD K) (op_eqD hr.units) (pv 3) (pe_lst pa_nil) (nomark _)) (pw_or1 (pt_val (pe_callB (r := rAny K) (cr_any rfl) (by rfl) T.b_any PyProof.Rows.boot_any (pa_cons (pe_lc (own := [("_law_thing", 4)]) (g := gName 4) (tt := tYes) rfl sc__law_ringed.nd (pi_list (pv 3)) (blkOk_by (own := [("_law_thing", 4)]) (N := N__law_ringed) (sc := defScope s__law_ringed) (by decide +kernel)) (fun _ _ _ _ _ => (pg_name (i := 4) sc__law_ringed.nd rfl (Or.inl rfl))) (fun _ _ _ _ _ => pts_nil) (fun _ _ _ _ _ => (pe_not (pe_chain op_le op_lt pe_int (pv 4) (pe_callB (r := rLen2 K) call_len_seq (by rfl) T.b_len PySem.boot_len (pa_cons (pv 0) pa_nil)))))) pa_nil)))))) (pss_one (ps_ret pe_bl)) pss_nil)
      (pss_cons (ps_if (pt_val (pe_callB (r := rAny K) (cr_any rfl) (by rfl) T.b_any PyProof.Rows.boot_any (pa_cons (pe_lc (own := [("_law_k", 5)]) (g := gName 5) (tt := tYes) rfl sc__law_ringed.nd (pi_range1 (by rfl) T.b_range (pa_cons (pe_callB (r := rLen2 K) call_len_seq (by rfl) T.b_len PySem.boot_len (pa_cons (pv 3) pa_nil)) pa_nil)) (blkOk_by (own := [("_law_k", 5)]) (N := N__law_ringed) (sc := defScope s__law_ringed) (by decide +kernel)) (fun _ _ _ _ _ => (pg_name (i := 5) sc__law_ringed.nd rfl (Or.inl rfl))) (fun _ _ _ _ _ => pts_nil) (fun _ _ _ _ _ => (pe_cmpR op_ne (pe_ix (r := rIxL K) ix_list (pv 0) (pe_ix (r := rIxL K) ix_list (pv 3) (pe_op op_sub (pv 5) pe_int) (fun _ _ => rfl)) (fun _ _ => rfl)) (pe_ix (r := rIxL K) ix_list (pv 3) (pv 5) (fun _ _ => rfl)) (nomark _)))) pa_nil))) (pss_one (ps_ret pe_bl)) pss_nil)
      (pss_one (ps_expr (pe_bm PySem.F.plainAttrs_list PySem.F.slot_list_extend PySem.F.type_list_extend mt_extend (pv 2) (pa_cons (pv 3) pa_nil)))))))
      (pss_one (ps_ret (pe_cmpR (r := rEqD K) (op_eqD hr.units) (pe_callB (r := rSortedI K) cr_sortedI (by rfl) T.b_sorted PyProof.Rows.boot_sorted (pa_cons (pv 2) pa_nil)) (pe_listRg rfl (by rfl) T.b_list (prg_1 (by rfl) T.b_range (pe_callB (r := rLen2 K) call_len_seq (by rfl) T.b_len PySem.boot_len (pa_cons (pv 0) pa_nil)))) (nomark _)))))), ?_⟩
    have la := hL.1
    walk_at "k"
    walk_at "go"
    refine ⟨Nat.zero_le _, fun p np => ?_⟩
    walk_at "go"
    refine k_lstN (f := V.ref) as (fun i σ H' => ∃ rr x1 x2, σ = [some (.ref a), some (.ref b), some (.ref p), rr, x1, x2] ∧ Same H H' ∧ H' p = some (.lst (((told.take i).flatten).map V.int)) ∧ (told.take i).all (okRing ns) = true)
        (by walk_at "sq") ⟨none, none, none, rfl, by walk_at "same", by walk_at "hp", rfl⟩ (fun i σ H' _ ⟨_, _, _, _, s2, _⟩ => s2.seq hB) ?_ ?_
    · rintro i pr σ H' hi ⟨rr, x1, x2, rfl, s3, h1, a1⟩
      walk_at "d"
      obtain ⟨r, hr1, hr2⟩ : ∃ r, told[i]? = some r ∧ H pr = some (oL r) := by
        have hlt : i < told.length := by rw [← hL.1]; exact (List.getElem?_eq_some_iff.mp hi).1
        exact ⟨_, List.getElem?_eq_getElem hlt, hL.2 i pr _ hi (List.getElem?_eq_getElem hlt)⟩
      have hrm : r ∈ told := List.mem_of_getElem? hr1
      have br := hb r hrm
      have z1 := flatten_take_le told (i + 1)
      rw [flatten_take hr1, List.length_append] at z1
      have no : okRing ns r = false → ringed ns told = false := fun h => by
        unfold ringed
        rw [show told.all (okRing ns) = false from List.all_eq_false.mpr ⟨r, hrm, by rw [h]; exact Bool.false_ne_true⟩, Bool.false_and]
      have hpr : H' pr = some (oL r) := s3 _ _ hr2
      walk_at "go"
      refine ⟨Nat.zero_le _, fun e ne => ?_⟩
      refine o_eqL (ns := r) (ms := []) (by walk_at "sq") (by walk_at "sq") ?_
      walk_at "go"
      refine ite_dec (fun h => ?_) (fun h => ?_)
      · walk_at "go"
        have := q _ (show Same H (upd H' e (.lst [])) by walk_at "same")
        rw [no (by subst h; rfl)] at this
        exact this
      · have hne : (!r.isEmpty) = true := by cases r with
          | nil => exact absurd rfl h
          | cons _ _ => rfl
        walk_at "go"
        refine k_lcV (xs := r) (f := V.int) (h := V.bl) (fun x => !(decide (0 ≤ x) && decide (x < ns.length))) (by walk_at "sq") (by omega) (fun _ => rfl) ?_ ?_
        · intro i x H2 R' hx s2 k2
          walk_at "go"
          have k3 := k2 H2 (Same.refl _)
          refine ite_dec (fun h1 => ?_) (fun h1 => ?_)
          · walk_at "go"
            rw [decide_eq_true h1, Bool.true_and] at k3
            exact k3
          · walk_at "go"
            rw [decide_eq_false h1, Bool.false_and] at k3
            exact k3
        · intro D H2 nD s2 hD
          walk_at "go"
          rw [any_not]
          cases hA : r.all fun x => decide (0 ≤ x) && decide (x < (ns.length : Int)) with
          | false =>
            walk_at "go"
            have := q _ (show Same H H2 by walk_at "same")
            rw [no (by unfold okRing; rw [hA, Bool.and_false, Bool.false_and])] at this
            exact this
          | true =>
            walk_at "go"
            have bx : ∀ x ∈ r, 0 ≤ x ∧ x < (ns.length : Int) := fun x hx => by
              have := List.all_eq_true.mp hA x hx
              rw [Bool.and_eq_true, decide_eq_true_eq, decide_eq_true_eq] at this
              exact this
            refine k_lcR1 (h := V.bl) (fun k => !decide (gt ns (gt r ((k : Int) - 1)) = gt r (k : Int))) (by omega) (fun _ => rfl) ?_ ?_
            · intro k H3 R' hk s3 k3
              have hx1 := bx (gt r ((k : Int) - 1)) (gt_mem (by omega) (by omega))
              walk_at "go"
              exact k3 H3 (Same.refl _)
            · intro D2 H3 nD2 s4 hD2
              walk_at "go"
              rw [Int.toNat_natCast, any_not]
              cases hC : (List.range r.length).all fun k => decide (gt ns (gt r ((k : Int) - 1)) = gt r (k : Int)) with
              | false =>
                walk_at "go"
                have := q _ (show Same H H3 by walk_at "same")
                rw [no (by unfold okRing; rw [hC, Bool.and_false])] at this
                exact this
              | true =>
                walk_at "go"
                have hp3 : H3 p = some (.lst (((told.take i).flatten).map V.int)) := by walk_at "hp"
                refine m_ext hp3 (show H3 pr = some (oL r) by walk_at "hp") (by omega) ?_
                walk_at "go"
                refine ⟨_, _, _, rfl, by walk_at "same", ?_, ?_⟩
                · rw [flatten_take hr1]; exact upd_same
                · rw [List.take_add_one, hr1, List.all_append, a1]
                  show (true && ((okRing ns r) && true)) = true
                  unfold okRing
                  rw [hA, hC, hne]; rfl
    · rintro σ H' ⟨rr, x1, x2, rfl, s3, h1, a1⟩
      rw [la, List.take_length] at h1 a1
      walk_at "d"
      walk_at "go"
      refine c_sorted (by walk_at "sq") fun ns' l pm so nl => ?_
      walk_at "go"
      refine k_listRg (by omega) fun l2 nl2 => ?_
      refine o_eqL (ns := ns') (ms := upTo ns.length) (by walk_at "sq") (by walk_at "sq") ?_
      rw [sorted_isAll pm so]
      have := q _ (show Same H (upd (upd H' l (.lst (ns'.map V.int))) l2 (.lst ((upTo ns.length).map V.int))) by walk_at "same")
      unfold ringed at this
      rw [a1, Bool.true_and] at this
      exact this
end
end Bo

namespace Bo
open PySem PySem.Spec PyProof.Rows L2
/-! ### steps of a reading: each a row of its own -/
local macro_rules | `(tactic| walk_at "ne") => `(tactic| first
  | assumption
  | (apply Ne.symm; assumption)
  | (apply neo; assumption; walk_at "hp")
  | (apply Ne.symm; apply neo; assumption; walk_at "hp"))
local macro_rules | `(tactic| walk_at "hp") => `(tactic| first
  | assumption
  | exact upd_same
  | (apply lift_ne; walk_at "hp"; walk_at "ne")
  | (apply Same.up; assumption; walk_at "hp"))
local macro_rules | `(tactic| walk_at "same") => `(tactic| first
  | assumption
  | exact Same.refl _
  | (apply Same.new; walk_at "same"; walk_at "fr")
  | (apply same_trans; assumption; walk_at "same"))
local macro_rules | `(tactic| walk_at "fr") => `(tactic| first
  | assumption
  | (apply same_free; assumption; walk_at "same"))
local macro_rules | `(tactic| walk_at "sq") => `(tactic| first
  | assumption
  | (apply SqL.of; walk_at "hp")
  | (apply same_seq; assumption; walk_at "same"))
local macro_rules | `(tactic| walk_at "sqt") => `(tactic| first
  | assumption
  | (apply SqT.of; walk_at "hp")
  | (apply same_sqt; assumption; walk_at "same"))
local macro_rules | `(tactic| walk_at "nw") => `(tactic| first
  | assumption
  | (apply News.mut; walk_at "nw"; (first | assumption | (refine News.notin (by assumption) ?_; assumption)))
  | (apply News.same; walk_at "nw"; walk_at "same"))
/-! one step -/
local macro_rules | `(tactic| walk_at "go1") => `(tactic| first
  | with_reducible refine r_seq ?_
  | with_reducible refine r_asgN ?_
  | with_reducible refine r_set ?_
  | with_reducible refine r_ret ?_
  | with_reducible refine r_drop ?_
  | with_reducible refine r_if ?_
  | with_reducible refine r_next ?_
  | ((with_reducible apply r_nxD); with_reducible refine r_nx ?_)
  | ((with_reducible apply r_rtD); with_reducible refine r_rt ?_)
  | with_reducible refine r_par ?_
  | with_reducible refine k_par ?_
  | with_reducible refine r_fld ?_
  | ((with_reducible apply r_aug); exact rfl)
  | with_reducible refine i_ip ?_
  | ((with_reducible apply e_var); exact rfl)
  | with_reducible refine e_c ?_
  | with_reducible refine e_op ?_
  | with_reducible refine e_un ?_
  | with_reducible refine o_I0 ?_
  | with_reducible refine o_neg ?_
  | with_reducible refine o_eqI ?_
  | with_reducible refine o_neI ?_
  | with_reducible refine o_eqB ?_
  | with_reducible refine o_neB ?_
  | with_reducible refine o_eqS ?_
  | with_reducible refine o_neS ?_
  | with_reducible refine a_nil ?_
  | with_reducible refine a_cons ?_
  | with_reducible refine e_cb ?_
  | with_reducible refine e_call ?_
  | with_reducible refine e_make ?_
  | with_reducible refine e_meth ?_
  | with_reducible refine e_fld ?_
  | with_reducible refine e_lst ?_
  | with_reducible refine e_tup ?_
  | with_reducible refine e_bm ?_
  | with_reducible refine e_bm0 ?_
  | with_reducible refine e_rev ?_
  | with_reducible refine e_sl ?_
  | with_reducible refine e_nopart ?_
  | with_reducible refine e_part ?_
  | with_reducible refine i_ok ?_
  | with_reducible refine e_lenset ?_
  | with_reducible refine e_listRg1 ?_
  | with_reducible refine t_test ?_
  | with_reducible refine t_B ?_
  | with_reducible refine b_ok ?_
  | with_reducible refine t_and ?_
  | with_reducible refine t_or ?_
  | with_reducible refine t_not ?_
  | with_reducible refine v_and ?_
  | with_reducible refine v_or ?_
  | with_reducible refine v_not ?_
  | with_reducible refine e_if ?_
  | with_reducible refine e_chain ?_
  | with_reducible refine e_chain3 ?_
  | with_reducible refine iteT ?_
  | with_reducible refine iteF ?_
  | with_reducible refine ite_nT ?_
  | with_reducible refine ite_nF ?_
  | with_reducible refine r_forL ?_
  | with_reducible refine r_forT ?_
  | with_reducible refine r_forE ?_
  | with_reducible refine r_forR1 ?_
  | with_reducible refine r_forR2 ?_
  | with_reducible refine e_lcL ?_
  | with_reducible refine e_lcR1 ?_
  | with_reducible refine e_lcR2 ?_
  | with_reducible refine r_dput ?_
  | with_reducible refine e_dget ?_
  | with_reducible refine e_dnin ?_
  | with_reducible refine c_max2 ?_
  | with_reducible refine c_min2 ?_
  | ((with_reducible apply c_isiI); (first | exact (show kitB "int" _ = some true by decide +kernel) | exact (show kitB "int" _ = some false by decide +kernel)))
  | ((with_reducible apply m_ty); walk_at "sq"))
local macro_rules | `(tactic| walk_at "go2") => `(tactic| first
  | ((with_reducible apply o_ixI); walk_at "sq"; omega)
  | ((with_reducible refine o_mod ?_ ?_); omega)
  | ((with_reducible refine o_fdiv ?_ ?_); omega)
  | ((with_reducible refine o_mulR ?_ ?_); omega)
  | ((with_reducible refine o_mulL ?_ ?_); omega)
  | ((with_reducible apply c_lenM); walk_at "sq")
  | ((with_reducible apply c_all); walk_at "sq")
  | ((with_reducible apply c_any); walk_at "sq")
  | ((with_reducible apply o_in); walk_at "sq")
  | ((with_reducible apply o_nin); walk_at "sq")
  | ((with_reducible apply o_ixB); walk_at "sq"; omega)
  | ((with_reducible apply m_setB); walk_at "hp"; omega)
  | ((with_reducible apply m_appR); walk_at "hp"; omega)
  | ((with_reducible apply m_ins); walk_at "hp"; omega; omega)
  | ((with_reducible apply m_appM); walk_at "hp"; exact rfl; omega)
  | ((with_reducible apply m_setI); walk_at "hp"; omega))
local macro_rules | `(tactic| walk_at "d") => `(tactic| try dsimp only)
local macro_rules | `(tactic| walk_at "k") => `(tactic| try dsimp only [cxOf, Cx.nox, Cx.blk])
local macro_rules | `(tactic| walk_at "go") => `(tactic| repeat (first | walk_at "go1" | walk_at "go2"))

section
variable {P : Program} {w : World} {K : PySem.W.Frag} {mg : Str → Option Value} {base : Heap} {C_Exchanged C_Fronted C_Ended C_Put C_Answer : Addr} (T : Top K mg C_Exchanged C_Fronted C_Ended C_Put C_Answer)
include T

def sp_places_of (K : PySem.W.Frag) : Sp := fun vs H Q _ => ∃ (a : Addr) (ns : List Int), vs = [.ref a] ∧ SqL K H a (ns.map V.int) ∧ IsRow ns ∧ ∀ p H', Same H H' → H p = none → H' p = some (.lst ((placesOf ns).map V.int)) → Q (.ref p) H'
theorem ok_places_of : Cc P w K mg base 1 "places_of" (sp_places_of K) := by
  skip
  refine Cc.mk' T.d_places_of sc_places_of ?_ ?_
  · rintro vs H Q E ⟨a, ns, rfl, _⟩; rfl
  · rintro f cdv A outer s H vs Q E hr ⟨a, ns, rfl, hS, R, q⟩
    have hl := R.len
    refine ⟨_, (pss_cons (ps_setLc (i := 1) (own := [("thing", 3)]) (g := gName 3) (tt := tYes) rfl sc_places_of.nd rfl rfl (sw_true rfl rfl rfl (by decide +kernel)) (pi_list (pv 0)) (blkOk_by (own := [("thing", 3)]) (N := N_places_of) (sc := defScope s_places_of) (by decide +kernel)) (fun _ _ _ _ _ => (pg_name (i := 3) sc_places_of.nd rfl (Or.inl rfl))) (fun _ _ _ _ _ => pts_nil) (fun _ _ _ _ _ => pe_int))
      (pss_cons (ps_for PassesOwn.never rfl (pi_enum (by rfl) T.b_enumerate (pa_cons (pv 0) pa_nil)) (pg_tup rfl (pgs_cons (pg_name (i := 2) sc_places_of.nd rfl (by first | exact Or.inl rfl | exact Or.inr rfl)) (pgs_cons (pg_name (i := 3) sc_places_of.nd rfl (by first | exact Or.inl rfl | exact Or.inr rfl)) pgs_nil))) (pss_one (ps_asg (pv 2) (pg_sub (pv 1) (pv 3) set_list))))
      (pss_one (ps_ret (pv 1))))), ?_⟩
    walk_at "k"
    walk_at "go"
    refine k_lcV (xs := ns) (f := V.int) (h := V.int) (fun _ => 0) (by walk_at "sq") (by omega) (fun _ => rfl) (fun i x H2 R' hx s2 k2 => k2 H2 (Same.refl _)) ?_
    intro p H1 np s1 hp
    walk_at "go"
    refine k_enum (f := V.int) ns (fun i σ H' => ∃ v2 v3, σ = [some (.ref a), some (.ref p), v2, v3] ∧ Same H H' ∧ H' p = some (.lst ((plAux ns i).map V.int)))
      (by walk_at "sq") ⟨_, _, rfl, by walk_at "same", by walk_at "hp"⟩ (fun i σ H' _ ⟨_, _, _, s2, _⟩ => s2.seq hS) ?_ ?_
    · rintro i x σ H' T' hx ⟨v2, v3, rfl, s2, h2⟩ nT
      walk_at "d"
      have hi : i < ns.length := (List.getElem?_eq_some_iff.mp hx).1
      have e := gt_get hx
      have b := R.bd x (List.mem_of_getElem? hx)
      have l := plAux_length ns i
      have pT : p ≠ T' := by walk_at "ne"
      walk_at "go"
      refine ⟨_, _, rfl, by walk_at "same", ?_⟩
      show _ = some (HO.lst ((st (plAux ns i) (gt ns (i : Int)) (i : Int)).map V.int))
      rw [e]; exact upd_same
    · rintro σ H' ⟨v2, v3, rfl, s2, h2⟩
      walk_at "go"
      exact q p H' s2 np h2
def sp_is_order (K : PySem.W.Frag) : Sp := fun vs H Q _ => ∃ (a : Addr) (ns : List Int), vs = [.ref a] ∧ SqL K H a (ns.map V.int) ∧ ns.length ≤ 1000 ∧ ∀ H', Same H H' → Q (.bl (decide (ns = upTo ns.length))) H'
theorem ok_is_order : Cc P w K mg base 1 "is_order" (sp_is_order K) := by
  skip
  refine Cc.mk' T.d_is_order sc_is_order ?_ ?_
  · rintro vs H Q E ⟨a, ns, rfl, _⟩; rfl
  · rintro f cdv A outer s H vs Q E hr ⟨a, ns, rfl, hS, hl, q⟩
    refine ⟨_, (pss_one (ps_ret (pe_callB (r := rAll K) (cr_all rfl) (by rfl) T.b_all PyProof.Rows.boot_all (pa_cons (pe_lc (own := [("place", 1)]) (g := gName 1) (tt := tYes) rfl sc_is_order.nd (pi_range1 (by rfl) T.b_range (pa_cons (pe_callB (r := rLen2 K) call_len_seq (by rfl) T.b_len PySem.boot_len (pa_cons (pv 0) pa_nil)) pa_nil)) (blkOk_by (own := [("place", 1)]) (N := N_is_order) (sc := defScope s_is_order) (by decide +kernel)) (fun _ _ _ _ _ => (pg_name (i := 1) sc_is_order.nd rfl (Or.inl rfl))) (fun _ _ _ _ _ => pts_nil) (fun _ _ _ _ _ => (pe_cmpR op_eq (pe_ix (r := rIxL K) ix_list (pv 0) (pv 1) (fun _ _ => rfl)) (pv 1) (nomark _)))) pa_nil)))), ?_⟩
    walk_at "k"
    walk_at "go"
    refine k_lcR1 (h := V.bl) (fun i : Nat => decide (gt ns (i : Int) = (i : Int))) (by omega) (fun _ => rfl) ?_ ?_
    · intro i H2 R' hi s2 k2
      walk_at "go"
      exact k2 H2 (Same.refl _)
    · intro D H2 nD s2 hD
      walk_at "go"
      rw [Int.toNat_natCast, order_all]
      exact q _ s2
def sp_law_exchanged (K : PySem.W.Frag) : Sp := fun vs H Q _ => ∃ (a b : Addr) (ns : List Int) (ts : List Addr) (ps : List (Int × Int)), vs = [.ref a, .ref b] ∧ SqL K H a (ns.map V.int) ∧ SqL K H b (ts.map V.ref) ∧ Tf H ts ps ∧ ns.length ≤ 1000 ∧
  ∀ p H', Same H H' → H p = none → H' p = some (.lst ((exL ns ps).map V.int)) → Q (.ref p) H'
theorem ok__law_exchanged : Cc P w K mg base 1 "_law_exchanged" (sp_law_exchanged K) := by
  skip
  refine Cc.mk' T.d__law_exchanged sc__law_exchanged ?_ ?_
  · rintro vs H Q E ⟨a, b, ns, ts, ps, rfl, _⟩; rfl
  · rintro f cdv A outer s H vs Q E hr ⟨a, b, ns, ts, ps, rfl, hS, hB, hT, hl, q⟩
    refine ⟨_, (pss_cons (ps_set (i := 2) sc__law_exchanged.nd rfl (by first | exact Or.inl rfl | exact Or.inr rfl) (pe_callTy (r := rList2 K) call_list_of (by rfl) T.b_list PyProof.Rows.boot_list (pa_cons (pv 0) pa_nil)))
      (pss_cons (ps_for PassesOwn.never rfl (pi_list (pv 1)) (pg_tup rfl (pgs_cons (pg_name (i := 3) sc__law_exchanged.nd rfl (by first | exact Or.inl rfl | exact Or.inr rfl)) (pgs_cons (pg_name (i := 4) sc__law_exchanged.nd rfl (by first | exact Or.inl rfl | exact Or.inr rfl)) pgs_nil))) (pss_cons (ps_if (pt_not (pt_chain3 op_le op_lt op_lt pe_int (pv 3) (pv 4) (pe_callB (r := rLen2 K) call_len_seq (by rfl) T.b_len PySem.boot_len (pa_cons (pv 0) pa_nil)))) (pss_one (ps_ret (pe_lst pa_nil))) pss_nil)
      (pss_cons (ps_set (i := 5) sc__law_exchanged.nd rfl (by first | exact Or.inl rfl | exact Or.inr rfl) (pe_ix (r := rIxL K) ix_list (pv 2) (pv 3) (fun _ _ => rfl)))
      (pss_cons (ps_asg (pe_ix (r := rIxL K) ix_list (pv 2) (pv 4) (fun _ _ => rfl)) (pg_sub (pv 2) (pv 3) set_list))
      (pss_one (ps_asg (pv 5) (pg_sub (pv 2) (pv 4) set_list)))))))
      (pss_one (ps_ret (pv 2))))), ?_⟩
    walk_at "k"
    walk_at "go"
    refine c_list hS fun p np => ?_
    walk_at "go"
    refine k_lstP (ts := ts) (ps := ps) (fun i σ H' => ∃ v3 v4 v5, σ = [some (.ref a), some (.ref b), some (.ref p), v3, v4, v5] ∧ Same H H' ∧ H' p = some (.lst (((ps.take i).foldl swap ns).map V.int)) ∧ (ps.take i).all (swapOk ns.length) = true)
      (by walk_at "sq") hT.1 ⟨_, _, _, rfl, by walk_at "same", by walk_at "hp", rfl⟩ (fun i σ H' _ ⟨_, _, _, _, s2, _⟩ => ⟨s2.seq hB, hT.same s2⟩) ?_ ?_
    · rintro i pr σ H' hi ⟨v3, v4, v5, rfl, s2, h2, a2⟩
      walk_at "d"
      have lf : ((ps.take i).foldl swap ns).length = ns.length := swaps_length _ _
      have l2 : (st ((ps.take i).foldl swap ns) pr.1 (gt ((ps.take i).foldl swap ns) pr.2)).length = ns.length := by rw [st_length]; exact lf
      have no : swapOk ns.length pr = false → exL ns ps = [] := fun h => by
        unfold exL
        rw [if_neg]
        intro z
        have := List.all_eq_true.mp z pr (List.mem_of_getElem? hi)
        rw [h] at this; cases this
      have bad : swapOk ns.length pr = false → ∀ o, H' o = none → Q (.ref o) (upd H' o (.lst [])) := fun h o no' => by
        refine q o _ (by walk_at "same") (by walk_at "fr") ?_
        rw [no h]; exact upd_same
      walk_at "go"
      refine ite_dec (fun c1 => ?_) (fun c1 => ?_)
      · walk_at "go"
        refine ite_dec (fun c2 => ?_) (fun c2 => ?_)
        · walk_at "go"
          refine ite_ndec (fun c3 => ?_) (fun c3 => ?_)
          · walk_at "go"
            refine ⟨Nat.zero_le _, fun o no' => ?_⟩
            walk_at "go"
            exact bad (by unfold swapOk; rw [decide_eq_false c3, Bool.and_false, Bool.and_false]) o no'
          · walk_at "go"
            refine ⟨_, _, _, rfl, by walk_at "same", ?_, ?_⟩
            · rw [foldl_take hi]
              exact upd_same
            · rw [List.take_add_one, hi, List.all_append, a2]
              show (true && (swapOk ns.length pr && true)) = true
              unfold swapOk
              rw [decide_eq_true c1, decide_eq_true c2, decide_eq_true c3]; rfl
        · walk_at "go"
          refine ⟨Nat.zero_le _, fun o no' => ?_⟩
          walk_at "go"
          exact bad (by unfold swapOk; rw [decide_eq_false c2, Bool.false_and, Bool.and_false]) o no'
      · walk_at "go"
        refine ⟨Nat.zero_le _, fun o no' => ?_⟩
        walk_at "go"
        exact bad (by unfold swapOk; rw [decide_eq_false c1, Bool.false_and]) o no'
    · rintro σ H' ⟨v3, v4, v5, rfl, s2, h2, a2⟩
      rw [List.take_length] at h2 a2
      walk_at "go"
      refine q p H' s2 np ?_
      unfold exL
      rw [if_pos a2]; exact h2
end
end Bo

namespace Bo
open PySem PySem.Spec PyProof.Rows L2
/-! ### steps of a reading: each a row of its own -/
local macro_rules | `(tactic| walk_at "ne") => `(tactic| first
  | assumption
  | (apply Ne.symm; assumption)
  | (apply neo; assumption; walk_at "hp")
  | (apply Ne.symm; apply neo; assumption; walk_at "hp"))
local macro_rules | `(tactic| walk_at "hp") => `(tactic| first
  | assumption
  | exact upd_same
  | (apply lift_ne; walk_at "hp"; walk_at "ne")
  | (apply Same.up; assumption; walk_at "hp"))
local macro_rules | `(tactic| walk_at "same") => `(tactic| first
  | assumption
  | exact Same.refl _
  | (apply Same.new; walk_at "same"; walk_at "fr")
  | (apply same_trans; assumption; walk_at "same"))
local macro_rules | `(tactic| walk_at "fr") => `(tactic| first
  | assumption
  | (apply same_free; assumption; walk_at "same"))
local macro_rules | `(tactic| walk_at "sq") => `(tactic| first
  | assumption
  | (apply SqL.of; walk_at "hp")
  | (apply same_seq; assumption; walk_at "same"))
local macro_rules | `(tactic| walk_at "sqt") => `(tactic| first
  | assumption
  | (apply SqT.of; walk_at "hp")
  | (apply same_sqt; assumption; walk_at "same"))
local macro_rules | `(tactic| walk_at "nw") => `(tactic| first
  | assumption
  | (apply News.mut; walk_at "nw"; (first | assumption | (refine News.notin (by assumption) ?_; assumption)))
  | (apply News.same; walk_at "nw"; walk_at "same"))
/-! one step -/
local macro_rules | `(tactic| walk_at "go1") => `(tactic| first
  | with_reducible refine r_seq ?_
  | with_reducible refine r_asgN ?_
  | with_reducible refine r_set ?_
  | with_reducible refine r_ret ?_
  | with_reducible refine r_drop ?_
  | with_reducible refine r_if ?_
  | with_reducible refine r_next ?_
  | ((with_reducible apply r_nxD); with_reducible refine r_nx ?_)
  | ((with_reducible apply r_rtD); with_reducible refine r_rt ?_)
  | with_reducible refine r_par ?_
  | with_reducible refine k_par ?_
  | with_reducible refine r_fld ?_
  | ((with_reducible apply r_aug); exact rfl)
  | with_reducible refine i_ip ?_
  | ((with_reducible apply e_var); exact rfl)
  | with_reducible refine e_c ?_
  | with_reducible refine e_op ?_
  | with_reducible refine e_un ?_
  | with_reducible refine o_I0 ?_
  | with_reducible refine o_neg ?_
  | with_reducible refine o_eqI ?_
  | with_reducible refine o_neI ?_
  | with_reducible refine o_eqB ?_
  | with_reducible refine o_neB ?_
  | with_reducible refine o_eqS ?_
  | with_reducible refine o_neS ?_
  | with_reducible refine a_nil ?_
  | with_reducible refine a_cons ?_
  | with_reducible refine e_cb ?_
  | with_reducible refine e_call ?_
  | with_reducible refine e_make ?_
  | with_reducible refine e_meth ?_
  | with_reducible refine e_fld ?_
  | with_reducible refine e_lst ?_
  | with_reducible refine e_tup ?_
  | with_reducible refine e_bm ?_
  | with_reducible refine e_bm0 ?_
  | with_reducible refine e_rev ?_
  | with_reducible refine e_sl ?_
  | with_reducible refine e_nopart ?_
  | with_reducible refine e_part ?_
  | with_reducible refine i_ok ?_
  | with_reducible refine e_lenset ?_
  | with_reducible refine e_listRg1 ?_
  | with_reducible refine t_test ?_
  | with_reducible refine t_B ?_
  | with_reducible refine b_ok ?_
  | with_reducible refine t_and ?_
  | with_reducible refine t_or ?_
  | with_reducible refine t_not ?_
  | with_reducible refine v_and ?_
  | with_reducible refine v_or ?_
  | with_reducible refine v_not ?_
  | with_reducible refine e_if ?_
  | with_reducible refine e_chain ?_
  | with_reducible refine e_chain3 ?_
  | with_reducible refine iteT ?_
  | with_reducible refine iteF ?_
  | with_reducible refine ite_nT ?_
  | with_reducible refine ite_nF ?_
  | with_reducible refine r_forL ?_
  | with_reducible refine r_forT ?_
  | with_reducible refine r_forE ?_
  | with_reducible refine r_forR1 ?_
  | with_reducible refine r_forR2 ?_
  | with_reducible refine e_lcL ?_
  | with_reducible refine e_lcR1 ?_
  | with_reducible refine e_lcR2 ?_
  | with_reducible refine r_dput ?_
  | with_reducible refine e_dget ?_
  | with_reducible refine e_dnin ?_
  | with_reducible refine c_max2 ?_
  | with_reducible refine c_min2 ?_
  | ((with_reducible apply c_isiI); (first | exact (show kitB "int" _ = some true by decide +kernel) | exact (show kitB "int" _ = some false by decide +kernel)))
  | ((with_reducible apply m_ty); walk_at "sq"))
local macro_rules | `(tactic| walk_at "go2") => `(tactic| first
  | ((with_reducible apply o_ixI); walk_at "sq"; omega)
  | ((with_reducible refine o_mod ?_ ?_); omega)
  | ((with_reducible refine o_fdiv ?_ ?_); omega)
  | ((with_reducible refine o_mulR ?_ ?_); omega)
  | ((with_reducible refine o_mulL ?_ ?_); omega)
  | ((with_reducible apply c_lenM); walk_at "sq")
  | ((with_reducible apply c_all); walk_at "sq")
  | ((with_reducible apply c_any); walk_at "sq")
  | ((with_reducible apply o_in); walk_at "sq")
  | ((with_reducible apply o_nin); walk_at "sq")
  | ((with_reducible apply o_ixB); walk_at "sq"; omega)
  | ((with_reducible apply m_setB); walk_at "hp"; omega)
  | ((with_reducible apply m_appR); walk_at "hp"; omega)
  | ((with_reducible apply m_ins); walk_at "hp"; omega; omega)
  | ((with_reducible apply m_appM); walk_at "hp"; exact rfl; omega)
  | ((with_reducible apply m_setI); walk_at "hp"; omega))
local macro_rules | `(tactic| walk_at "d") => `(tactic| try dsimp only)
local macro_rules | `(tactic| walk_at "k") => `(tactic| try dsimp only [cxOf, Cx.nox, Cx.blk])
local macro_rules | `(tactic| walk_at "go") => `(tactic| repeat (first | walk_at "go1" | walk_at "go2"))

section
variable {P : Program} {w : World} {K : PySem.W.Frag} {mg : Str → Option Value} {base : Heap} {C_Exchanged C_Fronted C_Ended C_Put C_Answer : Addr} (T : Top K mg C_Exchanged C_Fronted C_Ended C_Put C_Answer)
include T

def sp_Ex_init (K : PySem.W.Frag) (C : Addr) : Sp := fun vs H Q _ => ∃ (x a b dx : Addr) (ts as : List Addr) (ps : List (Int × Int)) (rs : List (List Int)) (H0 : Hp), vs = [.ref x, .ref a, .ref b] ∧ H x = some (.ins C dx []) ∧ Same H0 H ∧ H0 x = none ∧
  SqL K H0 a (ts.map V.ref) ∧ SqL K H0 b (as.map V.ref) ∧ Lf H0 as rs ∧ Tf H0 ts ps ∧ rs.length ≤ 1000 ∧ (∀ r ∈ rs, r.length ≤ 1000) ∧
  ∀ pp pr bs H', Same H0 H' → H0 pp = none → H0 pr = none → pp ≠ pr → News H0 H' oL bs rs → pp ∉ bs → pr ∉ bs → ExA C H' x pp pr ts bs ps rs → Q .non H'
theorem ok_Exchanged___init__ : Ck P w K mg base 1 "Exchanged" C_Exchanged (sp_Ex_init K C_Exchanged) := by
  skip
  refine Ck.mk' T.k_Exchanged sc_Exchanged___init__ ?_ ?_
  · rintro vs H Q E ⟨x, a, b, dx, ts, as, ps, rs, H0, rfl, _⟩; rfl
  · rintro f cdv A outer s H vs Q E hr ⟨x, a, b, dx, ts, as, ps, rs, H0, rfl, hx, s0, nx, hA, hB, hL, hT, hl, hrl, q⟩
    refine ⟨_, (pss_cons (ps_fld (pv 0) (pe_callTy (r := rList2 K) call_list_of (by rfl) T.b_list PyProof.Rows.boot_list (pa_cons (pv 1) pa_nil)) rfl)
      (pss_one (ps_fld (pv 0) (pe_lc (own := [("ring", 3)]) (g := gName 3) (tt := tYes) rfl sc_Exchanged___init__.nd (pi_list (pv 2)) (blkOk_by (own := [("ring", 3)]) (N := N_Exchanged___init__) (sc := defScope s_Exchanged___init__) (by decide +kernel)) (fun _ _ _ _ _ => (pg_name (i := 3) sc_Exchanged___init__.nd rfl (Or.inl rfl))) (fun _ _ _ _ _ => pts_nil) (fun _ _ _ _ _ => (pe_callTy (r := rList2 K) call_list_of (by rfl) T.b_list PyProof.Rows.boot_list (pa_cons (pv 3) pa_nil)))) rfl))), ?_⟩
    walk_at "k"
    walk_at "go"
    refine c_list (s0.seq hA) fun pp npp => ?_
    have e1 : x ≠ pp := neo npp hx
    have npp0 : H0 pp = none := s0.free npp
    walk_at "go"
    refine k_fld (lift_ne hx e1) T.cl_Exchanged T.na_Exchanged_pairs (by decide) ?_
    have s1 : Same H0 (upd (upd H pp (.lst (ts.map V.ref))) x (.ins C_Exchanged dx (putF "pairs" (.ref pp) []))) := by walk_at "same"
    have hx1 : (upd (upd H pp (.lst (ts.map V.ref))) x (.ins C_Exchanged dx (putF "pairs" (.ref pp) []))) x = some (.ins C_Exchanged dx (putF "pairs" (.ref pp) [])) := upd_same
    have hp1 : (upd (upd H pp (.lst (ts.map V.ref))) x (.ins C_Exchanged dx (putF "pairs" (.ref pp) []))) pp = some (.lst (ts.map V.ref)) := by rw [upd_ne (Ne.symm e1)]; exact upd_same
    generalize upd (upd H pp (.lst (ts.map V.ref))) x (.ins C_Exchanged dx (putF "pairs" (.ref pp) [])) = H1 at s1 hx1 hp1
    walk_at "go"
    refine k_lcNf (as := as) (xss := rs) oL (s1.seq hB) hL.1 (by rw [hL.1]; omega) (fun _ => rfl) ?_ ?_
    · intro k t r H4 R' ht hr4 s4 k4
      have h4 : H4 t = some (oL r) := s4 _ _ (s1 _ _ (hL.2 k t r ht hr4))
      walk_at "go"
      refine c_list (SqL.of h4) fun l nl => ?_
      exact k4 l _ nl (Same.one nl) upd_same
    intro pr bs H2 npr s2 n2 m2 h2
    have hx2 := s2 _ _ hx1
    have hp2 := s2 _ _ hp1
    have e2 : pp ≠ pr := neo npr hp1
    have e3 : x ≠ pr := neo npr hx1
    have m3 : pp ∉ bs := fun hm => by
      obtain ⟨_, _, z, _⟩ := n2.mem hm
      rw [hp1] at z; cases z
    have m4 : x ∉ bs := fun hm => by
      obtain ⟨_, _, z, _⟩ := n2.mem hm
      rw [hx1] at z; cases z
    walk_at "go"
    refine k_fld hx2 T.cl_Exchanged T.na_Exchanged_rings (show (1 : Nat) < 1000 by decide) ?_
    have s3 : Same H0 (upd H2 x (.ins C_Exchanged dx (exF pp pr))) := Same.new (s1.trans s2) nx
    walk_at "go"
    refine q pp pr bs _ s3 npp0 (s1.free npr) e2 ((n2.mut m4).back s1) m3 m2 ⟨⟨dx, upd_same⟩, lift_ne hp2 (Ne.symm e1), lift_ne h2 (Ne.symm e3), hT.same s3, Lf.of (n2.mut m4)⟩
def sp_Ex_rings (K : PySem.W.Frag) (C : Addr) : Sp := fun vs H Q _ => ∃ (x pp pr a : Addr) (ts bs : List Addr) (ps : List (Int × Int)) (rs : List (List Int)) (ns : List Int), vs = [.ref x, .ref a] ∧ ExA C H x pp pr ts bs ps rs ∧ SqL K H a (ns.map V.int) ∧ ns.length ≤ 1000 ∧
  ts.length ≤ 10000 ∧ bs.length ≤ 10000 ∧ (∀ r ∈ rs, r.length ≤ 1000) ∧ rs.flatten.length ≤ 10000 ∧ ∀ H', Same H H' → Q (.bl (ringed ns rs && decide ((rs.length : Int) + ps.length = ns.length))) H'
theorem ok_Exchanged_rings_show : Cm P w K mg base 3 C_Exchanged "rings_show" (sp_Ex_rings K C_Exchanged) := by
  have c_is_ring := ok_is_ring (P := P) (w := w) (base := base) T
  refine Cm.mk' T.m_Exchanged_rings_show sc_Exchanged_rings_show ?_ ?_
  · rintro vs H Q E ⟨x, pp, pr, a, ts, bs, ps, rs, ns, rfl, _⟩; rfl
  · rintro f cdv A outer s H vs Q E hr ⟨x, pp, pr, a, ts, bs, ps, rs, ns, rfl, O, hA, hn, ht, hb, hb2, hl, q⟩
    refine ⟨_, (pss_cons (ps_set (i := 2) sc_Exchanged_rings_show.nd rfl (by first | exact Or.inl rfl | exact Or.inr rfl) (pe_lst pa_nil))
      (pss_cons (ps_for PassesOwn.never rfl (pi_list (pe_fld (pv 0) rfl)) (pg_name (i := 3) sc_Exchanged_rings_show.nd rfl (by first | exact Or.inl rfl | exact Or.inr rfl)) (pss_cons (ps_if (PW.pt (pw_or (pt_not (pt_val (pe_cc c_is_ring (hr.mono (by decide)) (by rfl) (pa_cons (pv 3) (pa_cons (pe_callB (r := rLen2 K) call_len_seq (by rfl) T.b_len PySem.boot_len (pa_cons (pv 1) pa_nil)) pa_nil))))) (pw_or1 (pt_val (pe_callB (r := rAny K) (cr_any rfl) (by rfl) T.b_any PyProof.Rows.boot_any (pa_cons (pe_lc (own := [("k", 4)]) (g := gName 4) (tt := tYes) rfl sc_Exchanged_rings_show.nd (pi_range1 (by rfl) T.b_range (pa_cons (pe_callB (r := rLen2 K) call_len_seq (by rfl) T.b_len PySem.boot_len (pa_cons (pv 3) pa_nil)) pa_nil)) (blkOk_by (own := [("k", 4)]) (N := N_Exchanged_rings_show) (sc := defScope s_Exchanged_rings_show) (by decide +kernel)) (fun _ _ _ _ _ => (pg_name (i := 4) sc_Exchanged_rings_show.nd rfl (Or.inl rfl))) (fun _ _ _ _ _ => pts_nil) (fun _ _ _ _ _ => (pe_cmpR op_ne (pe_ix (r := rIxL K) ix_list (pv 1) (pe_ix (r := rIxL K) ix_list (pv 3) (pe_op op_sub (pv 4) pe_int) (fun _ _ => rfl)) (fun _ _ => rfl)) (pe_ix (r := rIxL K) ix_list (pv 3) (pv 4) (fun _ _ => rfl)) (nomark _)))) pa_nil)))))) (pss_one (ps_ret pe_bl)) pss_nil)
      (pss_one (ps_expr (pe_bm PySem.F.plainAttrs_list PySem.F.slot_list_extend PySem.F.type_list_extend mt_extend (pv 2) (pa_cons (pv 3) pa_nil))))))
      (pss_one (ps_ret (pe_and (pe_cmpR (r := rEqD K) (op_eqD hr.units) (pe_callB (r := rSortedI K) cr_sortedI (by rfl) T.b_sorted PyProof.Rows.boot_sorted (pa_cons (pv 2) pa_nil)) (pe_listRg rfl (by rfl) T.b_list (prg_1 (by rfl) T.b_range (pe_callB (r := rLen2 K) call_len_seq (by rfl) T.b_len PySem.boot_len (pa_cons (pv 1) pa_nil)))) (nomark _)) (pe_one (pe_cmpR op_eq (pe_op op_add (pe_callB (r := rLen2 K) call_len_seq (by rfl) T.b_len PySem.boot_len (pa_cons (pe_fld (pv 0) rfl) pa_nil)) (pe_callB (r := rLen2 K) call_len_seq (by rfl) T.b_len PySem.boot_len (pa_cons (pe_fld (pv 0) rfl) pa_nil))) (pe_callB (r := rLen2 K) call_len_seq (by rfl) T.b_len PySem.boot_len (pa_cons (pv 1) pa_nil)) (nomark _)))))))), ?_⟩
    obtain ⟨dx, ob⟩ := O.ob
    have la := O.lf.1
    have lp := O.tf.1
    have hpr := O.hr
    have hpp := O.hp
    walk_at "k"
    walk_at "go"
    refine ⟨Nat.zero_le _, fun p np => ?_⟩
    walk_at "go"
    refine c_fld (show _ = some (HO.ins C_Exchanged dx (exF pp pr)) by walk_at "hp") T.cl_Exchanged T.na_Exchanged_rings (exF_rings pp pr) ?_
    refine k_lstN (f := V.ref) bs (fun i σ H' => ∃ rr x1, σ = [some (.ref x), some (.ref a), some (.ref p), rr, x1] ∧ Same H H' ∧ H' p = some (.lst (((rs.take i).flatten).map V.int)) ∧ (rs.take i).all (okRing ns) = true)
        (by walk_at "sq") ⟨none, none, rfl, by walk_at "same", by walk_at "hp", rfl⟩ (fun i σ H' _ ⟨_, _, _, s2, _⟩ => s2.seq (SqL.of hpr)) ?_ ?_
    · rintro i pi σ H' hi ⟨rr, x1, rfl, s3, h1, a1⟩
      walk_at "d"
      obtain ⟨r, hr1, hr2⟩ : ∃ r, rs[i]? = some r ∧ H pi = some (oL r) := by
        have hlt : i < rs.length := by rw [← la]; exact (List.getElem?_eq_some_iff.mp hi).1
        exact ⟨_, List.getElem?_eq_getElem hlt, O.lf.2 i pi _ hi (List.getElem?_eq_getElem hlt)⟩
      have hrm : r ∈ rs := List.mem_of_getElem? hr1
      have br := hb2 r hrm
      have z1 := flatten_take_le rs (i + 1)
      rw [flatten_take hr1, List.length_append] at z1
      have no : okRing ns r = false → (ringed ns rs && decide ((rs.length : Int) + ps.length = ns.length)) = false := fun h => by
        unfold ringed
        rw [show rs.all (okRing ns) = false from List.all_eq_false.mpr ⟨r, hrm, by rw [h]; exact Bool.false_ne_true⟩, Bool.false_and, Bool.false_and]
      have hpi : H' pi = some (oL r) := s3 _ _ hr2
      walk_at "go"
      refine ⟨pi, r, _, rfl, by walk_at "sq", by omega, fun H2 s2 => ?_⟩
      have s32 := s3.trans s2
      have hpi2 := s2 _ _ hpi
      have h12 := s2 _ _ h1
      walk_at "go"
      cases hA2 : isRing r (ns.length : Nat) with
      | false =>
        walk_at "go"
        have := q _ s32
        rw [no (by rw [okRing_split, hA2, Bool.false_and])] at this
        exact this
      | true =>
        have bx := isRing_bd hA2
        walk_at "go"
        refine k_lcR1 (h := V.bl) (fun k : Nat => !decide (gt ns (gt r ((k : Int) - 1)) = gt r (k : Int))) (by omega) (fun _ => rfl) ?_ ?_
        · intro k H3 R' hk s3 k3
          have hx1 := bx (gt r ((k : Int) - 1)) (gt_mem (by omega) (by omega))
          walk_at "go"
          exact k3 H3 (Same.refl _)
        · intro D2 H3 nD2 s4 hD2
          walk_at "go"
          rw [Int.toNat_natCast, any_not]
          cases hC : (List.range r.length).all fun k => decide (gt ns (gt r ((k : Int) - 1)) = gt r (k : Int)) with
          | false =>
            walk_at "go"
            have := q _ (s32.trans s4)
            rw [no (by rw [okRing_split, hC, Bool.and_false])] at this
            exact this
          | true =>
            walk_at "go"
            have hp3 : H3 p = some (.lst (((rs.take i).flatten).map V.int)) := s4 _ _ h12
            refine m_ext hp3 (show H3 pi = some (oL r) from s4 _ _ hpi2) (by omega) ?_
            walk_at "go"
            refine ⟨_, _, rfl, Same.new (s32.trans s4) np, ?_, ?_⟩
            · rw [flatten_take hr1]; exact upd_same
            · rw [List.take_add_one, hr1, List.all_append, a1]
              show (true && ((okRing ns r) && true)) = true
              rw [okRing_split, hA2, hC]; rfl
    · rintro σ H' ⟨rr, x1, rfl, s3, h1, a1⟩
      rw [la, List.take_length] at h1 a1
      walk_at "d"
      walk_at "go"
      refine c_sorted (by walk_at "sq") fun ns' l pm so nl => ?_
      walk_at "go"
      refine k_listRg (by omega) fun l2 nl2 => ?_
      have s5 : Same H' (upd (upd H' l (.lst (ns'.map V.int))) l2 (.lst ((upTo ns.length).map V.int))) := by walk_at "same"
      refine o_eqL (ns := ns') (ms := upTo ns.length) (by walk_at "sq") (by walk_at "sq") ?_
      rw [sorted_isAll pm so]
      have s35 := s3.trans s5
      generalize upd (upd H' l (.lst (ns'.map V.int))) l2 (.lst ((upTo ns.length).map V.int)) = H6 at s5 s35
      have := q H6 s35
      unfold ringed at this
      rw [a1, Bool.true_and] at this
      have O6 := O.same s35
      obtain ⟨dx6, ob6⟩ := O6.ob
      have hp6 := O6.hp
      have hr6 := O6.hr
      walk_at "go"
      cases hI : isAll rs.flatten ns.length with
      | false =>
        rw [hI] at this
        walk_at "go"
        exact this
      | true =>
        rw [hI, Bool.true_and] at this
        walk_at "go"
        refine c_fld ob6 T.cl_Exchanged T.na_Exchanged_rings (exF_rings pp pr) ?_
        walk_at "go"
        refine c_fld ob6 T.cl_Exchanged T.na_Exchanged_pairs (exF_pairs pp pr) ?_
        walk_at "go"
        rw [la, lp]
        exact this
def sp_Ex_shows (K : PySem.W.Frag) (C : Addr) : Sp := fun vs H Q _ => ∃ (x pp pr a : Addr) (ts bs : List Addr) (ps : List (Int × Int)) (rs : List (List Int)) (ns : List Int), vs = [.ref x, .ref a] ∧ ExA C H x pp pr ts bs ps rs ∧ SqL K H a (ns.map V.int) ∧ ns.length ≤ 1000 ∧
  ts.length ≤ 10000 ∧ bs.length ≤ 10000 ∧ (∀ r ∈ rs, r.length ≤ 1000) ∧ rs.flatten.length ≤ 10000 ∧ ∀ H', Same H H' → Q (.bl (exShows ns ps rs)) H'
theorem ok_Exchanged_shows : Cm P w K mg base 4 C_Exchanged "shows" (sp_Ex_shows K C_Exchanged) := by
  have c_Exchanged_rings_show := ok_Exchanged_rings_show (P := P) (w := w) (base := base) T
  have c_is_order := ok_is_order (P := P) (w := w) (base := base) T
  refine Cm.mk' T.m_Exchanged_shows sc_Exchanged_shows ?_ ?_
  · rintro vs H Q E ⟨x, pp, pr, a, ts, bs, ps, rs, ns, rfl, _⟩; rfl
  · rintro f cdv A outer s H vs Q E hr ⟨x, pp, pr, a, ts, bs, ps, rs, ns, rfl, O, hA, hn, ht, hb, hb2, hl, q⟩
    refine ⟨_, (pss_cons (ps_set (i := 2) sc_Exchanged_shows.nd rfl (by first | exact Or.inl rfl | exact Or.inr rfl) (pe_callTy (r := rList2 K) call_list_of (by rfl) T.b_list PyProof.Rows.boot_list (pa_cons (pv 1) pa_nil)))
      (pss_cons (ps_for PassesOwn.never rfl (pi_list (pe_fld (pv 0) rfl)) (pg_tup rfl (pgs_cons (pg_name (i := 3) sc_Exchanged_shows.nd rfl (by first | exact Or.inl rfl | exact Or.inr rfl)) (pgs_cons (pg_name (i := 4) sc_Exchanged_shows.nd rfl (by first | exact Or.inl rfl | exact Or.inr rfl)) pgs_nil))) (pss_cons (ps_if (pt_not (pt_chain3 op_le op_lt op_lt pe_int (pv 3) (pv 4) (pe_callB (r := rLen2 K) call_len_seq (by rfl) T.b_len PySem.boot_len (pa_cons (pv 1) pa_nil)))) (pss_one (ps_ret pe_bl)) pss_nil)
      (pss_cons (ps_set (i := 5) sc_Exchanged_shows.nd rfl (by first | exact Or.inl rfl | exact Or.inr rfl) (pe_ix (r := rIxL K) ix_list (pv 2) (pv 3) (fun _ _ => rfl)))
      (pss_cons (ps_asg (pe_ix (r := rIxL K) ix_list (pv 2) (pv 4) (fun _ _ => rfl)) (pg_sub (pv 2) (pv 3) set_list))
      (pss_one (ps_asg (pv 5) (pg_sub (pv 2) (pv 4) set_list)))))))
      (pss_one (ps_ret (pe_and (pe_cc c_is_order (hr.mono (by decide)) (by rfl) (pa_cons (pv 2) pa_nil)) (pe_one (pe_ct c_Exchanged_rings_show (hr.mono (by decide)) (pv 0) (pa_cons (pv 1) pa_nil)))))))), ?_⟩
    obtain ⟨dx, ob⟩ := O.ob
    have lp := O.tf.1
    have hpp := O.hp
    walk_at "k"
    walk_at "go"
    refine c_list hA fun p np => ?_
    walk_at "go"
    refine c_fld (show _ = some (HO.ins C_Exchanged dx (exF pp pr)) by walk_at "hp") T.cl_Exchanged T.na_Exchanged_pairs (exF_pairs pp pr) ?_
    refine k_lstP (ts := ts) (ps := ps) (fun i σ H' => ∃ v3 v4 v5, σ = [some (.ref x), some (.ref a), some (.ref p), v3, v4, v5] ∧ Same H H' ∧ H' p = some (.lst (((ps.take i).foldl swap ns).map V.int)) ∧ (ps.take i).all (swapOk ns.length) = true)
      (by walk_at "sq") lp ⟨_, _, _, rfl, by walk_at "same", by walk_at "hp", rfl⟩ (fun i σ H' _ ⟨_, _, _, _, s2, _⟩ => ⟨s2.seq (SqL.of hpp), O.tf.same s2⟩) ?_ ?_
    · rintro i pr' σ H' hi ⟨v3, v4, v5, rfl, s2, h2, a2⟩
      walk_at "d"
      have lf : ((ps.take i).foldl swap ns).length = ns.length := swaps_length _ _
      have l2 : (st ((ps.take i).foldl swap ns) pr'.1 (gt ((ps.take i).foldl swap ns) pr'.2)).length = ns.length := by rw [st_length]; exact lf
      have bad : swapOk ns.length pr' = false → Q (.bl false) H' := fun h => by
        have := q H' s2
        unfold exShows at this
        rw [show ps.all (swapOk ns.length) = false from List.all_eq_false.mpr ⟨pr', List.mem_of_getElem? hi, by rw [h]; exact Bool.false_ne_true⟩, Bool.false_and] at this
        exact this
      walk_at "go"
      refine ite_dec (fun c1 => ?_) (fun c1 => ?_)
      · walk_at "go"
        refine ite_dec (fun c2 => ?_) (fun c2 => ?_)
        · walk_at "go"
          refine ite_ndec (fun c3 => ?_) (fun c3 => ?_)
          · walk_at "go"
            exact bad (by unfold swapOk; rw [decide_eq_false c3, Bool.and_false, Bool.and_false])
          · walk_at "go"
            refine ⟨_, _, _, rfl, by walk_at "same", ?_, ?_⟩
            · rw [foldl_take hi]
              exact upd_same
            · rw [List.take_add_one, hi, List.all_append, a2]
              show (true && (swapOk ns.length pr' && true)) = true
              unfold swapOk
              rw [decide_eq_true c1, decide_eq_true c2, decide_eq_true c3]; rfl
        · walk_at "go"
          exact bad (by unfold swapOk; rw [decide_eq_false c2, Bool.false_and, Bool.and_false])
      · walk_at "go"
        exact bad (by unfold swapOk; rw [decide_eq_false c1, Bool.false_and])
    · rintro σ H' ⟨v3, v4, v5, rfl, s2, h2, a2⟩
      rw [List.take_length] at h2 a2
      have lf : (ps.foldl swap ns).length = ns.length := swaps_length _ _
      walk_at "go"
      refine ⟨p, _, rfl, SqL.of h2, by omega, fun H3 s3 => ?_⟩
      rw [lf]
      walk_at "go"
      have qs := q
      unfold exShows at qs
      rw [a2, Bool.true_and] at qs
      refine ite_dec (fun c => ?_) (fun c => ?_)
      · rw [decide_eq_true c, Bool.true_and] at qs
        walk_at "go"
        have O3 := O.same (s2.trans s3)
        obtain ⟨dx3, ob3⟩ := O3.ob
        refine k_meth ob3 (exF_none pp pr (by decide) (by decide)) ?_
        walk_at "go"
        exact ⟨x, pp, pr, a, ts, bs, ps, rs, ns, rfl, O3, (s2.trans s3).seq hA, hn, ht, hb, hb2, hl, fun H4 s4 => qs H4 ((s2.trans s3).trans s4)⟩
      · rw [decide_eq_false c, Bool.false_and] at qs
        exact qs H3 (s2.trans s3)
def sp_exchanged (K : PySem.W.Frag) (C : Addr) : Sp := fun vs H Q _ => ∃ (a : Addr) (ns : List Int), vs = [.ref a] ∧ SqL K H a (ns.map V.int) ∧ IsRow ns ∧
  ∀ x pp pr ts bs H', Same H H' → H x = none → H pp = none → H pr = none → pp ≠ pr → News H H' oL bs (ringsOf ns) → pp ∉ bs → pr ∉ bs → ExA C H' x pp pr ts bs (exPairs ns) (ringsOf ns) → Q (.ref x) H'
theorem ok_exchanged : Cc P w K mg base 3 "exchanged" (sp_exchanged K C_Exchanged) := by
  have c_check_row := ok_check_row (P := P) (w := w) (base := base) T
  have c_places_of := ok_places_of (P := P) (w := w) (base := base) T
  have c_Exchanged := ok_Exchanged___init__ (P := P) (w := w) (base := base) T
  have c_rings_of := ok_rings_of (P := P) (w := w) (base := base) T
  refine Cc.mk' T.d_exchanged sc_exchanged ?_ ?_
  · rintro vs H Q E ⟨a, ns, rfl, _⟩; rfl
  · rintro f cdv A outer s H vs Q E hr ⟨a, ns, rfl, hS, R, q⟩
    have hl := R.len
    refine ⟨_, (pss_cons (ps_expr (pe_cc c_check_row (hr.mono (by decide)) (by rfl) (pa_cons (pv 0) pa_nil)))
      (pss_cons (ps_set (i := 1) sc_exchanged.nd rfl (by first | exact Or.inl rfl | exact Or.inr rfl) (pe_callTy (r := rList2 K) call_list_of (by rfl) T.b_list PyProof.Rows.boot_list (pa_cons (pv 0) pa_nil)))
      (pss_cons (ps_set (i := 2) sc_exchanged.nd rfl (by first | exact Or.inl rfl | exact Or.inr rfl) (pe_cc c_places_of (hr.mono (by decide)) (by rfl) (pa_cons (pv 0) pa_nil)))
      (pss_cons (ps_set (i := 3) sc_exchanged.nd rfl (by first | exact Or.inl rfl | exact Or.inr rfl) (pe_lst pa_nil))
      (pss_cons (ps_for PassesOwn.never rfl (pi_range1 (by rfl) T.b_range (pa_cons (pe_callB (r := rLen2 K) call_len_seq (by rfl) T.b_len PySem.boot_len (pa_cons (pv 0) pa_nil)) pa_nil)) (pg_name (i := 4) sc_exchanged.nd rfl (by first | exact Or.inl rfl | exact Or.inr rfl)) (pss_cons (ps_set (i := 5) sc_exchanged.nd rfl (by first | exact Or.inl rfl | exact Or.inr rfl) (pe_ix (r := rIxL K) ix_list (pv 1) (pv 4) (fun _ _ => rfl)))
      (pss_one (ps_if (pt_cmpR op_ne (pv 5) (pv 4) (nomark _)) (pss_cons (ps_set (i := 6) sc_exchanged.nd rfl (by first | exact Or.inl rfl | exact Or.inr rfl) (pe_ix (r := rIxL K) ix_list (pv 2) (pv 4) (fun _ _ => rfl)))
      (pss_cons (ps_expr (pe_bm PySem.F.plainAttrs_list PySem.F.slot_list_append PySem.F.type_list_append mt_append (pv 3) (pa_cons (pe_tup (pa_cons (pv 4) (pa_cons (pv 6) pa_nil))) pa_nil)))
      (pss_cons (ps_asg (pv 5) (pg_sub (pv 1) (pv 6) set_list))
      (pss_one (ps_asg (pv 6) (pg_sub (pv 2) (pv 5) set_list)))))) pss_nil))))
      (pss_one (ps_ret (pe_cm c_Exchanged (hr.mono (by decide)) (by rfl) (pa_cons (pv 3) (pa_cons (pe_cc c_rings_of (hr.mono (by decide)) (by rfl) (pa_cons (pv 0) pa_nil)) pa_nil)))))))))), ?_⟩
    walk_at "k"
    walk_at "go"
    refine ⟨a, ns, rfl, hS, R, fun H1 s1 => ?_⟩
    walk_at "go"
    refine c_list (by walk_at "sq") fun pf npf => ?_
    walk_at "go"
    refine ⟨a, ns, rfl, by walk_at "sq", R, fun ppl H2 s2 nppl hppl => ?_⟩
    have hpf : H2 pf = some (.lst (ns.map V.int)) := s2 _ _ upd_same
    have npf0 : H pf = none := s1.free npf
    have s02 : Same H H2 := (s1.trans (Same.one npf)).trans s2
    have nppl0 : H ppl = none := (s1.trans (Same.one npf)).free nppl
    have e1 : pf ≠ ppl := neo nppl upd_same
    clear s2 nppl
    walk_at "go"
    refine ⟨Nat.zero_le _, fun pl npl => ?_⟩
    have npl0 : H pl = none := s02.free npl
    have e2 : pf ≠ pl := neo npl hpf
    have e3 : ppl ≠ pl := neo npl hppl
    walk_at "go"
    refine k_rng1 (fun i σ H' => ∃ ts v4 v5 v6, σ = [some (.ref a), some (.ref pf), some (.ref ppl), some (.ref pl), v4, v5, v6] ∧ Same H H' ∧ H' pf = some (.lst ((exAux ns i).f.map V.int)) ∧ H' ppl = some (.lst ((exAux ns i).pl.map V.int)) ∧ H' pl = some (.lst (ts.map V.ref)) ∧
      News H H' oP ts (exAux ns i).ps) (by omega) ⟨[], _, _, _, rfl, by walk_at "same", lift_ne hpf e2, lift_ne hppl e3, upd_same, News.nil⟩ ?_ ?_
    · rintro i σ H' hi ⟨ts, v4, v5, v6, rfl, s3, hf, hpl, hts, n3⟩
      walk_at "d"
      have I := XI.all R i (by omega)
      have lf := I.fl
      have lpl := I.pll
      have m1 := n3.nlst hf
      have m2 := n3.nlst hpl
      have m3 := n3.nlst hts
      have lt := n3.len
      have lps : (exAux ns i).ps.length ≤ i := by
        obtain ⟨tops, _, _, z⟩ := I.ct; omega
      walk_at "go"
      refine ite_ndec (fun c => ?_) (fun c => ?_)
      · walk_at "go"
        have bo := (I.pp i (by omega)).1
        have bt := (I.qq i (by omega)).1
        rw [← I.ff i (by omega)] at bt
        refine ⟨by show 2 ≤ sizeLine; decide, fun t nt => ?_⟩
        have nt0 : H t = none := s3.free nt
        have d1 : pf ≠ t := neo nt hf
        have d2 : ppl ≠ t := neo nt hpl
        have d3 : pl ≠ t := neo nt hts
        have n4 : News H (upd H' t (oP ((i : Int), gt (exAux ns i).pl i))) oP (ts ++ [t]) ((exAux ns i).ps ++ [((i : Int), gt (exAux ns i).pl i)]) :=
          (n3.same (Same.one nt)).snoc (n3.notin nt) nt0 upd_same
        walk_at "go"
        have e5 : (exAux ns (i + 1)) = _ := exAux_go c
        refine ⟨ts ++ [t], _, _, _, rfl, by walk_at "same", ?_, ?_, ?_, ?_⟩
        · rw [e5]; exact lift_ne upd_same e1
        · rw [e5]; exact upd_same
        · exact lift_ne (lift_ne upd_same (Ne.symm e2)) (Ne.symm e3)
        · rw [e5]
          exact ((n4.mut (nm_snoc m3 d3)).mut (nm_snoc m1 d1)).mut (nm_snoc m2 d2)
      · walk_at "go"
        rw [exAux_skip c]
        exact ⟨ts, _, _, _, rfl, s3, hf, hpl, hts, n3⟩
    · rintro σ H' ⟨ts, v4, v5, v6, rfl, s3, hf, hpl, hts, n3⟩
      walk_at "d"
      rw [Int.toNat_natCast] at n3
      walk_at "go"
      refine ⟨a, ns, rfl, by walk_at "sq", R, fun pq as H4 s4 npq n4 m4 hpq => ?_⟩
      have la := n4.len
      walk_at "go"
      intro x dx nx ndx nxd
      have cnt : (ringsOf ns).length ≤ ns.length := ringsAux_count ns ns.length
      have s34 := s3.trans s4
      refine ⟨x, pl, pq, dx, ts, as, exPairs ns, ringsOf ns, H4, rfl, upd_same, by walk_at "same", nx, SqL.of (s4 _ _ hts), SqL.of hpq, Lf.of n4, (Tf.of n3).same s4, by omega, fun r hr => by have := ringsOf_len R hr; omega, fun pp pr bs H' s5 npp npr npe n5 m5 m6 O => ⟨rfl, ?_⟩⟩
      exact q x pp pr ts bs H' (s34.trans s5) (s34.free nx) (s34.free npp) (s34.free npr) npe (n5.back s34) m5 m6 O
end
end Bo

namespace Bo
open PySem PySem.Spec PyProof.Rows L2
/-! ### steps of a reading: each a row of its own -/
local macro_rules | `(tactic| walk_at "ne") => `(tactic| first
  | assumption
  | (apply Ne.symm; assumption)
  | (apply neo; assumption; walk_at "hp")
  | (apply Ne.symm; apply neo; assumption; walk_at "hp"))
local macro_rules | `(tactic| walk_at "hp") => `(tactic| first
  | assumption
  | exact upd_same
  | (apply lift_ne; walk_at "hp"; walk_at "ne")
  | (apply Same.up; assumption; walk_at "hp"))
local macro_rules | `(tactic| walk_at "same") => `(tactic| first
  | assumption
  | exact Same.refl _
  | (apply Same.new; walk_at "same"; walk_at "fr")
  | (apply same_trans; assumption; walk_at "same"))
local macro_rules | `(tactic| walk_at "fr") => `(tactic| first
  | assumption
  | (apply same_free; assumption; walk_at "same"))
local macro_rules | `(tactic| walk_at "sq") => `(tactic| first
  | assumption
  | (apply SqL.of; walk_at "hp")
  | (apply same_seq; assumption; walk_at "same"))
local macro_rules | `(tactic| walk_at "sqt") => `(tactic| first
  | assumption
  | (apply SqT.of; walk_at "hp")
  | (apply same_sqt; assumption; walk_at "same"))
local macro_rules | `(tactic| walk_at "nw") => `(tactic| first
  | assumption
  | (apply News.mut; walk_at "nw"; (first | assumption | (refine News.notin (by assumption) ?_; assumption)))
  | (apply News.same; walk_at "nw"; walk_at "same"))
/-! one step -/
local macro_rules | `(tactic| walk_at "go1") => `(tactic| first
  | with_reducible refine r_seq ?_
  | with_reducible refine r_asgN ?_
  | with_reducible refine r_set ?_
  | with_reducible refine r_ret ?_
  | with_reducible refine r_drop ?_
  | with_reducible refine r_if ?_
  | with_reducible refine r_next ?_
  | ((with_reducible apply r_nxD); with_reducible refine r_nx ?_)
  | ((with_reducible apply r_rtD); with_reducible refine r_rt ?_)
  | with_reducible refine r_par ?_
  | with_reducible refine k_par ?_
  | with_reducible refine r_fld ?_
  | ((with_reducible apply r_aug); exact rfl)
  | with_reducible refine i_ip ?_
  | ((with_reducible apply e_var); exact rfl)
  | with_reducible refine e_c ?_
  | with_reducible refine e_op ?_
  | with_reducible refine e_un ?_
  | with_reducible refine o_I0 ?_
  | with_reducible refine o_neg ?_
  | with_reducible refine o_eqI ?_
  | with_reducible refine o_neI ?_
  | with_reducible refine o_eqB ?_
  | with_reducible refine o_neB ?_
  | with_reducible refine o_eqS ?_
  | with_reducible refine o_neS ?_
  | with_reducible refine a_nil ?_
  | with_reducible refine a_cons ?_
  | with_reducible refine e_cb ?_
  | with_reducible refine e_call ?_
  | with_reducible refine e_make ?_
  | with_reducible refine e_meth ?_
  | with_reducible refine e_fld ?_
  | with_reducible refine e_lst ?_
  | with_reducible refine e_tup ?_
  | with_reducible refine e_bm ?_
  | with_reducible refine e_bm0 ?_
  | with_reducible refine e_rev ?_
  | with_reducible refine e_sl ?_
  | with_reducible refine e_nopart ?_
  | with_reducible refine e_part ?_
  | with_reducible refine i_ok ?_
  | with_reducible refine e_lenset ?_
  | with_reducible refine e_listRg1 ?_
  | with_reducible refine t_test ?_
  | with_reducible refine t_B ?_
  | with_reducible refine b_ok ?_
  | with_reducible refine t_and ?_
  | with_reducible refine t_or ?_
  | with_reducible refine t_not ?_
  | with_reducible refine v_and ?_
  | with_reducible refine v_or ?_
  | with_reducible refine v_not ?_
  | with_reducible refine e_if ?_
  | with_reducible refine e_chain ?_
  | with_reducible refine e_chain3 ?_
  | with_reducible refine iteT ?_
  | with_reducible refine iteF ?_
  | with_reducible refine ite_nT ?_
  | with_reducible refine ite_nF ?_
  | with_reducible refine r_forL ?_
  | with_reducible refine r_forT ?_
  | with_reducible refine r_forE ?_
  | with_reducible refine r_forR1 ?_
  | with_reducible refine r_forR2 ?_
  | with_reducible refine e_lcL ?_
  | with_reducible refine e_lcR1 ?_
  | with_reducible refine e_lcR2 ?_
  | with_reducible refine r_dput ?_
  | with_reducible refine e_dget ?_
  | with_reducible refine e_dnin ?_
  | with_reducible refine c_max2 ?_
  | with_reducible refine c_min2 ?_
  | ((with_reducible apply c_isiI); (first | exact (show kitB "int" _ = some true by decide +kernel) | exact (show kitB "int" _ = some false by decide +kernel)))
  | ((with_reducible apply m_ty); walk_at "sq"))
local macro_rules | `(tactic| walk_at "go2") => `(tactic| first
  | ((with_reducible apply o_ixI); walk_at "sq"; omega)
  | ((with_reducible refine o_mod ?_ ?_); omega)
  | ((with_reducible refine o_fdiv ?_ ?_); omega)
  | ((with_reducible refine o_mulR ?_ ?_); omega)
  | ((with_reducible refine o_mulL ?_ ?_); omega)
  | ((with_reducible apply c_lenM); walk_at "sq")
  | ((with_reducible apply c_all); walk_at "sq")
  | ((with_reducible apply c_any); walk_at "sq")
  | ((with_reducible apply o_in); walk_at "sq")
  | ((with_reducible apply o_nin); walk_at "sq")
  | ((with_reducible apply o_ixB); walk_at "sq"; omega)
  | ((with_reducible apply m_setB); walk_at "hp"; omega)
  | ((with_reducible apply m_appR); walk_at "hp"; omega)
  | ((with_reducible apply m_ins); walk_at "hp"; omega; omega)
  | ((with_reducible apply m_appM); walk_at "hp"; exact rfl; omega)
  | ((with_reducible apply m_setI); walk_at "hp"; omega))
local macro_rules | `(tactic| walk_at "d") => `(tactic| try dsimp only)
local macro_rules | `(tactic| walk_at "k") => `(tactic| try dsimp only [cxOf, Cx.nox, Cx.blk])
local macro_rules | `(tactic| walk_at "go") => `(tactic| repeat (first | walk_at "go1" | walk_at "go2"))

section
variable {P : Program} {w : World} {K : PySem.W.Frag} {mg : Str → Option Value} {base : Heap} {C_Exchanged C_Fronted C_Ended C_Put C_Answer : Addr} (T : Top K mg C_Exchanged C_Fronted C_Ended C_Put C_Answer)
include T

def sp_lrun (K : PySem.W.Frag) : Sp := fun vs H Q _ => ∃ (a : Addr) (ns : List Int), vs = [.ref a] ∧ SqL K H a (ns.map V.int) ∧ IsRow ns ∧ ∀ p H', Same H H' → H p = none → H' p = some (oP ((runOf ns).b0, (runOf ns).b1)) → Q (.ref p) H'
theorem ok_longest_run : Cc P w K mg base 2 "longest_run" (sp_lrun K) := by
  have c_places_of := ok_places_of (P := P) (w := w) (base := base) T
  refine Cc.mk' T.d_longest_run sc_longest_run ?_ ?_
  · rintro vs H Q E ⟨a, ns, rfl, _⟩; rfl
  · rintro f cdv A outer s H vs Q E hr ⟨a, ns, rfl, hS, R, q⟩
    have hl := R.len
    have lp := placesOf_length ns
    refine ⟨_, (pss_cons (ps_set (i := 1) sc_longest_run.nd rfl (by first | exact Or.inl rfl | exact Or.inr rfl) (pe_cc c_places_of (hr.mono (by decide)) (by rfl) (pa_cons (pv 0) pa_nil)))
      (pss_cons (ps_set (i := 2) sc_longest_run.nd rfl (by first | exact Or.inl rfl | exact Or.inr rfl) (pe_tup (pa_cons pe_int (pa_cons pe_int pa_nil))))
      (pss_cons (ps_set (i := 3) sc_longest_run.nd rfl (by first | exact Or.inl rfl | exact Or.inr rfl) pe_int)
      (pss_cons (ps_for PassesOwn.never rfl (pi_range1 (by rfl) T.b_range (pa_cons (pe_callB (r := rLen2 K) call_len_seq (by rfl) T.b_len PySem.boot_len (pa_cons (pv 0) pa_nil)) pa_nil)) (pg_name (i := 4) sc_longest_run.nd rfl (by first | exact Or.inl rfl | exact Or.inr rfl)) (Bo.pss_cut (ps_if (PW.pt (pw_and (pt_cmpR op_gt (pv 4) pe_int (nomark _)) (pw_and1 (pt_cmpR op_lt (pe_ix (r := rIxL K) ix_list (pv 1) (pv 4) (fun _ _ => rfl)) (pe_ix (r := rIxL K) ix_list (pv 1) (pe_op op_sub (pv 4) pe_int) (fun _ _ => rfl)) (nomark _))))) (pss_one (ps_set (i := 3) sc_longest_run.nd rfl (by first | exact Or.inl rfl | exact Or.inr rfl) (pv 4))) pss_nil)
      (pss_one (ps_if (pt_cmpR op_gt (pe_op op_sub (pe_op op_add (pv 4) pe_int) (pv 3)) (pe_ix (r := rIxT K) ix_tup (pv 2) pe_int (fun _ _ => rfl)) (nomark _)) (pss_one (ps_set (i := 2) sc_longest_run.nd rfl (by first | exact Or.inl rfl | exact Or.inr rfl) (pe_tup (pa_cons (pv 3) (pa_cons (pe_op op_sub (pe_op op_add (pv 4) pe_int) (pv 3)) pa_nil))))) pss_nil))))
      (pss_one (ps_ret (pv 2))))))), ?_⟩
    walk_at "k"
    walk_at "go"
    refine ⟨a, ns, rfl, hS, R, fun pp H1 s1 npp hpp => ?_⟩
    walk_at "go"
    refine ⟨by show 2 ≤ sizeLine; decide, fun pb0 npb0 => ?_⟩
    have e0 : pp ≠ pb0 := neo npb0 hpp
    have n00 := s1.free npb0
    walk_at "go"
    refine k_rng1 (fun i σ H' => ∃ pb v4, σ = [some (.ref a), some (.ref pp), some (.ref pb), some (.int (lr ns i).fi), v4] ∧ Same H H' ∧ H' pp = some (.lst ((placesOf ns).map V.int)) ∧ H pb = none ∧ H' pb = some (oP ((lr ns i).b0, (lr ns i).b1)))
      (by omega) ⟨pb0, _, rfl, by walk_at "same", lift_ne hpp e0, n00, upd_same⟩ ?_ ?_
    · rintro i σ H' hi ⟨pb, v4, rfl, s2, hp2, nb, hb⟩
      walk_at "d"
      refine c_cut (fun σ' H2 => σ' = [some (.ref a), some (.ref pp), some (.ref pb), some (.int (lrFi ns i (lr ns i).fi)), some (.int (i : Nat))] ∧ H2 = H') ?_ ?_
      · walk_at "go"
        refine ite_dec (fun c1 => ?_) (fun c1 => ?_)
        · walk_at "go"
          refine ite_dec (fun c2 => ?_) (fun c2 => ?_)
          · walk_at "go"
            rw [show lrFi ns i (lr ns i).fi = i from if_pos ⟨c1, c2⟩]
            exact ⟨rfl, rfl⟩
          · walk_at "go"
            rw [show lrFi ns i (lr ns i).fi = (lr ns i).fi from if_neg fun z => c2 z.2]
            exact ⟨rfl, rfl⟩
        · walk_at "go"
          rw [show lrFi ns i (lr ns i).fi = (lr ns i).fi from if_neg fun z => c1 z.1]
          exact ⟨rfl, rfl⟩
      · rintro σ' H2 ⟨rfl, rfl⟩
        walk_at "go"
        refine o_ixT (SqT.of hb) (v := .int (lr ns i).b1) rfl ?_
        walk_at "go"
        refine ite_dec (fun c => ?_) (fun c => ?_)
        · walk_at "go"
          refine ⟨by show 2 ≤ sizeLine; decide, fun p np => ?_⟩
          have e1 : pp ≠ p := neo np hp2
          have n1 := s2.free np
          walk_at "go"
          have e : lr ns (i + 1) = ⟨lrFi ns i (lr ns i).fi, (i : Int) + 1 - lrFi ns i (lr ns i).fi, lrFi ns i (lr ns i).fi⟩ := if_pos c
          rw [e]
          exact ⟨p, _, rfl, by walk_at "same", lift_ne hp2 e1, n1, upd_same⟩
        · walk_at "go"
          have e : lr ns (i + 1) = ⟨(lr ns i).b0, (lr ns i).b1, lrFi ns i (lr ns i).fi⟩ := if_neg c
          rw [e]
          exact ⟨pb, _, rfl, s2, hp2, nb, hb⟩
    · rintro σ H' ⟨pb, v4, rfl, s2, hp2, nb, hb⟩
      walk_at "d"
      rw [Int.toNat_natCast] at hb
      walk_at "go"
      exact q pb H' s2 nb hb
def sp_Fr_init (K : PySem.W.Frag) (C : Addr) : Sp := fun vs H Q _ => ∃ (x a dx : Addr) (things : List Int) (H0 : Hp), vs = [.ref x, .ref a] ∧ H x = some (.ins C dx []) ∧ Same H0 H ∧ H0 x = none ∧ SqL K H0 a (things.map V.int) ∧
  ∀ pt H', Same H0 H' → H0 pt = none → FrA C H' x pt things → Q .non H'
theorem ok_Fronted___init__ : Ck P w K mg base 1 "Fronted" C_Fronted (sp_Fr_init K C_Fronted) := by
  refine Ck.mk' T.k_Fronted sc_Fronted___init__ ?_ ?_
  · rintro vs H Q E ⟨x, a, dx, things, H0, rfl, _⟩; rfl
  · rintro f cdv A outer s H vs Q E hr ⟨x, a, dx, things, H0, rfl, hx, s0, nx, hA, q⟩
    refine ⟨_, (pss_one (ps_fld (pv 0) (pe_callTy (r := rList2 K) call_list_of (by rfl) T.b_list PyProof.Rows.boot_list (pa_cons (pv 1) pa_nil)) rfl)), ?_⟩
    walk_at "k"
    walk_at "go"
    refine c_list (s0.seq hA) fun pt npt => ?_
    have e1 : x ≠ pt := neo npt hx
    have npt0 : H0 pt = none := s0.free npt
    walk_at "go"
    refine k_fld (lift_ne hx e1) T.cl_Fronted T.na_Fronted_things (by decide) ?_
    walk_at "go"
    exact q pt _ (by walk_at "same") npt0 ⟨⟨dx, upd_same⟩, lift_ne upd_same (Ne.symm e1)⟩
def sp_Fr_shows (K : PySem.W.Frag) (C : Addr) : Sp := fun vs H Q _ => ∃ (x pt a : Addr) (things ns : List Int), vs = [.ref x, .ref a] ∧ FrA C H x pt things ∧ SqL K H a (ns.map V.int) ∧ IsRow ns ∧ things.length ≤ 2000 ∧ ∀ H', Same H H' → Q (.bl (frShows ns things)) H'
theorem ok_Fronted_shows : Cm P w K mg base 2 C_Fronted "shows" (sp_Fr_shows K C_Fronted) := by
  have c_is_order := ok_is_order (P := P) (w := w) (base := base) T
  refine Cm.mk' T.m_Fronted_shows sc_Fronted_shows ?_ ?_
  · rintro vs H Q E ⟨x, pt, a, things, ns, rfl, _⟩; rfl
  · rintro f cdv A outer s H vs Q E hr ⟨x, pt, a, things, ns, rfl, O, hA, R, ht, q⟩
    have hl := R.len
    refine ⟨_, (pss_cons (ps_set (i := 2) sc_Fronted_shows.nd rfl (by first | exact Or.inl rfl | exact Or.inr rfl) (pe_callTy (r := rList2 K) call_list_of (by rfl) T.b_list PyProof.Rows.boot_list (pa_cons (pv 1) pa_nil)))
      (pss_cons (ps_for PassesOwn.never rfl (pi_list (pe_fld (pv 0) rfl)) (pg_name (i := 3) sc_Fronted_shows.nd rfl (by first | exact Or.inl rfl | exact Or.inr rfl)) (pss_cons (ps_if (pt_cmpR (r := rIn K true) op_notIn_seq (pv 3) (pv 2) (by rfl)) (pss_one (ps_ret pe_bl)) pss_nil)
      (pss_cons (ps_expr (pe_bm PySem.F.plainAttrs_list PySem.F.slot_list_remove PySem.F.type_list_remove mt_remove (pv 2) (pa_cons (pv 3) pa_nil)))
      (pss_one (ps_set (i := 2) sc_Fronted_shows.nd rfl (by first | exact Or.inl rfl | exact Or.inr rfl) (pe_op op_cat (pe_lst (pa_cons (pv 3) pa_nil)) (pv 2)))))))
      (pss_cons (ps_if (pt_not (pt_val (pe_cc c_is_order (hr.mono (by decide)) (by rfl) (pa_cons (pv 2) pa_nil)))) (pss_one (ps_ret pe_bl)) pss_nil)
      (pss_cons (ps_set (i := 4) sc_Fronted_shows.nd rfl (by first | exact Or.inl rfl | exact Or.inr rfl) (pe_callB (r := rLen2 K) call_len_seq (by rfl) T.b_len PySem.boot_len (pa_cons (pe_fld (pv 0) rfl) pa_nil)))
      (pss_cons (ps_if (pt_cmpR op_ne (pe_lenSetG (by rfl) T.b_len (by rfl) T.b_set (pe_fld (pv 0) rfl)) (pv 4) (nomark _)) (pss_one (ps_ret pe_bl)) pss_nil)
      (pss_one (ps_ret (pe_or (pe_cmpR op_eq (pv 4) pe_int (nomark _)) (pe_one (pe_and (pe_cmpR op_lt (pv 4) (pe_callB (r := rLen2 K) call_len_seq (by rfl) T.b_len PySem.boot_len (pa_cons (pv 1) pa_nil)) (nomark _)) (pe_one (pe_cmpR op_gt (pe_bm PySem.F.plainAttrs_list PySem.F.slot_list_index PySem.F.type_list_index mt_index (pv 1) (pa_cons (pe_op op_sub (pv 4) pe_int) pa_nil)) (pe_bm PySem.F.plainAttrs_list PySem.F.slot_list_index PySem.F.type_list_index mt_index (pv 1) (pa_cons (pv 4) pa_nil)) (nomark _))))))))))))), ?_⟩
    obtain ⟨dx, ob⟩ := O.ob
    have hpt := O.ht
    walk_at "k"
    walk_at "go"
    refine c_list hA fun p np => ?_
    walk_at "go"
    refine c_fld (show _ = some (HO.ins C_Fronted dx (oneF "things" pt)) by walk_at "hp") T.cl_Fronted T.na_Fronted_things (oneF_at _ pt) ?_
    refine k_lstN (f := V.int) things (fun i σ H' => ∃ pf v3, σ = [some (.ref x), some (.ref a), some (.ref pf), v3, none] ∧ Same H H' ∧ H pf = none ∧ H' pf = some (.lst (((things.take i).foldl mv ns).map V.int)) ∧ ((things.take i).all fun x => decide (x ∈ ns)) = true)
      (by walk_at "sq") ⟨p, _, rfl, by walk_at "same", np, by walk_at "hp", rfl⟩ (fun i σ H' _ ⟨_, _, _, s2, _⟩ => s2.seq (SqL.of hpt)) ?_ ?_
    · rintro i t σ H' hi ⟨pf, v3, rfl, s2, npf, h2, a2⟩
      walk_at "d"
      have pm := fold_mem a2
      have lf := pm.length_eq
      have lt : ((things.take i).foldl mv ns).length ≤ 1000 := by omega
      walk_at "go"
      refine ite_ndec (fun c => ?_) (fun c => ?_)
      · walk_at "go"
        have := q H' s2
        unfold frShows at this
        rw [show (things.all fun x => decide (x ∈ ns)) = false from List.all_eq_false.mpr ⟨t, List.mem_of_getElem? hi, by rw [decide_eq_false fun z => c (pm.mem_iff.mpr z)]; exact Bool.false_ne_true⟩, Bool.false_and] at this
        exact this
      · walk_at "go"
        refine m_rem h2 c ?_
        walk_at "go"
        refine ⟨by show 1 ≤ sizeLine; decide, fun l nl => ?_⟩
        have e1 : pf ≠ l := neo nl upd_same
        have le := List.length_erase_of_mem c
        walk_at "go"
        refine o_cat (f := V.int) (xs := [t]) (zs := ((things.take i).foldl mv ns).erase t) upd_same (lift_ne upd_same e1) (by rw [le]; simp; omega) fun pc npc => ?_
        have n1 : H pc = none := (show Same H (upd (upd H' pf (.lst ((((things.take i).foldl mv ns).erase t).map V.int))) l (.lst [.int t])) by walk_at "same").free npc
        walk_at "go"
        refine ⟨pc, _, rfl, by walk_at "same", n1, ?_, ?_⟩
        · rw [foldl_take hi]
          exact upd_same
        · rw [List.take_add_one, hi, List.all_append, a2]
          show (true && (decide (t ∈ ns) && true)) = true
          rw [decide_eq_true (pm.mem_iff.mp c)]; rfl
    · rintro σ H' ⟨pf, v3, rfl, s2, npf, h2, a2⟩
      rw [List.take_length] at h2 a2
      have pm := fold_mem a2
      have lf := pm.length_eq
      walk_at "d"
      walk_at "go"
      refine ⟨pf, _, rfl, SqL.of h2, by omega, fun H3 s3 => ?_⟩
      rw [lf]
      have s23 := s2.trans s3
      have O3 := O.same s23
      obtain ⟨dx3, ob3⟩ := O3.ob
      have hpt3 := O3.ht
      have qs := q H3 s23
      unfold frShows at qs
      rw [a2, Bool.true_and] at qs
      walk_at "go"
      refine ite_ndec (fun c => ?_) (fun c => ?_)
      · walk_at "go"
        rw [decide_eq_false c, Bool.false_and] at qs
        exact qs
      rw [decide_eq_true c, Bool.true_and] at qs
      walk_at "go"
      refine c_fld ob3 T.cl_Fronted T.na_Fronted_things (oneF_at _ pt) ?_
      walk_at "go"
      refine c_fld ob3 T.cl_Fronted T.na_Fronted_things (oneF_at _ pt) ?_
      refine c_lenset (ns := things) (SqL.of hpt3) (by omega) ?_
      walk_at "go"
      refine ite_ndec (fun c2 => ?_) (fun c2 => ?_)
      · walk_at "go"
        rw [decide_eq_false c2, Bool.false_and] at qs
        exact qs
      rw [decide_eq_true c2, Bool.true_and] at qs
      unfold frTail at qs
      walk_at "go"
      refine ite_dec (fun c3 => ?_) (fun c3 => ?_)
      · rw [decide_eq_true c3, Bool.true_or] at qs
        exact qs
      rw [decide_eq_false c3, Bool.false_or] at qs
      walk_at "go"
      refine ite_dec (fun c4 => ?_) (fun c4 => ?_)
      · rw [decide_eq_true c4, Bool.true_and] at qs
        walk_at "go"
        refine m_idx (by walk_at "sq") (row_mem R (by omega)) ?_
        walk_at "go"
        refine m_idx (by walk_at "sq") (row_mem R (by omega)) ?_
        walk_at "go"
        exact qs
      · rw [decide_eq_false c4, Bool.false_and] at qs
        exact qs
def sp_fronted (K : PySem.W.Frag) (C : Addr) : Sp := fun vs H Q _ => ∃ (a : Addr) (ns : List Int), vs = [.ref a] ∧ SqL K H a (ns.map V.int) ∧ IsRow ns ∧ ∀ x pt k H', Same H H' → H x = none → H pt = none → FrIs ns k → FrA C H' x pt (upTo k).reverse → Q (.ref x) H'
theorem ok_fronted : Cc P w K mg base 3 "fronted" (sp_fronted K C_Fronted) := by
  have c_check_row := ok_check_row (P := P) (w := w) (base := base) T
  have c_places_of := ok_places_of (P := P) (w := w) (base := base) T
  have c_Fronted := ok_Fronted___init__ (P := P) (w := w) (base := base) T
  refine Cc.mk' T.d_fronted sc_fronted ?_ ?_
  · rintro vs H Q E ⟨a, ns, rfl, _⟩; rfl
  · rintro f cdv A outer s H vs Q E hr ⟨a, ns, rfl, hS, R, q⟩
    have hl := R.len
    have lp := placesOf_length ns
    refine ⟨_, (pss_cons (ps_expr (pe_cc c_check_row (hr.mono (by decide)) (by rfl) (pa_cons (pv 0) pa_nil)))
      (pss_cons (ps_set (i := 1) sc_fronted.nd rfl (by first | exact Or.inl rfl | exact Or.inr rfl) (pe_cc c_places_of (hr.mono (by decide)) (by rfl) (pa_cons (pv 0) pa_nil)))
      (pss_cons (ps_set (i := 2) sc_fronted.nd rfl (by first | exact Or.inl rfl | exact Or.inr rfl) (pe_callB (r := rLen2 K) call_len_seq (by rfl) T.b_len PySem.boot_len (pa_cons (pv 0) pa_nil)))
      (pss_cons (ps_while PassesOwn.never (PW.pt (pw_and (pt_cmpR op_gt (pv 2) pe_int (nomark _)) (pw_and1 (PW.pt (pw_or (pt_cmpR op_eq (pv 2) (pe_callB (r := rLen2 K) call_len_seq (by rfl) T.b_len PySem.boot_len (pa_cons (pv 0) pa_nil)) (nomark _)) (pw_or1 (pt_cmpR op_lt (pe_ix (r := rIxL K) ix_list (pv 1) (pe_op op_sub (pv 2) pe_int) (fun _ _ => rfl)) (pe_ix (r := rIxL K) ix_list (pv 1) (pv 2) (fun _ _ => rfl)) (nomark _)))))))) (pss_one (ps_aug (i := 2) sc_fronted.nd rfl (by first | exact Or.inl rfl | exact Or.inr rfl) pe_int ip_sub)))
      (pss_one (ps_ret (pe_cm c_Fronted (hr.mono (by decide)) (by rfl) (pa_cons (pe_revL (pe_listRg rfl (by rfl) T.b_list (prg_1 (by rfl) T.b_range (pv 2)))) pa_nil)))))))), ?_⟩
    walk_at "k"
    walk_at "go"
    refine ⟨a, ns, rfl, hS, R, fun H1 s1 => ?_⟩
    walk_at "go"
    refine ⟨a, ns, rfl, by walk_at "sq", R, fun pp H2 s2 npp hpp => ?_⟩
    have s02 := s1.trans s2
    have npp0 := s1.free npp
    clear s2 npp
    walk_at "go"
    have stop : ∀ (k : Nat) (H' : Hp), H' = H2 → FrIs ns k → (tRet (tMake C_Fronted (sp_Fr_init K C_Fronted) [] L2.E0 (tCons (tRevL K (tLstRg (tRg1 (tVar 2)))) tNil)) { nx := fun _ H' => Q .non H', rt := Q } [some (.ref a), some (.ref pp), some (.int (k : Nat))] H') := by
      rintro k H' rfl I
      have hk := I.le
      walk_at "go"
      refine k_listRg (by omega) fun l nl => ?_
      walk_at "go"
      refine c_rev (f := V.int) (xs := upTo k) (by walk_at "sq") fun l2 nl2 => ?_
      have s3 : Same H (upd (upd H' l (.lst ((upTo k).map V.int))) l2 (.lst ((upTo k).reverse.map V.int))) := by walk_at "same"
      have h2 : (upd (upd H' l (.lst ((upTo k).map V.int))) l2 (.lst ((upTo k).reverse.map V.int))) l2 = some (.lst ((upTo k).reverse.map V.int)) := upd_same
      generalize upd (upd H' l (.lst ((upTo k).map V.int))) l2 (.lst ((upTo k).reverse.map V.int)) = H3 at s3 h2
      walk_at "go"
      intro x dx nx ndx nxd
      refine ⟨x, l2, dx, (upTo k).reverse, H3, rfl, upd_same, by walk_at "same", nx, SqL.of h2, fun pt H4 s4 npt O => ⟨rfl, ?_⟩⟩
      exact q x pt k H4 (s3.trans s4) (s3.free nx) (s3.free npt) I O
    refine r_while (fun m σ H' => H' = H2 ∧ m ≤ ns.length ∧ σ = [some (.ref a), some (.ref pp), some (.int (m : Nat))] ∧ Inc ns m ns.length) ns.length ⟨rfl, Nat.le_refl _, rfl, fun x hx => by omega⟩ ?_
    rintro m σ' H' ⟨rfl, hm, rfl, inc⟩
    walk_at "go"
    refine ite_dec (fun c1 => ?_) (fun c1 => ?_)
    · walk_at "go"
      have hm1 : 0 < m := by omega
      refine ite_dec (fun c2 => ?_) (fun c2 => ?_)
      · walk_at "go"
        refine ⟨fun σ2 H2 => H2 = H' ∧ σ2 = [some (.ref a), some (.ref pp), some (.int ((m - 1 : Nat) : Int))], fun σ2 H2 ⟨h1, h2⟩ => ⟨m - 1, by omega, h1, by omega, h2, fun x hx => by omega⟩, ?_⟩
        walk_at "go"
        refine ⟨rfl, ?_⟩
        rw [show ((m - 1 : Nat) : Int) = (m : Int) - 1 by omega]
        rfl
      · walk_at "go"
        refine ite_dec (fun c3 => ?_) (fun c3 => ?_)
        · walk_at "go"
          refine ⟨fun σ2 H2 => H2 = H' ∧ σ2 = [some (.ref a), some (.ref pp), some (.int ((m - 1 : Nat) : Int))], fun σ2 H2 ⟨h1, h2⟩ => ⟨m - 1, by omega, h1, by omega, h2, fun x hx => ?_⟩, ?_⟩
          · by_cases e : x = (m : Int) - 1
            · subst e
              rw [show (m : Int) - 1 + 1 = m by omega]
              exact c3
            · exact inc x (by omega)
          walk_at "go"
          refine ⟨rfl, ?_⟩
          rw [show ((m - 1 : Nat) : Int) = (m : Int) - 1 by omega]
          rfl
        · have : gt (placesOf ns) ((m : Int) - 1) ≠ gt (placesOf ns) m := fun z => by
            have := places_inj R (by omega) (by omega) z; omega
          first
            | exact (stop m H' rfl ⟨hm, inc, .inr ⟨by omega, by omega⟩⟩)
            | (walk_at "go1"; exact (stop m H' rfl ⟨hm, inc, .inr ⟨by omega, by omega⟩⟩))
            | (walk_at "go1"; walk_at "go1"; exact (stop m H' rfl ⟨hm, inc, .inr ⟨by omega, by omega⟩⟩))
            | (walk_at "go1"; walk_at "go1"; walk_at "go1"; exact (stop m H' rfl ⟨hm, inc, .inr ⟨by omega, by omega⟩⟩))
            | (walk_at "go1"; walk_at "go1"; walk_at "go1"; walk_at "go1"; exact (stop m H' rfl ⟨hm, inc, .inr ⟨by omega, by omega⟩⟩))
            | (walk_at "go1"; walk_at "go1"; walk_at "go1"; walk_at "go1"; walk_at "go1"; exact (stop m H' rfl ⟨hm, inc, .inr ⟨by omega, by omega⟩⟩))
    · first
        | exact (stop m H' rfl ⟨hm, inc, .inl (by omega)⟩)
        | (walk_at "go1"; exact (stop m H' rfl ⟨hm, inc, .inl (by omega)⟩))
        | (walk_at "go1"; walk_at "go1"; exact (stop m H' rfl ⟨hm, inc, .inl (by omega)⟩))
        | (walk_at "go1"; walk_at "go1"; walk_at "go1"; exact (stop m H' rfl ⟨hm, inc, .inl (by omega)⟩))
        | (walk_at "go1"; walk_at "go1"; walk_at "go1"; walk_at "go1"; exact (stop m H' rfl ⟨hm, inc, .inl (by omega)⟩))
        | (walk_at "go1"; walk_at "go1"; walk_at "go1"; walk_at "go1"; walk_at "go1"; exact (stop m H' rfl ⟨hm, inc, .inl (by omega)⟩))
def sp_En_init (K : PySem.W.Frag) (C : Addr) : Sp := fun vs H Q _ => ∃ (x a dx : Addr) (ts : List Addr) (ps : List (Int × Int)) (H0 : Hp), vs = [.ref x, .ref a] ∧ H x = some (.ins C dx []) ∧ Same H0 H ∧ H0 x = none ∧ SqL K H0 a (ts.map V.ref) ∧ Tf H0 ts ps ∧
  ∀ pt H', Same H0 H' → H0 pt = none → EnA C H' x pt ts ps → Q .non H'
theorem ok_Ended___init__ : Ck P w K mg base 1 "Ended" C_Ended (sp_En_init K C_Ended) := by
  refine Ck.mk' T.k_Ended sc_Ended___init__ ?_ ?_
  · rintro vs H Q E ⟨x, a, dx, ts, ps, H0, rfl, _⟩; rfl
  · rintro f cdv A outer s H vs Q E hr ⟨x, a, dx, ts, ps, H0, rfl, hx, s0, nx, hA, hT, q⟩
    refine ⟨_, (pss_one (ps_fld (pv 0) (pe_callTy (r := rList2 K) call_list_of (by rfl) T.b_list PyProof.Rows.boot_list (pa_cons (pv 1) pa_nil)) rfl)), ?_⟩
    walk_at "k"
    walk_at "go"
    refine c_list (s0.seq hA) fun pt npt => ?_
    have e1 : x ≠ pt := neo npt hx
    have npt0 : H0 pt = none := s0.free npt
    walk_at "go"
    refine k_fld (lift_ne hx e1) T.cl_Ended T.na_Ended_moves (by decide) ?_
    have s3 : Same H0 (upd (upd H pt (.lst (ts.map V.ref))) x (.ins C_Ended dx (oneF "moves" pt))) := by walk_at "same"
    walk_at "go"
    exact q pt _ s3 npt0 ⟨⟨dx, upd_same⟩, lift_ne upd_same (Ne.symm e1), hT.same s3⟩
def sp_En_shows (K : PySem.W.Frag) (C : Addr) : Sp := fun vs H Q _ => ∃ (x pt a : Addr) (ts : List Addr) (ps : List (Int × Int)) (ns : List Int), vs = [.ref x, .ref a] ∧ EnA C H x pt ts ps ∧ SqL K H a (ns.map V.int) ∧ IsRow ns ∧ ts.length ≤ 2000 ∧ ∀ H', Same H H' → Q (.bl (enShows ns ps)) H'
theorem ok_Ended_shows : Cm P w K mg base 3 C_Ended "shows" (sp_En_shows K C_Ended) := by
  have c_longest_run := ok_longest_run (P := P) (w := w) (base := base) T
  have c_is_order := ok_is_order (P := P) (w := w) (base := base) T
  refine Cm.mk' T.m_Ended_shows sc_Ended_shows ?_ ?_
  · rintro vs H Q E ⟨x, pt, a, ts, ps, ns, rfl, _⟩; rfl
  · rintro f cdv A outer s H vs Q E hr ⟨x, pt, a, ts, ps, ns, rfl, O, hA, R, ht, q⟩
    have hl := R.len
    refine ⟨_, (pss_cons (ps_set (i := 2) sc_Ended_shows.nd rfl (by first | exact Or.inl rfl | exact Or.inr rfl) (pe_callTy (r := rList2 K) call_list_of (by rfl) T.b_list PyProof.Rows.boot_list (pa_cons (pv 1) pa_nil)))
      (pss_cons (ps_for PassesOwn.never rfl (pi_list (pe_fld (pv 0) rfl)) (pg_tup rfl (pgs_cons (pg_name (i := 3) sc_Ended_shows.nd rfl (by first | exact Or.inl rfl | exact Or.inr rfl)) (pgs_cons (pg_name (i := 4) sc_Ended_shows.nd rfl (by first | exact Or.inl rfl | exact Or.inr rfl)) pgs_nil))) (pss_cons (ps_if (PW.pt (pw_or (pt_cmpR (r := rIn K true) op_notIn_seq (pv 3) (pv 2) (by rfl)) (pw_or1 (pt_cmpR (r := rIn K true) op_notIn_seq (pv 4) (pe_lst (pa_cons pe_int (pa_cons pe_int pa_nil))) (by rfl))))) (pss_one (ps_ret pe_bl)) pss_nil)
      (pss_cons (ps_expr (pe_bm PySem.F.plainAttrs_list PySem.F.slot_list_remove PySem.F.type_list_remove mt_remove (pv 2) (pa_cons (pv 3) pa_nil)))
      (pss_one (ps_expr (pe_bm (r := rIns) PySem.F.plainAttrs_list PySem.F.slot_list_insert PySem.F.type_list_insert mt_insert (pv 2) (pa_cons (pe_op op_mul (pe_callB (r := rLen2 K) call_len_seq (by rfl) T.b_len PySem.boot_len (pa_cons (pv 2) pa_nil)) (pv 4)) (pa_cons (pv 3) pa_nil))))))))
      (pss_one (ps_ret (pe_and (pe_cc c_is_order (hr.mono (by decide)) (by rfl) (pa_cons (pv 2) pa_nil)) (pe_one (pe_cmpR op_eq (pe_op op_add (pe_callB (r := rLen2 K) call_len_seq (by rfl) T.b_len PySem.boot_len (pa_cons (pe_fld (pv 0) rfl) pa_nil)) (pe_ix (r := rIxT K) ix_tup (pe_cc c_longest_run (hr.mono (by decide)) (by rfl) (pa_cons (pv 1) pa_nil)) pe_int (fun _ _ => rfl))) (pe_callB (r := rLen2 K) call_len_seq (by rfl) T.b_len PySem.boot_len (pa_cons (pv 1) pa_nil)) (nomark _)))))))), ?_⟩
    obtain ⟨dx, ob⟩ := O.ob
    have hpt := O.hm
    have lp := O.tf.1
    walk_at "k"
    walk_at "go"
    refine c_list hA fun p np => ?_
    walk_at "go"
    refine c_fld (show _ = some (HO.ins C_Ended dx (oneF "moves" pt)) by walk_at "hp") T.cl_Ended T.na_Ended_moves (oneF_at _ pt) ?_
    refine k_lstP (ts := ts) (ps := ps) (fun i σ H' => ∃ v3 v4, σ = [some (.ref x), some (.ref a), some (.ref p), v3, v4] ∧ Same H H' ∧ H' p = some (.lst (((ps.take i).foldl em ns).map V.int)) ∧ (ps.take i).all (emOk ns) = true)
      (by walk_at "sq") lp ⟨_, _, rfl, by walk_at "same", by walk_at "hp", rfl⟩ (fun i σ H' _ ⟨_, _, _, s2, _⟩ => ⟨s2.seq (SqL.of hpt), O.tf.same s2⟩) ?_ ?_
    · rintro i ⟨t, e⟩ σ H' hi ⟨v3, v4, rfl, s2, h2, a2⟩
      walk_at "d"
      have pm := em_mem a2
      have lf := pm.length_eq
      have bad : emOk ns (t, e) = false → ∀ H3, Same H H3 → Q (.bl false) H3 := fun h H3 s3 => by
        have := q H3 s3
        unfold enShows at this
        rw [show ps.all (emOk ns) = false from List.all_eq_false.mpr ⟨(t, e), List.mem_of_getElem? hi, by rw [h]; exact Bool.false_ne_true⟩, Bool.false_and] at this
        exact this
      walk_at "go"
      refine ite_ndec (fun c => ?_) (fun c => ?_)
      · walk_at "go"
        exact bad (by unfold emOk; rw [decide_eq_false fun z => c (pm.mem_iff.mpr z), Bool.false_and]) _ s2
      have ct := pm.mem_iff.mp c
      walk_at "go"
      refine ⟨by show 2 ≤ sizeLine; decide, fun l nl => ?_⟩
      have e1 : p ≠ l := neo nl h2
      have s3 : Same H (upd H' l (.lst [.int 0, .int 1])) := by walk_at "same"
      refine o_nin (ns := [0, 1]) (SqL.of upd_same) ?_
      have h3 : (upd H' l (.lst [.int 0, .int 1])) p = some (.lst (((ps.take i).foldl em ns).map V.int)) := lift_ne h2 e1
      generalize upd H' l (.lst [.int 0, .int 1]) = H3 at s3 h3
      walk_at "go"
      refine ite_ndec (fun c2 => ?_) (fun c2 => ?_)
      · walk_at "go"
        exact bad (by unfold emOk; rw [decide_eq_false c2, Bool.and_false]) _ s3
      have ok : (ps.take (i + 1)).all (emOk ns) = true := by
        rw [List.take_add_one, hi, List.all_append, a2]
        show (true && (emOk ns (t, e) && true)) = true
        unfold emOk
        rw [decide_eq_true ct, decide_eq_true c2]; rfl
      have le := List.length_erase_of_mem c
      have le2 := List.length_pos_of_mem c
      walk_at "go"
      refine m_rem h3 c ?_
      have c2' : e = 0 ∨ e = 1 := by simpa using c2
      walk_at "go"
      rcases c2' with rfl | rfl
      · walk_at "go"
        refine ⟨_, _, rfl, by walk_at "same", ?_, ok⟩
        rw [foldl_take hi]
        have : ins ((List.foldl em ns (ps.take i)).erase t) (((((List.foldl em ns (ps.take i)).erase t).length : Nat) : Int) * 0) t = em (List.foldl em ns (ps.take i)) (t, 0) := by
          rw [Int.mul_zero, ins_0]; rfl
        rw [← this]; exact upd_same
      · walk_at "go"
        refine ⟨_, _, rfl, by walk_at "same", ?_, ok⟩
        rw [foldl_take hi]
        have : ins ((List.foldl em ns (ps.take i)).erase t) (((((List.foldl em ns (ps.take i)).erase t).length : Nat) : Int) * 1) t = em (List.foldl em ns (ps.take i)) (t, 1) := by
          rw [Int.mul_one, ins_len]; rfl
        rw [← this]; exact upd_same
    · rintro σ H' ⟨v3, v4, rfl, s2, h2, a2⟩
      rw [List.take_length] at h2 a2
      have pm := em_mem a2
      have lf := pm.length_eq
      walk_at "d"
      walk_at "go"
      refine ⟨p, _, rfl, SqL.of h2, by omega, fun H3 s3 => ?_⟩
      rw [lf]
      have s23 := s2.trans s3
      have qs := q
      unfold enShows at qs
      rw [a2, Bool.true_and] at qs
      walk_at "go"
      refine ite_dec (fun c => ?_) (fun c => ?_)
      · rw [decide_eq_true c, Bool.true_and] at qs
        have O3 := O.same s23
        obtain ⟨dx3, ob3⟩ := O3.ob
        have hm3 := O3.hm
        walk_at "go"
        refine c_fld ob3 T.cl_Ended T.na_Ended_moves (oneF_at _ pt) ?_
        walk_at "go"
        refine ⟨a, ns, rfl, s23.seq hA, R, fun pr H4 s4 npr hpr => ?_⟩
        have s234 := s23.trans s4
        walk_at "go"
        refine o_ixT (SqT.of hpr) (v := .int (runOf ns).b1) rfl ?_
        walk_at "go"
        rw [lp]
        exact qs H4 s234
      · rw [decide_eq_false c, Bool.false_and] at qs
        exact qs H3 s23
def sp_ended (K : PySem.W.Frag) (C : Addr) : Sp := fun vs H Q _ => ∃ (a : Addr) (ns : List Int), vs = [.ref a] ∧ SqL K H a (ns.map V.int) ∧ IsRow ns ∧ ∀ x pt ts H', Same H H' → H x = none → H pt = none → EnA C H' x pt ts (enMoves ns) → Q (.ref x) H'
theorem ok_ended : Cc P w K mg base 3 "ended" (sp_ended K C_Ended) := by
  have c_check_row := ok_check_row (P := P) (w := w) (base := base) T
  have c_longest_run := ok_longest_run (P := P) (w := w) (base := base) T
  have c_Ended := ok_Ended___init__ (P := P) (w := w) (base := base) T
  refine Cc.mk' T.d_ended sc_ended ?_ ?_
  · rintro vs H Q E ⟨a, ns, rfl, _⟩; rfl
  · rintro f cdv A outer s H vs Q E hr ⟨a, ns, rfl, hS, R, q⟩
    have hl := R.len
    have hI := (LI.all R _ (Nat.le_refl _)).b
    change 0 ≤ (runOf ns).b0 ∧ 0 ≤ (runOf ns).b1 ∧ (runOf ns).b0 + (runOf ns).b1 ≤ ns.length at hI
    refine ⟨_, (pss_cons (ps_expr (pe_cc c_check_row (hr.mono (by decide)) (by rfl) (pa_cons (pv 0) pa_nil)))
      (pss_cons (ps_asg (pe_cc c_longest_run (hr.mono (by decide)) (by rfl) (pa_cons (pv 0) pa_nil)) (pg_tup rfl (pgs_cons (pg_name (i := 1) sc_ended.nd rfl (by first | exact Or.inl rfl | exact Or.inr rfl)) (pgs_cons (pg_name (i := 2) sc_ended.nd rfl (by first | exact Or.inl rfl | exact Or.inr rfl)) pgs_nil))))
      (pss_cons (ps_set (i := 3) sc_ended.nd rfl (by first | exact Or.inl rfl | exact Or.inr rfl) (pe_revL (pe_lc (own := [("thing", 4)]) (g := gName 4) (tt := tYes) rfl sc_ended.nd (pi_range1 (by rfl) T.b_range (pa_cons (pv 1) pa_nil)) (blkOk_by (own := [("thing", 4)]) (N := N_ended) (sc := defScope s_ended) (by decide +kernel)) (fun _ _ _ _ _ => (pg_name (i := 4) sc_ended.nd rfl (Or.inl rfl))) (fun _ _ _ _ _ => pts_nil) (fun _ _ _ _ _ => (pe_tup (pa_cons (pv 4) (pa_cons pe_int pa_nil)))))))
      (pss_one (ps_ret (pe_cm c_Ended (hr.mono (by decide)) (by rfl) (pa_cons (pe_op op_cat (pv 3) (pe_lc (own := [("thing", 4)]) (g := gName 4) (tt := tYes) rfl sc_ended.nd (pi_range2 (by rfl) T.b_range (pa_cons (pe_op op_add (pv 1) (pv 2)) (pa_cons (pe_callB (r := rLen2 K) call_len_seq (by rfl) T.b_len PySem.boot_len (pa_cons (pv 0) pa_nil)) pa_nil))) (blkOk_by (own := [("thing", 4)]) (N := N_ended) (sc := defScope s_ended) (by decide +kernel)) (fun _ _ _ _ _ => (pg_name (i := 4) sc_ended.nd rfl (Or.inl rfl))) (fun _ _ _ _ _ => pts_nil) (fun _ _ _ _ _ => (pe_tup (pa_cons (pv 4) (pa_cons pe_int pa_nil)))))) pa_nil))))))), ?_⟩
    walk_at "k"
    walk_at "go"
    refine ⟨a, ns, rfl, hS, R, fun H1 s1 => ?_⟩
    walk_at "go"
    refine r_asg ?_
    walk_at "go"
    refine ⟨a, ns, rfl, by walk_at "sq", R, fun pb H2 s2 npb hpb => ?_⟩
    have s02 := s1.trans s2
    clear s2 npb
    refine k_tup2 (SqT.of hpb) ?_
    walk_at "go"
    refine k_lcR1N (fun x => oP (x, 0)) (by omega) (fun _ => rfl) ?_ ?_
    · intro i H3 R' hi s3 k3
      walk_at "go"
      exact ⟨by show 2 ≤ sizeLine; decide, fun t nt => k3 t _ nt (Same.one nt) upd_same⟩
    intro D as H3 nD s3 n3 m3 hD
    have n3' := n3.map (g := fun x => (x, (0 : Int))) (obj := oP)
    have la := n3.len
    rw [List.length_map, List.length_range] at la
    have s03 := s02.trans s3
    walk_at "go"
    refine c_rev (f := V.ref) (xs := as) (SqL.of hD) fun l nl => ?_
    have s04 : Same H (upd H3 l (.lst (as.reverse.map V.ref))) := by walk_at "same"
    have n4 := (n3'.same (Same.one (o := .lst (as.reverse.map V.ref)) nl)).reverse
    have h4 : (upd H3 l (.lst (as.reverse.map V.ref))) l = some (.lst (as.reverse.map V.ref)) := upd_same
    generalize upd H3 l (.lst (as.reverse.map V.ref)) = H4 at s04 n4 h4
    walk_at "go"
    refine k_lcR2N (fun x => oP (x, 1)) (by omega) (fun _ => rfl) ?_ ?_
    · intro i H5 R' hi s5 k5
      walk_at "go"
      exact ⟨by show 2 ≤ sizeLine; decide, fun t nt => k5 t _ nt (Same.one nt) upd_same⟩
    intro D2 bs H5 nD2 s5 n5 m5 hD2
    have n5' := n5.map (g := fun x => (x, (1 : Int))) (obj := oP)
    have lb := n5.len
    rw [List.length_map, List.length_range] at lb
    have s05 := s04.trans s5
    refine o_cat (f := V.ref) (xs := as.reverse) (zs := bs) (s5 _ _ h4) hD2 (by rw [List.length_reverse]; omega) fun pc npc => ?_
    have T6 : Tf (upd H5 pc (.lst ((as.reverse ++ bs).map V.ref))) (as.reverse ++ bs) (enMoves ns) := ((Tf.of (n4.same s5)).app (Tf.of n5')).same (Same.one npc)
    have s06 : Same H (upd H5 pc (.lst ((as.reverse ++ bs).map V.ref))) := by walk_at "same"
    have h6 : (upd H5 pc (.lst ((as.reverse ++ bs).map V.ref))) pc = some (.lst ((as.reverse ++ bs).map V.ref)) := upd_same
    generalize upd H5 pc (.lst ((as.reverse ++ bs).map V.ref)) = H6 at T6 s06 h6
    walk_at "go"
    intro x dx nx ndx nxd
    refine ⟨x, pc, dx, as.reverse ++ bs, enMoves ns, H6, rfl, upd_same, by walk_at "same", nx, SqL.of h6, T6, fun pt H7 s7 npt O => ⟨rfl, ?_⟩⟩
    exact q x pt _ H7 (s06.trans s7) (s06.free nx) (s06.free npt) O
end
end Bo

namespace Bo
open PySem PySem.Spec PyProof.Rows L2
/-! ### steps of a reading: each a row of its own -/
local macro_rules | `(tactic| walk_at "ne") => `(tactic| first
  | assumption
  | (apply Ne.symm; assumption)
  | (apply neo; assumption; walk_at "hp")
  | (apply Ne.symm; apply neo; assumption; walk_at "hp"))
local macro_rules | `(tactic| walk_at "hp") => `(tactic| first
  | assumption
  | exact upd_same
  | (apply lift_ne; walk_at "hp"; walk_at "ne")
  | (apply Same.up; assumption; walk_at "hp"))
local macro_rules | `(tactic| walk_at "same") => `(tactic| first
  | assumption
  | exact Same.refl _
  | (apply Same.new; walk_at "same"; walk_at "fr")
  | (apply same_trans; assumption; walk_at "same"))
local macro_rules | `(tactic| walk_at "fr") => `(tactic| first
  | assumption
  | (apply same_free; assumption; walk_at "same"))
local macro_rules | `(tactic| walk_at "sq") => `(tactic| first
  | assumption
  | (apply SqL.of; walk_at "hp")
  | (apply same_seq; assumption; walk_at "same"))
local macro_rules | `(tactic| walk_at "sqt") => `(tactic| first
  | assumption
  | (apply SqT.of; walk_at "hp")
  | (apply same_sqt; assumption; walk_at "same"))
local macro_rules | `(tactic| walk_at "nw") => `(tactic| first
  | assumption
  | (apply News.mut; walk_at "nw"; (first | assumption | (refine News.notin (by assumption) ?_; assumption)))
  | (apply News.same; walk_at "nw"; walk_at "same"))
/-! one step -/
local macro_rules | `(tactic| walk_at "go1") => `(tactic| first
  | with_reducible refine r_seq ?_
  | with_reducible refine r_asgN ?_
  | with_reducible refine r_set ?_
  | with_reducible refine r_ret ?_
  | with_reducible refine r_drop ?_
  | with_reducible refine r_if ?_
  | with_reducible refine r_next ?_
  | ((with_reducible apply r_nxD); with_reducible refine r_nx ?_)
  | ((with_reducible apply r_rtD); with_reducible refine r_rt ?_)
  | with_reducible refine r_par ?_
  | with_reducible refine k_par ?_
  | with_reducible refine r_fld ?_
  | ((with_reducible apply r_aug); exact rfl)
  | with_reducible refine i_ip ?_
  | ((with_reducible apply e_var); exact rfl)
  | with_reducible refine e_c ?_
  | with_reducible refine e_op ?_
  | with_reducible refine e_un ?_
  | with_reducible refine o_I0 ?_
  | with_reducible refine o_neg ?_
  | with_reducible refine o_eqI ?_
  | with_reducible refine o_neI ?_
  | with_reducible refine o_eqB ?_
  | with_reducible refine o_neB ?_
  | with_reducible refine o_eqS ?_
  | with_reducible refine o_neS ?_
  | with_reducible refine a_nil ?_
  | with_reducible refine a_cons ?_
  | with_reducible refine e_cb ?_
  | with_reducible refine e_call ?_
  | with_reducible refine e_make ?_
  | with_reducible refine e_meth ?_
  | with_reducible refine e_fld ?_
  | with_reducible refine e_lst ?_
  | with_reducible refine e_tup ?_
  | with_reducible refine e_bm ?_
  | with_reducible refine e_bm0 ?_
  | with_reducible refine e_rev ?_
  | with_reducible refine e_sl ?_
  | with_reducible refine e_nopart ?_
  | with_reducible refine e_part ?_
  | with_reducible refine i_ok ?_
  | with_reducible refine e_lenset ?_
  | with_reducible refine e_listRg1 ?_
  | with_reducible refine t_test ?_
  | with_reducible refine t_B ?_
  | with_reducible refine b_ok ?_
  | with_reducible refine t_and ?_
  | with_reducible refine t_or ?_
  | with_reducible refine t_not ?_
  | with_reducible refine v_and ?_
  | with_reducible refine v_or ?_
  | with_reducible refine v_not ?_
  | with_reducible refine e_if ?_
  | with_reducible refine e_chain ?_
  | with_reducible refine e_chain3 ?_
  | with_reducible refine iteT ?_
  | with_reducible refine iteF ?_
  | with_reducible refine ite_nT ?_
  | with_reducible refine ite_nF ?_
  | with_reducible refine r_forL ?_
  | with_reducible refine r_forT ?_
  | with_reducible refine r_forE ?_
  | with_reducible refine r_forR1 ?_
  | with_reducible refine r_forR2 ?_
  | with_reducible refine e_lcL ?_
  | with_reducible refine e_lcR1 ?_
  | with_reducible refine e_lcR2 ?_
  | with_reducible refine r_dput ?_
  | with_reducible refine e_dget ?_
  | with_reducible refine e_dnin ?_
  | with_reducible refine c_max2 ?_
  | with_reducible refine c_min2 ?_
  | ((with_reducible apply c_isiI); (first | exact (show kitB "int" _ = some true by decide +kernel) | exact (show kitB "int" _ = some false by decide +kernel)))
  | ((with_reducible apply m_ty); walk_at "sq"))
local macro_rules | `(tactic| walk_at "go2") => `(tactic| first
  | ((with_reducible apply o_ixI); walk_at "sq"; omega)
  | ((with_reducible refine o_mod ?_ ?_); omega)
  | ((with_reducible refine o_fdiv ?_ ?_); omega)
  | ((with_reducible refine o_mulR ?_ ?_); omega)
  | ((with_reducible refine o_mulL ?_ ?_); omega)
  | ((with_reducible apply c_lenM); walk_at "sq")
  | ((with_reducible apply c_all); walk_at "sq")
  | ((with_reducible apply c_any); walk_at "sq")
  | ((with_reducible apply o_in); walk_at "sq")
  | ((with_reducible apply o_nin); walk_at "sq")
  | ((with_reducible apply o_ixB); walk_at "sq"; omega)
  | ((with_reducible apply m_setB); walk_at "hp"; omega)
  | ((with_reducible apply m_appR); walk_at "hp"; omega)
  | ((with_reducible apply m_ins); walk_at "hp"; omega; omega)
  | ((with_reducible apply m_appM); walk_at "hp"; exact rfl; omega)
  | ((with_reducible apply m_setI); walk_at "hp"; omega))
local macro_rules | `(tactic| walk_at "d") => `(tactic| try dsimp only)
local macro_rules | `(tactic| walk_at "k") => `(tactic| try dsimp only [cxOf, Cx.nox, Cx.blk])
local macro_rules | `(tactic| walk_at "go") => `(tactic| repeat (first | walk_at "go1" | walk_at "go2"))

section
variable {P : Program} {w : World} {K : PySem.W.Frag} {mg : Str → Option Value} {base : Heap} {C_Exchanged C_Fronted C_Ended C_Put C_Answer : Addr} (T : Top K mg C_Exchanged C_Fronted C_Ended C_Put C_Answer)
include T

def sp_law_fronted (K : PySem.W.Frag) : Sp := fun vs H Q _ => ∃ (a b : Addr) (ns things : List Int), vs = [.ref a, .ref b] ∧ SqL K H a (ns.map V.int) ∧ SqL K H b (things.map V.int) ∧ ns.length ≤ 1000 ∧
  ∀ p H', Same H H' → H p = none → H' p = some (.lst ((frL ns things).map V.int)) → Q (.ref p) H'
theorem ok__law_fronted : Cc P w K mg base 1 "_law_fronted" (sp_law_fronted K) := by
  refine Cc.mk' T.d__law_fronted sc__law_fronted ?_ ?_
  · rintro vs H Q E ⟨a, b, ns, things, rfl, _⟩; rfl
  · rintro f cdv A outer s H vs Q E hr ⟨a, b, ns, things, rfl, hA, hB, hl, q⟩
    refine ⟨_, (pss_cons (ps_set (i := 2) sc__law_fronted.nd rfl (by first | exact Or.inl rfl | exact Or.inr rfl) (pe_callTy (r := rList2 K) call_list_of (by rfl) T.b_list PyProof.Rows.boot_list (pa_cons (pv 0) pa_nil)))
      (pss_cons (ps_for PassesOwn.never rfl (pi_list (pv 1)) (pg_name (i := 3) sc__law_fronted.nd rfl (by first | exact Or.inl rfl | exact Or.inr rfl)) (pss_cons (ps_if (pt_cmpR (r := rIn K true) op_notIn_seq (pv 3) (pv 2) (by rfl)) (pss_one (ps_ret (pe_lst pa_nil))) pss_nil)
      (pss_cons (ps_set (i := 4) sc__law_fronted.nd rfl (by first | exact Or.inl rfl | exact Or.inr rfl) (pe_bm PySem.F.plainAttrs_list PySem.F.slot_list_index PySem.F.type_list_index mt_index (pv 2) (pa_cons (pv 3) pa_nil)))
      (pss_one (ps_set (i := 2) sc__law_fronted.nd rfl (by first | exact Or.inl rfl | exact Or.inr rfl) (pe_op op_cat (pe_op op_cat (pe_lst (pa_cons (pv 3) pa_nil)) (pe_slice (r := rSlL K) sl_list (pv 2) po_none (po_some (pv 4)))) (pe_slice (r := rSlL K) sl_list (pv 2) (po_some (pe_op op_add (pv 4) pe_int)) po_none)))))))
      (pss_one (ps_ret (pv 2))))), ?_⟩
    walk_at "k"
    walk_at "go"
    refine c_list hA fun p np => ?_
    walk_at "go"
    refine k_lstN (f := V.int) things (fun i σ H' => ∃ pf v3 v4, σ = [some (.ref a), some (.ref b), some (.ref pf), v3, v4] ∧ Same H H' ∧ H pf = none ∧ H' pf = some (.lst (((things.take i).foldl mv ns).map V.int)) ∧ ((things.take i).all fun x => decide (x ∈ ns)) = true)
      (by walk_at "sq") ⟨p, _, _, rfl, by walk_at "same", np, by walk_at "hp", rfl⟩ (fun i σ H' _ ⟨_, _, _, _, s2, _⟩ => s2.seq hB) ?_ ?_
    · rintro i t σ H' hi ⟨pf, v3, v4, rfl, s2, npf, h2, a2⟩
      walk_at "d"
      have pm := fold_mem a2
      have lf := pm.length_eq
      walk_at "go"
      refine ite_ndec (fun c => ?_) (fun c => ?_)
      · walk_at "go"
        refine ⟨Nat.zero_le _, fun o no => ?_⟩
        walk_at "go"
        refine q o _ (by walk_at "same") (s2.free no) ?_
        unfold frL
        rw [show (things.all fun x => decide (x ∈ ns)) = false from List.all_eq_false.mpr ⟨t, List.mem_of_getElem? hi, by rw [decide_eq_false fun z => c (pm.mem_iff.mpr z)]; exact Bool.false_ne_true⟩, if_neg Bool.false_ne_true]
        exact upd_same
      · walk_at "go"
        refine m_idx (SqL.of h2) c ?_
        walk_at "go"
        refine ⟨by show 1 ≤ sizeLine; decide, fun l nl => ?_⟩
        have e1 : pf ≠ l := neo nl h2
        walk_at "go"
        refine o_slTo (f := V.int) (xs := (things.take i).foldl mv ns) (SqL.of (lift_ne h2 e1)) (by omega) fun l2 nl2 => ?_
        have e2 : pf ≠ l2 := neo nl2 (lift_ne h2 e1)
        have e3 : l ≠ l2 := neo nl2 upd_same
        rw [Int.toNat_natCast]
        refine o_cat (f := V.int) (xs := [t]) (zs := ((things.take i).foldl mv ns).take (((things.take i).foldl mv ns).idxOf t)) (lift_ne upd_same e3) upd_same (by rw [List.length_take]; simp; omega) fun l3 nl3 => ?_
        have e4 : pf ≠ l3 := neo nl3 (lift_ne (lift_ne h2 e1) e2)
        walk_at "go"
        refine o_slFrom (f := V.int) (xs := (things.take i).foldl mv ns) (SqL.of (lift_ne (lift_ne (lift_ne h2 e1) e2) e4)) (by omega) fun l4 nl4 => ?_
        have e5 : l3 ≠ l4 := neo nl4 upd_same
        refine o_cat (f := V.int) (xs := [t] ++ ((things.take i).foldl mv ns).take (((things.take i).foldl mv ns).idxOf t)) (zs := ((things.take i).foldl mv ns).drop (((((things.take i).foldl mv ns).idxOf t : Nat) : Int) + 1).toNat) (lift_ne upd_same e5) upd_same (by rw [List.length_append, List.length_take, List.length_drop]; simp; omega) fun l5 nl5 => ?_
        have e6 : ([t] ++ ((things.take i).foldl mv ns).take (((things.take i).foldl mv ns).idxOf t)) ++ ((things.take i).foldl mv ns).drop (((((things.take i).foldl mv ns).idxOf t : Nat) : Int) + 1).toNat = mv ((things.take i).foldl mv ns) t := by
          rw [show (((((things.take i).foldl mv ns).idxOf t : Nat) : Int) + 1).toNat = ((things.take i).foldl mv ns).idxOf t + 1 by omega, List.append_assoc, cut_erase c]; rfl
        rw [e6]
        have s5 : Same H' (upd (upd (upd (upd H' l (.lst [.int t])) l2 (.lst ((((things.take i).foldl mv ns).take (((things.take i).foldl mv ns).idxOf t)).map V.int))) l3 (.lst (([t] ++ ((things.take i).foldl mv ns).take (((things.take i).foldl mv ns).idxOf t)).map V.int))) l4 (.lst ((((things.take i).foldl mv ns).drop (((((things.take i).foldl mv ns).idxOf t : Nat) : Int) + 1).toNat).map V.int))) := by walk_at "same"
        have n5 : H l5 = none := (s2.trans s5).free nl5
        walk_at "go"
        refine ⟨l5, _, _, rfl, Same.new (s2.trans s5) n5, n5, ?_, ?_⟩
        · rw [foldl_take hi]
          exact upd_same
        · rw [List.take_add_one, hi, List.all_append, a2]
          show (true && (decide (t ∈ ns) && true)) = true
          rw [decide_eq_true (pm.mem_iff.mp c)]; rfl
    · rintro σ H' ⟨pf, v3, v4, rfl, s2, npf, h2, a2⟩
      rw [List.take_length] at h2 a2
      walk_at "d"
      walk_at "go"
      refine q pf H' s2 npf ?_
      unfold frL
      rw [if_pos a2]; exact h2
def sp_front_due (K : PySem.W.Frag) : Sp := fun vs H Q _ => ∃ (a b : Addr) (ns things : List Int), vs = [.ref a, .ref b] ∧ SqL K H a (ns.map V.int) ∧ SqL K H b (things.map V.int) ∧ IsRow ns ∧ things.length ≤ 2000 ∧ ∀ H', Same H H' → Q (.bl (frShows ns things)) H'
theorem ok__law_front_due : Cc P w K mg base 2 "_law_front_due" (sp_front_due K) := by
  have c__law_fronted := ok__law_fronted (P := P) (w := w) (base := base) T
  refine Cc.mk' T.d__law_front_due sc__law_front_due ?_ ?_
  · rintro vs H Q E ⟨a, b, ns, things, rfl, _⟩; rfl
  · rintro f cdv A outer s H vs Q E hr ⟨a, b, ns, things, rfl, hA, hB, R, ht, q⟩
    have hl := R.len
    rw [frDue] at q
    refine ⟨_, (pss_cons (ps_if (pt_cmpR (r := rNeD K) (op_neD hr.units) (pe_cc c__law_fronted (hr.mono (by decide)) (by rfl) (pa_cons (pv 0) (pa_cons (pv 1) pa_nil))) (pe_listRg rfl (by rfl) T.b_list (prg_1 (by rfl) T.b_range (pe_callB (r := rLen2 K) call_len_seq (by rfl) T.b_len PySem.boot_len (pa_cons (pv 0) pa_nil)))) (nomark _)) (pss_one (ps_ret pe_bl)) pss_nil)
      (pss_cons (ps_set (i := 2) sc__law_front_due.nd rfl (by first | exact Or.inl rfl | exact Or.inr rfl) (pe_callB (r := rLen2 K) call_len_seq (by rfl) T.b_len PySem.boot_len (pa_cons (pv 1) pa_nil)))
      (pss_cons (ps_if (pt_cmpR op_ne (pe_lenSetG (by rfl) T.b_len (by rfl) T.b_set (pv 1)) (pv 2) (nomark _)) (pss_one (ps_ret pe_bl)) pss_nil)
      (pss_one (ps_ret (pe_or (pe_cmpR op_eq (pv 2) pe_int (nomark _)) (pe_one (pe_and (pe_cmpR op_lt (pv 2) (pe_callB (r := rLen2 K) call_len_seq (by rfl) T.b_len PySem.boot_len (pa_cons (pv 0) pa_nil)) (nomark _)) (pe_one (pe_cmpR op_gt (pe_bm PySem.F.plainAttrs_list PySem.F.slot_list_index PySem.F.type_list_index mt_index (pv 0) (pa_cons (pe_op op_sub (pv 2) pe_int) pa_nil)) (pe_bm PySem.F.plainAttrs_list PySem.F.slot_list_index PySem.F.type_list_index mt_index (pv 0) (pa_cons (pv 2) pa_nil)) (nomark _))))))))))), ?_⟩
    walk_at "k"
    walk_at "go"
    refine ⟨a, b, ns, things, rfl, hA, hB, hl, fun p H1 s1 np hp => ?_⟩
    walk_at "go"
    refine k_listRg (by omega) fun l2 nl2 => ?_
    refine o_neL (ns := frL ns things) (ms := upTo ns.length) (by walk_at "sq") (by walk_at "sq") ?_
    have s2 : Same H (upd H1 l2 (.lst ((upTo ns.length).map V.int))) := by walk_at "same"
    generalize upd H1 l2 (.lst ((upTo ns.length).map V.int)) = H2 at s2
    have qs := q H2 s2
    walk_at "go"
    refine ite_ndec (fun c => ?_) (fun c => ?_)
    · walk_at "go"
      rw [decide_eq_false c, Bool.false_and] at qs
      exact qs
    rw [decide_eq_true c, Bool.true_and] at qs
    walk_at "go"
    refine c_lenset (ns := things) (s2.seq hB) (by omega) ?_
    walk_at "go"
    refine ite_ndec (fun c2 => ?_) (fun c2 => ?_)
    · walk_at "go"
      rw [decide_eq_false c2, Bool.false_and] at qs
      exact qs
    rw [decide_eq_true c2, Bool.true_and] at qs
    unfold frTail at qs
    walk_at "go"
    refine ite_dec (fun c3 => ?_) (fun c3 => ?_)
    · rw [decide_eq_true c3, Bool.true_or] at qs
      exact qs
    rw [decide_eq_false c3, Bool.false_or] at qs
    walk_at "go"
    refine ite_dec (fun c4 => ?_) (fun c4 => ?_)
    · rw [decide_eq_true c4, Bool.true_and] at qs
      walk_at "go"
      refine m_idx (by walk_at "sq") (row_mem R (by omega)) ?_
      walk_at "go"
      refine m_idx (by walk_at "sq") (row_mem R (by omega)) ?_
      walk_at "go"
      exact qs
    · rw [decide_eq_false c4, Bool.false_and] at qs
      exact qs
def sp_law_ended (K : PySem.W.Frag) : Sp := fun vs H Q _ => ∃ (a b : Addr) (ns : List Int) (ts : List Addr) (ps : List (Int × Int)), vs = [.ref a, .ref b] ∧ SqL K H a (ns.map V.int) ∧ SqL K H b (ts.map V.ref) ∧ Tf H ts ps ∧ ns.length ≤ 1000 ∧
  ∀ p H', Same H H' → H p = none → H' p = some (.lst ((enL ns ps).map V.int)) → Q (.ref p) H'
theorem ok__law_ended : Cc P w K mg base 1 "_law_ended" (sp_law_ended K) := by
  refine Cc.mk' T.d__law_ended sc__law_ended ?_ ?_
  · rintro vs H Q E ⟨a, b, ns, ts, ps, rfl, _⟩; rfl
  · rintro f cdv A outer s H vs Q E hr ⟨a, b, ns, ts, ps, rfl, hA, hB, hT, hl, q⟩
    refine ⟨_, (pss_cons (ps_set (i := 2) sc__law_ended.nd rfl (by first | exact Or.inl rfl | exact Or.inr rfl) (pe_callTy (r := rList2 K) call_list_of (by rfl) T.b_list PyProof.Rows.boot_list (pa_cons (pv 0) pa_nil)))
      (pss_cons (ps_for PassesOwn.never rfl (pi_list (pv 1)) (pg_tup rfl (pgs_cons (pg_name (i := 3) sc__law_ended.nd rfl (by first | exact Or.inl rfl | exact Or.inr rfl)) (pgs_cons (pg_name (i := 4) sc__law_ended.nd rfl (by first | exact Or.inl rfl | exact Or.inr rfl)) pgs_nil))) (pss_cons (ps_if (PW.pt (pw_or (pt_cmpR (r := rIn K true) op_notIn_seq (pv 3) (pv 2) (by rfl)) (pw_or1 (pt_cmpR (r := rIn K true) op_notIn_seq (pv 4) (pe_tup (pa_cons pe_int (pa_cons pe_int pa_nil))) (by rfl))))) (pss_one (ps_ret (pe_lst pa_nil))) pss_nil)
      (pss_cons (ps_set (i := 5) sc__law_ended.nd rfl (by first | exact Or.inl rfl | exact Or.inr rfl) (pe_bm PySem.F.plainAttrs_list PySem.F.slot_list_index PySem.F.type_list_index mt_index (pv 2) (pa_cons (pv 3) pa_nil)))
      (pss_cons (ps_set (i := 2) sc__law_ended.nd rfl (by first | exact Or.inl rfl | exact Or.inr rfl) (pe_op op_cat (pe_slice (r := rSlL K) sl_list (pv 2) po_none (po_some (pv 5))) (pe_slice (r := rSlL K) sl_list (pv 2) (po_some (pe_op op_add (pv 5) pe_int)) po_none)))
      (pss_one (ps_set (i := 2) sc__law_ended.nd rfl (by first | exact Or.inl rfl | exact Or.inr rfl) (pe_ifExp (pt_cmpR op_eq (pv 4) pe_int (nomark _)) (pe_op op_cat (pv 2) (pe_lst (pa_cons (pv 3) pa_nil))) (pe_op op_cat (pe_lst (pa_cons (pv 3) pa_nil)) (pv 2)))))))))
      (pss_one (ps_ret (pv 2))))), ?_⟩
    walk_at "k"
    walk_at "go"
    refine c_list hA fun p np => ?_
    walk_at "go"
    refine k_lstP (ts := ts) (ps := ps) (fun i σ H' => ∃ pf v3 v4 v5, σ = [some (.ref a), some (.ref b), some (.ref pf), v3, v4, v5] ∧ Same H H' ∧ H pf = none ∧ H' pf = some (.lst (((ps.take i).foldl em ns).map V.int)) ∧ (ps.take i).all (emOk ns) = true)
      (by walk_at "sq") hT.1 ⟨p, _, _, _, rfl, by walk_at "same", np, by walk_at "hp", rfl⟩ (fun i σ H' _ ⟨_, _, _, _, _, s2, _⟩ => ⟨s2.seq hB, hT.same s2⟩) ?_ ?_
    · rintro i ⟨t, e⟩ σ H' hi ⟨pf, v3, v4, v5, rfl, s2, npf, h2, a2⟩
      walk_at "d"
      have pm := em_mem a2
      have lf := pm.length_eq
      have bad : emOk ns (t, e) = false → ∀ o H3, Same H H3 → H3 o = none → Q (.ref o) (upd H3 o (.lst [])) := fun h o H3 s3 no => by
        refine q o _ (Same.new s3 (s3.free no)) (s3.free no) ?_
        unfold enL
        rw [show ps.all (emOk ns) = false from List.all_eq_false.mpr ⟨(t, e), List.mem_of_getElem? hi, by rw [h]; exact Bool.false_ne_true⟩, if_neg Bool.false_ne_true]
        exact upd_same
      walk_at "go"
      refine ite_ndec (fun c => ?_) (fun c => ?_)
      · walk_at "go"
        refine ⟨Nat.zero_le _, fun o no => ?_⟩
        walk_at "go"
        exact bad (by unfold emOk; rw [decide_eq_false fun z => c (pm.mem_iff.mpr z), Bool.false_and]) o _ s2 no
      have ct := pm.mem_iff.mp c
      walk_at "go"
      refine ⟨by show 2 ≤ sizeLine; decide, fun l nl => ?_⟩
      have e1 : pf ≠ l := neo nl h2
      have s3 : Same H (upd H' l (.tup [.int 0, .int 1])) := by walk_at "same"
      refine o_ninT (ns := [0, 1]) (SqT.of upd_same) ?_
      have h3 : (upd H' l (.tup [.int 0, .int 1])) pf = some (.lst (((ps.take i).foldl em ns).map V.int)) := lift_ne h2 e1
      generalize upd H' l (.tup [.int 0, .int 1]) = H3 at s3 h3
      walk_at "go"
      refine ite_ndec (fun c2 => ?_) (fun c2 => ?_)
      · walk_at "go"
        refine ⟨Nat.zero_le _, fun o no => ?_⟩
        walk_at "go"
        exact bad (by unfold emOk; rw [decide_eq_false c2, Bool.and_false]) o _ s3 no
      have ok : (ps.take (i + 1)).all (emOk ns) = true := by
        rw [List.take_add_one, hi, List.all_append, a2]
        show (true && (emOk ns (t, e) && true)) = true
        unfold emOk
        rw [decide_eq_true ct, decide_eq_true c2]; rfl
      have ix : ((ps.take i).foldl em ns).idxOf t ≤ 1000 := by
        have := List.idxOf_le_length (a := t) (l := (ps.take i).foldl em ns)
        omega
      have ft := foldl_take (g := em) (b := ns) hi
      generalize hF : (ps.take i).foldl em ns = F at *
      walk_at "go"
      refine m_idx (SqL.of h3) c ?_
      walk_at "go"
      refine o_slTo (f := V.int) (xs := F) (SqL.of h3) (by omega) fun l2 nl2 => ?_
      have e2 : pf ≠ l2 := neo nl2 h3
      rw [Int.toNat_natCast]
      walk_at "go"
      refine o_slFrom (f := V.int) (xs := F) (SqL.of (lift_ne h3 e2)) (by omega) fun l3 nl3 => ?_
      have e3 : l2 ≠ l3 := neo nl3 upd_same
      refine o_cat (f := V.int) (xs := F.take (F.idxOf t)) (zs := F.drop (((F.idxOf t : Nat) : Int) + 1).toNat) (lift_ne upd_same e3) upd_same (by rw [List.length_take, List.length_drop]; omega) fun l4 nl4 => ?_
      have e6 : F.take (F.idxOf t) ++ F.drop (((F.idxOf t : Nat) : Int) + 1).toNat = F.erase t := by
        rw [show (((F.idxOf t : Nat) : Int) + 1).toNat = F.idxOf t + 1 by omega, cut_erase c]
      have le := List.length_erase_of_mem c
      have s4 : Same H (upd (upd (upd H3 l2 (.lst ((F.take (F.idxOf t)).map V.int))) l3 (.lst ((F.drop (((F.idxOf t : Nat) : Int) + 1).toNat).map V.int))) l4 (.lst ((F.take (F.idxOf t) ++ F.drop (((F.idxOf t : Nat) : Int) + 1).toNat).map V.int))) := by walk_at "same"
      have h4 : (upd (upd (upd H3 l2 (.lst ((F.take (F.idxOf t)).map V.int))) l3 (.lst ((F.drop (((F.idxOf t : Nat) : Int) + 1).toNat).map V.int))) l4 (.lst ((F.take (F.idxOf t) ++ F.drop (((F.idxOf t : Nat) : Int) + 1).toNat).map V.int))) l4 = some (.lst ((F.erase t).map V.int)) := by rw [e6]; exact upd_same
      generalize (upd (upd (upd H3 l2 (.lst ((F.take (F.idxOf t)).map V.int))) l3 (.lst ((F.drop (((F.idxOf t : Nat) : Int) + 1).toNat).map V.int))) l4 (.lst ((F.take (F.idxOf t) ++ F.drop (((F.idxOf t : Nat) : Int) + 1).toNat).map V.int))) = H4 at s4 h4
      walk_at "go"
      refine ite_dec (fun c3 => ?_) (fun c3 => ?_)
      · walk_at "go"
        refine ⟨by show 1 ≤ sizeLine; decide, fun l5 nl5 => ?_⟩
        have e7 : l4 ≠ l5 := neo nl5 h4
        refine o_cat (f := V.int) (xs := F.erase t) (zs := [t]) (lift_ne h4 e7) upd_same (by rw [le]; simp; omega) fun l6 nl6 => ?_
        have s5 : Same H (upd H4 l5 (.lst [.int t])) := by walk_at "same"
        have n6 := s5.free nl6
        walk_at "go"
        refine ⟨l6, _, _, _, rfl, Same.new s5 n6, n6, ?_, ok⟩
        rw [ft]
        have : F.erase t ++ [t] = em F (t, e) := by
          unfold em
          rw [if_pos c3]
        rw [← this]; exact upd_same
      · walk_at "go"
        refine ⟨by show 1 ≤ sizeLine; decide, fun l5 nl5 => ?_⟩
        have e7 : l4 ≠ l5 := neo nl5 h4
        walk_at "go"
        refine o_cat (f := V.int) (xs := [t]) (zs := F.erase t) upd_same (lift_ne h4 e7) (by rw [le]; simp; omega) fun l6 nl6 => ?_
        have s5 : Same H (upd H4 l5 (.lst [.int t])) := by walk_at "same"
        have n6 := s5.free nl6
        walk_at "go"
        refine ⟨l6, _, _, _, rfl, Same.new s5 n6, n6, ?_, ok⟩
        rw [ft]
        have : [t] ++ F.erase t = em F (t, e) := by
          unfold em
          rw [if_neg c3]; rfl
        rw [← this]; exact upd_same
    · rintro σ H' ⟨pf, v3, v4, v5, rfl, s2, npf, h2, a2⟩
      rw [List.take_length] at h2 a2
      walk_at "d"
      walk_at "go"
      refine q pf H' s2 npf ?_
      unfold enL
      rw [if_pos a2]; exact h2
def sp_law_run (K : PySem.W.Frag) : Sp := fun vs H Q _ => ∃ (a : Addr) (ns : List Int), vs = [.ref a] ∧ SqL K H a (ns.map V.int) ∧ IsRow ns ∧ ∀ H', Same H H' → Q (.int (runOf ns).b1) H'
theorem ok__law_run : Cc P w K mg base 1 "_law_run" (sp_law_run K) := by
  refine Cc.mk' T.d__law_run sc__law_run ?_ ?_
  · rintro vs H Q E ⟨a, ns, rfl, _⟩; rfl
  · rintro f cdv A outer s H vs Q E hr ⟨a, ns, rfl, hA, R, q⟩
    have hl := R.len
    refine ⟨_, (pss_cons (ps_asg (pe_tup (pa_cons pe_int (pa_cons pe_int pa_nil))) (pg_tup rfl (pgs_cons (pg_name (i := 1) sc__law_run.nd rfl (by first | exact Or.inl rfl | exact Or.inr rfl)) (pgs_cons (pg_name (i := 2) sc__law_run.nd rfl (by first | exact Or.inl rfl | exact Or.inr rfl)) pgs_nil))))
      (pss_cons (ps_for PassesOwn.never rfl (pi_range1 (by rfl) T.b_range (pa_cons (pe_callB (r := rLen2 K) call_len_seq (by rfl) T.b_len PySem.boot_len (pa_cons (pv 0) pa_nil)) pa_nil)) (pg_name (i := 3) sc__law_run.nd rfl (by first | exact Or.inl rfl | exact Or.inr rfl)) (pss_cons (ps_set (i := 2) sc__law_run.nd rfl (by first | exact Or.inl rfl | exact Or.inr rfl) (pe_ifExp (PW.pt (pw_and (pt_cmpR op_gt (pv 3) pe_int (nomark _)) (pw_and1 (pt_cmpR op_gt (pe_bm PySem.F.plainAttrs_list PySem.F.slot_list_index PySem.F.type_list_index mt_index (pv 0) (pa_cons (pv 3) pa_nil)) (pe_bm PySem.F.plainAttrs_list PySem.F.slot_list_index PySem.F.type_list_index mt_index (pv 0) (pa_cons (pe_op op_sub (pv 3) pe_int) pa_nil)) (nomark _))))) (pe_op op_add (pv 2) pe_int) pe_int))
      (pss_one (ps_set (i := 1) sc__law_run.nd rfl (by first | exact Or.inl rfl | exact Or.inr rfl) (pe_callB (r := rMax2) (call_max2 rfl) (by rfl) T.b_max PyProof.Rows.boot_max (pa_cons (pv 1) (pa_cons (pv 2) pa_nil)))))))
      (pss_one (ps_ret (pv 1))))), ?_⟩
    walk_at "k"
    walk_at "go"
    refine r_asg ?_
    walk_at "go"
    refine ⟨by show 2 ≤ sizeLine; decide, fun p0 np0 => ?_⟩
    refine k_tup2 (SqT.of upd_same) ?_
    walk_at "go"
    refine k_rng1 (fun i σ H' => ∃ v3, σ = [some (.ref a), some (.int (lr ns i).b1), some (.int ((i : Int) - (lr ns i).fi)), v3] ∧ Same H H')
      (by omega) ⟨_, rfl, by walk_at "same"⟩ ?_ ?_
    · rintro i σ H' hi ⟨v3, rfl, s2⟩
      walk_at "d"
      have I := LI.all R i (by omega)
      have If := I.f
      have fin : ∀ m : Int, m = (i : Int) + 1 - lrFi ns i (lr ns i).fi → (max (lr ns i).b1 m = (lr ns (i + 1)).b1 ∧ m = ((i + 1 : Nat) : Int) - (lr ns (i + 1)).fi) := by
        rintro m rfl
        show _ = (lrStep ns i (lr ns i)).b1 ∧ _ = ((i + 1 : Nat) : Int) - (lrStep ns i (lr ns i)).fi
        unfold lrStep
        split
        · refine ⟨?_, ?_⟩ <;> dsimp only <;> omega
        · refine ⟨?_, ?_⟩ <;> dsimp only <;> omega
      walk_at "go"
      refine ite_dec (fun c1 => ?_) (fun c1 => ?_)
      · walk_at "go"
        refine m_idx (by walk_at "sq") (row_mem R (by omega)) ?_
        walk_at "go"
        refine m_idx (by walk_at "sq") (row_mem R (by omega)) ?_
        walk_at "go"
        rw [idx_places R (x := (i : Int)) (by omega), idx_places R (x := (i : Int) - 1) (by omega)]
        refine ite_dec (fun c2 => ?_) (fun c2 => ?_)
        · obtain ⟨f1, f2⟩ := fin ((i : Int) - (lr ns i).fi + 1) (by rw [show lrFi ns i (lr ns i).fi = (lr ns i).fi from if_neg (by omega)]; omega)
          walk_at "go"
          rw [f1, f2]
          exact ⟨_, rfl, s2⟩
        · have nq : gt (placesOf ns) ((i : Int) - 1) ≠ gt (placesOf ns) i := fun z => by
            have := places_inj R (by omega) (by omega) z; omega
          obtain ⟨f1, f2⟩ := fin 1 (by rw [show lrFi ns i (lr ns i).fi = i from if_pos (by omega)]; omega)
          walk_at "go"
          rw [f1]
          refine ⟨some (.int (i : Nat)), ?_, s2⟩
          rw [← f2]; rfl
      · obtain ⟨f1, f2⟩ := fin 1 (by rw [show lrFi ns i (lr ns i).fi = (lr ns i).fi from if_neg (by omega)]; omega)
        walk_at "go"
        rw [f1]
        refine ⟨some (.int (i : Nat)), ?_, s2⟩
        rw [← f2]; rfl
    · rintro σ H' ⟨v3, rfl, s2⟩
      walk_at "d"
      walk_at "go"
      rw [Int.toNat_natCast]
      exact q H' s2
def sp_end_due (K : PySem.W.Frag) : Sp := fun vs H Q _ => ∃ (a b : Addr) (ns : List Int) (ts : List Addr) (ps : List (Int × Int)), vs = [.ref a, .ref b] ∧ SqL K H a (ns.map V.int) ∧ SqL K H b (ts.map V.ref) ∧ Tf H ts ps ∧ IsRow ns ∧ ts.length ≤ 2000 ∧ ∀ H', Same H H' → Q (.bl (enShows ns ps)) H'
theorem ok__law_end_due : Cc P w K mg base 2 "_law_end_due" (sp_end_due K) := by
  have c__law_ended := ok__law_ended (P := P) (w := w) (base := base) T
  have c__law_run := ok__law_run (P := P) (w := w) (base := base) T
  refine Cc.mk' T.d__law_end_due sc__law_end_due ?_ ?_
  · rintro vs H Q E ⟨a, b, ns, ts, ps, rfl, _⟩; rfl
  · rintro f cdv A outer s H vs Q E hr ⟨a, b, ns, ts, ps, rfl, hA, hB, hT, R, ht, q⟩
    have hl := R.len
    have lt := hT.1
    rw [enDue] at q
    refine ⟨_, (pss_cons (ps_if (pt_cmpR (r := rNeD K) (op_neD hr.units) (pe_cc c__law_ended (hr.mono (by decide)) (by rfl) (pa_cons (pv 0) (pa_cons (pv 1) pa_nil))) (pe_listRg rfl (by rfl) T.b_list (prg_1 (by rfl) T.b_range (pe_callB (r := rLen2 K) call_len_seq (by rfl) T.b_len PySem.boot_len (pa_cons (pv 0) pa_nil)))) (nomark _)) (pss_one (ps_ret pe_bl)) pss_nil)
      (pss_one (ps_ret (pe_cmpR op_eq (pe_callB (r := rLen2 K) call_len_seq (by rfl) T.b_len PySem.boot_len (pa_cons (pv 1) pa_nil)) (pe_op op_sub (pe_callB (r := rLen2 K) call_len_seq (by rfl) T.b_len PySem.boot_len (pa_cons (pv 0) pa_nil)) (pe_cc c__law_run (hr.mono (by decide)) (by rfl) (pa_cons (pv 0) pa_nil))) (nomark _))))), ?_⟩
    walk_at "k"
    walk_at "go"
    refine ⟨a, b, ns, ts, ps, rfl, hA, hB, hT, hl, fun p H1 s1 np hp => ?_⟩
    walk_at "go"
    refine k_listRg (by omega) fun l2 nl2 => ?_
    refine o_neL (ns := enL ns ps) (ms := upTo ns.length) (by walk_at "sq") (by walk_at "sq") ?_
    have s2 : Same H (upd H1 l2 (.lst ((upTo ns.length).map V.int))) := by walk_at "same"
    generalize upd H1 l2 (.lst ((upTo ns.length).map V.int)) = H2 at s2
    walk_at "go"
    refine ite_ndec (fun c => ?_) (fun c => ?_)
    · walk_at "go"
      have qs := q H2 s2
      rw [decide_eq_false c, Bool.false_and] at qs
      exact qs
    walk_at "go"
    refine ⟨a, ns, rfl, s2.seq hA, R, fun H3 s3 => ?_⟩
    have qs := q H3 (s2.trans s3)
    rw [decide_eq_true c, Bool.true_and] at qs
    walk_at "go"
    rw [lt]
    exact qs
end
end Bo

namespace Bo
open PySem PySem.Spec PyProof.Rows L2
/-! ### steps of a reading: each a row of its own -/
local macro_rules | `(tactic| walk_at "ne") => `(tactic| first
  | assumption
  | (apply Ne.symm; assumption)
  | (apply neo; assumption; walk_at "hp")
  | (apply Ne.symm; apply neo; assumption; walk_at "hp"))
local macro_rules | `(tactic| walk_at "hp") => `(tactic| first
  | assumption
  | exact upd_same
  | (apply lift_ne; walk_at "hp"; walk_at "ne")
  | (apply Same.up; assumption; walk_at "hp"))
local macro_rules | `(tactic| walk_at "same") => `(tactic| first
  | assumption
  | exact Same.refl _
  | (apply Same.new; walk_at "same"; walk_at "fr")
  | (apply same_trans; assumption; walk_at "same"))
local macro_rules | `(tactic| walk_at "fr") => `(tactic| first
  | assumption
  | (apply same_free; assumption; walk_at "same"))
local macro_rules | `(tactic| walk_at "sq") => `(tactic| first
  | assumption
  | (apply SqL.of; walk_at "hp")
  | (apply same_seq; assumption; walk_at "same"))
local macro_rules | `(tactic| walk_at "sqt") => `(tactic| first
  | assumption
  | (apply SqT.of; walk_at "hp")
  | (apply same_sqt; assumption; walk_at "same"))
local macro_rules | `(tactic| walk_at "nw") => `(tactic| first
  | assumption
  | (apply News.mut; walk_at "nw"; (first | assumption | (refine News.notin (by assumption) ?_; assumption)))
  | (apply News.same; walk_at "nw"; walk_at "same"))
/-! one step -/
local macro_rules | `(tactic| walk_at "go1") => `(tactic| first
  | with_reducible refine r_seq ?_
  | with_reducible refine r_asgN ?_
  | with_reducible refine r_set ?_
  | with_reducible refine r_ret ?_
  | with_reducible refine r_drop ?_
  | with_reducible refine r_if ?_
  | with_reducible refine r_next ?_
  | ((with_reducible apply r_nxD); with_reducible refine r_nx ?_)
  | ((with_reducible apply r_rtD); with_reducible refine r_rt ?_)
  | with_reducible refine r_par ?_
  | with_reducible refine k_par ?_
  | with_reducible refine r_fld ?_
  | ((with_reducible apply r_aug); exact rfl)
  | with_reducible refine i_ip ?_
  | ((with_reducible apply e_var); exact rfl)
  | with_reducible refine e_c ?_
  | with_reducible refine e_op ?_
  | with_reducible refine e_un ?_
  | with_reducible refine o_I0 ?_
  | with_reducible refine o_neg ?_
  | with_reducible refine o_eqI ?_
  | with_reducible refine o_neI ?_
  | with_reducible refine o_eqB ?_
  | with_reducible refine o_neB ?_
  | with_reducible refine o_eqS ?_
  | with_reducible refine o_neS ?_
  | with_reducible refine a_nil ?_
  | with_reducible refine a_cons ?_
  | with_reducible refine e_cb ?_
  | with_reducible refine e_call ?_
  | with_reducible refine e_make ?_
  | with_reducible refine e_meth ?_
  | with_reducible refine e_fld ?_
  | with_reducible refine e_lst ?_
  | with_reducible refine e_tup ?_
  | with_reducible refine e_bm ?_
  | with_reducible refine e_bm0 ?_
  | with_reducible refine e_rev ?_
  | with_reducible refine e_sl ?_
  | with_reducible refine e_nopart ?_
  | with_reducible refine e_part ?_
  | with_reducible refine i_ok ?_
  | with_reducible refine e_lenset ?_
  | with_reducible refine e_listRg1 ?_
  | with_reducible refine t_test ?_
  | with_reducible refine t_B ?_
  | with_reducible refine b_ok ?_
  | with_reducible refine t_and ?_
  | with_reducible refine t_or ?_
  | with_reducible refine t_not ?_
  | with_reducible refine v_and ?_
  | with_reducible refine v_or ?_
  | with_reducible refine v_not ?_
  | with_reducible refine e_if ?_
  | with_reducible refine e_chain ?_
  | with_reducible refine e_chain3 ?_
  | with_reducible refine iteT ?_
  | with_reducible refine iteF ?_
  | with_reducible refine ite_nT ?_
  | with_reducible refine ite_nF ?_
  | with_reducible refine r_forL ?_
  | with_reducible refine r_forT ?_
  | with_reducible refine r_forE ?_
  | with_reducible refine r_forR1 ?_
  | with_reducible refine r_forR2 ?_
  | with_reducible refine e_lcL ?_
  | with_reducible refine e_lcR1 ?_
  | with_reducible refine e_lcR2 ?_
  | with_reducible refine r_dput ?_
  | with_reducible refine e_dget ?_
  | with_reducible refine e_dnin ?_
  | with_reducible refine c_max2 ?_
  | with_reducible refine c_min2 ?_
  | ((with_reducible apply c_isiI); (first | exact (show kitB "int" _ = some true by decide +kernel) | exact (show kitB "int" _ = some false by decide +kernel)))
  | ((with_reducible apply m_ty); walk_at "sq"))
local macro_rules | `(tactic| walk_at "go2") => `(tactic| first
  | ((with_reducible apply o_ixI); walk_at "sq"; omega)
  | ((with_reducible refine o_mod ?_ ?_); omega)
  | ((with_reducible refine o_fdiv ?_ ?_); omega)
  | ((with_reducible refine o_mulR ?_ ?_); omega)
  | ((with_reducible refine o_mulL ?_ ?_); omega)
  | ((with_reducible apply c_lenM); walk_at "sq")
  | ((with_reducible apply c_all); walk_at "sq")
  | ((with_reducible apply c_any); walk_at "sq")
  | ((with_reducible apply o_in); walk_at "sq")
  | ((with_reducible apply o_nin); walk_at "sq")
  | ((with_reducible apply o_ixB); walk_at "sq"; omega)
  | ((with_reducible apply m_setB); walk_at "hp"; omega)
  | ((with_reducible apply m_appR); walk_at "hp"; omega)
  | ((with_reducible apply m_ins); walk_at "hp"; omega; omega)
  | ((with_reducible apply m_appM); walk_at "hp"; exact rfl; omega)
  | ((with_reducible apply m_setI); walk_at "hp"; omega))
local macro_rules | `(tactic| walk_at "d") => `(tactic| try dsimp only)
local macro_rules | `(tactic| walk_at "k") => `(tactic| try dsimp only [cxOf, Cx.nox, Cx.blk])
local macro_rules | `(tactic| walk_at "go") => `(tactic| repeat (first | walk_at "go1" | walk_at "go2"))

section
variable {P : Program} {w : World} {K : PySem.W.Frag} {mg : Str → Option Value} {base : Heap} {C_Exchanged C_Fronted C_Ended C_Put C_Answer : Addr} (T : Top K mg C_Exchanged C_Fronted C_Ended C_Put C_Answer)
include T

def sp_pile_for (K : PySem.W.Frag) : Sp := fun vs H Q _ => ∃ (pp : Addr) (as : List Addr) (piles : List (List Int)) (x : Int), vs = [.ref pp, .int x] ∧ SqL K H pp (as.map V.ref) ∧ Lf H as piles ∧ (∀ p ∈ piles, p ≠ [] ∧ p.length ≤ 1000) ∧ piles.length ≤ 1000 ∧ (∀ j k, j < k → k < piles.length → topAt piles j < topAt piles k) ∧
  ∀ at_ : Nat, At piles x at_ → ∀ H', Same H H' → Q (.int (at_ : Nat)) H'
theorem ok_pile_for : Cc P w K mg base 1 "pile_for" (sp_pile_for K) := by
  refine Cc.mk' T.d_pile_for sc_pile_for ?_ ?_
  · rintro vs H Q E ⟨pp, as, piles, x, rfl, _⟩; rfl
  · rintro f cdv A outer s H vs Q E hr ⟨pp, as, piles, x, rfl, hS, L, hne, hl, tops, q⟩
    have la := L.1
    refine ⟨_, (pss_cons (ps_set (i := 2) sc_pile_for.nd rfl (by first | exact Or.inl rfl | exact Or.inr rfl) pe_int)
      (pss_cons (ps_set (i := 3) sc_pile_for.nd rfl (by first | exact Or.inl rfl | exact Or.inr rfl) (pe_callB (r := rLen2 K) call_len_seq (by rfl) T.b_len PySem.boot_len (pa_cons (pv 0) pa_nil)))
      (pss_cons (ps_while PassesOwn.never (pt_cmpR op_lt (pv 2) (pv 3) (nomark _)) (pss_cons (ps_set (i := 4) sc_pile_for.nd rfl (by first | exact Or.inl rfl | exact Or.inr rfl) (pe_op op_fdiv (pe_op op_add (pv 2) (pv 3)) pe_int))
      (pss_one (ps_if (pt_cmpR op_gt (pe_ix (r := rIxL K) ix_list (pe_ix (r := rIxL K) ix_list (pv 0) (pv 4) (fun _ _ => rfl)) (pe_un un_neg pe_int) (fun _ _ => rfl)) (pv 1) (nomark _)) (pss_one (ps_set (i := 3) sc_pile_for.nd rfl (by first | exact Or.inl rfl | exact Or.inr rfl) (pv 4))) (pss_one (ps_set (i := 2) sc_pile_for.nd rfl (by first | exact Or.inl rfl | exact Or.inr rfl) (pe_op op_add (pv 4) pe_int)))))))
      (pss_one (ps_ret (pv 2)))))), ?_⟩
    walk_at "k"
    walk_at "go"
    refine r_while (fun m σ H' => H' = H ∧ ∃ (lo hi : Nat) (v4 : Option V), m = hi - lo ∧ lo ≤ hi ∧ hi ≤ piles.length ∧ σ = [some (.ref pp), some (.int x), some (.int (lo : Nat)), some (.int (hi : Nat)), v4] ∧ (∀ j, j < lo → topAt piles j ≤ x) ∧ (∀ j, hi ≤ j → j < piles.length → x < topAt piles j))
      piles.length ⟨rfl, 0, piles.length, _, by omega, by omega, by omega, by rw [la]; rfl, fun j h => by omega, fun j h1 h2 => by omega⟩ ?_
    rintro m σ' H' ⟨rfl, lo, hi, v4, rfl, hlh, hh, rfl, h1, h2⟩
    walk_at "go"
    refine ite_dec (fun c => ?_) (fun c => ?_)
    · walk_at "go"
      refine ⟨fun σ2 H2 => ∃ m' < hi - lo, H2 = H' ∧ ∃ (lo hi : Nat) (v4 : Option V), m' = hi - lo ∧ lo ≤ hi ∧ hi ≤ piles.length ∧ σ2 = [some (.ref pp), some (.int x), some (.int (lo : Nat)), some (.int (hi : Nat)), v4] ∧ (∀ j, j < lo → topAt piles j ≤ x) ∧ (∀ j, hi ≤ j → j < piles.length → x < topAt piles j), fun σ2 H2 h => h, ?_⟩
      obtain ⟨mm, em, hm1, hm2⟩ : ∃ mm : Nat, ((lo : Int) + (hi : Int)) / 2 = (mm : Int) ∧ lo ≤ mm ∧ mm < hi := ⟨(lo + hi) / 2, by omega, by omega, by omega⟩
      have hm : mm < piles.length := by omega
      obtain ⟨qa, hak⟩ : ∃ qa, as[mm]? = some qa := ⟨_, List.getElem?_eq_getElem (by omega)⟩
      obtain ⟨r, hpk⟩ : ∃ r, piles[mm]? = some r := ⟨_, List.getElem?_eq_getElem hm⟩
      have hq := L.2 _ _ _ hak hpk
      have hn := hne _ (List.mem_of_getElem? hpk)
      have hn1 := List.length_pos_iff.mpr hn.1
      have ht : topAt piles mm = gt r (-1) := by unfold topAt; rw [getD_at hpk]; rfl
      walk_at "go"
      refine o_ixM (f := V.ref) (xs := as) (j := mm) (x := qa) (by walk_at "sq") hak em ?_
      walk_at "go"
      rw [← ht]
      refine ite_dec (fun c2 => ?_) (fun c2 => ?_)
      · walk_at "go"
        refine ⟨mm - lo, by omega, rfl, lo, mm, _, rfl, by omega, by omega, by rw [← em]; rfl, h1, fun j j1 j2 => ?_⟩
        by_cases e : j = mm
        · rw [e]; exact c2
        · have := tops mm j (by omega) j2
          omega
      · walk_at "go"
        refine ⟨hi - (mm + 1), by omega, rfl, mm + 1, hi, some (.int (((lo : Int) + (hi : Int)) / 2)), rfl, by omega, hh, ?_, fun j j1 => ?_, h2⟩
        · rw [show ((mm + 1 : Nat) : Int) = (((lo : Int) + (hi : Int)) / 2) + 1 by omega]; rfl
        · by_cases e : j = mm
          · rw [e]; omega
          · have := tops j mm (by omega) hm
            omega
    · walk_at "go"
      have e : lo = hi := by omega
      subst e
      exact q lo ⟨hh, h1, h2⟩ H' (Same.refl _)
def sp_fk (K : PySem.W.Frag) : Sp := fun vs H Q _ => ∃ (a : Addr) (ns : List Int), vs = [.ref a] ∧ SqL K H a (ns.map V.int) ∧ IsRow ns ∧
  ∀ p pp pk as piles kept H', Same H H' → H' p = some (.tup [.ref pp, .ref pk]) → H' pp = some (.lst (as.map V.ref)) → News H H' oL as piles → H' pk = some (.lst (kept.map V.int)) →
    fallen ns piles = true → (∀ p ∈ piles, p ≠ []) → Kept ns kept → piles.length = kept.length → Q (.ref p) H'
theorem ok_falls_and_kept : Cc P w K mg base 2 "falls_and_kept" (sp_fk K) := by
  have c_pile_for := ok_pile_for (P := P) (w := w) (base := base) T
  refine Cc.mk' T.d_falls_and_kept sc_falls_and_kept ?_ ?_
  · rintro vs H Q E ⟨a, ns, rfl, _⟩; rfl
  · rintro f cdv A outer s H vs Q E hr ⟨a, ns, rfl, hS, R, q⟩
    have hl := R.len
    refine ⟨_, (pss_cons (ps_set (i := 1) sc_falls_and_kept.nd rfl (by first | exact Or.inl rfl | exact Or.inr rfl) (pe_lst pa_nil))
      (pss_cons (ps_set (i := 2) sc_falls_and_kept.nd rfl (by first | exact Or.inl rfl | exact Or.inr rfl) pe_dnewK)
      (pss_cons (ps_for PassesOwn.never rfl (pi_list (pv 0)) (pg_name (i := 3) sc_falls_and_kept.nd rfl (by first | exact Or.inl rfl | exact Or.inr rfl)) (pss_cons (ps_set (i := 4) sc_falls_and_kept.nd rfl (by first | exact Or.inl rfl | exact Or.inr rfl) (pe_cc c_pile_for (hr.mono (by decide)) (by rfl) (pa_cons (pv 1) (pa_cons (pv 3) pa_nil))))
      (Bo.pss_cut (ps_if (pt_cmpR op_eq (pv 4) (pe_callB (r := rLen2 K) call_len_seq (by rfl) T.b_len PySem.boot_len (pa_cons (pv 1) pa_nil)) (nomark _)) (pss_one (ps_expr (pe_bm PySem.F.plainAttrs_list PySem.F.slot_list_append PySem.F.type_list_append mt_append (pv 1) (pa_cons (pe_lst pa_nil) pa_nil)))) pss_nil)
      (pss_cons (ps_expr (pe_bm PySem.F.plainAttrs_list PySem.F.slot_list_append PySem.F.type_list_append mt_append (pe_ix (r := rIxL K) ix_list (pv 1) (pv 4) (fun _ _ => rfl)) (pa_cons (pv 3) pa_nil)))
      (pss_cons (ps_dput (u1 hr) (pv 2) (pv 3) (pe_un un_neg pe_int) rfl)
      (pss_one (ps_if (pt_cmpR op_gt (pv 4) pe_int (nomark _)) (pss_one (ps_dput (u1 hr) (pv 2) (pv 3) (pe_ix (r := rIxL K) ix_list (pe_ix (r := rIxL K) ix_list (pv 1) (pe_op op_sub (pv 4) pe_int) (fun _ _ => rfl)) (pe_un un_neg pe_int) (fun _ _ => rfl)) rfl)) pss_nil)))))))
      (pss_cons (ps_set (i := 5) sc_falls_and_kept.nd rfl (by first | exact Or.inl rfl | exact Or.inr rfl) (pe_lst pa_nil))
      (pss_cons (ps_set (i := 3) sc_falls_and_kept.nd rfl (by first | exact Or.inl rfl | exact Or.inr rfl) (pe_un un_neg pe_int))
      (Bo.pss_cut (ps_if (pt_cmpR op_gt (pe_callB (r := rLen2 K) call_len_seq (by rfl) T.b_len PySem.boot_len (pa_cons (pv 1) pa_nil)) pe_int (nomark _)) (pss_one (ps_set (i := 3) sc_falls_and_kept.nd rfl (by first | exact Or.inl rfl | exact Or.inr rfl) (pe_ix (r := rIxL K) ix_list (pe_ix (r := rIxL K) ix_list (pv 1) (pe_un un_neg pe_int) (fun _ _ => rfl)) (pe_un un_neg pe_int) (fun _ _ => rfl)))) pss_nil)
      (pss_cons (ps_while PassesOwn.never (pt_cmpR op_ge (pv 3) pe_int (nomark _)) (pss_cons (ps_expr (pe_bm PySem.F.plainAttrs_list PySem.F.slot_list_append PySem.F.type_list_append mt_append (pv 5) (pa_cons (pv 3) pa_nil)))
      (pss_one (ps_set (i := 3) sc_falls_and_kept.nd rfl (by first | exact Or.inl rfl | exact Or.inr rfl) (pe_dget (u1 hr) (pv 2) (pv 3) (fun _ _ => rfl))))))
      (pss_one (ps_ret (pe_tup (pa_cons (pv 1) (pa_cons (pv 5) pa_nil)))))))))))), ?_⟩
    walk_at "k"
    walk_at "go"
    refine ⟨Nat.zero_le _, fun pp npp => ?_⟩
    walk_at "go"
    intro pd npd
    have e0 : pp ≠ pd := neo npd upd_same
    have npd0 : H pd = none := (Same.one npp).free npd
    walk_at "go"
    refine k_lstN (f := V.int) ns (fun i σ H' => ∃ as piles ah kvs v3 v4, σ = [some (.ref a), some (.ref pp), some (.ref pd), v3, v4, none] ∧ Same H H' ∧ H' pp = some (.lst (as.map V.ref)) ∧ News H H' oL as piles ∧ pp ∉ as ∧ H' pd = some (.dK kvs) ∧ kvs.length ≤ 2 * i ∧
        (∀ k : Int, valV kvs (.inl k) = (ah k).map V.int) ∧ PI ns i piles ah)
      (by walk_at "sq") ⟨[], [], fun _ => none, [], _, _, rfl, by walk_at "same", lift_ne upd_same e0, News.nil, by simp, upd_same, by simp, fun k => rfl, PI.zero ns⟩ (fun i σ H' _ ⟨_, _, _, _, _, _, _, s2, _⟩ => s2.seq hS) ?_ ?_
    · rintro i x σ H' hi ⟨as, piles, ah, kvs, v3, v4, rfl, s2, h2, n2, m2, hd, hk, hah, I⟩
      walk_at "d"
      have hil : i < ns.length := (List.getElem?_eq_some_iff.mp hi).1
      have ex : gt ns (i : Int) = x := gt_get hi
      have fl := I.perm.length_eq
      rw [List.length_take] at fl
      have lenb : ∀ p ∈ piles, p.length ≤ 1000 := fun p hp => by have := mem_le_flatten hp; omega
      have cnt : piles.length ≤ 1000 := by
        have : ∀ l : List (List Int), (∀ p ∈ l, p ≠ []) → l.length ≤ l.flatten.length := fun l => by
          induction l with
          | nil => intro _; simp
          | cons a r ih =>
            intro h
            have h1 := ih fun p hp => h p (List.mem_cons_of_mem _ hp)
            have h2 := List.length_pos_iff.mpr (h a (by simp))
            rw [List.flatten_cons, List.length_append, List.length_cons]; omega
        have := this piles I.ne
        omega
      have la := n2.len
      walk_at "go"
      refine ⟨pp, as, piles, x, rfl, SqL.of h2, Lf.of n2, fun p hp => ⟨I.ne p hp, lenb p hp⟩, cnt, I.tops, fun at_ A H1 s1 => ?_⟩
      have A' : At piles (gt ns (i : Int)) at_ := by rw [ex]; exact A
      have hle := A.le
      have h21 := s1 _ _ h2
      have n21 := n2.same s1
      have hd1 := s1 _ _ hd
      have s12 := s2.trans s1
      walk_at "go"
      refine c_cut (fun σ' H2 => ∃ as2, σ' = [some (.ref a), some (.ref pp), some (.ref pd), some (.int x), some (.int (at_ : Nat)), none] ∧ Same H H2 ∧ H2 pp = some (.lst (as2.map V.ref)) ∧ News H H2 oL as2 (mid piles at_) ∧ pp ∉ as2 ∧ H2 pd = some (.dK kvs)) ?_ ?_
      · walk_at "go"
        refine ite_dec (fun c => ?_) (fun c => ?_)
        · have c' : at_ = piles.length := by omega
          walk_at "go"
          refine ⟨Nat.zero_le _, fun l nl => ?_⟩
          have d1 : pp ≠ l := neo nl h21
          have d2 : pd ≠ l := neo nl hd1
          have e2 : pp ≠ pd := ne_kind h21 hd1 (fun z => by cases z)
          walk_at "go"
          refine ⟨as ++ [l], rfl, by walk_at "same", upd_same, ?_, nm_snoc m2 d1, lift_ne (lift_ne hd1 d2) (Ne.symm e2)⟩
          unfold mid
          rw [if_pos c']
          exact ((n21.same (Same.one nl)).snoc (n21.notin nl) (s12.free nl) upd_same).mut (nm_snoc m2 d1)
        · have c' : ¬ at_ = piles.length := by omega
          walk_at "go"
          unfold mid
          rw [if_neg c']
          exact ⟨as, rfl, s12, h21, n21, m2, hd1⟩
      · rintro σ' H2 ⟨as2, rfl, s22, h22, n22, m22, hd2⟩
        obtain ⟨hm1, hm2⟩ := mid_at (piles := piles) hle
        have la2 := n22.len
        have hak : as2[at_]? = some (as2[at_]'(by omega)) := List.getElem?_eq_getElem (by omega)
        obtain ⟨na, ha⟩ := n22.2.2 _ _ _ hak hm1
        have lr := mid_len (at_ := at_) lenb
        have n23 := n22.put (y := (mid piles at_).getD at_ [] ++ [x]) hak
        rw [mid_set hle] at n23
        have e3 : pp ≠ as2[at_]'(by omega) := fun e => m22 (by rw [e]; exact List.getElem_mem _)
        have e4 : pd ≠ as2[at_]'(by omega) := ne_kind hd2 ha (fun z => by cases z)
        generalize hq : as2[at_]'(by omega) = qa at *
        generalize hrr : (mid piles at_).getD at_ [] = r at *
        walk_at "go"
        refine o_ixM (f := V.ref) (xs := as2) (j := at_) (x := qa) (by walk_at "sq") hak rfl ?_
        walk_at "go"
        have s23 : Same H (upd H2 qa (.lst ((r ++ [x]).map V.int))) := by walk_at "same"
        have h23 : (upd H2 qa (.lst ((r ++ [x]).map V.int))) pp = some (.lst (as2.map V.ref)) := lift_ne h22 e3
        have hd3 : (upd H2 qa (.lst ((r ++ [x]).map V.int))) pd = some (.dK kvs) := lift_ne hd2 e4
        generalize upd H2 qa (.lst ((r ++ [x]).map V.int)) = H3 at s23 h23 hd3 n23
        refine k_dput hd3 (by omega) ?_
        have kl := putK_len kvs (.inl x) (.int (-1))
        have s24 : Same H (upd H3 pd (.dK (putK kvs (.inl x) (.int (-1))))) := by walk_at "same"
        have e5 : pp ≠ pd := ne_kind h23 hd3 (fun z => by cases z)
        have h24 : (upd H3 pd (.dK (putK kvs (.inl x) (.int (-1))))) pp = some (.lst (as2.map V.ref)) := lift_ne h23 e5
        have n24 := n23.mut (o := .dK (putK kvs (.inl x) (.int (-1)))) (n23.notl hd3)
        have hd4 : (upd H3 pd (.dK (putK kvs (.inl x) (.int (-1))))) pd = some (.dK (putK kvs (.inl x) (.int (-1)))) := upd_same
        generalize upd H3 pd (.dK (putK kvs (.inl x) (.int (-1)))) = H4 at s24 h24 n24 hd4
        have I2 := I.step R hil A'
        rw [ex] at I2
        walk_at "go"
        refine ite_dec (fun c => ?_) (fun c => ?_)
        · have hp1 : at_ - 1 < piles.length := by omega
          obtain ⟨p', hp', hm', _⟩ := top_mem I.ne hp1
          have hput : (putIn piles at_ x)[at_ - 1]? = some p' := by rw [putIn_get hle, if_neg (by omega)]; exact hp'
          have hak2 : as2[at_ - 1]? = some (as2[at_ - 1]'(by omega)) := List.getElem?_eq_getElem (by omega)
          obtain ⟨_, hb⟩ := n24.2.2 _ _ _ hak2 hput
          have hpl := lenb p' (List.mem_of_getElem? hp')
          have hpn := List.length_pos_iff.mpr (I.ne p' (List.mem_of_getElem? hp'))
          have ht : topAt piles (at_ - 1) = gt p' (-1) := by unfold topAt; rw [getD_at hp']; rfl
          have em : (at_ : Int) - 1 = ((at_ - 1 : Nat) : Int) := by omega
          walk_at "go"
          refine o_ixM (f := V.ref) (xs := as2) (j := at_ - 1) (x := as2[at_ - 1]'(by omega)) (by walk_at "sq") hak2 em ?_
          generalize as2[at_ - 1]'(by omega) = qb at *
          walk_at "go"
          rw [← ht]
          refine k_dput hd4 (by omega) ?_
          have kl2 := putK_len (putK kvs (.inl x) (.int (-1))) (.inl x) (.int (topAt piles (at_ - 1)))
          walk_at "go"
          refine ⟨as2, putIn piles at_ x, _, _, _, _, rfl, by walk_at "same", lift_ne h24 e5, n24.mut (n24.notl hd4), m22, upd_same, by omega, fun k => ?_, I2⟩
          rw [valV_put, valV_put]
          by_cases e : k = x
          · rw [if_pos (by rw [e]), if_pos e]
            unfold aheadOf
            rw [if_neg (by omega)]; rfl
          · have e' : ¬ (Sum.inl k : Key) = Sum.inl x := fun z => e (Sum.inl.inj z)
            rw [if_neg e', if_neg e', if_neg e]; exact hah k
        · have c0 : at_ = 0 := by omega
          walk_at "go"
          refine ⟨as2, putIn piles at_ x, _, _, _, _, rfl, s24, h24, n24, m22, hd4, by omega, fun k => ?_, I2⟩
          rw [valV_put]
          by_cases e : k = x
          · rw [if_pos (by rw [e]), if_pos e]
            unfold aheadOf
            rw [if_pos c0]; rfl
          · have e' : ¬ (Sum.inl k : Key) = Sum.inl x := fun z => e (Sum.inl.inj z)
            rw [if_neg e', if_neg e]; exact hah k
    · rintro σ H' ⟨as, piles, ah, kvs, v3, v4, rfl, s2, h2, n2, m2, hd, hk, hah, I⟩
      walk_at "d"
      have la := n2.len
      have fl := I.perm.length_eq
      rw [List.length_take] at fl
      have lenb : ∀ p ∈ piles, p.length ≤ 1000 := fun p hp => by have := mem_le_flatten hp; omega
      walk_at "go"
      refine ⟨Nat.zero_le _, fun pk npk => ?_⟩
      have d1 : pp ≠ pk := neo npk h2
      have d2 : pd ≠ pk := neo npk hd
      have s3 : Same H (upd H' pk (.lst [])) := by walk_at "same"
      have h3 : (upd H' pk (.lst [])) pp = some (.lst (as.map V.ref)) := lift_ne h2 d1
      have hd3 : (upd H' pk (.lst [])) pd = some (.dK kvs) := lift_ne hd d2
      have n3 := n2.same (Same.one (o := .lst []) npk)
      have m3 := n2.notin npk
      have hk3 : (upd H' pk (.lst [])) pk = some (.lst (([] : List Int).map V.int)) := upd_same
      have npk0 := s2.free npk
      generalize upd H' pk (.lst []) = H3 at s3 h3 hd3 n3 hk3
      walk_at "go"
      refine c_cut (fun σ' H4 => ∃ t : Int, σ' = [some (.ref a), some (.ref pp), some (.ref pd), some (.int t), v4, some (.ref pk)] ∧ H4 = H3 ∧ (piles.length = 0 → t = -1) ∧ (0 < piles.length → t = topAt piles (piles.length - 1))) ?_ ?_
      · walk_at "go"
        refine ite_dec (fun c => ?_) (fun c => ?_)
        · have hp1 : piles.length - 1 < piles.length := by omega
          obtain ⟨p', hp', hm', _⟩ := top_mem I.ne hp1
          have hak2 : as[piles.length - 1]? = some (as[piles.length - 1]'(by omega)) := List.getElem?_eq_getElem (by omega)
          obtain ⟨_, hb⟩ := n3.2.2 _ _ _ hak2 hp'
          have hpl := lenb p' (List.mem_of_getElem? hp')
          have hpn := List.length_pos_iff.mpr (I.ne p' (List.mem_of_getElem? hp'))
          have ht : topAt piles (piles.length - 1) = gt p' (-1) := by unfold topAt; rw [getD_at hp']; rfl
          walk_at "go"
          refine ⟨pp, _, -1, .ref (as[piles.length - 1]'(by omega)), rfl, rfl, SqL.of h3, ?_, ?_⟩
          · unfold atI ixN
            rw [List.length_map, if_neg (by omega), if_pos (by omega)]
            show (as.map V.ref)[((-1 : Int) + (as.length : Int)).toNat]? = _
            rw [show ((-1 : Int) + (as.length : Int)).toNat = piles.length - 1 by omega, List.getElem?_map, hak2]; rfl
          generalize as[piles.length - 1]'(by omega) = qb at *
          walk_at "go"
          rw [← ht]
          exact ⟨_, rfl, rfl, fun h => by omega, fun _ => rfl⟩
        · walk_at "go"
          exact ⟨-1, rfl, rfl, fun _ => rfl, fun h => by omega⟩
      rintro σ' H4 ⟨t, rfl, rfl, t0, t1⟩
      refine r_while (fun m σ H' => ∃ t kept, σ = [some (.ref a), some (.ref pp), some (.ref pd), some (.int t), v4, some (.ref pk)] ∧ KI ns piles m t kept ∧ Same H H' ∧ H' pp = some (.lst (as.map V.ref)) ∧ News H H' oL as piles ∧ H' pd = some (.dK kvs) ∧ H' pk = some (.lst (kept.map V.int)))
        piles.length ⟨t, [], rfl, KI.zero R I t0 t1, s3, h3, n3, hd3, hk3⟩ ?_
      rintro m σ' H5 ⟨t, kept, rfl, J, s5, h5, n5, hd5, hk5⟩
      have cnt : kept.length ≤ 1000 := by
        have h1 : kept.Nodup := J.up.imp fun h e => by omega
        have := nodup_le (row := ns) h1 J.bd
        omega
      walk_at "go"
      refine ite_dec (fun c => ?_) (fun c => ?_)
      · have hm : 0 < m := by
          by_cases z : m = 0
          · have := J.at0 z; omega
          · omega
        obtain ⟨z, hz, J2⟩ := J.step R I hm
        walk_at "go"
        refine ⟨fun σ2 H2 => ∃ m' < m, ∃ t kept, σ2 = [some (.ref a), some (.ref pp), some (.ref pd), some (.int t), v4, some (.ref pk)] ∧ KI ns piles m' t kept ∧ Same H H2 ∧ H2 pp = some (.lst (as.map V.ref)) ∧ News H H2 oL as piles ∧ H2 pd = some (.dK kvs) ∧ H2 pk = some (.lst (kept.map V.int)), fun σ2 H2 h => h, ?_⟩
        walk_at "go"
        have d3 : pp ≠ pk := d1
        have hd6 : (upd H5 pk (.lst ((kept ++ [t]).map V.int))) pd = some (.dK kvs) := lift_ne hd5 d2
        refine k_dget hd6 (v := .int z) (by rw [hah, hz]; rfl) ?_
        walk_at "go"
        exact ⟨m - 1, by omega, z, _, rfl, J2, by walk_at "same", lift_ne h5 d3, n5.mut m3, hd6, upd_same⟩
      · obtain ⟨rfl, Kp, kl⟩ := J.done c
        walk_at "go"
        refine ⟨by show 2 ≤ sizeLine; decide, fun p np => ?_⟩
        have s6 : Same H (upd H5 p (.tup [.ref pp, .ref pk])) := by walk_at "same"
        walk_at "go"
        exact q p pp pk as piles kept _ s6 upd_same (lift_ne h5 (neo np h5)) (n5.same (Same.one np)) (lift_ne hk5 (neo np hk5)) (I.fallen R) I.ne Kp kl
end
end Bo

namespace Bo
open PySem PySem.Spec PyProof.Rows L2
/-! ### steps of a reading: each a row of its own -/
local macro_rules | `(tactic| walk_at "ne") => `(tactic| first
  | assumption
  | (apply Ne.symm; assumption)
  | (apply neo; assumption; walk_at "hp")
  | (apply Ne.symm; apply neo; assumption; walk_at "hp"))
local macro_rules | `(tactic| walk_at "hp") => `(tactic| first
  | assumption
  | exact upd_same
  | (apply lift_ne; walk_at "hp"; walk_at "ne")
  | (apply Same.up; assumption; walk_at "hp"))
local macro_rules | `(tactic| walk_at "same") => `(tactic| first
  | assumption
  | exact Same.refl _
  | (apply Same.new; walk_at "same"; walk_at "fr")
  | (apply same_trans; assumption; walk_at "same"))
local macro_rules | `(tactic| walk_at "fr") => `(tactic| first
  | assumption
  | (apply same_free; assumption; walk_at "same"))
local macro_rules | `(tactic| walk_at "sq") => `(tactic| first
  | assumption
  | (apply SqL.of; walk_at "hp")
  | (apply same_seq; assumption; walk_at "same"))
local macro_rules | `(tactic| walk_at "sqt") => `(tactic| first
  | assumption
  | (apply SqT.of; walk_at "hp")
  | (apply same_sqt; assumption; walk_at "same"))
local macro_rules | `(tactic| walk_at "nw") => `(tactic| first
  | assumption
  | (apply News.mut; walk_at "nw"; (first | assumption | (refine News.notin (by assumption) ?_; assumption)))
  | (apply News.same; walk_at "nw"; walk_at "same"))
/-! one step -/
local macro_rules | `(tactic| walk_at "go1") => `(tactic| first
  | with_reducible refine r_seq ?_
  | with_reducible refine r_asgN ?_
  | with_reducible refine r_set ?_
  | with_reducible refine r_ret ?_
  | with_reducible refine r_drop ?_
  | with_reducible refine r_if ?_
  | with_reducible refine r_next ?_
  | ((with_reducible apply r_nxD); with_reducible refine r_nx ?_)
  | ((with_reducible apply r_rtD); with_reducible refine r_rt ?_)
  | with_reducible refine r_par ?_
  | with_reducible refine k_par ?_
  | with_reducible refine r_fld ?_
  | ((with_reducible apply r_aug); exact rfl)
  | with_reducible refine i_ip ?_
  | ((with_reducible apply e_var); exact rfl)
  | with_reducible refine e_c ?_
  | with_reducible refine e_op ?_
  | with_reducible refine e_un ?_
  | with_reducible refine o_I0 ?_
  | with_reducible refine o_neg ?_
  | with_reducible refine o_eqI ?_
  | with_reducible refine o_neI ?_
  | with_reducible refine o_eqB ?_
  | with_reducible refine o_neB ?_
  | with_reducible refine o_eqS ?_
  | with_reducible refine o_neS ?_
  | with_reducible refine a_nil ?_
  | with_reducible refine a_cons ?_
  | with_reducible refine e_cb ?_
  | with_reducible refine e_call ?_
  | with_reducible refine e_make ?_
  | with_reducible refine e_meth ?_
  | with_reducible refine e_fld ?_
  | with_reducible refine e_lst ?_
  | with_reducible refine e_tup ?_
  | with_reducible refine e_bm ?_
  | with_reducible refine e_bm0 ?_
  | with_reducible refine e_rev ?_
  | with_reducible refine e_sl ?_
  | with_reducible refine e_nopart ?_
  | with_reducible refine e_part ?_
  | with_reducible refine i_ok ?_
  | with_reducible refine e_lenset ?_
  | with_reducible refine e_listRg1 ?_
  | with_reducible refine t_test ?_
  | with_reducible refine t_B ?_
  | with_reducible refine b_ok ?_
  | with_reducible refine t_and ?_
  | with_reducible refine t_or ?_
  | with_reducible refine t_not ?_
  | with_reducible refine v_and ?_
  | with_reducible refine v_or ?_
  | with_reducible refine v_not ?_
  | with_reducible refine e_if ?_
  | with_reducible refine e_chain ?_
  | with_reducible refine e_chain3 ?_
  | with_reducible refine iteT ?_
  | with_reducible refine iteF ?_
  | with_reducible refine ite_nT ?_
  | with_reducible refine ite_nF ?_
  | with_reducible refine r_forL ?_
  | with_reducible refine r_forT ?_
  | with_reducible refine r_forE ?_
  | with_reducible refine r_forR1 ?_
  | with_reducible refine r_forR2 ?_
  | with_reducible refine e_lcL ?_
  | with_reducible refine e_lcR1 ?_
  | with_reducible refine e_lcR2 ?_
  | with_reducible refine r_dput ?_
  | with_reducible refine e_dget ?_
  | with_reducible refine e_dnin ?_
  | with_reducible refine c_max2 ?_
  | with_reducible refine c_min2 ?_
  | ((with_reducible apply c_isiI); (first | exact (show kitB "int" _ = some true by decide +kernel) | exact (show kitB "int" _ = some false by decide +kernel)))
  | ((with_reducible apply m_ty); walk_at "sq"))
local macro_rules | `(tactic| walk_at "go2") => `(tactic| first
  | ((with_reducible apply o_ixI); walk_at "sq"; omega)
  | ((with_reducible refine o_mod ?_ ?_); omega)
  | ((with_reducible refine o_fdiv ?_ ?_); omega)
  | ((with_reducible refine o_mulR ?_ ?_); omega)
  | ((with_reducible refine o_mulL ?_ ?_); omega)
  | ((with_reducible apply c_lenM); walk_at "sq")
  | ((with_reducible apply c_all); walk_at "sq")
  | ((with_reducible apply c_any); walk_at "sq")
  | ((with_reducible apply o_in); walk_at "sq")
  | ((with_reducible apply o_nin); walk_at "sq")
  | ((with_reducible apply o_ixB); walk_at "sq"; omega)
  | ((with_reducible apply m_setB); walk_at "hp"; omega)
  | ((with_reducible apply m_appR); walk_at "hp"; omega)
  | ((with_reducible apply m_ins); walk_at "hp"; omega; omega)
  | ((with_reducible apply m_appM); walk_at "hp"; exact rfl; omega)
  | ((with_reducible apply m_setI); walk_at "hp"; omega))
local macro_rules | `(tactic| walk_at "d") => `(tactic| try dsimp only)
local macro_rules | `(tactic| walk_at "k") => `(tactic| try dsimp only [cxOf, Cx.nox, Cx.blk])
local macro_rules | `(tactic| walk_at "go") => `(tactic| repeat (first | walk_at "go1" | walk_at "go2"))

section
variable {P : Program} {w : World} {K : PySem.W.Frag} {mg : Str → Option Value} {base : Heap} {C_Exchanged C_Fronted C_Ended C_Put C_Answer : Addr} (T : Top K mg C_Exchanged C_Fronted C_Ended C_Put C_Answer)
include T

def sp_Pu_init (K : PySem.W.Frag) (C : Addr) : Sp := fun vs H Q _ => ∃ (x a b dx : Addr) (ts as : List Addr) (ps : List (Int × Int)) (rs : List (List Int)) (H0 : Hp), vs = [.ref x, .ref a, .ref b] ∧ H x = some (.ins C dx []) ∧ Same H0 H ∧ H0 x = none ∧
  SqL K H0 a (ts.map V.ref) ∧ SqL K H0 b (as.map V.ref) ∧ Lf H0 as rs ∧ Tf H0 ts ps ∧ rs.length ≤ 1000 ∧
  ∀ pp pr bs H', Same H0 H' → H0 pp = none → H0 pr = none → pp ≠ pr → News H0 H' oL bs rs → pp ∉ bs → pr ∉ bs → PuA C H' x pp pr ts bs ps rs → Q .non H'
theorem ok_Put___init__ : Ck P w K mg base 1 "Put" C_Put (sp_Pu_init K C_Put) := by
  refine Ck.mk' T.k_Put sc_Put___init__ ?_ ?_
  · rintro vs H Q E ⟨x, a, b, dx, ts, as, ps, rs, H0, rfl, _⟩; rfl
  · rintro f cdv A outer s H vs Q E hr ⟨x, a, b, dx, ts, as, ps, rs, H0, rfl, hx, s0, nx, hA, hB, hL, hT, hl, q⟩
    refine ⟨_, (pss_cons (ps_fld (pv 0) (pe_callTy (r := rList2 K) call_list_of (by rfl) T.b_list PyProof.Rows.boot_list (pa_cons (pv 1) pa_nil)) rfl)
      (pss_one (ps_fld (pv 0) (pe_lc (own := [("fall", 3)]) (g := gName 3) (tt := tYes) rfl sc_Put___init__.nd (pi_list (pv 2)) (blkOk_by (own := [("fall", 3)]) (N := N_Put___init__) (sc := defScope s_Put___init__) (by decide +kernel)) (fun _ _ _ _ _ => (pg_name (i := 3) sc_Put___init__.nd rfl (Or.inl rfl))) (fun _ _ _ _ _ => pts_nil) (fun _ _ _ _ _ => (pe_callTy (r := rList2 K) call_list_of (by rfl) T.b_list PyProof.Rows.boot_list (pa_cons (pv 3) pa_nil)))) rfl))), ?_⟩
    walk_at "k"
    walk_at "go"
    refine c_list (s0.seq hA) fun pp npp => ?_
    have e1 : x ≠ pp := neo npp hx
    have npp0 : H0 pp = none := s0.free npp
    walk_at "go"
    refine k_fld (lift_ne hx e1) T.cl_Put T.na_Put_moves (by decide) ?_
    have s1 : Same H0 (upd (upd H pp (.lst (ts.map V.ref))) x (.ins C_Put dx (putF "moves" (.ref pp) []))) := by walk_at "same"
    have hx1 : (upd (upd H pp (.lst (ts.map V.ref))) x (.ins C_Put dx (putF "moves" (.ref pp) []))) x = some (.ins C_Put dx (putF "moves" (.ref pp) [])) := upd_same
    have hp1 : (upd (upd H pp (.lst (ts.map V.ref))) x (.ins C_Put dx (putF "moves" (.ref pp) []))) pp = some (.lst (ts.map V.ref)) := by rw [upd_ne (Ne.symm e1)]; exact upd_same
    generalize upd (upd H pp (.lst (ts.map V.ref))) x (.ins C_Put dx (putF "moves" (.ref pp) [])) = H1 at s1 hx1 hp1
    walk_at "go"
    refine k_lcNf (as := as) (xss := rs) oL (s1.seq hB) hL.1 (by rw [hL.1]; omega) (fun _ => rfl) ?_ ?_
    · intro k t r H4 R' ht hr4 s4 k4
      have h4 : H4 t = some (oL r) := s4 _ _ (s1 _ _ (hL.2 k t r ht hr4))
      walk_at "go"
      refine c_list (SqL.of h4) fun l nl => ?_
      exact k4 l _ nl (Same.one nl) upd_same
    intro pr bs H2 npr s2 n2 m2 h2
    have hx2 := s2 _ _ hx1
    have hp2 := s2 _ _ hp1
    have e2 : pp ≠ pr := neo npr hp1
    have e3 : x ≠ pr := neo npr hx1
    have m3 : pp ∉ bs := fun hm => by
      obtain ⟨_, _, z, _⟩ := n2.mem hm
      rw [hp1] at z; cases z
    have m4 : x ∉ bs := fun hm => by
      obtain ⟨_, _, z, _⟩ := n2.mem hm
      rw [hx1] at z; cases z
    walk_at "go"
    refine k_fld hx2 T.cl_Put T.na_Put_falls (show (1 : Nat) < 1000 by decide) ?_
    have s3 : Same H0 (upd H2 x (.ins C_Put dx (puF pp pr))) := Same.new (s1.trans s2) nx
    walk_at "go"
    refine q pp pr bs _ s3 npp0 (s1.free npr) e2 ((n2.mut m4).back s1) m3 m2 ⟨⟨dx, upd_same⟩, lift_ne hp2 (Ne.symm e1), lift_ne h2 (Ne.symm e3), hT.same s3, Lf.of (n2.mut m4)⟩
def sp_Pu_falls (K : PySem.W.Frag) (C : Addr) : Sp := fun vs H Q _ => ∃ (x pp pr a : Addr) (ts bs : List Addr) (ps : List (Int × Int)) (rs : List (List Int)) (ns : List Int), vs = [.ref x, .ref a] ∧ PuA C H x pp pr ts bs ps rs ∧ SqL K H a (ns.map V.int) ∧ IsRow ns ∧
  ts.length ≤ 10000 ∧ bs.length ≤ 10000 ∧ (∀ r ∈ rs, r.length ≤ 1000) ∧ rs.flatten.length ≤ 10000 ∧ ∀ H', Same H H' → Q (.bl (fallen ns rs && decide ((rs.length : Int) + ps.length = ns.length))) H'
theorem ok_Put_falls_show : Cm P w K mg base 2 C_Put "falls_show" (sp_Pu_falls K C_Put) := by
  have c_places_of := ok_places_of (P := P) (w := w) (base := base) T
  have c_is_number := ok_is_number (P := P) (w := w) (base := base) T
  refine Cm.mk' T.m_Put_falls_show sc_Put_falls_show ?_ ?_
  · rintro vs H Q E ⟨x, pp, pr, a, ts, bs, ps, rs, ns, rfl, _⟩; rfl
  · rintro f cdv A outer s H vs Q E hr ⟨x, pp, pr, a, ts, bs, ps, rs, ns, rfl, O, hA, R, ht, hb, hb2, hl, q⟩
    refine ⟨_, (pss_cons (ps_set (i := 2) sc_Put_falls_show.nd rfl (by first | exact Or.inl rfl | exact Or.inr rfl) (pe_cc c_places_of (hr.mono (by decide)) (by rfl) (pa_cons (pv 1) pa_nil)))
      (pss_cons (ps_set (i := 3) sc_Put_falls_show.nd rfl (by first | exact Or.inl rfl | exact Or.inr rfl) (pe_lst pa_nil))
      (pss_cons (ps_for PassesOwn.never rfl (pi_list (pe_fld (pv 0) rfl)) (pg_name (i := 4) sc_Put_falls_show.nd rfl (by first | exact Or.inl rfl | exact Or.inr rfl)) (pss_cons (ps_if (pt_not (pt_val (pe_callB (r := rAll K) (cr_all rfl) (by rfl) T.b_all PyProof.Rows.boot_all (pa_cons (pe_lc (own := [("thing", 6)]) (g := gName 6) (tt := tYes) rfl sc_Put_falls_show.nd (pi_list (pv 4)) (blkOk_by (own := [("thing", 6)]) (N := N_Put_falls_show) (sc := defScope s_Put_falls_show) (by decide +kernel)) (fun _ _ _ _ _ => (pg_name (i := 6) sc_Put_falls_show.nd rfl (Or.inl rfl))) (fun _ _ _ _ _ => pts_nil) (fun _ _ _ _ _ => (pe_cc c_is_number (hr.mono (by decide)) (by rfl) (pa_cons (pv 6) (pa_cons pe_int (pa_cons (pe_op op_sub (pe_callB (r := rLen2 K) call_len_seq (by rfl) T.b_len PySem.boot_len (pa_cons (pv 1) pa_nil)) pe_int) pa_nil)))))) pa_nil)))) (pss_one (ps_ret pe_bl)) pss_nil)
      (pss_cons (ps_for PassesOwn.never rfl (pi_range2 (by rfl) T.b_range (pa_cons pe_int (pa_cons (pe_callB (r := rLen2 K) call_len_seq (by rfl) T.b_len PySem.boot_len (pa_cons (pv 4) pa_nil)) pa_nil))) (pg_name (i := 5) sc_Put_falls_show.nd rfl (by first | exact Or.inl rfl | exact Or.inr rfl)) (pss_one (ps_if (PW.pt (pw_or (pt_cmpR op_ge (pe_ix (r := rIxL K) ix_list (pv 4) (pv 5) (fun _ _ => rfl)) (pe_ix (r := rIxL K) ix_list (pv 4) (pe_op op_sub (pv 5) pe_int) (fun _ _ => rfl)) (nomark _)) (pw_or1 (pt_cmpR op_le (pe_ix (r := rIxL K) ix_list (pv 2) (pe_ix (r := rIxL K) ix_list (pv 4) (pv 5) (fun _ _ => rfl)) (fun _ _ => rfl)) (pe_ix (r := rIxL K) ix_list (pv 2) (pe_ix (r := rIxL K) ix_list (pv 4) (pe_op op_sub (pv 5) pe_int) (fun _ _ => rfl)) (fun _ _ => rfl)) (nomark _))))) (pss_one (ps_ret pe_bl)) pss_nil)))
      (pss_one (ps_expr (pe_bm PySem.F.plainAttrs_list PySem.F.slot_list_extend PySem.F.type_list_extend mt_extend (pv 3) (pa_cons (pv 4) pa_nil)))))))
      (pss_one (ps_ret (pe_and (pe_cmpR (r := rEqD K) (op_eqD hr.units) (pe_callB (r := rSortedI K) cr_sortedI (by rfl) T.b_sorted PyProof.Rows.boot_sorted (pa_cons (pv 3) pa_nil)) (pe_listRg rfl (by rfl) T.b_list (prg_1 (by rfl) T.b_range (pe_callB (r := rLen2 K) call_len_seq (by rfl) T.b_len PySem.boot_len (pa_cons (pv 1) pa_nil)))) (nomark _)) (pe_one (pe_cmpR op_eq (pe_op op_add (pe_callB (r := rLen2 K) call_len_seq (by rfl) T.b_len PySem.boot_len (pa_cons (pe_fld (pv 0) rfl) pa_nil)) (pe_callB (r := rLen2 K) call_len_seq (by rfl) T.b_len PySem.boot_len (pa_cons (pe_fld (pv 0) rfl) pa_nil))) (pe_callB (r := rLen2 K) call_len_seq (by rfl) T.b_len PySem.boot_len (pa_cons (pv 1) pa_nil)) (nomark _))))))))), ?_⟩
    have hn := R.len
    have lpl := placesOf_length ns
    walk_at "k"
    walk_at "go"
    refine ⟨a, ns, rfl, hA, R, fun pq H1 s1 npq hpq => ?_⟩
    have O1 := O.same s1
    obtain ⟨dx, ob⟩ := O1.ob
    have la := O1.lf.1
    have lp := O1.tf.1
    have hpr := O1.hr
    have hpp := O1.hp
    walk_at "go"
    refine ⟨Nat.zero_le _, fun p np => ?_⟩
    have e0 : pq ≠ p := neo np hpq
    walk_at "go"
    refine c_fld (show _ = some (HO.ins C_Put dx (puF pp pr)) by walk_at "hp") T.cl_Put T.na_Put_falls (puF_falls pp pr) ?_
    refine k_lstN (f := V.ref) bs (fun i σ H' => ∃ v4 v5, σ = [some (.ref x), some (.ref a), some (.ref pq), some (.ref p), v4, v5, none] ∧ Same H1 H' ∧ H' p = some (.lst (((rs.take i).flatten).map V.int)) ∧ (rs.take i).all (fallOk ns) = true)
        (by walk_at "sq") ⟨none, none, rfl, by walk_at "same", by walk_at "hp", rfl⟩ (fun i σ H' _ ⟨_, _, _, s2, _⟩ => s2.seq (SqL.of hpr)) ?_ ?_
    · rintro i pi σ H' hi ⟨v4, v5, rfl, s3, h1, a1⟩
      walk_at "d"
      obtain ⟨r, hr1, hr2⟩ : ∃ r, rs[i]? = some r ∧ H1 pi = some (oL r) := by
        have hlt : i < rs.length := by rw [← la]; exact (List.getElem?_eq_some_iff.mp hi).1
        exact ⟨_, List.getElem?_eq_getElem hlt, O1.lf.2 i pi _ hi (List.getElem?_eq_getElem hlt)⟩
      have hrm : r ∈ rs := List.mem_of_getElem? hr1
      have br := hb2 r hrm
      have z1 := flatten_take_le rs (i + 1)
      rw [flatten_take hr1, List.length_append] at z1
      have no : fallOk ns r = false → (fallen ns rs && decide ((rs.length : Int) + ps.length = ns.length)) = false := fun h => by
        unfold fallen
        rw [show rs.all (fallOk ns) = false from List.all_eq_false.mpr ⟨r, hrm, by rw [h]; exact Bool.false_ne_true⟩, Bool.false_and, Bool.false_and]
      have hpi : H' pi = some (oL r) := s3 _ _ hr2
      have hpq' : H' pq = some (.lst ((placesOf ns).map V.int)) := s3 _ _ hpq
      walk_at "go"
      refine k_lcV (xs := r) (f := V.int) (h := V.bl) (fun x => isNum (.int x) 0 ((ns.length : Int) - 1)) (by walk_at "sq") (by omega) (fun _ => rfl) ?_ ?_
      · intro i x H2 R' hx s2 k2
        walk_at "go"
        exact ⟨.int x, 0, _, "int", rfl, .base (.int x), k2 H2 (Same.refl _)⟩
      intro D H2 nD s2 hD
      have s32 := s3.trans s2
      have hpi2 := s2 _ _ hpi
      have h12 := s2 _ _ h1
      have hpq2 := s2 _ _ hpq'
      walk_at "go"
      cases hA2 : (r.map fun x => isNum (.int x) 0 ((ns.length : Int) - 1)).all id with
      | false =>
        walk_at "go"
        have := q _ (s1.trans s32)
        rw [no (by rw [fallOk_split, hA2, Bool.false_and])] at this
        exact this
      | true =>
        have bx := nums_bd hA2
        walk_at "go"
        refine k_rng2 (fun k σ H' => ∃ v5, σ = [some (.ref x), some (.ref a), some (.ref pq), some (.ref p), some (.ref pi), v5, none] ∧ H' = H2 ∧ ((List.range k).all fun k => decide (gt r ((k : Int) + 1) < gt r (k : Int)) && decide (gt (placesOf ns) (gt r (k : Int)) < gt (placesOf ns) (gt r ((k : Int) + 1)))) = true)
          (by omega) ⟨_, rfl, rfl, rfl⟩ ?_ ?_
        · rintro k σ H3 hk ⟨v5, rfl, rfl, ak⟩
          walk_at "d"
          have hx1 := bx (gt r (k : Int)) (gt_mem (by omega) (by omega))
          have hx2 := bx (gt r ((k : Int) + 1)) (gt_mem (by omega) (by omega))
          have bad : (decide (gt r ((k : Int) + 1) < gt r (k : Int)) && decide (gt (placesOf ns) (gt r (k : Int)) < gt (placesOf ns) (gt r ((k : Int) + 1)))) = false → Q (.bl false) H3 := fun h => by
            have := q _ (s1.trans s32)
            rw [no (by
              rw [fallOk_split, show ((List.range (r.length - 1)).all fun k => decide (gt r ((k : Int) + 1) < gt r (k : Int)) && decide (gt (placesOf ns) (gt r (k : Int)) < gt (placesOf ns) (gt r ((k : Int) + 1)))) = false from List.all_eq_false.mpr ⟨k, List.mem_range.mpr (by omega), by rw [h]; exact Bool.false_ne_true⟩, Bool.and_false])] at this
            exact this
          walk_at "go"
          rw [show (1 : Int) + (k : Int) = (k : Int) + 1 by omega, show (k : Int) + 1 - 1 = (k : Int) by omega]
          refine ite_dec (fun c => ?_) (fun c => ?_)
          · walk_at "go"
            exact bad (by rw [decide_eq_false (by omega), Bool.false_and])
          · walk_at "go"
            rw [show (k : Int) + 1 - 1 = (k : Int) by omega]
            walk_at "go"
            refine ite_dec (fun c2 => ?_) (fun c2 => ?_)
            · walk_at "go"
              exact bad (by rw [decide_eq_false (show ¬ gt (placesOf ns) (gt r (k : Int)) < gt (placesOf ns) (gt r ((k : Int) + 1)) by omega), Bool.and_false])
            · walk_at "go"
              refine ⟨_, rfl, rfl, ?_⟩
              rw [List.range_succ, List.all_append, ak]
              show (true && ((decide (gt r ((k : Int) + 1) < gt r (k : Int)) && decide (gt (placesOf ns) (gt r (k : Int)) < gt (placesOf ns) (gt r ((k : Int) + 1)))) && true)) = true
              rw [decide_eq_true (by omega), decide_eq_true (by omega)]; rfl
        · rintro σ H3 ⟨v5, rfl, rfl, ak⟩
          walk_at "d"
          rw [show ((r.length : Int) - 1).toNat = r.length - 1 by omega] at ak
          walk_at "go"
          refine m_ext h12 hpi2 (by omega) ?_
          walk_at "go"
          refine ⟨_, _, rfl, Same.new s32 np, ?_, ?_⟩
          · rw [flatten_take hr1]; exact upd_same
          · rw [List.take_add_one, hr1, List.all_append, a1]
            show (true && ((fallOk ns r) && true)) = true
            rw [fallOk_split, hA2, ak]; rfl
    · rintro σ H' ⟨v4, v5, rfl, s3, h1, a1⟩
      rw [la, List.take_length] at h1 a1
      walk_at "d"
      walk_at "go"
      refine c_sorted (by walk_at "sq") fun ns' l pm so nl => ?_
      walk_at "go"
      refine k_listRg (by omega) fun l2 nl2 => ?_
      have s5 : Same H' (upd (upd H' l (.lst (ns'.map V.int))) l2 (.lst ((upTo ns.length).map V.int))) := by walk_at "same"
      refine o_eqL (ns := ns') (ms := upTo ns.length) (by walk_at "sq") (by walk_at "sq") ?_
      rw [sorted_isAll pm so]
      have s35 := s3.trans s5
      have s135 := s1.trans s35
      generalize upd (upd H' l (.lst (ns'.map V.int))) l2 (.lst ((upTo ns.length).map V.int)) = H6 at s5 s35 s135
      have := q H6 s135
      unfold fallen at this
      rw [a1, Bool.true_and] at this
      have O6 := O1.same s35
      obtain ⟨dx6, ob6⟩ := O6.ob
      have hp6 := O6.hp
      have hr6 := O6.hr
      walk_at "go"
      cases hI : isAll rs.flatten ns.length with
      | false =>
        rw [hI] at this
        walk_at "go"
        exact this
      | true =>
        rw [hI, Bool.true_and] at this
        walk_at "go"
        refine c_fld ob6 T.cl_Put T.na_Put_falls (puF_falls pp pr) ?_
        walk_at "go"
        refine c_fld ob6 T.cl_Put T.na_Put_moves (puF_moves pp pr) ?_
        walk_at "go"
        rw [la, lp]
        exact this
def sp_Pu_shows (K : PySem.W.Frag) (C : Addr) : Sp := fun vs H Q _ => ∃ (x pp pr a : Addr) (ts bs : List Addr) (ps : List (Int × Int)) (rs : List (List Int)) (ns : List Int), vs = [.ref x, .ref a] ∧ PuA C H x pp pr ts bs ps rs ∧ SqL K H a (ns.map V.int) ∧ IsRow ns ∧
  ts.length ≤ 10000 ∧ bs.length ≤ 10000 ∧ (∀ r ∈ rs, r.length ≤ 1000) ∧ rs.flatten.length ≤ 10000 ∧ ∀ H', Same H H' → Q (.bl (putShows ns ps rs)) H'
theorem ok_Put_shows : Cm P w K mg base 3 C_Put "shows" (sp_Pu_shows K C_Put) := by
  have c_Put_falls_show := ok_Put_falls_show (P := P) (w := w) (base := base) T
  have c_is_order := ok_is_order (P := P) (w := w) (base := base) T
  refine Cm.mk' T.m_Put_shows sc_Put_shows ?_ ?_
  · rintro vs H Q E ⟨x, pp, pr, a, ts, bs, ps, rs, ns, rfl, _⟩; rfl
  · rintro f cdv A outer s H vs Q E hr ⟨x, pp, pr, a, ts, bs, ps, rs, ns, rfl, O, hA, R, ht, hb, hb2, hl, q⟩
    have hn := R.len
    refine ⟨_, (pss_cons (ps_set (i := 2) sc_Put_shows.nd rfl (by first | exact Or.inl rfl | exact Or.inr rfl) (pe_callTy (r := rList2 K) call_list_of (by rfl) T.b_list PyProof.Rows.boot_list (pa_cons (pv 1) pa_nil)))
      (pss_cons (ps_for PassesOwn.never rfl (pi_list (pe_fld (pv 0) rfl)) (pg_tup rfl (pgs_cons (pg_name (i := 3) sc_Put_shows.nd rfl (by first | exact Or.inl rfl | exact Or.inr rfl)) (pgs_cons (pg_name (i := 4) sc_Put_shows.nd rfl (by first | exact Or.inl rfl | exact Or.inr rfl)) pgs_nil))) (pss_cons (ps_if (PW.pt (pw_or (pt_cmpR (r := rIn K true) op_notIn_seq (pv 3) (pv 2) (by rfl)) (pw_or1 (pt_not (pt_chain op_le op_lt pe_int (pv 4) (pe_callB (r := rLen2 K) call_len_seq (by rfl) T.b_len PySem.boot_len (pa_cons (pv 1) pa_nil))))))) (pss_one (ps_ret pe_bl)) pss_nil)
      (pss_cons (ps_expr (pe_bm PySem.F.plainAttrs_list PySem.F.slot_list_remove PySem.F.type_list_remove mt_remove (pv 2) (pa_cons (pv 3) pa_nil)))
      (pss_one (ps_expr (pe_bm (r := rIns) PySem.F.plainAttrs_list PySem.F.slot_list_insert PySem.F.type_list_insert mt_insert (pv 2) (pa_cons (pv 4) (pa_cons (pv 3) pa_nil))))))))
      (pss_one (ps_ret (pe_and (pe_cc c_is_order (hr.mono (by decide)) (by rfl) (pa_cons (pv 2) pa_nil)) (pe_one (pe_ct c_Put_falls_show (hr.mono (by decide)) (pv 0) (pa_cons (pv 1) pa_nil)))))))), ?_⟩
    obtain ⟨dx, ob⟩ := O.ob
    have hpt := O.hp
    have lp := O.tf.1
    walk_at "k"
    walk_at "go"
    refine c_list hA fun p np => ?_
    walk_at "go"
    refine c_fld (show _ = some (HO.ins C_Put dx (puF pp pr)) by walk_at "hp") T.cl_Put T.na_Put_moves (puF_moves pp pr) ?_
    refine k_lstP (ts := ts) (ps := ps) (fun i σ H' => ∃ v3 v4, σ = [some (.ref x), some (.ref a), some (.ref p), v3, v4] ∧ Same H H' ∧ H' p = some (.lst (((ps.take i).foldl pm ns).map V.int)) ∧ (ps.take i).all (pmOk ns) = true)
      (by walk_at "sq") lp ⟨_, _, rfl, by walk_at "same", by walk_at "hp", rfl⟩ (fun i σ H' _ ⟨_, _, _, s2, _⟩ => ⟨s2.seq (SqL.of hpt), O.tf.same s2⟩) ?_ ?_
    · rintro i ⟨t, e⟩ σ H' hi ⟨v3, v4, rfl, s2, h2, a2⟩
      walk_at "d"
      have pmm := pm_mem a2
      have lf := pmm.length_eq
      have bad : pmOk ns (t, e) = false → Q (.bl false) H' := fun h => by
        have := q H' s2
        unfold putShows at this
        rw [show ps.all (pmOk ns) = false from List.all_eq_false.mpr ⟨(t, e), List.mem_of_getElem? hi, by rw [h]; exact Bool.false_ne_true⟩, Bool.false_and] at this
        exact this
      have ft := foldl_take (g := pm) (b := ns) hi
      generalize hF : (ps.take i).foldl pm ns = F at *
      walk_at "go"
      refine ite_ndec (fun c => ?_) (fun c => ?_)
      · walk_at "go"
        exact bad (by unfold pmOk; rw [decide_eq_false fun z => c (pmm.mem_iff.mpr z), Bool.false_and])
      have ct := pmm.mem_iff.mp c
      have le := List.length_erase_of_mem c
      walk_at "go"
      refine ite_dec (fun c2 => ?_) (fun c2 => ?_)
      · walk_at "go"
        refine ite_ndec (fun c3 => ?_) (fun c3 => ?_)
        · walk_at "go"
          exact bad (by unfold pmOk; rw [decide_eq_false c3, Bool.and_false, Bool.and_false])
        · walk_at "go"
          refine m_rem h2 c ?_
          walk_at "go"
          refine ⟨_, _, rfl, by walk_at "same", ?_, ?_⟩
          · rw [ft]; exact upd_same
          · rw [List.take_add_one, hi, List.all_append, a2]
            show (true && (pmOk ns (t, e) && true)) = true
            unfold pmOk
            rw [decide_eq_true ct, decide_eq_true c2, decide_eq_true c3]; rfl
      · walk_at "go"
        exact bad (by unfold pmOk; rw [decide_eq_false c2, Bool.false_and, Bool.and_false])
    · rintro σ H' ⟨v3, v4, rfl, s2, h2, a2⟩
      rw [List.take_length] at h2 a2
      have pmm := pm_mem a2
      have lf := pmm.length_eq
      walk_at "d"
      walk_at "go"
      refine ⟨p, _, rfl, SqL.of h2, by omega, fun H3 s3 => ?_⟩
      rw [lf]
      have s23 := s2.trans s3
      have qs := q
      unfold putShows at qs
      rw [a2, Bool.true_and] at qs
      walk_at "go"
      refine ite_dec (fun c => ?_) (fun c => ?_)
      · rw [decide_eq_true c, Bool.true_and] at qs
        have O3 := O.same s23
        obtain ⟨dx3, ob3⟩ := O3.ob
        walk_at "go"
        refine k_meth ob3 (puF_none pp pr (by decide) (by decide)) ?_
        walk_at "go"
        exact ⟨x, pp, pr, a, ts, bs, ps, rs, ns, rfl, O3, s23.seq hA, R, ht, hb, hb2, hl, fun H4 s4 => qs H4 (s23.trans s4)⟩
      · rw [decide_eq_false c, Bool.false_and] at qs
        exact qs H3 s23
def sp_put (K : PySem.W.Frag) (C : Addr) : Sp := fun vs H Q _ => ∃ (a : Addr) (ns : List Int), vs = [.ref a] ∧ SqL K H a (ns.map V.int) ∧ IsRow ns ∧
  ∀ x pp pr ts bs ps rs H', Same H H' → H x = none → H pp = none → H pr = none → pp ≠ pr → News H H' oL bs rs → pp ∉ bs → pr ∉ bs → PuA C H' x pp pr ts bs ps rs → putShows ns ps rs = true → ps.length ≤ ns.length → rs.length ≤ ns.length → rs.flatten.length = ns.length → (∀ r ∈ rs, r ≠ []) → Q (.ref x) H'
theorem ok_put : Cc P w K mg base 3 "put" (sp_put K C_Put) := by
  have c_check_row := ok_check_row (P := P) (w := w) (base := base) T
  have c_falls_and_kept := ok_falls_and_kept (P := P) (w := w) (base := base) T
  have c_Put := ok_Put___init__ (P := P) (w := w) (base := base) T
  refine Cc.mk' T.d_put sc_put ?_ ?_
  · rintro vs H Q E ⟨a, ns, rfl, _⟩; rfl
  · rintro f cdv A outer s H vs Q E hr ⟨a, ns, rfl, hS, R, q⟩
    have hl := R.len
    refine ⟨_, (pss_cons (ps_expr (pe_cc c_check_row (hr.mono (by decide)) (by rfl) (pa_cons (pv 0) pa_nil)))
      (pss_cons (ps_asg (pe_cc c_falls_and_kept (hr.mono (by decide)) (by rfl) (pa_cons (pv 0) pa_nil)) (pg_tup rfl (pgs_cons (pg_name (i := 1) sc_put.nd rfl (by first | exact Or.inl rfl | exact Or.inr rfl)) (pgs_cons (pg_name (i := 2) sc_put.nd rfl (by first | exact Or.inl rfl | exact Or.inr rfl)) pgs_nil))))
      (pss_cons (ps_set (i := 3) sc_put.nd rfl (by first | exact Or.inl rfl | exact Or.inr rfl) pe_dnewK)
      (pss_cons (ps_for PassesOwn.never rfl (pi_list (pv 2)) (pg_name (i := 4) sc_put.nd rfl (by first | exact Or.inl rfl | exact Or.inr rfl)) (pss_one (ps_dput (u1 hr) (pv 3) (pv 4) pe_bl rfl)))
      (pss_cons (ps_set (i := 5) sc_put.nd rfl (by first | exact Or.inl rfl | exact Or.inr rfl) (pe_callTy (r := rList2 K) call_list_of (by rfl) T.b_list PyProof.Rows.boot_list (pa_cons (pv 0) pa_nil)))
      (pss_cons (ps_set (i := 6) sc_put.nd rfl (by first | exact Or.inl rfl | exact Or.inr rfl) (pe_lst pa_nil))
      (pss_cons (ps_for PassesOwn.never rfl (pi_range1 (by rfl) T.b_range (pa_cons (pe_callB (r := rLen2 K) call_len_seq (by rfl) T.b_len PySem.boot_len (pa_cons (pv 0) pa_nil)) pa_nil)) (pg_name (i := 4) sc_put.nd rfl (by first | exact Or.inl rfl | exact Or.inr rfl)) (pss_one (ps_if (pt_cmp (pc_dnotin (u1 hr) (pv 4) (pv 3))) (pss_cons (ps_expr (pe_bm PySem.F.plainAttrs_list PySem.F.slot_list_remove PySem.F.type_list_remove mt_remove (pv 5) (pa_cons (pv 4) pa_nil)))
      (pss_cons (ps_set (i := 7) sc_put.nd rfl (by first | exact Or.inl rfl | exact Or.inr rfl) pe_int)
      (Bo.pss_cut (ps_if (pt_cmpR op_gt (pv 4) pe_int (nomark _)) (pss_one (ps_set (i := 7) sc_put.nd rfl (by first | exact Or.inl rfl | exact Or.inr rfl) (pe_op op_add (pe_bm PySem.F.plainAttrs_list PySem.F.slot_list_index PySem.F.type_list_index mt_index (pv 5) (pa_cons (pe_op op_sub (pv 4) pe_int) pa_nil)) pe_int))) pss_nil)
      (pss_cons (ps_expr (pe_bm (r := rIns) PySem.F.plainAttrs_list PySem.F.slot_list_insert PySem.F.type_list_insert mt_insert (pv 5) (pa_cons (pv 7) (pa_cons (pv 4) pa_nil))))
      (pss_one (ps_expr (pe_bm PySem.F.plainAttrs_list PySem.F.slot_list_append PySem.F.type_list_append mt_append (pv 6) (pa_cons (pe_tup (pa_cons (pv 4) (pa_cons (pv 7) pa_nil))) pa_nil)))))))) pss_nil)))
      (pss_one (ps_ret (pe_cm c_Put (hr.mono (by decide)) (by rfl) (pa_cons (pv 6) (pa_cons (pv 1) pa_nil)))))))))))), ?_⟩
    walk_at "k"
    walk_at "go"
    refine ⟨a, ns, rfl, hS, R, fun H1 s1 => ?_⟩
    walk_at "go"
    refine r_asg ?_
    walk_at "go"
    refine ⟨a, ns, rfl, by walk_at "sq", R, fun p2 pf pk as piles kept H2 s2 hp2 hpf n2 hpk fal pne Kp kl => ?_⟩
    have s02 := s1.trans s2
    have L2' : Lf H2 as piles := Lf.of n2
    have kn := Kp.nodup
    have kle := nodup_le (row := ns) kn Kp.bd
    clear s2 n2
    refine k_tup2 (SqT.of hp2) ?_
    walk_at "go"
    intro pd npd
    have s03 : Same H (upd H2 pd (.dK [])) := by walk_at "same"
    have npd0 := s02.free npd
    have s23 : Same H2 (upd H2 pd (.dK [])) := Same.one npd
    have hpf3 := s23 _ _ hpf
    have hpk3 := s23 _ _ hpk
    have L3 := L2'.same s23
    have hd3 : (upd H2 pd (.dK [])) pd = some (.dK []) := upd_same
    have dkk : pk ≠ pd := neo npd hpk
    have dkf : pf ≠ pd := neo npd hpf
    have mas : pd ∉ as := fun hm => by
      obtain ⟨i, hi, e⟩ := List.getElem_of_mem hm
      have hj : i < piles.length := by rw [← L2'.1]; exact hi
      have := L2'.2 i pd piles[i] (by rw [List.getElem?_eq_getElem hi, e]) (List.getElem?_eq_getElem hj)
      rw [npd] at this; cases this
    generalize upd H2 pd (.dK []) = H3 at s03 s23 hpf3 hpk3 L3 hd3
    walk_at "go"
    refine k_lstN (f := V.int) kept (fun i σ H' => ∃ kvs v4, σ = [some (.ref a), some (.ref pf), some (.ref pk), some (.ref pd), v4, none, none, none] ∧ Same H H' ∧ H' pf = some (.lst (as.map V.ref)) ∧ H' pk = some (.lst (kept.map V.int)) ∧ Lf H' as piles ∧ H' pd = some (.dK kvs) ∧ kvs.length ≤ i ∧
        ∀ k : Int, (valV kvs (.inl k)).isSome = decide (k ∈ kept.take i))
      (SqL.of hpk3) ⟨[], _, rfl, s03, hpf3, hpk3, L3, hd3, Nat.le_refl _, fun k => by simp [valV]⟩ (fun i σ H' _ ⟨_, _, _, _, _, h, _⟩ => SqL.of h) ?_ ?_
    · rintro i x σ H' hi ⟨kvs, v4, rfl, s4, hf4, hk4, L4, hd4, kvl, kvm⟩
      walk_at "d"
      have hil := (List.getElem?_eq_some_iff.mp hi).1
      walk_at "go"
      refine k_dput hd4 (by omega) ?_
      have kl1 := putK_len kvs (.inl x) (.bl true)
      walk_at "go"
      refine ⟨_, _, rfl, by walk_at "same", lift_ne hf4 dkf, lift_ne hk4 dkk, L4.mut mas, upd_same, by omega, fun k => ?_⟩
      rw [valV_put, List.take_add_one, hi]
      by_cases e : k = x
      · rw [if_pos (by rw [e]), e]; simp
      · have e' : ¬ (Sum.inl k : Key) = Sum.inl x := fun z => e (Sum.inl.inj z)
        rw [if_neg e', kvm k]
        have : (k ∈ kept.take i ++ (some x).toList) ↔ k ∈ kept.take i := by simp [e]
        rw [decide_eq_decide]; exact this.symm
    rintro σ H' ⟨kvs, v4, rfl, s4, hf4, hk4, L4, hd4, kvl, kvm⟩
    rw [List.take_length] at kvm
    walk_at "d"
    walk_at "go"
    refine c_list (s4.seq hS) fun p5 np5 => ?_
    have c5 : Same H' (upd H' p5 (.lst (ns.map V.int))) := Same.one np5
    have s5 := s4.trans c5
    have n50 := s4.free np5
    have hf5 := c5 _ _ hf4
    have hd5 := c5 _ _ hd4
    have L5 := L4.same c5
    have h55 : (upd H' p5 (.lst (ns.map V.int))) p5 = some (.lst (ns.map V.int)) := upd_same
    generalize upd H' p5 (.lst (ns.map V.int)) = H5 at c5 s5 hf5 hd5 L5 h55
    walk_at "go"
    refine ⟨Nat.zero_le _, fun p6 np6 => ?_⟩
    have c6 : Same H5 (upd H5 p6 (.lst [])) := Same.one np6
    have s6 := s5.trans c6
    have n60 := s5.free np6
    have hf6 := c6 _ _ hf5
    have hd6 := c6 _ _ hd5
    have h65 := c6 _ _ h55
    have L6 := L5.same c6
    have h66 : (upd H5 p6 (.lst [])) p6 = some (.lst (([] : List Addr).map V.ref)) := upd_same
    have d56 : p5 ≠ p6 := neo np6 h55
    have mb6 : p6 ∉ as := fun hm => by
      obtain ⟨i, hi, e⟩ := List.getElem_of_mem hm
      have hj : i < piles.length := by rw [← L5.1]; exact hi
      have := L5.2 i p6 piles[i] (by rw [List.getElem?_eq_getElem hi, e]) (List.getElem?_eq_getElem hj)
      rw [np6] at this; cases this
    have mb5 : p5 ∉ as := fun hm => by
      obtain ⟨i, hi, e⟩ := List.getElem_of_mem hm
      have hj : i < piles.length := by rw [← L4.1]; exact hi
      have := L4.2 i p5 piles[i] (by rw [List.getElem?_eq_getElem hi, e]) (List.getElem?_eq_getElem hj)
      rw [np5] at this; cases this
    have df5 : pf ≠ p5 := neo np5 hf4
    have df6 : pf ≠ p6 := neo np6 hf5
    have dd5 : pd ≠ p5 := neo np5 hd4
    have dd6 : pd ≠ p6 := neo np6 hd5
    generalize upd H5 p6 (.lst []) = H6 at c6 s6 hf6 hd6 h65 L6 h66
    walk_at "go"
    refine k_rng1 (fun i σ H' => ∃ ts v4 v7, σ = [some (.ref a), some (.ref pf), some (.ref pk), some (.ref pd), v4, some (.ref p5), some (.ref p6), v7] ∧ Same H H' ∧ H' pf = some (.lst (as.map V.ref)) ∧ Lf H' as piles ∧ H' pd = some (.dK kvs) ∧
        H' p5 = some (.lst ((puAux ns kept i).f.map V.int)) ∧ H' p6 = some (.lst (ts.map V.ref)) ∧ News H H' oP ts (puAux ns kept i).ms)
      (by omega) ⟨[], _, _, rfl, s6, hf6, L6, hd6, h65, h66, News.nil⟩ ?_ ?_
    · rintro i σ H7 hi ⟨ts, v4, v7, rfl, s7, hf7, L7, hd7, h75, h76, n7⟩
      walk_at "d"
      have I := PuI.all R Kp i (by omega)
      have fl := I.perm.length_eq
      have lt := n7.len
      have lms : (puAux ns kept i).ms.length ≤ i := by obtain ⟨ks, _, _, z⟩ := I.ct; omega
      have m75 := n7.nlst h75
      have m76 := n7.nlst h76
      walk_at "go"
      refine k_dnin hd7 ?_
      rw [kvm]
      walk_at "go"
      refine ite_ndec (fun c => ?_) (fun c => ?_)
      · have hif : (i : Int) ∈ (puAux ns kept i).f := I.perm.mem_iff.mpr (row_mem R (by omega))
        have el := List.length_erase_of_mem hif
        have estep : puAux ns kept (i + 1) = ⟨ins ((puAux ns kept i).f.erase (i : Int)) (puAt (puAux ns kept i).f i) (i : Int), (puAux ns kept i).ms ++ [((i : Int), puAt (puAux ns kept i).f i)]⟩ := if_neg c
        have Ino := I.perm.symm.nodup R.nd
        generalize puAux ns kept i = S at *
        walk_at "go"
        refine m_rem h75 hif ?_
        have h85 : (upd H7 p5 (.lst ((S.f.erase (i : Int)).map V.int))) p5 = some (.lst ((S.f.erase (i : Int)).map V.int)) := upd_same
        have s8 : Same H (upd H7 p5 (.lst ((S.f.erase (i : Int)).map V.int))) := by walk_at "same"
        have hf8 := lift_ne (u := .lst ((S.f.erase (i : Int)).map V.int)) hf7 df5
        have hd8 := lift_ne (u := .lst ((S.f.erase (i : Int)).map V.int)) hd7 dd5
        have h86 := lift_ne (u := .lst ((S.f.erase (i : Int)).map V.int)) h76 (Ne.symm d56)
        have L8 := L7.mut (o := .lst ((S.f.erase (i : Int)).map V.int)) mb5
        have n8 := n7.mut (o := .lst ((S.f.erase (i : Int)).map V.int)) m75
        generalize upd H7 p5 (.lst ((S.f.erase (i : Int)).map V.int)) = H8 at h85 s8 hf8 hd8 h86 L8 n8
        walk_at "go"
        refine c_cut (fun σ' H9 => σ' = [some (.ref a), some (.ref pf), some (.ref pk), some (.ref pd), some (.int (i : Nat)), some (.ref p5), some (.ref p6), some (.int (puAt S.f i))] ∧ H9 = H8) ?_ ?_
        · walk_at "go"
          refine ite_dec (fun c0 => ?_) (fun c0 => ?_)
          · have hm : (i : Int) - 1 ∈ S.f.erase (i : Int) := (List.Nodup.mem_erase_iff Ino).mpr ⟨by omega, I.perm.mem_iff.mpr (row_mem R (by omega))⟩
            walk_at "go"
            refine m_idx (by walk_at "sq") hm ?_
            walk_at "go"
            rw [show puAt S.f i = (((S.f.erase (i : Int)).idxOf ((i : Int) - 1) : Nat) : Int) + 1 from if_pos c0]
            exact ⟨rfl, rfl⟩
          · walk_at "go"
            rw [show puAt S.f i = 0 from if_neg c0]
            exact ⟨rfl, rfl⟩
        rintro σ' H9 ⟨rfl, rfl⟩
        have pb : 0 ≤ puAt S.f i ∧ puAt S.f i ≤ 1001 := by
          unfold puAt
          split
          · have := List.idxOf_le_length (a := (i : Int) - 1) (l := S.f.erase (i : Int))
            omega
          · omega
        walk_at "go"
        refine ⟨by show 2 ≤ sizeLine; decide, fun t nt => ?_⟩
        walk_at "go"
        have s10 : Same H (upd H9 p5 (.lst ((ins (S.f.erase (i : Int)) (puAt S.f i) (i : Int)).map V.int))) := by walk_at "same"
        have h105 : (upd H9 p5 (.lst ((ins (S.f.erase (i : Int)) (puAt S.f i) (i : Int)).map V.int))) p5 = some (.lst ((ins (S.f.erase (i : Int)) (puAt S.f i) (i : Int)).map V.int)) := upd_same
        have hf10 := lift_ne (u := .lst ((ins (S.f.erase (i : Int)) (puAt S.f i) (i : Int)).map V.int)) hf8 df5
        have hd10 := lift_ne (u := .lst ((ins (S.f.erase (i : Int)) (puAt S.f i) (i : Int)).map V.int)) hd8 dd5
        have h106 := lift_ne (u := .lst ((ins (S.f.erase (i : Int)) (puAt S.f i) (i : Int)).map V.int)) h86 (Ne.symm d56)
        have L10 := L8.mut (o := .lst ((ins (S.f.erase (i : Int)) (puAt S.f i) (i : Int)).map V.int)) mb5
        have n10 := n8.mut (o := .lst ((ins (S.f.erase (i : Int)) (puAt S.f i) (i : Int)).map V.int)) m75
        generalize upd H9 p5 (.lst ((ins (S.f.erase (i : Int)) (puAt S.f i) (i : Int)).map V.int)) = H10 at *
        have c11 : Same H10 (upd H10 t (oP ((i : Int), puAt S.f i))) := Same.one nt
        have dt6 : p6 ≠ t := neo nt h106
        have n11 := (n10.same c11).snoc (p := t) (x := ((i : Int), puAt S.f i)) (n10.notin nt) (s10.free nt) upd_same
        refine ⟨ts ++ [t], _, _, rfl, by walk_at "same", lift_ne (c11 _ _ hf10) df6, (L10.same c11).mut mb6, lift_ne (c11 _ _ hd10) dd6, ?_, upd_same, ?_⟩
        · rw [estep]; exact lift_ne (c11 _ _ h105) d56
        · rw [estep]; exact n11.mut (nm_snoc m76 dt6)
      · have estep : puAux ns kept (i + 1) = puAux ns kept i := if_pos c
        walk_at "go"
        rw [estep]
        exact ⟨ts, _, _, rfl, s7, hf7, L7, hd7, h75, h76, n7⟩
    · rintro σ H7 ⟨ts, v4, v7, rfl, s7, hf7, L7, hd7, h75, h76, n7⟩
      walk_at "d"
      rw [Int.toNat_natCast] at n7
      have ml := puMoves_len R Kp
      have sh := puMoves_shows R Kp fal kl
      have ff : piles.flatten.length = ns.length := by
        unfold fallen at fal
        rw [Bool.and_eq_true] at fal
        exact isAll_len fal.2
      walk_at "go"
      intro x dx nx ndx nxd
      refine ⟨x, p6, pf, dx, ts, as, puMoves ns kept, piles, H7, rfl, upd_same, by walk_at "same", nx, SqL.of h76, SqL.of hf7, L7, Tf.of n7, by omega, fun pp pr bs H' s8 npp npr npe n8 m5 m6 O => ⟨rfl, ?_⟩⟩
      exact q x pp pr ts bs _ _ H' (s7.trans s8) (s7.free nx) (s7.free npp) (s7.free npr) npe (n8.back s7) m5 m6 O sh (by omega) (by omega) ff pne
end
end Bo

namespace Bo
open PySem PySem.Spec PyProof.Rows L2
/-! ### steps of a reading: each a row of its own -/
local macro_rules | `(tactic| walk_at "ne") => `(tactic| first
  | assumption
  | (apply Ne.symm; assumption)
  | (apply neo; assumption; walk_at "hp")
  | (apply Ne.symm; apply neo; assumption; walk_at "hp"))
local macro_rules | `(tactic| walk_at "hp") => `(tactic| first
  | assumption
  | exact upd_same
  | (apply lift_ne; walk_at "hp"; walk_at "ne")
  | (apply Same.up; assumption; walk_at "hp"))
local macro_rules | `(tactic| walk_at "same") => `(tactic| first
  | assumption
  | exact Same.refl _
  | (apply Same.new; walk_at "same"; walk_at "fr")
  | (apply same_trans; assumption; walk_at "same"))
local macro_rules | `(tactic| walk_at "fr") => `(tactic| first
  | assumption
  | (apply same_free; assumption; walk_at "same"))
local macro_rules | `(tactic| walk_at "sq") => `(tactic| first
  | assumption
  | (apply SqL.of; walk_at "hp")
  | (apply same_seq; assumption; walk_at "same"))
local macro_rules | `(tactic| walk_at "sqt") => `(tactic| first
  | assumption
  | (apply SqT.of; walk_at "hp")
  | (apply same_sqt; assumption; walk_at "same"))
local macro_rules | `(tactic| walk_at "nw") => `(tactic| first
  | assumption
  | (apply News.mut; walk_at "nw"; (first | assumption | (refine News.notin (by assumption) ?_; assumption)))
  | (apply News.same; walk_at "nw"; walk_at "same"))
/-! one step -/
local macro_rules | `(tactic| walk_at "go1") => `(tactic| first
  | with_reducible refine r_seq ?_
  | with_reducible refine r_asgN ?_
  | with_reducible refine r_set ?_
  | with_reducible refine r_ret ?_
  | with_reducible refine r_drop ?_
  | with_reducible refine r_if ?_
  | with_reducible refine r_next ?_
  | ((with_reducible apply r_nxD); with_reducible refine r_nx ?_)
  | ((with_reducible apply r_rtD); with_reducible refine r_rt ?_)
  | with_reducible refine r_par ?_
  | with_reducible refine k_par ?_
  | with_reducible refine r_fld ?_
  | ((with_reducible apply r_aug); exact rfl)
  | with_reducible refine i_ip ?_
  | ((with_reducible apply e_var); exact rfl)
  | with_reducible refine e_c ?_
  | with_reducible refine e_op ?_
  | with_reducible refine e_un ?_
  | with_reducible refine o_I0 ?_
  | with_reducible refine o_neg ?_
  | with_reducible refine o_eqI ?_
  | with_reducible refine o_neI ?_
  | with_reducible refine o_eqB ?_
  | with_reducible refine o_neB ?_
  | with_reducible refine o_eqS ?_
  | with_reducible refine o_neS ?_
  | with_reducible refine a_nil ?_
  | with_reducible refine a_cons ?_
  | with_reducible refine e_cb ?_
  | with_reducible refine e_call ?_
  | with_reducible refine e_make ?_
  | with_reducible refine e_meth ?_
  | with_reducible refine e_fld ?_
  | with_reducible refine e_lst ?_
  | with_reducible refine e_tup ?_
  | with_reducible refine e_bm ?_
  | with_reducible refine e_bm0 ?_
  | with_reducible refine e_rev ?_
  | with_reducible refine e_sl ?_
  | with_reducible refine e_nopart ?_
  | with_reducible refine e_part ?_
  | with_reducible refine i_ok ?_
  | with_reducible refine e_lenset ?_
  | with_reducible refine e_listRg1 ?_
  | with_reducible refine t_test ?_
  | with_reducible refine t_B ?_
  | with_reducible refine b_ok ?_
  | with_reducible refine t_and ?_
  | with_reducible refine t_or ?_
  | with_reducible refine t_not ?_
  | with_reducible refine v_and ?_
  | with_reducible refine v_or ?_
  | with_reducible refine v_not ?_
  | with_reducible refine e_if ?_
  | with_reducible refine e_chain ?_
  | with_reducible refine e_chain3 ?_
  | with_reducible refine iteT ?_
  | with_reducible refine iteF ?_
  | with_reducible refine ite_nT ?_
  | with_reducible refine ite_nF ?_
  | with_reducible refine r_forL ?_
  | with_reducible refine r_forT ?_
  | with_reducible refine r_forE ?_
  | with_reducible refine r_forR1 ?_
  | with_reducible refine r_forR2 ?_
  | with_reducible refine e_lcL ?_
  | with_reducible refine e_lcR1 ?_
  | with_reducible refine e_lcR2 ?_
  | with_reducible refine r_dput ?_
  | with_reducible refine e_dget ?_
  | with_reducible refine e_dnin ?_
  | with_reducible refine c_max2 ?_
  | with_reducible refine c_min2 ?_
  | ((with_reducible apply c_isiI); (first | exact (show kitB "int" _ = some true by decide +kernel) | exact (show kitB "int" _ = some false by decide +kernel)))
  | ((with_reducible apply m_ty); walk_at "sq"))
local macro_rules | `(tactic| walk_at "go2") => `(tactic| first
  | ((with_reducible apply o_ixI); walk_at "sq"; omega)
  | ((with_reducible refine o_mod ?_ ?_); omega)
  | ((with_reducible refine o_fdiv ?_ ?_); omega)
  | ((with_reducible refine o_mulR ?_ ?_); omega)
  | ((with_reducible refine o_mulL ?_ ?_); omega)
  | ((with_reducible apply c_lenM); walk_at "sq")
  | ((with_reducible apply c_all); walk_at "sq")
  | ((with_reducible apply c_any); walk_at "sq")
  | ((with_reducible apply o_in); walk_at "sq")
  | ((with_reducible apply o_nin); walk_at "sq")
  | ((with_reducible apply o_ixB); walk_at "sq"; omega)
  | ((with_reducible apply m_setB); walk_at "hp"; omega)
  | ((with_reducible apply m_appR); walk_at "hp"; omega)
  | ((with_reducible apply m_ins); walk_at "hp"; omega; omega)
  | ((with_reducible apply m_appM); walk_at "hp"; exact rfl; omega)
  | ((with_reducible apply m_setI); walk_at "hp"; omega))
local macro_rules | `(tactic| walk_at "d") => `(tactic| try dsimp only)
local macro_rules | `(tactic| walk_at "k") => `(tactic| try dsimp only [cxOf, Cx.nox, Cx.blk])
local macro_rules | `(tactic| walk_at "go") => `(tactic| repeat (first | walk_at "go1" | walk_at "go2"))

section
variable {P : Program} {w : World} {K : PySem.W.Frag} {mg : Str → Option Value} {base : Heap} {C_Exchanged C_Fronted C_Ended C_Put C_Answer : Addr} (T : Top K mg C_Exchanged C_Fronted C_Ended C_Put C_Answer)
include T

def sp_law_put (K : PySem.W.Frag) : Sp := fun vs H Q _ => ∃ (a b : Addr) (ns : List Int) (ts : List Addr) (ps : List (Int × Int)), vs = [.ref a, .ref b] ∧ SqL K H a (ns.map V.int) ∧ SqL K H b (ts.map V.ref) ∧ Tf H ts ps ∧ ns.length ≤ 1000 ∧
  ∀ p H', Same H H' → H p = none → H' p = some (.lst ((putL ns ps).map V.int)) → Q (.ref p) H'
theorem ok__law_put : Cc P w K mg base 1 "_law_put" (sp_law_put K) := by
  refine Cc.mk' T.d__law_put sc__law_put ?_ ?_
  · rintro vs H Q E ⟨a, b, ns, ts, ps, rfl, _⟩; rfl
  · rintro f cdv A outer s H vs Q E hr ⟨a, b, ns, ts, ps, rfl, hA, hB, hT, hl, q⟩
    refine ⟨_, (pss_cons (ps_set (i := 2) sc__law_put.nd rfl (by first | exact Or.inl rfl | exact Or.inr rfl) (pe_callTy (r := rList2 K) call_list_of (by rfl) T.b_list PyProof.Rows.boot_list (pa_cons (pv 0) pa_nil)))
      (pss_cons (ps_for PassesOwn.never rfl (pi_list (pv 1)) (pg_tup rfl (pgs_cons (pg_name (i := 3) sc__law_put.nd rfl (by first | exact Or.inl rfl | exact Or.inr rfl)) (pgs_cons (pg_name (i := 4) sc__law_put.nd rfl (by first | exact Or.inl rfl | exact Or.inr rfl)) pgs_nil))) (pss_cons (ps_if (PW.pt (pw_or (pt_cmpR (r := rIn K true) op_notIn_seq (pv 3) (pv 2) (by rfl)) (pw_or1 (pt_not (pt_chain op_le op_lt pe_int (pv 4) (pe_callB (r := rLen2 K) call_len_seq (by rfl) T.b_len PySem.boot_len (pa_cons (pv 0) pa_nil))))))) (pss_one (ps_ret (pe_lst pa_nil))) pss_nil)
      (pss_cons (ps_set (i := 5) sc__law_put.nd rfl (by first | exact Or.inl rfl | exact Or.inr rfl) (pe_bm PySem.F.plainAttrs_list PySem.F.slot_list_index PySem.F.type_list_index mt_index (pv 2) (pa_cons (pv 3) pa_nil)))
      (pss_cons (ps_set (i := 2) sc__law_put.nd rfl (by first | exact Or.inl rfl | exact Or.inr rfl) (pe_op op_cat (pe_slice (r := rSlL K) sl_list (pv 2) po_none (po_some (pv 5))) (pe_slice (r := rSlL K) sl_list (pv 2) (po_some (pe_op op_add (pv 5) pe_int)) po_none)))
      (pss_one (ps_set (i := 2) sc__law_put.nd rfl (by first | exact Or.inl rfl | exact Or.inr rfl) (pe_op op_cat (pe_op op_cat (pe_slice (r := rSlL K) sl_list (pv 2) po_none (po_some (pv 4))) (pe_lst (pa_cons (pv 3) pa_nil))) (pe_slice (r := rSlL K) sl_list (pv 2) (po_some (pv 4)) po_none))))))))
      (pss_one (ps_ret (pv 2))))), ?_⟩
    walk_at "k"
    walk_at "go"
    refine c_list hA fun p np => ?_
    walk_at "go"
    refine k_lstP (ts := ts) (ps := ps) (fun i σ H' => ∃ pf v3 v4 v5, σ = [some (.ref a), some (.ref b), some (.ref pf), v3, v4, v5] ∧ Same H H' ∧ H pf = none ∧ H' pf = some (.lst (((ps.take i).foldl pm ns).map V.int)) ∧ (ps.take i).all (pmOk ns) = true)
      (by walk_at "sq") hT.1 ⟨p, _, _, _, rfl, by walk_at "same", np, by walk_at "hp", rfl⟩ (fun i σ H' _ ⟨_, _, _, _, _, s2, _⟩ => ⟨s2.seq hB, hT.same s2⟩) ?_ ?_
    · rintro i ⟨t, e⟩ σ H' hi ⟨pf, v3, v4, v5, rfl, s2, npf, h2, a2⟩
      walk_at "d"
      have pmm := pm_mem a2
      have lf := pmm.length_eq
      have bad : pmOk ns (t, e) = false → ∀ o, H' o = none → Q (.ref o) (upd H' o (.lst [])) := fun h o no => by
        refine q o _ (Same.new s2 (s2.free no)) (s2.free no) ?_
        unfold putL
        rw [show ps.all (pmOk ns) = false from List.all_eq_false.mpr ⟨(t, e), List.mem_of_getElem? hi, by rw [h]; exact Bool.false_ne_true⟩, if_neg Bool.false_ne_true]
        exact upd_same
      have ft := foldl_take (g := pm) (b := ns) hi
      generalize hF : (ps.take i).foldl pm ns = F at *
      walk_at "go"
      refine ite_ndec (fun c => ?_) (fun c => ?_)
      · walk_at "go"
        refine ⟨Nat.zero_le _, fun o no => ?_⟩
        walk_at "go"
        exact bad (by unfold pmOk; rw [decide_eq_false fun z => c (pmm.mem_iff.mpr z), Bool.false_and]) o no
      have ct := pmm.mem_iff.mp c
      walk_at "go"
      refine ite_dec (fun c2 => ?_) (fun c2 => ?_)
      · walk_at "go"
        refine ite_ndec (fun c3 => ?_) (fun c3 => ?_)
        · walk_at "go"
          refine ⟨Nat.zero_le _, fun o no => ?_⟩
          walk_at "go"
          exact bad (by unfold pmOk; rw [decide_eq_false c3, Bool.and_false, Bool.and_false]) o no
        · have ok : (ps.take (i + 1)).all (pmOk ns) = true := by
            rw [List.take_add_one, hi, List.all_append, a2]
            show (true && (pmOk ns (t, e) && true)) = true
            unfold pmOk
            rw [decide_eq_true ct, decide_eq_true c2, decide_eq_true c3]; rfl
          have ix := List.idxOf_le_length (a := t) (l := F)
          walk_at "go"
          refine m_idx (SqL.of h2) c ?_
          walk_at "go"
          refine o_slTo (f := V.int) (xs := F) (SqL.of h2) (by omega) fun l2 nl2 => ?_
          have e2 : pf ≠ l2 := neo nl2 h2
          rw [Int.toNat_natCast]
          walk_at "go"
          refine o_slFrom (f := V.int) (xs := F) (SqL.of (lift_ne h2 e2)) (by omega) fun l3 nl3 => ?_
          have e3 : l2 ≠ l3 := neo nl3 upd_same
          refine o_cat (f := V.int) (xs := F.take (F.idxOf t)) (zs := F.drop (((F.idxOf t : Nat) : Int) + 1).toNat) (lift_ne upd_same e3) upd_same (by rw [List.length_take, List.length_drop]; omega) fun l4 nl4 => ?_
          have e6 : F.take (F.idxOf t) ++ F.drop (((F.idxOf t : Nat) : Int) + 1).toNat = F.erase t := by
            rw [show (((F.idxOf t : Nat) : Int) + 1).toNat = F.idxOf t + 1 by omega, cut_erase c]
          have le := List.length_erase_of_mem c
          have s4 : Same H (upd (upd (upd H' l2 (.lst ((F.take (F.idxOf t)).map V.int))) l3 (.lst ((F.drop (((F.idxOf t : Nat) : Int) + 1).toNat).map V.int))) l4 (.lst ((F.take (F.idxOf t) ++ F.drop (((F.idxOf t : Nat) : Int) + 1).toNat).map V.int))) := by walk_at "same"
          have h4 : (upd (upd (upd H' l2 (.lst ((F.take (F.idxOf t)).map V.int))) l3 (.lst ((F.drop (((F.idxOf t : Nat) : Int) + 1).toNat).map V.int))) l4 (.lst ((F.take (F.idxOf t) ++ F.drop (((F.idxOf t : Nat) : Int) + 1).toNat).map V.int))) l4 = some (.lst ((F.erase t).map V.int)) := by rw [e6]; exact upd_same
          generalize (upd (upd (upd H' l2 (.lst ((F.take (F.idxOf t)).map V.int))) l3 (.lst ((F.drop (((F.idxOf t : Nat) : Int) + 1).toNat).map V.int))) l4 (.lst ((F.take (F.idxOf t) ++ F.drop (((F.idxOf t : Nat) : Int) + 1).toNat).map V.int))) = H4 at s4 h4
          walk_at "go"
          refine o_slTo (f := V.int) (xs := F.erase t) (SqL.of h4) c2 fun l5 nl5 => ?_
          have e7 : l4 ≠ l5 := neo nl5 h4
          walk_at "go"
          refine ⟨by show 1 ≤ sizeLine; decide, fun l6 nl6 => ?_⟩
          have e8 : l5 ≠ l6 := neo nl6 upd_same
          have e8' : l4 ≠ l6 := neo nl6 (lift_ne h4 e7)
          refine o_cat (f := V.int) (xs := (F.erase t).take e.toNat) (zs := [t]) (lift_ne upd_same e8) upd_same (by rw [List.length_take]; simp; omega) fun l7 nl7 => ?_
          have e9 : l4 ≠ l7 := neo nl7 (lift_ne (lift_ne h4 e7) e8')
          walk_at "go"
          refine o_slFrom (f := V.int) (xs := F.erase t) (SqL.of (lift_ne (lift_ne (lift_ne h4 e7) e8') e9)) c2 fun l8 nl8 => ?_
          have e10 : l7 ≠ l8 := neo nl8 upd_same
          refine o_cat (f := V.int) (xs := (F.erase t).take e.toNat ++ [t]) (zs := (F.erase t).drop e.toNat) (lift_ne upd_same e10) upd_same (by rw [List.length_append, List.length_take, List.length_drop]; simp; omega) fun l9 nl9 => ?_
          have s8 : Same H (upd (upd (upd (upd H4 l5 (.lst (((F.erase t).take e.toNat).map V.int))) l6 (.lst [.int t])) l7 (.lst (((F.erase t).take e.toNat ++ [t]).map V.int))) l8 (.lst (((F.erase t).drop e.toNat).map V.int))) := by walk_at "same"
          have n9 := s8.free nl9
          walk_at "go"
          refine ⟨l9, _, _, _, rfl, Same.new s8 n9, n9, ?_, ok⟩
          rw [ft]
          exact upd_same
      · walk_at "go"
        refine ⟨Nat.zero_le _, fun o no => ?_⟩
        walk_at "go"
        exact bad (by unfold pmOk; rw [decide_eq_false c2, Bool.false_and, Bool.and_false]) o no
    · rintro σ H' ⟨pf, v3, v4, v5, rfl, s2, npf, h2, a2⟩
      rw [List.take_length] at h2 a2
      walk_at "d"
      walk_at "go"
      refine q pf H' s2 npf ?_
      unfold putL
      rw [if_pos a2]; exact h2
def sp_fallen (K : PySem.W.Frag) : Sp := fun vs H Q _ => ∃ (a b : Addr) (ns : List Int) (bs : List Addr) (rs : List (List Int)), vs = [.ref a, .ref b] ∧ SqL K H a (ns.map V.int) ∧ SqL K H b (bs.map V.ref) ∧ Lf H bs rs ∧ IsRow ns ∧ (∀ r ∈ rs, r.length ≤ 1000) ∧ rs.flatten.length ≤ 10000 ∧
  ∀ H', Same H H' → Q (.bl (fallen ns rs)) H'
theorem ok__law_fallen : Cc P w K mg base 1 "_law_fallen" (sp_fallen K) := by
  refine Cc.mk' T.d__law_fallen sc__law_fallen ?_ ?_
  · rintro vs H Q E ⟨a, b, ns, bs, rs, rfl, _⟩; rfl
  · rintro f cdv A outer s H vs Q E hr ⟨a, b, ns, bs, rs, rfl, hA, hB, hL, R, hb2, hl, q⟩
    have hn := R.len
    have la := hL.1
    refine ⟨_, (pss_cons (ps_asg (pe_tup (pa_cons pe_dnewK (pa_cons (pe_lst pa_nil) pa_nil))) (pg_tup rfl (pgs_cons (pg_name (i := 2) sc__law_fallen.nd rfl (by first | exact Or.inl rfl | exact Or.inr rfl)) (pgs_cons (pg_name (i := 3) sc__law_fallen.nd rfl (by first | exact Or.inl rfl | exact Or.inr rfl)) pgs_nil))))
      (pss_cons (ps_for PassesOwn.never rfl (pi_enum (by rfl) T.b_enumerate (pa_cons (pv 0) pa_nil)) (pg_tup rfl (pgs_cons (pg_name (i := 4) sc__law_fallen.nd rfl (by first | exact Or.inl rfl | exact Or.inr rfl)) (pgs_cons (pg_name (i := 5) sc__law_fallen.nd rfl (by first | exact Or.inl rfl | exact Or.inr rfl)) pgs_nil))) (pss_one (ps_dput (u1 hr) (pv 2) (pv 5) (pv 4) rfl)))
      (pss_cons (ps_for PassesOwn.never rfl (pi_list (pv 1)) (pg_name (i := 6) sc__law_fallen.nd rfl (by first | exact Or.inl rfl | exact Or.inr rfl)) (pss_cons (ps_if (pt_val (pe_callB (r := rAny K) (cr_any rfl) (by rfl) T.b_any PyProof.Rows.boot_any (pa_cons (pe_lc (own := [("_law_thing", 5)]) (g := gName 5) (tt := tYes) rfl sc__law_fallen.nd (pi_list (pv 6)) (blkOk_by (own := [("_law_thing", 5)]) (N := N__law_fallen) (sc := defScope s__law_fallen) (by decide +kernel)) (fun _ _ _ _ _ => (pg_name (i := 5) sc__law_fallen.nd rfl (Or.inl rfl))) (fun _ _ _ _ _ => pts_nil) (fun _ _ _ _ _ => (pe_cmp (pc_dnotin (u1 hr) (pv 5) (pv 2))))) pa_nil))) (pss_one (ps_ret pe_bl)) pss_nil)
      (pss_cons (ps_for PassesOwn.never rfl (pi_range2 (by rfl) T.b_range (pa_cons pe_int (pa_cons (pe_callB (r := rLen2 K) call_len_seq (by rfl) T.b_len PySem.boot_len (pa_cons (pv 6) pa_nil)) pa_nil))) (pg_name (i := 7) sc__law_fallen.nd rfl (by first | exact Or.inl rfl | exact Or.inr rfl)) (pss_one (ps_if (PW.pt (pw_or (pt_cmpR op_ge (pe_ix (r := rIxL K) ix_list (pv 6) (pv 7) (fun _ _ => rfl)) (pe_ix (r := rIxL K) ix_list (pv 6) (pe_op op_sub (pv 7) pe_int) (fun _ _ => rfl)) (nomark _)) (pw_or1 (pt_cmpR op_le (pe_dget (u1 hr) (pv 2) (pe_ix (r := rIxL K) ix_list (pv 6) (pv 7) (fun _ _ => rfl)) (fun _ _ => rfl)) (pe_dget (u1 hr) (pv 2) (pe_ix (r := rIxL K) ix_list (pv 6) (pe_op op_sub (pv 7) pe_int) (fun _ _ => rfl)) (fun _ _ => rfl)) (nomark _))))) (pss_one (ps_ret pe_bl)) pss_nil)))
      (pss_one (ps_expr (pe_bm PySem.F.plainAttrs_list PySem.F.slot_list_extend PySem.F.type_list_extend mt_extend (pv 3) (pa_cons (pv 6) pa_nil)))))))
      (pss_one (ps_ret (pe_cmpR (r := rEqD K) (op_eqD hr.units) (pe_callB (r := rSortedI K) cr_sortedI (by rfl) T.b_sorted PyProof.Rows.boot_sorted (pa_cons (pv 3) pa_nil)) (pe_listRg rfl (by rfl) T.b_list (prg_1 (by rfl) T.b_range (pe_callB (r := rLen2 K) call_len_seq (by rfl) T.b_len PySem.boot_len (pa_cons (pv 0) pa_nil)))) (nomark _))))))), ?_⟩
    walk_at "k"
    walk_at "go"
    refine r_asg ?_
    walk_at "go"
    intro pd npd
    walk_at "go"
    refine ⟨Nat.zero_le _, fun p np => ?_⟩
    have dpd : pd ≠ p := neo np upd_same
    have np0 : H p = none := (Same.one npd).free np
    walk_at "go"
    refine ⟨by show 2 ≤ sizeLine; decide, fun tp ntp => ?_⟩
    have s0 : Same H (upd (upd (upd H pd (.dK [])) p (.lst [])) tp (.tup [.ref pd, .ref p])) := by walk_at "same"
    have hd0 : (upd (upd (upd H pd (.dK [])) p (.lst [])) tp (.tup [.ref pd, .ref p])) pd = some (.dK []) := lift_ne (lift_ne upd_same dpd) (neo ntp (lift_ne upd_same dpd))
    have hp0 : (upd (upd (upd H pd (.dK [])) p (.lst [])) tp (.tup [.ref pd, .ref p])) p = some (.lst (([] : List Int).map V.int)) := lift_ne upd_same (neo ntp upd_same)
    refine k_tup2 (SqT.of upd_same) ?_
    generalize upd (upd (upd H pd (.dK [])) p (.lst [])) tp (.tup [.ref pd, .ref p]) = H0 at s0 hd0 hp0
    walk_at "go"
    refine k_enum (f := V.int) ns (fun i σ H' => ∃ kvs v4 v5, σ = [some (.ref a), some (.ref b), some (.ref pd), some (.ref p), v4, v5, none, none] ∧ Same H H' ∧ H' p = some (.lst (([] : List Int).map V.int)) ∧ H' pd = some (.dK kvs) ∧ kvs.length ≤ i ∧
        ∀ k : Int, valV kvs (.inl k) = if k ∈ ns.take i then some (.int (gt (placesOf ns) k)) else none)
      (s0.seq hA) ⟨[], _, _, rfl, s0, hp0, hd0, Nat.le_refl _, fun k => by simp [valV]⟩ (fun i σ H' _ ⟨_, _, _, _, s2, _⟩ => s2.seq hA) ?_ ?_
    · rintro i x σ H' T' hx ⟨kvs, v4, v5, rfl, s2, h2, hd, kl, kvm⟩ nT
      walk_at "d"
      have hi : i < ns.length := (List.getElem?_eq_some_iff.mp hx).1
      have e := gt_get hx
      have ep := placesOf_gt R (x := (i : Int)) (by omega)
      rw [e] at ep
      have d1 : pd ≠ T' := neo nT hd
      have d2 : p ≠ T' := neo nT h2
      walk_at "go"
      refine k_dput (lift_ne hd d1) (by omega) ?_
      have kl1 := putK_len kvs (.inl x) (.int (i : Nat))
      walk_at "go"
      refine ⟨_, _, _, rfl, by walk_at "same", lift_ne (lift_ne h2 d2) (Ne.symm dpd), upd_same, by omega, fun k => ?_⟩
      rw [valV_put, List.take_add_one, hx]
      by_cases e : k = x
      · rw [if_pos (by rw [e]), if_pos (by rw [e]; simp), e, ep]
      · have e' : ¬ (Sum.inl k : Key) = Sum.inl x := fun z => e (Sum.inl.inj z)
        rw [if_neg e', kvm k]
        have : (k ∈ ns.take i ++ (some x).toList) ↔ k ∈ ns.take i := by simp [e]
        by_cases c : k ∈ ns.take i
        · rw [if_pos c, if_pos (this.mpr c)]
        · rw [if_neg c, if_neg fun z => c (this.mp z)]
    rintro σ H1 ⟨kvs, v4, v5, rfl, s1, h1p, hd1, kl, kvm⟩
    rw [List.take_length] at kvm
    have kin : ∀ x : Int, 0 ≤ x ∧ x < ns.length → valV kvs (.inl x) = some (.int (gt (placesOf ns) x)) := fun x hx => by rw [kvm, if_pos (row_mem R hx)]
    walk_at "d"
    walk_at "go"
    refine k_lstN (f := V.ref) bs (fun i σ H' => ∃ v6 v7, σ = [some (.ref a), some (.ref b), some (.ref pd), some (.ref p), v4, v5, v6, v7] ∧ Same H H' ∧ H' p = some (.lst (((rs.take i).flatten).map V.int)) ∧ H' pd = some (.dK kvs) ∧ (rs.take i).all (fallOk ns) = true)
        (s1.seq hB) ⟨none, none, rfl, s1, h1p, hd1, rfl⟩ (fun i σ H' _ ⟨_, _, _, s2, _⟩ => s2.seq hB) ?_ ?_
    · rintro i pi σ H' hi ⟨v6, v7, rfl, s3, h1, hd, a1⟩
      walk_at "d"
      obtain ⟨r, hr1, hr2⟩ : ∃ r, rs[i]? = some r ∧ H pi = some (oL r) := by
        have hlt : i < rs.length := by rw [← la]; exact (List.getElem?_eq_some_iff.mp hi).1
        exact ⟨_, List.getElem?_eq_getElem hlt, hL.2 i pi _ hi (List.getElem?_eq_getElem hlt)⟩
      have hrm : r ∈ rs := List.mem_of_getElem? hr1
      have br := hb2 r hrm
      have z1 := flatten_take_le rs (i + 1)
      rw [flatten_take hr1, List.length_append] at z1
      have no : fallOk ns r = false → fallen ns rs = false := fun h => by
        unfold fallen
        rw [show rs.all (fallOk ns) = false from List.all_eq_false.mpr ⟨r, hrm, by rw [h]; exact Bool.false_ne_true⟩, Bool.false_and]
      have hpi : H' pi = some (oL r) := s3 _ _ hr2
      walk_at "go"
      refine k_lcV (xs := r) (f := V.int) (h := V.bl) (fun x => !(decide (x ∈ ns))) (by walk_at "sq") (by omega) (fun _ => rfl) ?_ ?_
      · intro i x H2 R' hx s2 k2
        walk_at "go"
        refine k_dnin (s2 _ _ hd) ?_
        have e : (valV kvs (.inl x)).isSome = decide (x ∈ ns) := by
          rw [kvm]
          by_cases c : x ∈ ns
          · rw [if_pos c, decide_eq_true c]; rfl
          · rw [if_neg c, decide_eq_false c]; rfl
        rw [e]
        exact k2 H2 (Same.refl _)
      intro D H2 nD s2 hD
      have s32 := s3.trans s2
      have hpi2 := s2 _ _ hpi
      have h12 := s2 _ _ h1
      have hd2 := s2 _ _ hd
      have eall : (r.all fun x => decide (x ∈ ns)) = r.all fun x => decide (0 ≤ x) && decide (x < (ns.length : Int)) := by
        congr 1
        funext x
        rw [Bool.eq_iff_iff, Bool.and_eq_true, decide_eq_true_eq, decide_eq_true_eq, decide_eq_true_eq]
        exact ⟨fun h => R.bd x h, fun h => row_mem R h⟩
      walk_at "go"
      rw [any_not, eall]
      cases hA2 : r.all fun x => decide (0 ≤ x) && decide (x < (ns.length : Int)) with
      | false =>
        walk_at "go"
        have := q _ s32
        rw [no (by unfold fallOk; rw [hA2, Bool.false_and])] at this
        exact this
      | true =>
        have bx : ∀ x ∈ r, 0 ≤ x ∧ x < (ns.length : Int) := fun x hx => by
          have := List.all_eq_true.mp hA2 x hx
          rw [Bool.and_eq_true, decide_eq_true_eq, decide_eq_true_eq] at this
          exact this
        walk_at "go"
        refine k_rng2 (fun k σ H' => ∃ v7, σ = [some (.ref a), some (.ref b), some (.ref pd), some (.ref p), v4, v5, some (.ref pi), v7] ∧ H' = H2 ∧ ((List.range k).all fun k => decide (gt r ((k : Int) + 1) < gt r (k : Int)) && decide (gt (placesOf ns) (gt r (k : Int)) < gt (placesOf ns) (gt r ((k : Int) + 1)))) = true)
          (by omega) ⟨_, rfl, rfl, rfl⟩ ?_ ?_
        · rintro k σ H3 hk ⟨v7, rfl, rfl, ak⟩
          walk_at "d"
          have hx1 := bx (gt r (k : Int)) (gt_mem (by omega) (by omega))
          have hx2 := bx (gt r ((k : Int) + 1)) (gt_mem (by omega) (by omega))
          have bad : (decide (gt r ((k : Int) + 1) < gt r (k : Int)) && decide (gt (placesOf ns) (gt r (k : Int)) < gt (placesOf ns) (gt r ((k : Int) + 1)))) = false → Q (.bl false) H3 := fun h => by
            have := q _ s32
            rw [no (by
              unfold fallOk
              rw [show ((List.range (r.length - 1)).all fun k => decide (gt r ((k : Int) + 1) < gt r (k : Int)) && decide (gt (placesOf ns) (gt r (k : Int)) < gt (placesOf ns) (gt r ((k : Int) + 1)))) = false from List.all_eq_false.mpr ⟨k, List.mem_range.mpr (by omega), by rw [h]; exact Bool.false_ne_true⟩, Bool.and_false])] at this
            exact this
          walk_at "go"
          rw [show (1 : Int) + (k : Int) = (k : Int) + 1 by omega, show (k : Int) + 1 - 1 = (k : Int) by omega]
          refine ite_dec (fun c => ?_) (fun c => ?_)
          · walk_at "go"
            exact bad (by rw [decide_eq_false (by omega), Bool.false_and])
          · walk_at "go"
            refine k_dget hd2 (kin _ hx2) ?_
            walk_at "go"
            rw [show (k : Int) + 1 - 1 = (k : Int) by omega]
            refine k_dget hd2 (kin _ hx1) ?_
            walk_at "go"
            refine ite_dec (fun c2 => ?_) (fun c2 => ?_)
            · walk_at "go"
              exact bad (by rw [decide_eq_false (show ¬ gt (placesOf ns) (gt r (k : Int)) < gt (placesOf ns) (gt r ((k : Int) + 1)) by omega), Bool.and_false])
            · walk_at "go"
              refine ⟨_, rfl, rfl, ?_⟩
              rw [List.range_succ, List.all_append, ak]
              show (true && ((decide (gt r ((k : Int) + 1) < gt r (k : Int)) && decide (gt (placesOf ns) (gt r (k : Int)) < gt (placesOf ns) (gt r ((k : Int) + 1)))) && true)) = true
              rw [decide_eq_true (by omega), decide_eq_true (by omega)]; rfl
        · rintro σ H3 ⟨v7, rfl, rfl, ak⟩
          walk_at "d"
          rw [show ((r.length : Int) - 1).toNat = r.length - 1 by omega] at ak
          have dne : p ≠ pd := ne_kind h12 hd2 (fun z => by cases z)
          walk_at "go"
          refine m_ext h12 hpi2 (by omega) ?_
          walk_at "go"
          refine ⟨_, _, rfl, Same.new s32 np0, ?_, lift_ne hd2 (Ne.symm dne), ?_⟩
          · rw [flatten_take hr1]; exact upd_same
          · rw [List.take_add_one, hr1, List.all_append, a1]
            show (true && ((fallOk ns r) && true)) = true
            unfold fallOk
            rw [hA2, ak]; rfl
    · rintro σ H' ⟨v6, v7, rfl, s3, h1, hd, a1⟩
      rw [la, List.take_length] at h1 a1
      walk_at "d"
      walk_at "go"
      refine c_sorted (by walk_at "sq") fun ns' l pm so nl => ?_
      walk_at "go"
      refine k_listRg (by omega) fun l2 nl2 => ?_
      refine o_eqL (ns := ns') (ms := upTo ns.length) (by walk_at "sq") (by walk_at "sq") ?_
      rw [sorted_isAll pm so]
      have := q _ (show Same H (upd (upd H' l (.lst (ns'.map V.int))) l2 (.lst ((upTo ns.length).map V.int))) by walk_at "same")
      unfold fallen at this
      rw [a1, Bool.true_and] at this
      exact this
def sp_put_due (K : PySem.W.Frag) : Sp := fun vs H Q _ => ∃ (a b c : Addr) (ns : List Int) (ts bs : List Addr) (ps : List (Int × Int)) (rs : List (List Int)), vs = [.ref a, .ref b, .ref c] ∧ SqL K H a (ns.map V.int) ∧ SqL K H b (ts.map V.ref) ∧ SqL K H c (bs.map V.ref) ∧ Tf H ts ps ∧ Lf H bs rs ∧ IsRow ns ∧
  (∀ r ∈ rs, r.length ≤ 1000) ∧ rs.flatten.length ≤ 10000 ∧ ∀ H', Same H H' → Q (.bl (putShows ns ps rs)) H'
theorem ok__law_put_due : Cc P w K mg base 2 "_law_put_due" (sp_put_due K) := by
  have c__law_put := ok__law_put (P := P) (w := w) (base := base) T
  have c__law_fallen := ok__law_fallen (P := P) (w := w) (base := base) T
  refine Cc.mk' T.d__law_put_due sc__law_put_due ?_ ?_
  · rintro vs H Q E ⟨a, b, c, ns, ts, bs, ps, rs, rfl, _⟩; rfl
  · rintro f cdv A outer s H vs Q E hr ⟨a, b, c, ns, ts, bs, ps, rs, rfl, hA, hB, hC, hT, hL, R, hb2, hl, q⟩
    have hn := R.len
    have lt := hT.1
    have lb := hL.1
    rw [putDue] at q
    refine ⟨_, (pss_cons (ps_if (pt_cmpR (r := rNeD K) (op_neD hr.units) (pe_cc c__law_put (hr.mono (by decide)) (by rfl) (pa_cons (pv 0) (pa_cons (pv 1) pa_nil))) (pe_listRg rfl (by rfl) T.b_list (prg_1 (by rfl) T.b_range (pe_callB (r := rLen2 K) call_len_seq (by rfl) T.b_len PySem.boot_len (pa_cons (pv 0) pa_nil)))) (nomark _)) (pss_one (ps_ret pe_bl)) pss_nil)
      (pss_one (ps_ret (pe_and (pe_cc c__law_fallen (hr.mono (by decide)) (by rfl) (pa_cons (pv 0) (pa_cons (pv 2) pa_nil))) (pe_one (pe_cmpR op_eq (pe_op op_add (pe_callB (r := rLen2 K) call_len_seq (by rfl) T.b_len PySem.boot_len (pa_cons (pv 1) pa_nil)) (pe_callB (r := rLen2 K) call_len_seq (by rfl) T.b_len PySem.boot_len (pa_cons (pv 2) pa_nil))) (pe_callB (r := rLen2 K) call_len_seq (by rfl) T.b_len PySem.boot_len (pa_cons (pv 0) pa_nil)) (nomark _))))))), ?_⟩
    walk_at "k"
    walk_at "go"
    refine ⟨a, b, ns, ts, ps, rfl, hA, hB, hT, hn, fun p H1 s1 np hp => ?_⟩
    walk_at "go"
    refine k_listRg (by omega) fun l2 nl2 => ?_
    refine o_neL (ns := putL ns ps) (ms := upTo ns.length) (by walk_at "sq") (by walk_at "sq") ?_
    have s2 : Same H (upd H1 l2 (.lst ((upTo ns.length).map V.int))) := by walk_at "same"
    generalize upd H1 l2 (.lst ((upTo ns.length).map V.int)) = H2 at s2
    walk_at "go"
    refine ite_ndec (fun c1 => ?_) (fun c1 => ?_)
    · walk_at "go"
      have qs := q H2 s2
      rw [decide_eq_false c1, Bool.false_and] at qs
      exact qs
    walk_at "go"
    refine ⟨a, c, ns, bs, rs, rfl, s2.seq hA, s2.seq hC, hL.same s2, R, hb2, hl, fun H3 s3 => ?_⟩
    have s23 := s2.trans s3
    have qs := q H3 s23
    rw [decide_eq_true c1, Bool.true_and] at qs
    walk_at "go"
    cases hR : fallen ns rs with
    | false => rw [hR] at qs; walk_at "go"; exact qs
    | true =>
      rw [hR, Bool.true_and] at qs
      walk_at "go"
      rw [lt, lb]; exact qs
end
end Bo

namespace Bo
open PySem PySem.Spec PyProof.Rows L2
/-! ### steps of a reading: each a row of its own -/
local macro_rules | `(tactic| walk_at "ne") => `(tactic| first
  | assumption
  | (apply Ne.symm; assumption)
  | (apply neo; assumption; walk_at "hp")
  | (apply Ne.symm; apply neo; assumption; walk_at "hp"))
local macro_rules | `(tactic| walk_at "hp") => `(tactic| first
  | assumption
  | exact upd_same
  | (apply lift_ne; walk_at "hp"; walk_at "ne")
  | (apply Same.up; assumption; walk_at "hp"))
local macro_rules | `(tactic| walk_at "same") => `(tactic| first
  | assumption
  | exact Same.refl _
  | (apply Same.new; walk_at "same"; walk_at "fr")
  | (apply same_trans; assumption; walk_at "same"))
local macro_rules | `(tactic| walk_at "fr") => `(tactic| first
  | assumption
  | (apply same_free; assumption; walk_at "same"))
local macro_rules | `(tactic| walk_at "sq") => `(tactic| first
  | assumption
  | (apply SqL.of; walk_at "hp")
  | (apply same_seq; assumption; walk_at "same"))
local macro_rules | `(tactic| walk_at "sqt") => `(tactic| first
  | assumption
  | (apply SqT.of; walk_at "hp")
  | (apply same_sqt; assumption; walk_at "same"))
local macro_rules | `(tactic| walk_at "nw") => `(tactic| first
  | assumption
  | (apply News.mut; walk_at "nw"; (first | assumption | (refine News.notin (by assumption) ?_; assumption)))
  | (apply News.same; walk_at "nw"; walk_at "same"))
/-! one step -/
local macro_rules | `(tactic| walk_at "go1") => `(tactic| first
  | with_reducible refine r_seq ?_
  | with_reducible refine r_asgN ?_
  | with_reducible refine r_set ?_
  | with_reducible refine r_ret ?_
  | with_reducible refine r_drop ?_
  | with_reducible refine r_if ?_
  | with_reducible refine r_next ?_
  | ((with_reducible apply r_nxD); with_reducible refine r_nx ?_)
  | ((with_reducible apply r_rtD); with_reducible refine r_rt ?_)
  | with_reducible refine r_par ?_
  | with_reducible refine k_par ?_
  | with_reducible refine r_fld ?_
  | ((with_reducible apply r_aug); exact rfl)
  | with_reducible refine i_ip ?_
  | ((with_reducible apply e_var); exact rfl)
  | with_reducible refine e_c ?_
  | with_reducible refine e_op ?_
  | with_reducible refine e_un ?_
  | with_reducible refine o_I0 ?_
  | with_reducible refine o_neg ?_
  | with_reducible refine o_eqI ?_
  | with_reducible refine o_neI ?_
  | with_reducible refine o_eqB ?_
  | with_reducible refine o_neB ?_
  | with_reducible refine o_eqS ?_
  | with_reducible refine o_neS ?_
  | with_reducible refine a_nil ?_
  | with_reducible refine a_cons ?_
  | with_reducible refine e_cb ?_
  | with_reducible refine e_call ?_
  | with_reducible refine e_make ?_
  | with_reducible refine e_meth ?_
  | with_reducible refine e_fld ?_
  | with_reducible refine e_lst ?_
  | with_reducible refine e_tup ?_
  | with_reducible refine e_bm ?_
  | with_reducible refine e_bm0 ?_
  | with_reducible refine e_rev ?_
  | with_reducible refine e_sl ?_
  | with_reducible refine e_nopart ?_
  | with_reducible refine e_part ?_
  | with_reducible refine i_ok ?_
  | with_reducible refine e_lenset ?_
  | with_reducible refine e_listRg1 ?_
  | with_reducible refine t_test ?_
  | with_reducible refine t_B ?_
  | with_reducible refine b_ok ?_
  | with_reducible refine t_and ?_
  | with_reducible refine t_or ?_
  | with_reducible refine t_not ?_
  | with_reducible refine v_and ?_
  | with_reducible refine v_or ?_
  | with_reducible refine v_not ?_
  | with_reducible refine e_if ?_
  | with_reducible refine e_chain ?_
  | with_reducible refine e_chain3 ?_
  | with_reducible refine iteT ?_
  | with_reducible refine iteF ?_
  | with_reducible refine ite_nT ?_
  | with_reducible refine ite_nF ?_
  | with_reducible refine r_forL ?_
  | with_reducible refine r_forT ?_
  | with_reducible refine r_forE ?_
  | with_reducible refine r_forR1 ?_
  | with_reducible refine r_forR2 ?_
  | with_reducible refine e_lcL ?_
  | with_reducible refine e_lcR1 ?_
  | with_reducible refine e_lcR2 ?_
  | with_reducible refine r_dput ?_
  | with_reducible refine e_dget ?_
  | with_reducible refine e_dnin ?_
  | with_reducible refine c_max2 ?_
  | with_reducible refine c_min2 ?_
  | ((with_reducible apply c_isiI); (first | exact (show kitB "int" _ = some true by decide +kernel) | exact (show kitB "int" _ = some false by decide +kernel)))
  | ((with_reducible apply m_ty); walk_at "sq"))
local macro_rules | `(tactic| walk_at "go2") => `(tactic| first
  | ((with_reducible apply o_ixI); walk_at "sq"; omega)
  | ((with_reducible refine o_mod ?_ ?_); omega)
  | ((with_reducible refine o_fdiv ?_ ?_); omega)
  | ((with_reducible refine o_mulR ?_ ?_); omega)
  | ((with_reducible refine o_mulL ?_ ?_); omega)
  | ((with_reducible apply c_lenM); walk_at "sq")
  | ((with_reducible apply c_all); walk_at "sq")
  | ((with_reducible apply c_any); walk_at "sq")
  | ((with_reducible apply o_in); walk_at "sq")
  | ((with_reducible apply o_nin); walk_at "sq")
  | ((with_reducible apply o_ixB); walk_at "sq"; omega)
  | ((with_reducible apply m_setB); walk_at "hp"; omega)
  | ((with_reducible apply m_appR); walk_at "hp"; omega)
  | ((with_reducible apply m_ins); walk_at "hp"; omega; omega)
  | ((with_reducible apply m_appM); walk_at "hp"; exact rfl; omega)
  | ((with_reducible apply m_setI); walk_at "hp"; omega))
local macro_rules | `(tactic| walk_at "d") => `(tactic| try dsimp only)
local macro_rules | `(tactic| walk_at "k") => `(tactic| try dsimp only [cxOf, Cx.nox, Cx.blk])
local macro_rules | `(tactic| walk_at "go") => `(tactic| repeat (first | walk_at "go1" | walk_at "go2"))

section
variable {P : Program} {w : World} {K : PySem.W.Frag} {mg : Str → Option Value} {base : Heap} {C_Exchanged C_Fronted C_Ended C_Put C_Answer : Addr} (T : Top K mg C_Exchanged C_Fronted C_Ended C_Put C_Answer)
include T

def sp_says : Sp := fun vs H Q _ => ∃ a b : Bool, vs = [.bl a, .bl b] ∧ Q (.bl (a == b)) H
theorem ok__law_says : Cc P w K mg base 1 "_law_says" sp_says := by
  refine Cc.mk' T.d__law_says sc__law_says ?_ ?_
  · rintro vs H Q E ⟨a, b, rfl, _⟩; rfl
  · rintro f cdv A outer s H vs Q E hr ⟨a, b, rfl, q⟩
    refine ⟨_, (pss_one (ps_ret (pe_and (pe_callB (r := rIsi K) call_isi (by rfl) T.b_isinstance PyProof.Rows.boot_isinstance (pa_cons (pv 0) (pa_cons (pe_bltn (v := .ty "bool") (by rfl) T.b_bool PyProof.Rows.boot_bool rfl) pa_nil))) (pe_one (pe_cmpR op_eq (pv 0) (pv 1) (nomark _)))))), ?_⟩
    walk_at "k"
    walk_at "go"
    refine c_isi (t := "bool") (.base (.bl a)) (show kitB "bool" "bool" = some true by decide +kernel) ?_
    walk_at "go"
    exact q
def sp_bent (K : PySem.W.Frag) : Sp := fun vs H Q _ => ∃ (α : Type) (f : α → V) (a : Addr) (xs : List α) (c : Int) (m : α), vs = [.ref a, .int c, f m] ∧ H a = some (.lst (xs.map f)) ∧ xs.length ≤ 1000 ∧
  ∀ (p : Addr) (ys : List α) (H' : Hp), Same H H' → H p = none → H' p = some (.lst (ys.map f)) → (∀ y ∈ ys, y ∈ xs ∨ y = m) → ys.length ≤ 2 * xs.length + 1 → Q (.ref p) H'
theorem ok__law_bent : Cc P w K mg base 2 "_law_bent" (sp_bent K) := by
  have c__law_draw := ok__law_draw (P := P) (w := w) (base := base) T
  refine Cc.mk' T.d__law_bent sc__law_bent ?_ ?_
  · rintro vs H Q E ⟨α, f, a, xs, c, m, rfl, _⟩; rfl
  · rintro f' cdv A outer s H vs Q E hr ⟨α, f, a, xs, c, m, rfl, hS, hl, q⟩
    refine ⟨_, (pss_cons (ps_par (i := 3) (j := 4) rfl sc__law_bent.nd rfl rfl (by decide) rfl rfl (pa_cons (pe_cc c__law_draw (hr.mono (by decide)) (by rfl) (pa_cons (pv 1) (pa_cons pe_int (pa_cons pe_int pa_nil)))) (pa_cons (pe_callB (r := rLen2 K) call_len_seq (by rfl) T.b_len PySem.boot_len (pa_cons (pv 0) pa_nil)) pa_nil)) (by rfl))
      (pss_cons (ps_if (pt_cmpR op_eq (pv 4) pe_int (nomark _)) (pss_one (ps_ret (pe_ifExp (pt_cmpR op_eq (pv 3) pe_int (nomark _)) (pe_lst (pa_cons (pv 2) pa_nil)) (pe_lst pa_nil)))) pss_nil)
      (pss_cons (ps_par (i := 5) (j := 6) rfl sc__law_bent.nd rfl rfl (by decide) rfl rfl (pa_cons (pe_cc c__law_draw (hr.mono (by decide)) (by rfl) (pa_cons (pv 1) (pa_cons pe_int (pa_cons (pv 4) pa_nil)))) (pa_cons (pe_cc c__law_draw (hr.mono (by decide)) (by rfl) (pa_cons (pv 1) (pa_cons pe_int (pa_cons (pv 4) pa_nil)))) pa_nil)) (by rfl))
      (pss_cons (ps_set (i := 7) sc__law_bent.nd rfl (by first | exact Or.inl rfl | exact Or.inr rfl) (pe_callTy (r := rList2 K) call_list_of (by rfl) T.b_list PyProof.Rows.boot_list (pa_cons (pv 0) pa_nil)))
      (pss_cons (ps_if (pt_cmpR op_eq (pv 3) pe_int (nomark _)) (pss_one (ps_ret (pe_op op_cat (pe_op op_cat (pe_slice (r := rSlL K) sl_list (pv 0) po_none (po_some (pv 5))) (pe_lst (pa_cons (pv 2) pa_nil))) (pe_slice (r := rSlL K) sl_list (pv 0) (po_some (pv 5)) po_none)))) pss_nil)
      (Bo.pss_cut (ps_if (pt_cmpR op_eq (pv 3) pe_int (nomark _)) (pss_one (ps_expr (pe_bm PySem.F.plainAttrs_list PySem.F.slot_list_pop PySem.F.type_list_pop mt_popAt (pv 7) (pa_cons (pv 5) pa_nil)))) pss_nil)
      (pss_cons (ps_if (pt_cmpR op_eq (pv 3) pe_int (nomark _)) (pss_one (ps_ret (pe_op op_cat (pv 0) (pe_slice (r := rSlL K) sl_list (pv 0) (po_some (pv 5)) (po_some (pe_op op_add (pv 5) pe_int)))))) pss_nil)
      (Bo.pss_cut (ps_if (pt_cmpR op_eq (pv 3) pe_int (nomark _)) (pss_one (ps_asg (pv 2) (pg_sub (pv 7) (pv 5) set_list))) pss_nil)
      (pss_cons (ps_if (pt_cmpR op_eq (pv 3) pe_int (nomark _)) (pss_one (ps_ret (pe_revL (pv 0)))) pss_nil)
      (Bo.pss_cut (ps_if (pt_cmpR op_eq (pv 3) pe_int (nomark _)) (pss_one (ps_asg (pe_tup (pa_cons (pe_ix (r := rIxL K) ix_list (pv 0) (pv 6) (fun _ _ => rfl)) (pa_cons (pe_ix (r := rIxL K) ix_list (pv 0) (pv 5) (fun _ _ => rfl)) pa_nil))) (pg_tup rfl (pgs_cons (pg_sub (pv 7) (pv 5) set_list) (pgs_cons (pg_sub (pv 7) (pv 6) set_list) pgs_nil))))) pss_nil)
      (pss_one (ps_ret (pv 7))))))))))))), ?_⟩
    walk_at "k"
    walk_at "go"
    refine ⟨c, 1, 8, rfl, by decide, fun kind H1 k0 k1 s1 => ?_⟩
    walk_at "go"
    refine ite_dec (fun hz => ?_) (fun hz => ?_)
    · walk_at "go"
      refine ite_dec (fun hk => ?_) (fun hk => ?_)
      · walk_at "go"
        refine l_new (by show 1 ≤ sizeLine; decide) fun p np => ?_
        walk_at "go"
        exact q p [m] _ (Same.new s1 (s1.free np)) (s1.free np) upd_same (fun y hy => .inr (by simpa using hy)) (by simp)
      · walk_at "go"
        refine l_new (Nat.zero_le _) fun p np => ?_
        walk_at "go"
        exact q p [] _ (Same.new s1 (s1.free np)) (s1.free np) upd_same (fun y hy => by simp at hy) (by simp)
    · have hpos : 0 < xs.length := by omega
      walk_at "go"
      refine ⟨c, 2, _, rfl, by omega, fun at_ H2 a0 a1 s2 => ?_⟩
      walk_at "go"
      refine ⟨c, 3, _, rfl, by omega, fun ot H3 o0 o1 s3 => ?_⟩
      have s03 := (s1.trans s2).trans s3
      clear s1 s2 s3
      walk_at "go"
      refine c_list (ys := xs.map f) (by walk_at "sq") fun pf npf => ?_
      have npf0 : H pf = none := s03.free npf
      walk_at "go"
      refine ite_dec (fun hk => ?_) (fun hk => ?_)
      · walk_at "go"
        refine o_slTo (f := f) (xs := xs) (by walk_at "sq") (by omega) fun l1 nl1 => ?_
        walk_at "go"
        refine l_new (by show 1 ≤ sizeLine; decide) fun l2 nl2 => ?_
        walk_at "go"
        refine o_cat (f := f) (xs := xs.take at_.toNat) (zs := [m]) (lift_ne upd_same (neo nl2 upd_same)) upd_same (by rw [List.length_take]; simp; omega) fun l3 nl3 => ?_
        walk_at "go"
        refine o_slFrom (f := f) (xs := xs) (by walk_at "sq") (by omega) fun l4 nl4 => ?_
        walk_at "go"
        refine o_cat (f := f) (xs := xs.take at_.toNat ++ [m]) (zs := xs.drop at_.toNat) (lift_ne upd_same (neo nl4 upd_same)) upd_same (by rw [List.length_append, List.length_take, List.length_drop]; simp; omega) fun l5 nl5 => ?_
        walk_at "go"
        refine q l5 _ _ (by walk_at "same") (by walk_at "fr") upd_same (fun y hy => ?_) ?_
        · rcases List.mem_append.mp hy with hy | hy
          · rcases List.mem_append.mp hy with hy | hy
            · exact .inl (List.mem_of_mem_take hy)
            · exact .inr (by simpa using hy)
          · exact .inl (List.mem_of_mem_drop hy)
        · rw [List.length_append, List.length_append, List.length_take, List.length_drop]; simp; omega
      · walk_at "go"
        refine c_cut (fun σ' H' => ∃ zs : List α, σ' = [some (.ref a), some (.int c), some (f m), some (.int kind), some (.int (xs.length : Nat)), some (.int at_), some (.int ot), some (.ref pf)] ∧ Same H H' ∧ H' pf = some (.lst (zs.map f)) ∧ (∀ y ∈ zs, y ∈ xs ∨ y = m) ∧ zs.length ≤ xs.length ∧ (2 < kind → zs.length = xs.length)) ?_ ?_
        · walk_at "go"
          refine ite_dec (fun hk2 => ?_) (fun hk2 => ?_)
          · walk_at "go"
            obtain ⟨y, hy⟩ : ∃ y, xs[at_.toNat]? = some y := ⟨_, List.getElem?_eq_getElem (by omega)⟩
            refine m_popA (f := f) upd_same (by omega) (by omega) hy ?_
            walk_at "go"
            exact ⟨_, rfl, by walk_at "same", upd_same, fun y hy => .inl (List.mem_of_mem_eraseIdx hy), by rw [List.length_eraseIdx]; split <;> omega, fun h => by omega⟩
          · walk_at "go"
            exact ⟨xs, rfl, by walk_at "same", upd_same, fun y hy => .inl hy, Nat.le_refl _, fun _ => rfl⟩
        · rintro σ' H' ⟨zs, rfl, s4, h4, m4, l4, e4⟩
          walk_at "go"
          refine ite_dec (fun hk3 => ?_) (fun hk3 => ?_)
          · walk_at "go"
            refine o_slAny (f := f) (xs := xs) (by walk_at "sq") fun us l1 nl1 mu lu => ?_
            refine o_cat (f := f) (xs := xs) (zs := us) (lift_ne (s4 _ _ hS) (neo nl1 (s4 _ _ hS))) upd_same (by omega) fun l2 nl2 => ?_
            walk_at "go"
            refine q l2 _ _ (by walk_at "same") (by walk_at "fr") upd_same (fun y hy => ?_) (by rw [List.length_append]; omega)
            rcases List.mem_append.mp hy with hy | hy
            · exact .inl hy
            · exact .inl (mu y hy)
          · walk_at "go"
            refine c_cut (fun σ' H' => ∃ zs : List α, σ' = [some (.ref a), some (.int c), some (f m), some (.int kind), some (.int (xs.length : Nat)), some (.int at_), some (.int ot), some (.ref pf)] ∧ Same H H' ∧ H' pf = some (.lst (zs.map f)) ∧ (∀ y ∈ zs, y ∈ xs ∨ y = m) ∧ zs.length ≤ xs.length ∧ (2 < kind → zs.length = xs.length)) ?_ ?_
            · walk_at "go"
              refine ite_dec (fun hk2 => ?_) (fun hk2 => ?_)
              · have := e4 (by omega)
                walk_at "go"
                refine m_setM (f := f) (xs := zs) (k := at_.toNat) (y := m) h4 rfl (by omega) (by omega) ?_
                walk_at "go"
                refine ⟨_, rfl, by walk_at "same", upd_same, fun y hy => ?_, by rw [List.length_set]; omega, fun h => by rw [List.length_set]; omega⟩
                rcases List.mem_or_eq_of_mem_set hy with z | z
                · exact m4 y z
                · exact .inr z
              · walk_at "go"
                exact ⟨zs, rfl, s4, h4, m4, l4, e4⟩
            · rintro σ' H' ⟨zs, rfl, s5, h5, m5, l5, e5⟩
              walk_at "go"
              refine ite_dec (fun hk5 => ?_) (fun hk5 => ?_)
              · walk_at "go"
                refine c_rev (f := f) (xs := xs) (by walk_at "sq") fun l nl => ?_
                walk_at "go"
                exact q l _ _ (by walk_at "same") (by walk_at "fr") upd_same (fun y hy => .inl (List.mem_reverse.mp hy)) (by rw [List.length_reverse]; omega)
              · walk_at "go"
                refine c_cut (fun σ' H' => ∃ zs : List α, σ' = [some (.ref a), some (.int c), some (f m), some (.int kind), some (.int (xs.length : Nat)), some (.int at_), some (.int ot), some (.ref pf)] ∧ Same H H' ∧ H' pf = some (.lst (zs.map f)) ∧ (∀ y ∈ zs, y ∈ xs ∨ y = m) ∧ zs.length ≤ xs.length) ?_ ?_
                · walk_at "go"
                  refine ite_dec (fun hk2 => ?_) (fun hk2 => ?_)
                  · have e6 := e5 (by omega)
                    obtain ⟨y1, hy1⟩ : ∃ y, xs[ot.toNat]? = some y := ⟨_, List.getElem?_eq_getElem (by omega)⟩
                    obtain ⟨y2, hy2⟩ : ∃ y, xs[at_.toNat]? = some y := ⟨_, List.getElem?_eq_getElem (by omega)⟩
                    walk_at "go"
                    refine r_asgT ?_
                    walk_at "go"
                    refine o_ixM (f := f) (xs := xs) (j := ot.toNat) (x := y1) (by walk_at "sq") hy1 (by omega) ?_
                    walk_at "go"
                    refine o_ixM (f := f) (xs := xs) (j := at_.toNat) (x := y2) (by walk_at "sq") hy2 (by omega) ?_
                    walk_at "go"
                    refine ⟨by show 2 ≤ sizeLine; decide, fun t nt => ?_⟩
                    refine g_two (SqT.of upd_same) (g_sub ?_)
                    walk_at "go"
                    refine m_setM (f := f) (xs := zs) (k := at_.toNat) (y := y1) (lift_ne h5 (neo nt h5)) rfl (by omega) (by omega) (g_last (g_sub ?_))
                    walk_at "go"
                    refine m_setM (f := f) (xs := zs.set at_.toNat y1) (k := ot.toNat) (y := y2) upd_same rfl (by omega) (by rw [List.length_set]; omega) (g_nil ?_)
                    walk_at "go"
                    refine ⟨_, rfl, by walk_at "same", upd_same, fun y hy => ?_, by rw [List.length_set, List.length_set]; omega⟩
                    rcases List.mem_or_eq_of_mem_set hy with z | z
                    · rcases List.mem_or_eq_of_mem_set z with z | z
                      · exact m5 y z
                      · exact .inl (by rw [z]; exact List.mem_of_getElem? hy1)
                    · exact .inl (by rw [z]; exact List.mem_of_getElem? hy2)
                  · walk_at "go"
                    exact ⟨zs, rfl, s5, h5, m5, l5⟩
                · rintro σ' H' ⟨zs, rfl, s6, h6, m6, l6⟩
                  walk_at "go"
                  exact q pf zs H' s6 npf0 h6 m6 (by omega)
/-- parts bent by hand -/
def sp_parts (K : PySem.W.Frag) : Sp := fun vs H Q _ => ∃ (a : Addr) (as : List Addr) (rs : List (List Int)) (c many : Int), vs = [.ref a, .int c, .int many] ∧ SqL K H a (as.map V.ref) ∧ Lf H as rs ∧ 0 ≤ many ∧ rs.length ≤ 100 ∧ rs.flatten.length ≤ 100 ∧
  ∀ p fs gs H', Same H H' → H p = none → H' p = some (.lst (fs.map V.ref)) → Lf H' fs gs → gs.length ≤ rs.length + 1 → gs.flatten.length ≤ 2 * rs.flatten.length + 1 → Q (.ref p) H'
theorem ok__law_bent_parts : Cc P w K mg base 3 "_law_bent_parts" (sp_parts K) := by
  have c__law_draw := ok__law_draw (P := P) (w := w) (base := base) T
  have c__law_bent := ok__law_bent (P := P) (w := w) (base := base) T
  refine Cc.mk' T.d__law_bent_parts sc__law_bent_parts ?_ ?_
  · rintro vs H Q E ⟨a, as, rs, c, many, rfl, _⟩; rfl
  · rintro f' cdv A outer s H vs Q E hr ⟨a, as, rs, c, many, rfl, hS, hL, hm, hl, hf, q⟩
    refine ⟨_, (pss_cons (ps_par (i := 3) (j := 4) rfl sc__law_bent_parts.nd rfl rfl (by decide) rfl rfl (pa_cons (pe_cc c__law_draw (hr.mono (by decide)) (by rfl) (pa_cons (pv 1) (pa_cons pe_int (pa_cons pe_int pa_nil)))) (pa_cons (pe_lc (own := [("_law_part", 6)]) (g := gName 6) (tt := tYes) rfl sc__law_bent_parts.nd (pi_list (pv 0)) (blkOk_by (own := [("_law_part", 6)]) (N := N__law_bent_parts) (sc := defScope s__law_bent_parts) (by decide +kernel)) (fun _ _ _ _ _ => (pg_name (i := 6) sc__law_bent_parts.nd rfl (Or.inl rfl))) (fun _ _ _ _ _ => pts_nil) (fun _ _ _ _ _ => (pe_callTy (r := rList2 K) call_list_of (by rfl) T.b_list PyProof.Rows.boot_list (pa_cons (pv 6) pa_nil)))) pa_nil)) (by rfl))
      (pss_cons (ps_if (PW.pt (pw_or (pt_cmpR (r := rEqD K) (op_eqD hr.units) (pv 4) (pe_lst pa_nil) (nomark _)) (pw_or1 (pt_cmpR op_eq (pv 3) pe_int (nomark _))))) (pss_one (ps_ret (pv 4))) pss_nil)
      (pss_cons (ps_set (i := 5) sc__law_bent_parts.nd rfl (by first | exact Or.inl rfl | exact Or.inr rfl) (pe_cc c__law_draw (hr.mono (by decide)) (by rfl) (pa_cons (pv 1) (pa_cons pe_int (pa_cons (pe_callB (r := rLen2 K) call_len_seq (by rfl) T.b_len PySem.boot_len (pa_cons (pv 4) pa_nil)) pa_nil)))))
      (Bo.pss_cut (ps_if (pt_cmpR op_eq (pv 3) pe_int (nomark _)) (pss_one (ps_asg (pe_cc c__law_bent (hr.mono (by decide)) (by rfl) (pa_cons (pe_ix (r := rIxL K) ix_list (pv 4) (pv 5) (fun _ _ => rfl)) (pa_cons (pe_op op_fdiv (pv 1) pe_int) (pa_cons (pe_op op_sub (pe_cc c__law_draw (hr.mono (by decide)) (by rfl) (pa_cons (pv 1) (pa_cons pe_int (pa_cons (pe_op op_add (pv 2) pe_int) pa_nil)))) pe_int) pa_nil)))) (pg_sub (pv 4) (pv 5) set_list))) pss_nil)
      (Bo.pss_cut (ps_if (pt_cmpR op_eq (pv 3) pe_int (nomark _)) (pss_cons (ps_set (i := 6) sc__law_bent_parts.nd rfl (by first | exact Or.inl rfl | exact Or.inr rfl) (pe_bm PySem.F.plainAttrs_list PySem.F.slot_list_pop PySem.F.type_list_pop mt_popAt (pv 4) (pa_cons (pv 5) pa_nil)))
      (pss_one (ps_set (i := 4) sc__law_bent_parts.nd rfl (by first | exact Or.inl rfl | exact Or.inr rfl) (pe_op op_cat (pv 4) (pe_lst (pa_cons (pe_slice (r := rSlL K) sl_list (pv 6) po_none (po_some pe_int)) (pa_cons (pe_slice (r := rSlL K) sl_list (pv 6) (po_some pe_int) po_none) pa_nil))))))) pss_nil)
      (Bo.pss_cut (ps_if (PW.pt (pw_and (pt_cmpR op_eq (pv 3) pe_int (nomark _)) (pw_and1 (pt_cmpR op_gt (pe_callB (r := rLen2 K) call_len_seq (by rfl) T.b_len PySem.boot_len (pa_cons (pv 4) pa_nil)) pe_int (nomark _))))) (pss_cons (ps_set (i := 6) sc__law_bent_parts.nd rfl (by first | exact Or.inl rfl | exact Or.inr rfl) (pe_bm PySem.F.plainAttrs_list PySem.F.slot_list_pop PySem.F.type_list_pop mt_popAt (pv 4) (pa_cons (pv 5) pa_nil)))
      (pss_one (ps_asg (pe_op op_cat (pe_ix (r := rIxL K) ix_list (pv 4) pe_int (fun _ _ => rfl)) (pv 6)) (pg_sub (pv 4) pe_int set_list)))) pss_nil)
      (Bo.pss_cut (ps_if (pt_cmpR op_eq (pv 3) pe_int (nomark _)) (pss_one (ps_asg (pe_op op_cat (pe_slice (r := rSlL K) sl_list (pe_ix (r := rIxL K) ix_list (pv 4) (pv 5) (fun _ _ => rfl)) (po_some pe_int) po_none) (pe_slice (r := rSlL K) sl_list (pe_ix (r := rIxL K) ix_list (pv 4) (pv 5) (fun _ _ => rfl)) po_none (po_some pe_int))) (pg_sub (pv 4) (pv 5) set_list))) pss_nil)
      (Bo.pss_cut (ps_if (pt_cmpR op_eq (pv 3) pe_int (nomark _)) (pss_one (ps_expr (pe_bm PySem.F.plainAttrs_list PySem.F.slot_list_pop PySem.F.type_list_pop mt_popAt (pv 4) (pa_cons (pv 5) pa_nil)))) pss_nil)
      (pss_one (ps_ret (pe_ifExp (pt_cmpR op_eq (pv 3) pe_int (nomark _)) (pe_revL (pv 4)) (pv 4)))))))))))), ?_⟩
    have la := hL.1
    walk_at "k"
    walk_at "go"
    refine ⟨c, 4, 7, rfl, by decide, fun kind H1 k0 k1 s1 => ?_⟩
    walk_at "go"
    refine k_lcNf (as := as) (xss := rs) oL (s1.seq hS) la (by omega) (fun _ => rfl) ?_ ?_
    · intro k t r H4 R' ht hr4 s4 k4
      have h4 : H4 t = some (oL r) := s4 _ _ (s1 _ _ (hL.2 k t r ht hr4))
      walk_at "go"
      refine c_list (SqL.of h4) fun l nl => ?_
      exact k4 l _ nl (Same.one nl) upd_same
    intro pd bs H2 npd s2 n2 m2 h2
    have s02 := s1.trans s2
    have npd0 : H pd = none := s1.free npd
    have L2 := Lf.of n2
    have lb := L2.1
    clear s1 s2 npd
    walk_at "go"
    refine l_new (Nat.zero_le _) fun pe npe => ?_
    have e1 : pd ≠ pe := neo npe h2
    have h3 : (upd H2 pe (.lst [])) pd = some (.lst (bs.map V.ref)) := lift_ne h2 e1
    have s03 : Same H (upd H2 pe (.lst [])) := Same.new s02 (s02.free npe)
    have L3 : Lf (upd H2 pe (.lst [])) bs rs := L2.same (Same.one npe)
    refine o_eqLf (as := bs) (bs := []) (xs := rs) (ys := []) (SqL.of h3) (SqL.of upd_same) L3 Lf.nil ?_
    generalize upd H2 pe (.lst []) = H3 at h3 s03 L3
    clear h2 n2 L2 s02 npe e1
    have early : Q (.ref pd) H3 := q pd bs rs H3 s03 npd0 h3 L3 (by omega) (by omega)
    walk_at "go"
    refine ite_dec (fun hz => ?_) (fun hz => ?_)
    · walk_at "go"
      exact early
    walk_at "go"
    refine ite_dec (fun hz2 => ?_) (fun hz2 => ?_)
    · walk_at "go"
      exact early
    clear early
    have hpos : 0 < rs.length := List.length_pos_iff.mpr hz
    walk_at "go"
    refine ⟨c, 5, _, rfl, by omega, fun at_ H5 a0 a1 s5 => ?_⟩
    have a2 : at_ < (rs.length : Int) := by omega
    have s05 := s03.trans s5
    have h5 := s5 _ _ h3
    have L5 := L3.same s5
    clear s03 s5 h3 L3
    walk_at "go"
    -- the word between two ifs: j, what is bent so far
    have key : ∀ j : Int, ∃ M : L2.St → Hp → Prop, M = fun σ' H' => ∃ (pd : Addr) (fs : List Addr) (gs : List (List Int)) (v6 : Option V), σ' = [some (.ref a), some (.int c), some (.int many), some (.int kind), some (.ref pd), some (.int at_), v6] ∧ Same H H' ∧ H pd = none ∧ H' pd = some (.lst (fs.map V.ref)) ∧ Lf H' fs gs ∧ pd ∉ fs ∧ gs.length ≤ rs.length + 1 ∧ gs.flatten.length ≤ 2 * rs.flatten.length + 1 ∧ (j < kind → gs.length = rs.length ∧ gs.flatten.length = rs.flatten.length) := fun j => ⟨_, rfl⟩
    obtain ⟨M1, hM1⟩ := key 1
    obtain ⟨M2, hM2⟩ := key 2
    obtain ⟨M3, hM3⟩ := key 3
    obtain ⟨M4, hM4⟩ := key 4
    obtain ⟨M6, hM6⟩ := key 6
    clear key
    refine c_cut M1 ?_ ?_
    · rw [hM1]
      walk_at "go"
      refine ite_dec (fun hk => ?_) (fun hk => ?_)
      · obtain ⟨t, g, ht, hg, hH⟩ := L5.get (k := at_.toNat) (by omega)
        have fl := flat_get_le hg
        walk_at "go"
        refine o_ixM (f := V.ref) (xs := bs) (j := at_.toNat) (x := t) (by walk_at "sq") ht (by omega) ?_
        walk_at "go"
        refine ⟨c, 6, _, rfl, by omega, fun dr H6 d0 d1 s6 => ?_⟩
        walk_at "go"
        refine ⟨Int, V.int, t, g, _, dr - 1, rfl, s6 _ _ hH, by omega, fun p ys H7 s7 np hp mm lm => ?_⟩
        have s57 := s6.trans s7
        have e7 : pd ≠ p := neo np (s6 _ _ h5)
        walk_at "go"
        have fs := flat_setl ys hg
        refine m_setM (f := V.ref) (xs := bs) (k := at_.toNat) (y := p) (s57 _ _ h5) rfl (by omega) (by omega) ?_
        walk_at "go"
        exact ⟨pd, _, _, _, rfl, Same.new (s05.trans s57) npd0, npd0, upd_same, (((L5.same s57).setA at_.toNat hp).mut (nm_set _ m2 e7)), nm_set _ m2 e7, by rw [List.length_set]; omega, by omega, fun h => by omega⟩
      · walk_at "go"
        exact ⟨pd, bs, rs, _, rfl, s05, npd0, h5, L5, m2, by omega, by omega, fun _ => ⟨rfl, rfl⟩⟩
    clear h5 L5 s05 npd0 m2 lb
    rintro σ' H' m
    rw [hM1] at m
    obtain ⟨pd, fs, gs, v6, rfl, s1, np, h1, L1, m1, b1, b2, b3⟩ := m
    have l1 := L1.1
    walk_at "go"
    refine c_cut M2 ?_ ?_
    · rw [hM2]
      walk_at "go"
      refine ite_dec (fun hk => ?_) (fun hk => ?_)
      · obtain ⟨b4, b5⟩ := b3 (by omega)
        obtain ⟨t, g, ht, hg, hH⟩ := L1.get (k := at_.toNat) (by omega)
        have fl := flat_erase hg
        have el := erase_len (xs := gs) (k := at_.toNat) (by omega)
        have el2 := erase_len (xs := fs) (k := at_.toNat) (by omega)
        walk_at "go"
        refine m_popA (f := V.ref) h1 (by omega) (by omega) ht ?_
        have L2 := (L1.erase at_.toNat).mut (o := .lst ((fs.eraseIdx at_.toNat).map V.ref)) (nm_erase at_.toNat m1)
        have hH2 : (upd H' pd (.lst ((fs.eraseIdx at_.toNat).map V.ref))) t = some (oL g) := lift_ne hH (fun e => m1 (by rw [← e]; exact List.mem_of_getElem? ht))
        have s2 : Same H (upd H' pd (.lst ((fs.eraseIdx at_.toNat).map V.ref))) := Same.new s1 np
        have h2 : (upd H' pd (.lst ((fs.eraseIdx at_.toNat).map V.ref))) pd = some (.lst ((fs.eraseIdx at_.toNat).map V.ref)) := upd_same
        generalize upd H' pd (.lst ((fs.eraseIdx at_.toNat).map V.ref)) = H2 at L2 hH2 s2 h2
        walk_at "go"
        refine o_slTo (f := V.int) (xs := g) (SqL.of hH2) (by decide) fun q1 nq1 => ?_
        have hH3 := lift_ne (o := oL g) (u := .lst ((g.take (1 : Int).toNat).map V.int)) hH2 (neo nq1 hH2)
        walk_at "go"
        refine o_slFrom (f := V.int) (xs := g) (SqL.of hH3) (by decide) fun q2 nq2 => ?_
        have e12 : q1 ≠ q2 := neo nq2 upd_same
        walk_at "go"
        refine l_new (by show 2 ≤ sizeLine; decide) fun q3 nq3 => ?_
        have s3 : Same H2 (upd (upd (upd H2 q1 (.lst ((g.take (1 : Int).toNat).map V.int))) q2 (.lst ((g.drop (1 : Int).toNat).map V.int))) q3 (.lst [.ref q1, .ref q2])) := by walk_at "same"
        have hq1 : (upd (upd (upd H2 q1 (.lst ((g.take (1 : Int).toNat).map V.int))) q2 (.lst ((g.drop (1 : Int).toNat).map V.int))) q3 (.lst [.ref q1, .ref q2])) q1 = some (oL (g.take (1 : Int).toNat)) := by walk_at "hp"
        have hq2 : (upd (upd (upd H2 q1 (.lst ((g.take (1 : Int).toNat).map V.int))) q2 (.lst ((g.drop (1 : Int).toNat).map V.int))) q3 (.lst [.ref q1, .ref q2])) q2 = some (oL (g.drop (1 : Int).toNat)) := by walk_at "hp"
        have hq3 : (upd (upd (upd H2 q1 (.lst ((g.take (1 : Int).toNat).map V.int))) q2 (.lst ((g.drop (1 : Int).toNat).map V.int))) q3 (.lst [.ref q1, .ref q2])) q3 = some (.lst ([q1, q2].map V.ref)) := upd_same
        generalize upd (upd (upd H2 q1 (.lst ((g.take (1 : Int).toNat).map V.int))) q2 (.lst ((g.drop (1 : Int).toNat).map V.int))) q3 (.lst [.ref q1, .ref q2]) = H3 at s3 hq1 hq2 hq3
        refine o_cat (f := V.ref) (xs := fs.eraseIdx at_.toNat) (zs := [q1, q2]) (s3 _ _ h2) hq3 (by simp; omega) fun q4 nq4 => ?_
        walk_at "go"
        have ft : ([g.take (1 : Int).toNat, g.drop (1 : Int).toNat].flatten).length = g.length := by rw [List.flatten_cons, List.flatten_cons, List.flatten_nil, List.append_nil, List.take_append_drop]
        have L4 := (((L2.same s3).app (Lf.two hq1 hq2)).same (Same.one (o := .lst ((fs.eraseIdx at_.toNat ++ [q1, q2]).map V.ref)) nq4))
        refine ⟨q4, _, _, _, rfl, Same.new (s2.trans s3) ((s2.trans s3).free nq4), (s2.trans s3).free nq4, upd_same, L4, ?_, ?_, ?_, fun h => by omega⟩
        · intro hm
          rcases List.mem_append.mp hm with hm | hm
          · obtain ⟨i, hi, e⟩ := List.getElem_of_mem hm
            have hj : i < (gs.eraseIdx at_.toNat).length := by rw [← L2.1]; exact hi
            have := s3 _ _ (L2.2 i q4 _ (by rw [List.getElem?_eq_getElem hi, e]) (List.getElem?_eq_getElem hj))
            rw [nq4] at this; cases this
          · simp at hm
            rcases hm with rfl | rfl
            · rw [nq4] at hq1; cases hq1
            · rw [nq4] at hq2; cases hq2
        · rw [List.length_append]; simp; omega
        · rw [List.flatten_append, List.length_append, ft]
          omega
      · walk_at "go"
        exact ⟨pd, fs, gs, _, rfl, s1, np, h1, L1, m1, b1, b2, fun h => b3 (by omega)⟩
    clear h1 L1 s1 np m1 b1 b2 b3 l1
    rintro σ' H' m
    rw [hM2] at m
    obtain ⟨pd, fs, gs, v6, rfl, s1, np, h1, L1, m1, b1, b2, b3⟩ := m
    have l1 := L1.1
    walk_at "go"
    refine c_cut M3 ?_ ?_
    · rw [hM3]
      have stay : M3 [some (.ref a), some (.int c), some (.int many), some (.int kind), some (.ref pd), some (.int at_), v6] H' := by
        rw [hM3]
        exact ⟨pd, fs, gs, _, rfl, s1, np, h1, L1, m1, b1, b2, fun h => b3 (by omega)⟩
      rw [hM3] at stay
      walk_at "go"
      refine ite_dec (fun hk => ?_) (fun hk => ?_)
      · walk_at "go"
        refine ite_dec (fun hk1 => ?_) (fun hk1 => ?_)
        · obtain ⟨b4, b5⟩ := b3 (by omega)
          obtain ⟨t, g, ht, hg, hH⟩ := L1.get (k := at_.toNat) (by omega)
          have fl := flat_erase hg
          have el := erase_len (xs := gs) (k := at_.toNat) (by omega)
          have el2 := erase_len (xs := fs) (k := at_.toNat) (by omega)
          walk_at "go"
          refine m_popA (f := V.ref) h1 (by omega) (by omega) ht ?_
          have L2 := (L1.erase at_.toNat).mut (o := .lst ((fs.eraseIdx at_.toNat).map V.ref)) (nm_erase at_.toNat m1)
          have hH2 : (upd H' pd (.lst ((fs.eraseIdx at_.toNat).map V.ref))) t = some (oL g) := lift_ne hH (fun e => m1 (by rw [← e]; exact List.mem_of_getElem? ht))
          have s2 : Same H (upd H' pd (.lst ((fs.eraseIdx at_.toNat).map V.ref))) := Same.new s1 np
          have h2 : (upd H' pd (.lst ((fs.eraseIdx at_.toNat).map V.ref))) pd = some (.lst ((fs.eraseIdx at_.toNat).map V.ref)) := upd_same
          have m2 := nm_erase at_.toNat m1
          generalize upd H' pd (.lst ((fs.eraseIdx at_.toNat).map V.ref)) = H2 at L2 hH2 s2 h2
          obtain ⟨t0, g0, ht0, hg0, hH0⟩ := L2.get (k := 0) (by omega)
          have fl0 := flat_get_le hg0
          walk_at "go"
          refine o_ixM (f := V.ref) (xs := fs.eraseIdx at_.toNat) (j := 0) (x := t0) (by walk_at "sq") ht0 rfl ?_
          walk_at "go"
          refine o_cat (f := V.int) (xs := g0) (zs := g) hH0 hH2 (by omega) fun q4 nq4 => ?_
          have e4 : pd ≠ q4 := neo nq4 h2
          walk_at "go"
          have fs0 := flat_setl (g0 ++ g) hg0
          rw [List.length_append] at fs0
          refine m_setM (f := V.ref) (xs := fs.eraseIdx at_.toNat) (k := 0) (y := q4) (lift_ne h2 e4) rfl rfl (by omega) ?_
          walk_at "go"
          refine ⟨pd, _, _, _, rfl, Same.new (Same.new s2 (s2.free nq4)) np, np, upd_same, (((L2.same (Same.one nq4)).setA 0 upd_same).mut (nm_set _ m2 e4)), nm_set _ m2 e4, by rw [List.length_set]; omega, by omega, fun h => by omega⟩
        · walk_at "go"
          exact stay
      · walk_at "go"
        exact stay
    clear h1 L1 s1 np m1 b1 b2 b3 l1
    rintro σ' H' m
    rw [hM3] at m
    obtain ⟨pd, fs, gs, v6, rfl, s1, np, h1, L1, m1, b1, b2, b3⟩ := m
    have l1 := L1.1
    walk_at "go"
    refine c_cut M4 ?_ ?_
    · rw [hM4]
      walk_at "go"
      refine ite_dec (fun hk => ?_) (fun hk => ?_)
      · obtain ⟨b4, b5⟩ := b3 (by omega)
        obtain ⟨t, g, ht, hg, hH⟩ := L1.get (k := at_.toNat) (by omega)
        have fl := flat_get_le hg
        walk_at "go"
        refine o_ixM (f := V.ref) (xs := fs) (j := at_.toNat) (x := t) (by walk_at "sq") ht (by omega) ?_
        walk_at "go"
        refine o_slFrom (f := V.int) (xs := g) (SqL.of hH) (by decide) fun q1 nq1 => ?_
        have s2 : Same H' (upd H' q1 (.lst ((g.drop (1 : Int).toNat).map V.int))) := Same.one nq1
        have hq1 : (upd H' q1 (.lst ((g.drop (1 : Int).toNat).map V.int))) q1 = some (oL (g.drop (1 : Int).toNat)) := upd_same
        generalize upd H' q1 (.lst ((g.drop (1 : Int).toNat).map V.int)) = H2 at s2 hq1
        have h2 := s2 _ _ h1
        walk_at "go"
        refine o_ixM (f := V.ref) (xs := fs) (j := at_.toNat) (x := t) (by walk_at "sq") ht (by omega) ?_
        walk_at "go"
        refine o_slTo (f := V.int) (xs := g) (SqL.of (s2 _ _ hH)) (by decide) fun q2 nq2 => ?_
        refine o_cat (f := V.int) (xs := g.drop (1 : Int).toNat) (zs := g.take (1 : Int).toNat) (lift_ne hq1 (neo nq2 hq1)) upd_same (by rw [List.length_drop, List.length_take]; omega) fun q4 nq4 => ?_
        have s3 : Same H2 (upd (upd H2 q2 (.lst ((g.take (1 : Int).toNat).map V.int))) q4 (.lst ((g.drop (1 : Int).toNat ++ g.take (1 : Int).toNat).map V.int))) := by walk_at "same"
        have hq4 : (upd (upd H2 q2 (.lst ((g.take (1 : Int).toNat).map V.int))) q4 (.lst ((g.drop (1 : Int).toNat ++ g.take (1 : Int).toNat).map V.int))) q4 = some (oL (g.drop (1 : Int).toNat ++ g.take (1 : Int).toNat)) := upd_same
        have e4 : pd ≠ q4 := neo nq4 (lift_ne h2 (neo nq2 h2))
        generalize upd (upd H2 q2 (.lst ((g.take (1 : Int).toNat).map V.int))) q4 (.lst ((g.drop (1 : Int).toNat ++ g.take (1 : Int).toNat).map V.int)) = H3 at s3 hq4
        have fs0 := flat_setl (g.drop (1 : Int).toNat ++ g.take (1 : Int).toNat) hg
        rw [List.length_append, List.length_drop, List.length_take] at fs0
        have one : (1 : Int).toNat = 1 := rfl
        walk_at "go"
        refine m_setM (f := V.ref) (xs := fs) (k := at_.toNat) (y := q4) (s3 _ _ h2) rfl (by omega) (by omega) ?_
        walk_at "go"
        refine ⟨pd, _, _, _, rfl, Same.new ((s1.trans s2).trans s3) np, np, upd_same, (((L1.same (s2.trans s3)).setA at_.toNat hq4).mut (nm_set _ m1 e4)), nm_set _ m1 e4, by rw [List.length_set]; omega, by omega, fun h => by omega⟩
      · walk_at "go"
        exact ⟨pd, fs, gs, _, rfl, s1, np, h1, L1, m1, b1, b2, fun h => b3 (by omega)⟩
    clear h1 L1 s1 np m1 b1 b2 b3 l1
    rintro σ' H' m
    rw [hM4] at m
    obtain ⟨pd, fs, gs, v6, rfl, s1, np, h1, L1, m1, b1, b2, b3⟩ := m
    have l1 := L1.1
    walk_at "go"
    refine c_cut M6 ?_ ?_
    · rw [hM6]
      walk_at "go"
      refine ite_dec (fun hk => ?_) (fun hk => ?_)
      · obtain ⟨b4, b5⟩ := b3 (by omega)
        obtain ⟨t, g, ht, hg, hH⟩ := L1.get (k := at_.toNat) (by omega)
        have fl := flat_erase hg
        have el := erase_len (xs := gs) (k := at_.toNat) (by omega)
        walk_at "go"
        refine m_popA (f := V.ref) h1 (by omega) (by omega) ht ?_
        walk_at "go"
        exact ⟨pd, _, _, _, rfl, Same.new s1 np, np, upd_same, (L1.erase at_.toNat).mut (nm_erase at_.toNat m1), nm_erase at_.toNat m1, by omega, by omega, fun h => by omega⟩
      · walk_at "go"
        exact ⟨pd, fs, gs, _, rfl, s1, np, h1, L1, m1, b1, b2, fun h => b3 (by omega)⟩
    clear h1 L1 s1 np m1 b1 b2 b3 l1
    rintro σ' H' m
    rw [hM6] at m
    obtain ⟨pd, fs, gs, v6, rfl, s1, np, h1, L1, m1, b1, b2, b3⟩ := m
    walk_at "go"
    refine ite_dec (fun hk => ?_) (fun hk => ?_)
    · walk_at "go"
      refine c_rev (f := V.ref) (xs := fs) (by walk_at "sq") fun l nl => ?_
      walk_at "go"
      exact q l _ _ _ (Same.new s1 (s1.free nl)) (s1.free nl) upd_same (L1.rev.same (Same.one nl)) (by rw [List.length_reverse]; exact b1) (by rw [flat_rev]; exact b2)
    · walk_at "go"
      exact q pd fs gs H' s1 np h1 L1 b1 b2
end
end Bo

namespace Bo
open PySem PySem.Spec PyProof.Rows L2
/-! ### steps of a reading: each a row of its own -/
local macro_rules | `(tactic| walk_at "ne") => `(tactic| first
  | assumption
  | (apply Ne.symm; assumption)
  | (apply neo; assumption; walk_at "hp")
  | (apply Ne.symm; apply neo; assumption; walk_at "hp"))
local macro_rules | `(tactic| walk_at "hp") => `(tactic| first
  | assumption
  | exact upd_same
  | (apply lift_ne; walk_at "hp"; walk_at "ne")
  | (apply Same.up; assumption; walk_at "hp"))
local macro_rules | `(tactic| walk_at "same") => `(tactic| first
  | assumption
  | exact Same.refl _
  | (apply Same.new; walk_at "same"; walk_at "fr")
  | (apply same_trans; assumption; walk_at "same"))
local macro_rules | `(tactic| walk_at "fr") => `(tactic| first
  | assumption
  | (apply same_free; assumption; walk_at "same"))
local macro_rules | `(tactic| walk_at "sq") => `(tactic| first
  | assumption
  | (apply SqL.of; walk_at "hp")
  | (apply same_seq; assumption; walk_at "same"))
local macro_rules | `(tactic| walk_at "sqt") => `(tactic| first
  | assumption
  | (apply SqT.of; walk_at "hp")
  | (apply same_sqt; assumption; walk_at "same"))
local macro_rules | `(tactic| walk_at "nw") => `(tactic| first
  | assumption
  | (apply News.mut; walk_at "nw"; (first | assumption | (refine News.notin (by assumption) ?_; assumption)))
  | (apply News.same; walk_at "nw"; walk_at "same"))
/-! one step -/
local macro_rules | `(tactic| walk_at "go1") => `(tactic| first
  | with_reducible refine r_seq ?_
  | with_reducible refine r_asgN ?_
  | with_reducible refine r_set ?_
  | with_reducible refine r_ret ?_
  | with_reducible refine r_drop ?_
  | with_reducible refine r_if ?_
  | with_reducible refine r_next ?_
  | ((with_reducible apply r_nxD); with_reducible refine r_nx ?_)
  | ((with_reducible apply r_rtD); with_reducible refine r_rt ?_)
  | with_reducible refine r_par ?_
  | with_reducible refine k_par ?_
  | with_reducible refine r_fld ?_
  | ((with_reducible apply r_aug); exact rfl)
  | with_reducible refine i_ip ?_
  | ((with_reducible apply e_var); exact rfl)
  | with_reducible refine e_c ?_
  | with_reducible refine e_op ?_
  | with_reducible refine e_un ?_
  | with_reducible refine o_I0 ?_
  | with_reducible refine o_neg ?_
  | with_reducible refine o_eqI ?_
  | with_reducible refine o_neI ?_
  | with_reducible refine o_eqB ?_
  | with_reducible refine o_neB ?_
  | with_reducible refine o_eqS ?_
  | with_reducible refine o_neS ?_
  | with_reducible refine a_nil ?_
  | with_reducible refine a_cons ?_
  | with_reducible refine e_cb ?_
  | with_reducible refine e_call ?_
  | with_reducible refine e_make ?_
  | with_reducible refine e_meth ?_
  | with_reducible refine e_fld ?_
  | with_reducible refine e_lst ?_
  | with_reducible refine e_tup ?_
  | with_reducible refine e_bm ?_
  | with_reducible refine e_bm0 ?_
  | with_reducible refine e_rev ?_
  | with_reducible refine e_sl ?_
  | with_reducible refine e_nopart ?_
  | with_reducible refine e_part ?_
  | with_reducible refine i_ok ?_
  | with_reducible refine e_lenset ?_
  | with_reducible refine e_listRg1 ?_
  | with_reducible refine t_test ?_
  | with_reducible refine t_B ?_
  | with_reducible refine b_ok ?_
  | with_reducible refine t_and ?_
  | with_reducible refine t_or ?_
  | with_reducible refine t_not ?_
  | with_reducible refine v_and ?_
  | with_reducible refine v_or ?_
  | with_reducible refine v_not ?_
  | with_reducible refine e_if ?_
  | with_reducible refine e_chain ?_
  | with_reducible refine e_chain3 ?_
  | with_reducible refine iteT ?_
  | with_reducible refine iteF ?_
  | with_reducible refine ite_nT ?_
  | with_reducible refine ite_nF ?_
  | with_reducible refine r_forL ?_
  | with_reducible refine r_forT ?_
  | with_reducible refine r_forE ?_
  | with_reducible refine r_forR1 ?_
  | with_reducible refine r_forR2 ?_
  | with_reducible refine e_lcL ?_
  | with_reducible refine e_lcR1 ?_
  | with_reducible refine e_lcR2 ?_
  | with_reducible refine r_dput ?_
  | with_reducible refine e_dget ?_
  | with_reducible refine e_dnin ?_
  | with_reducible refine c_max2 ?_
  | with_reducible refine c_min2 ?_
  | ((with_reducible apply c_isiI); (first | exact (show kitB "int" _ = some true by decide +kernel) | exact (show kitB "int" _ = some false by decide +kernel)))
  | ((with_reducible apply m_ty); walk_at "sq"))
local macro_rules | `(tactic| walk_at "go2") => `(tactic| first
  | ((with_reducible apply o_ixI); walk_at "sq"; omega)
  | ((with_reducible refine o_mod ?_ ?_); omega)
  | ((with_reducible refine o_fdiv ?_ ?_); omega)
  | ((with_reducible refine o_mulR ?_ ?_); omega)
  | ((with_reducible refine o_mulL ?_ ?_); omega)
  | ((with_reducible apply c_lenM); walk_at "sq")
  | ((with_reducible apply c_all); walk_at "sq")
  | ((with_reducible apply c_any); walk_at "sq")
  | ((with_reducible apply o_in); walk_at "sq")
  | ((with_reducible apply o_nin); walk_at "sq")
  | ((with_reducible apply o_ixB); walk_at "sq"; omega)
  | ((with_reducible apply m_setB); walk_at "hp"; omega)
  | ((with_reducible apply m_appR); walk_at "hp"; omega)
  | ((with_reducible apply m_ins); walk_at "hp"; omega; omega)
  | ((with_reducible apply m_appM); walk_at "hp"; exact rfl; omega)
  | ((with_reducible apply m_setI); walk_at "hp"; omega))
local macro_rules | `(tactic| walk_at "d") => `(tactic| try dsimp only)
local macro_rules | `(tactic| walk_at "k") => `(tactic| try dsimp only [cxOf, Cx.nox, Cx.blk])
local macro_rules | `(tactic| walk_at "go") => `(tactic| repeat (first | walk_at "go1" | walk_at "go2"))

section
variable {P : Program} {w : World} {K : PySem.W.Frag} {mg : Str → Option Value} {base : Heap} {C_Exchanged C_Fronted C_Ended C_Put C_Answer : Addr} (T : Top K mg C_Exchanged C_Fronted C_Ended C_Put C_Answer)
include T

def sp_exr (K : PySem.W.Frag) : Sp := fun vs H Q _ => ∃ (a : Addr) (ns : List Int) (c : Int), vs = [.ref a, .int c] ∧ SqL K H a (ns.map V.int) ∧ IsRow ns ∧ ns.length ≤ 63 ∧ ∀ H', Same H H' → Q (.bl true) H'
theorem ok__law_exchanges_right : Cc P w K mg base 5 "_law_exchanges_right" (sp_exr K) := by
  have c_exchanged := ok_exchanged (P := P) (w := w) (base := base) T
  have c__law_draw := ok__law_draw (P := P) (w := w) (base := base) T
  have c__law_bent := ok__law_bent (P := P) (w := w) (base := base) T
  have c__law_bent_parts := ok__law_bent_parts (P := P) (w := w) (base := base) T
  have c_Exchanged := ok_Exchanged___init__ (P := P) (w := w) (base := base) T
  have c__law_ringed := ok__law_ringed (P := P) (w := w) (base := base) T
  have c__law_exchanged := ok__law_exchanged (P := P) (w := w) (base := base) T
  have c__law_says := ok__law_says (P := P) (w := w) (base := base) T
  have c_Exchanged_shows := ok_Exchanged_shows (P := P) (w := w) (base := base) T
  refine Cc.mk' T.d__law_exchanges_right sc__law_exchanges_right ?_ ?_
  · rintro vs H Q E ⟨a, ns, c, rfl, _⟩; rfl
  · rintro f' cdv A outer s H vs Q E hr ⟨a, ns, c, rfl, hS, R, hl, q⟩
    refine ⟨_, (pss_cons (ps_par (i := 2) (j := 3) rfl sc__law_exchanges_right.nd rfl rfl (by decide) rfl rfl (pa_cons (pe_cc c_exchanged (hr.mono (by decide)) (by rfl) (pa_cons (pv 0) pa_nil)) (pa_cons (pe_callB (r := rLen2 K) call_len_seq (by rfl) T.b_len PySem.boot_len (pa_cons (pv 0) pa_nil)) pa_nil)) (by rfl))
      (pss_cons (ps_set (i := 4) sc__law_exchanges_right.nd rfl (by first | exact Or.inl rfl | exact Or.inr rfl) (pe_tup (pa_cons (pe_op op_sub (pe_cc c__law_draw (hr.mono (by decide)) (by rfl) (pa_cons (pv 1) (pa_cons pe_int (pa_cons (pe_op op_add (pv 3) pe_int) pa_nil)))) pe_int) (pa_cons (pe_op op_sub (pe_cc c__law_draw (hr.mono (by decide)) (by rfl) (pa_cons (pv 1) (pa_cons pe_int (pa_cons (pe_op op_add (pv 3) pe_int) pa_nil)))) pe_int) pa_nil))))
      (pss_cons (ps_set (i := 5) sc__law_exchanges_right.nd rfl (by first | exact Or.inl rfl | exact Or.inr rfl) (pe_cc c__law_bent (hr.mono (by decide)) (by rfl) (pa_cons (pe_fld (pv 2) rfl) (pa_cons (pv 1) (pa_cons (pv 4) pa_nil)))))
      (pss_cons (ps_set (i := 6) sc__law_exchanges_right.nd rfl (by first | exact Or.inl rfl | exact Or.inr rfl) (pe_cc c__law_bent_parts (hr.mono (by decide)) (by rfl) (pa_cons (pe_fld (pv 2) rfl) (pa_cons (pe_op op_fdiv (pv 1) pe_int) (pa_cons (pv 3) pa_nil)))))
      (pss_cons (ps_set (i := 7) sc__law_exchanges_right.nd rfl (by first | exact Or.inl rfl | exact Or.inr rfl) (pe_lst (pa_cons (pe_callTy (r := rList2 K) call_list_of (by rfl) T.b_list PyProof.Rows.boot_list (pa_cons (pv 5) pa_nil)) (pa_cons (pe_lc (own := [("_law_ring", 9)]) (g := gName 9) (tt := tYes) rfl sc__law_exchanges_right.nd (pi_list (pv 6)) (blkOk_by (own := [("_law_ring", 9)]) (N := N__law_exchanges_right) (sc := defScope s__law_exchanges_right) (by decide +kernel)) (fun _ _ _ _ _ => (pg_name (i := 9) sc__law_exchanges_right.nd rfl (Or.inl rfl))) (fun _ _ _ _ _ => pts_nil) (fun _ _ _ _ _ => (pe_callTy (r := rList2 K) call_list_of (by rfl) T.b_list PyProof.Rows.boot_list (pa_cons (pv 9) pa_nil)))) pa_nil))))
      (pss_cons (ps_set (i := 8) sc__law_exchanges_right.nd rfl (by first | exact Or.inl rfl | exact Or.inr rfl) (pe_cm c_Exchanged (hr.mono (by decide)) (by rfl) (pa_cons (pe_ix (r := rIxL K) ix_list (pv 7) pe_int (fun _ _ => rfl)) (pa_cons (pe_ix (r := rIxL K) ix_list (pv 7) pe_int (fun _ _ => rfl)) pa_nil))))
      (pss_cons (ps_expr (pe_bm PySem.F.plainAttrs_list PySem.F.slot_list_append PySem.F.type_list_append mt_append (pe_ix (r := rIxL K) ix_list (pv 7) pe_int (fun _ _ => rfl)) (pa_cons (pe_tup (pa_cons pe_int (pa_cons pe_int pa_nil))) pa_nil)))
      (pss_cons (ps_for PassesOwn.never rfl (pi_list (pe_ix (r := rIxL K) ix_list (pv 7) pe_int (fun _ _ => rfl))) (pg_name (i := 9) sc__law_exchanges_right.nd rfl (by first | exact Or.inl rfl | exact Or.inr rfl)) (pss_one (ps_expr (pe_bm PySem.F.plainAttrs_list PySem.F.slot_list_append PySem.F.type_list_append mt_append (pv 9) (pa_cons pe_int pa_nil)))))
      (pss_cons (ps_expr (pe_bm PySem.F.plainAttrs_list PySem.F.slot_list_append PySem.F.type_list_append mt_append (pe_ix (r := rIxL K) ix_list (pv 7) pe_int (fun _ _ => rfl)) (pa_cons (pe_lst pa_nil) pa_nil)))
      (pss_cons (ps_if (PW.pt (pw_or (pt_cmpR (r := rNeD K) (op_neD hr.units) (pe_fld (pv 8) rfl) (pv 5) (nomark _)) (pw_or1 (pt_cmpR (r := rNeD K) (op_neD hr.units) (pe_fld (pv 8) rfl) (pv 6) (nomark _))))) (pss_one (ps_ret pe_bl)) pss_nil)
      (pss_cons (ps_set (i := 10) sc__law_exchanges_right.nd rfl (by first | exact Or.inl rfl | exact Or.inr rfl) (pe_and (pe_cmpR (r := rEqD K) (op_eqD hr.units) (pe_cc c__law_exchanged (hr.mono (by decide)) (by rfl) (pa_cons (pv 0) (pa_cons (pv 5) pa_nil))) (pe_listRg rfl (by rfl) T.b_list (prg_1 (by rfl) T.b_range (pv 3))) (nomark _)) (pe_one (pe_cc c__law_ringed (hr.mono (by decide)) (by rfl) (pa_cons (pv 0) (pa_cons (pv 6) pa_nil))))))
      (pss_one (ps_ret (pe_cc c__law_says (hr.mono (by decide)) (by rfl) (pa_cons (pe_ct c_Exchanged_shows (hr.mono (by decide)) (pv 8) (pa_cons (pv 0) pa_nil)) (pa_cons (pe_and (pv 10) (pe_one (pe_cmpR op_eq (pe_op op_add (pe_callB (r := rLen2 K) call_len_seq (by rfl) T.b_len PySem.boot_len (pa_cons (pv 5) pa_nil)) (pe_callB (r := rLen2 K) call_len_seq (by rfl) T.b_len PySem.boot_len (pa_cons (pv 6) pa_nil))) (pv 3) (nomark _)))) pa_nil)))))))))))))))), ?_⟩
    walk_at "k"
    walk_at "go"
    refine ⟨a, ns, rfl, hS, R, fun x pp pr ts bs H1 s1 nx npp npr npe n1 m1 m2 O => ?_⟩
    have cnt : (ringsOf ns).length ≤ ns.length := ringsAux_count ns ns.length
    have cnp := exPairs_len R
    have rf : (ringsOf ns).flatten.length = ns.length := ringsOf_flat R
    have lps : (exPairs ns).length ≤ ns.length := by omega
    generalize ringsOf ns = rs at n1 O cnt cnp rf
    generalize exPairs ns = ps at O cnp lps
    clear cnp
    have rsl : ∀ r ∈ rs, r.length ≤ rs.flatten.length := fun r hr => flat_mem_le hr
    have lt := O.tf.1
    have lb := O.lf.1
    have hpp := O.hp
    have hrr := O.hr
    walk_at "go"
    refine ⟨c, 7, _, rfl, by omega, fun d1 H2 _ _ s2 => ?_⟩
    walk_at "go"
    refine ⟨c, 8, _, rfl, by omega, fun d2 H3 _ _ s3 => ?_⟩
    walk_at "go"
    refine ⟨by show 2 ≤ sizeLine; decide, fun t nt => ?_⟩
    have s14 : Same H1 (upd H3 t (oP (d1 - 1, d2 - 1))) := (s2.trans s3).trans (Same.one nt)
    have ht4 : (upd H3 t (oP (d1 - 1, d2 - 1))) t = some (oP (d1 - 1, d2 - 1)) := upd_same
    walk_at "go"
    generalize upd H3 t (oP (d1 - 1, d2 - 1)) = H4 at s14 ht4
    have O4 := O.same s14
    obtain ⟨dx4, ob4⟩ := O4.ob
    refine c_fld ob4 T.cl_Exchanged T.na_Exchanged_pairs (exF_pairs pp pr) ?_
    walk_at "go"
    refine ⟨Addr, V.ref, pp, ts, _, t, rfl, O4.hp, by omega, fun pq ts' H5 s5 npq hpq mm lm => ?_⟩
    have s15 := s14.trans s5
    obtain ⟨ps', T5⟩ := (O4.tf.same s5).bent (s5 _ _ ht4) mm
    have O5 := O.same s15
    obtain ⟨dx5, ob5⟩ := O5.ob
    walk_at "go"
    refine c_fld ob5 T.cl_Exchanged T.na_Exchanged_rings (exF_rings pp pr) ?_
    walk_at "go"
    refine ⟨pr, bs, rs, _, _, rfl, SqL.of O5.hr, O5.lf, by omega, by omega, by omega, fun pg fs gs H6 s6 npg hpg Lg bl bf => ?_⟩
    have s16 := s15.trans s6
    have hpq6 := s6 _ _ hpq
    have T6 := T5.same s6
    have lt' := T6.1
    have lf' := Lg.1
    have gsl : ∀ r ∈ gs, r.length ≤ gs.flatten.length := fun r hr => flat_mem_le hr
    have s06 : Same H H6 := s1.trans s16
    clear s5 s6 hpq npq npg T5 O5 ob5 O4 ob4 s14 ht4 s15 s16 s2 s3 nt mm
    walk_at "go"
    refine c_list (ys := ts'.map V.ref) (SqL.of hpq6) fun l1 nl1 => ?_
    have s67 : Same H6 (upd H6 l1 (.lst (ts'.map V.ref))) := Same.one nl1
    have h17 : (upd H6 l1 (.lst (ts'.map V.ref))) l1 = some (.lst (ts'.map V.ref)) := upd_same
    generalize upd H6 l1 (.lst (ts'.map V.ref)) = H7 at s67 h17
    walk_at "go"
    refine k_lcNf (as := fs) (xss := gs) oL (s67.seq (SqL.of hpg)) lf' (by omega) (fun _ => rfl) ?_ ?_
    · intro k t r H4 R' ht hr4 s4 k4
      have h4 : H4 t = some (oL r) := s4 _ _ (s67 _ _ (Lg.2 k t r ht hr4))
      walk_at "go"
      refine c_list (SqL.of h4) fun l nl => ?_
      exact k4 l _ nl (Same.one nl) upd_same
    intro l2 cs H8 nl2 s78 n8 m8 h28
    have h18 := s78 _ _ h17
    have e12 : l1 ≠ l2 := neo nl2 h17
    have s68 := s67.trans s78
    have n68 := n8.back s67
    have m1' : l1 ∉ cs := n8.notin1 h17
    have nl26 := s67.free nl2
    clear n8 s67 h17 nl2 s78
    walk_at "go"
    refine l_new (by show 2 ≤ sizeLine; decide) fun ph nph => ?_
    have e13 : l1 ≠ ph := neo nph h18
    have e23 : l2 ≠ ph := neo nph h28
    have m9 : ph ∉ cs := n68.notin nph
    have hh9 : (upd H8 ph (.lst [.ref l1, .ref l2])) ph = some (.lst ([l1, l2].map V.ref)) := upd_same
    have h19 := lift_ne (u := .lst [.ref l1, .ref l2]) h18 e13
    have h29 := lift_ne (u := .lst [.ref l1, .ref l2]) h28 e23
    have nph6 := s68.free nph
    have n69 := n68.mut (o := .lst [.ref l1, .ref l2]) m9
    have s69 : Same H6 (upd H8 ph (.lst [.ref l1, .ref l2])) := Same.new s68 nph6
    generalize upd H8 ph (.lst [.ref l1, .ref l2]) = H9 at hh9 h19 h29 n69 s69
    clear n68 s68 h18 h28 nph
    walk_at "go"
    refine o_ixM (f := V.ref) (xs := [l1, l2]) (j := 0) (x := l1) (SqL.of hh9) rfl rfl ?_
    walk_at "go"
    refine o_ixM (f := V.ref) (xs := [l1, l2]) (j := 1) (x := l2) (SqL.of hh9) rfl rfl ?_
    walk_at "go"
    intro y dy ny ndy nyd
    refine ⟨y, l1, l2, dy, ts', cs, ps', gs, H9, rfl, upd_same, by walk_at "same", ny, SqL.of h19, SqL.of h29, Lf.of n69, T6.same s69, by omega, fun r hr => by have := gsl r hr; omega, fun qp qr ds H10 s910 nqp nqr nqe n10 mq1 mq2 O10 => ⟨rfl, ?_⟩⟩
    have f1 : qp ≠ l1 := Ne.symm (neo nqp h19)
    have f2 : qp ≠ l2 := Ne.symm (neo nqp h29)
    have f4 : qr ≠ l1 := Ne.symm (neo nqr h19)
    have f5 : qr ≠ l2 := Ne.symm (neo nqr h29)
    have f7 : l1 ∉ ds := n10.notin1 h19
    have f8 : l2 ∉ ds := n10.notin1 h29
    have fc : ∀ z ∈ cs, qp ≠ z ∧ qr ≠ z ∧ z ∉ ds := fun z hz => by
      obtain ⟨r, _, _, hz9⟩ := n69.mem hz
      exact ⟨Ne.symm (neo nqp hz9), Ne.symm (neo nqr hz9), n10.notin1 hz9⟩
    have s610 := s69.trans s910
    have h110 := s910 _ _ h19
    have h210 := s910 _ _ h29
    have hh10 := s910 _ _ hh9
    have n610 := n69.same s910
    have ld := n10.len
    clear n10 s69 s910 h19 h29 hh9 n69 ny ndy nyd
    walk_at "go"
    refine o_ixM (f := V.ref) (xs := [l1, l2]) (j := 0) (x := l1) (SqL.of hh10) rfl rfl ?_
    walk_at "go"
    refine ⟨by show 2 ≤ sizeLine; decide, fun t2 nt2 => ?_⟩
    have h111 := lift_ne (u := .tup [.int 0, .int 1]) h110 (neo nt2 h110)
    have h211 := lift_ne (u := .tup [.int 0, .int 1]) h210 (neo nt2 h210)
    have hh11 := lift_ne (u := .tup [.int 0, .int 1]) hh10 (neo nt2 hh10)
    have O11 := O10.same (Same.one (o := .tup [.int 0, .int 1]) nt2)
    have n611 := n610.same (Same.one (o := .tup [.int 0, .int 1]) nt2)
    have s611 : Same H6 (upd H10 t2 (.tup [.int 0, .int 1])) := s610.trans (Same.one nt2)
    generalize upd H10 t2 (.tup [.int 0, .int 1]) = H11 at h111 h211 hh11 O11 n611 s611
    clear nt2 h110 h210 hh10 O10 n610 s610
    refine a_nil (m_appR h111 (by omega) ?_)
    have O12 := O11.mutQ (o := .lst ((ts' ++ [t2]).map V.ref)) h111 f1 f4 f7
    have h212 := lift_ne (u := .lst ((ts' ++ [t2]).map V.ref)) h211 (Ne.symm e12)
    have hh12 := lift_ne (u := .lst ((ts' ++ [t2]).map V.ref)) hh11 (Ne.symm e13)
    have n612 := n611.mut (o := .lst ((ts' ++ [t2]).map V.ref)) m1'
    have s612 : Same H6 (upd H11 l1 (.lst ((ts' ++ [t2]).map V.ref))) := Same.new s611 nl1
    generalize upd H11 l1 (.lst ((ts' ++ [t2]).map V.ref)) = H12 at O12 h212 hh12 n612 s612
    clear h111 h211 hh11 O11 n611 s611
    walk_at "go"
    refine o_ixM (f := V.ref) (xs := [l1, l2]) (j := 1) (x := l2) (SqL.of hh12) rfl rfl ?_
    have lc := n612.len
    refine k_lstN (f := V.ref) cs (fun i σ H' => ∃ (v9 : Option V) (ws : List (List Int)), σ = [some (.ref a), some (.int c), some (.ref x), some (.int (ns.length : Nat)), some (.ref t), some (.ref pq), some (.ref pg), some (.ref ph), some (.ref y), v9, none] ∧ Same H6 H' ∧ ExA C_Exchanged H' y qp qr ts' ds ps' gs ∧ News H6 H' oL cs ws ∧ H' l2 = some (.lst (cs.map V.ref)) ∧ H' ph = some (.lst ([l1, l2].map V.ref)) ∧ ∀ w ∈ ws, w.length ≤ 200 + i)
      (SqL.of h212) ⟨_, gs, rfl, s612, O12, n612, h212, hh12, fun w hw => by have := gsl w hw; omega⟩ (fun i σ H' _ ⟨_, _, _, _, _, _, h, _, _⟩ => SqL.of h) ?_ ?_
    · rintro i z σ H' hi ⟨v9, ws, rfl, s', O', n', h2', hh', bw⟩
      walk_at "d"
      obtain ⟨w, hw⟩ : ∃ w, ws[i]? = some w := ⟨_, List.getElem?_eq_getElem (by rw [← n'.len]; exact (List.getElem?_eq_some_iff.mp hi).1)⟩
      obtain ⟨nz, hz⟩ := n'.2.2 i z w hi hw
      have bz := bw w (List.mem_of_getElem? hw)
      have hil : i < cs.length := (List.getElem?_eq_some_iff.mp hi).1
      obtain ⟨g1, g2, g3⟩ := fc z (List.mem_of_getElem? hi)
      have zl2 : l2 ≠ z := fun e => m8 (by rw [e]; exact List.mem_of_getElem? hi)
      have zph : ph ≠ z := fun e => m9 (by rw [e]; exact List.mem_of_getElem? hi)
      walk_at "go"
      refine ⟨_, ws.set i (w ++ [0]), rfl, Same.new s' nz, O'.mutQ hz g1 g2 g3, n'.put hi, lift_ne h2' zl2, lift_ne hh' zph, fun u hu => ?_⟩
      rcases List.mem_or_eq_of_mem_set hu with hu | hu
      · have := bw u hu; omega
      · rw [hu, List.length_append]; simp; omega
    rintro σ H13 ⟨v9, ws, rfl, s613, O13, n613, h213, hh13, bw⟩
    clear O12 n612 s612 h212 hh12
    walk_at "d"
    walk_at "go"
    refine o_ixM (f := V.ref) (xs := [l1, l2]) (j := 1) (x := l2) (SqL.of hh13) rfl rfl ?_
    walk_at "go"
    refine l_new (Nat.zero_le _) fun l3 nl3 => ?_
    have h214 := lift_ne (u := .lst []) h213 (neo nl3 h213)
    have O14 := O13.same (Same.one (o := .lst []) nl3)
    have s614 : Same H6 (upd H13 l3 (.lst [])) := s613.trans (Same.one nl3)
    generalize upd H13 l3 (.lst []) = H14 at h214 O14 s614
    clear O13 n613 s613 h213 hh13 nl3
    walk_at "go"
    have O15 := O14.mutQ (o := .lst ((cs ++ [l3]).map V.ref)) h214 f2 f5 f8
    have s615 : Same H6 (upd H14 l2 (.lst ((cs ++ [l3]).map V.ref))) := Same.new s614 nl26
    generalize upd H14 l2 (.lst ((cs ++ [l3]).map V.ref)) = H15 at O15 s615
    clear O14 s614 h214
    obtain ⟨dx15, ob15⟩ := O15.ob
    have hq15 := s615 _ _ hpq6
    have hg15 := s615 _ _ hpg
    have T15 := T6.same s615
    have L15 := Lg.same s615
    have s015 := s06.trans s615
    walk_at "go"
    refine c_fld ob15 T.cl_Exchanged T.na_Exchanged_pairs (exF_pairs qp qr) ?_
    walk_at "go"
    refine o_nePP (SqL.of O15.hp) (SqL.of hq15) O15.tf T15 ?_
    walk_at "go"
    refine ite_ndecN rfl ?_
    walk_at "go"
    refine c_fld ob15 T.cl_Exchanged T.na_Exchanged_rings (exF_rings qp qr) ?_
    walk_at "go"
    refine o_neLf (SqL.of O15.hr) (SqL.of hg15) O15.lf L15 ?_
    walk_at "go"
    refine ite_ndecN rfl ?_
    walk_at "go"
    refine ⟨a, pq, ns, ts', ps', rfl, s015.seq hS, SqL.of hq15, T15, by omega, fun p2 H16 s16 np2 hp2 => ?_⟩
    walk_at "go"
    refine k_listRg (by omega) fun p3 np3 => ?_
    refine o_eqL (ns := exL ns ps') (ms := upTo ns.length) (by walk_at "sq") (by walk_at "sq") ?_
    have s17 : Same H15 (upd H16 p3 (.lst ((upTo ns.length).map V.int))) := s16.trans (Same.one np3)
    generalize upd H16 p3 (.lst ((upTo ns.length).map V.int)) = H17 at s17
    clear s16 np2 hp2 np3
    have e := exDue2 (ns := ns) (ps := ps') (rs := gs)
    walk_at "go"
    cases hA : decide (exL ns ps' = upTo ns.length) with
    | true =>
      rw [hA, Bool.true_and] at e
      walk_at "go"
      refine ⟨a, pg, ns, fs, gs, rfl, (s015.trans s17).seq hS, SqL.of (s17 _ _ hg15), L15.same s17, by omega, fun r hr => by have := gsl r hr; omega, by omega, fun H18 s178 => ?_⟩
      have s18 := s17.trans s178
      clear s178 s17
      walk_at "go"
      cases hB : ringed ns gs with
      | true =>
        rw [hB, Bool.true_and] at e
        have s018 := s015.trans s18
        have O18 := O15.same s18
        obtain ⟨dx18, ob18⟩ := O18.ob
        walk_at "go"
        refine k_meth ob18 (exF_none qp qr (by decide) (by decide)) ?_
        walk_at "go"
        refine ⟨y, qp, qr, a, ts', ds, ps', gs, ns, rfl, O18, s018.seq hS, by omega, by omega, by omega, fun r hr => by have := gsl r hr; omega, by omega, fun H19 s19 => ?_⟩
        have hq19 := s19 _ _ (s18 _ _ hq15)
        have hg19 := s19 _ _ (s18 _ _ hg15)
        walk_at "go"
        refine ⟨_, _, rfl, ?_⟩
        rw [e, show decide ((ps'.length : Int) + gs.length = ns.length) = decide ((ts'.length : Int) + fs.length = ns.length) by rw [lt', lf'], beq_self_eq_true]
        walk_at "go"
        exact q _ (s018.trans s19)
      | false =>
        rw [hB, Bool.false_and] at e
        have s018 := s015.trans s18
        have O18 := O15.same s18
        obtain ⟨dx18, ob18⟩ := O18.ob
        walk_at "go"
        refine k_meth ob18 (exF_none qp qr (by decide) (by decide)) ?_
        walk_at "go"
        refine ⟨y, qp, qr, a, ts', ds, ps', gs, ns, rfl, O18, s018.seq hS, by omega, by omega, by omega, fun r hr => by have := gsl r hr; omega, by omega, fun H19 s19 => ?_⟩
        have hq19 := s19 _ _ (s18 _ _ hq15)
        have hg19 := s19 _ _ (s18 _ _ hg15)
        walk_at "go"
        refine ⟨_, _, rfl, ?_⟩
        rw [e, beq_self_eq_true]
        walk_at "go"
        exact q _ (s018.trans s19)
    | false =>
      rw [hA, Bool.false_and, Bool.false_and] at e
      have s18 := s17
      clear s17
      have s018 := s015.trans s18
      have O18 := O15.same s18
      obtain ⟨dx18, ob18⟩ := O18.ob
      walk_at "go"
      refine k_meth ob18 (exF_none qp qr (by decide) (by decide)) ?_
      walk_at "go"
      refine ⟨y, qp, qr, a, ts', ds, ps', gs, ns, rfl, O18, s018.seq hS, by omega, by omega, by omega, fun r hr => by have := gsl r hr; omega, by omega, fun H19 s19 => ?_⟩
      have hq19 := s19 _ _ (s18 _ _ hq15)
      have hg19 := s19 _ _ (s18 _ _ hg15)
      walk_at "go"
      refine ⟨_, _, rfl, ?_⟩
      rw [e, beq_self_eq_true]
      walk_at "go"
      exact q _ (s018.trans s19)
end
end Bo

namespace Bo
open PySem PySem.Spec PyProof.Rows L2
/-! ### steps of a reading: each a row of its own -/
local macro_rules | `(tactic| walk_at "ne") => `(tactic| first
  | assumption
  | (apply Ne.symm; assumption)
  | (apply neo; assumption; walk_at "hp")
  | (apply Ne.symm; apply neo; assumption; walk_at "hp"))
local macro_rules | `(tactic| walk_at "hp") => `(tactic| first
  | assumption
  | exact upd_same
  | (apply lift_ne; walk_at "hp"; walk_at "ne")
  | (apply Same.up; assumption; walk_at "hp"))
local macro_rules | `(tactic| walk_at "same") => `(tactic| first
  | assumption
  | exact Same.refl _
  | (apply Same.new; walk_at "same"; walk_at "fr")
  | (apply same_trans; assumption; walk_at "same"))
local macro_rules | `(tactic| walk_at "fr") => `(tactic| first
  | assumption
  | (apply same_free; assumption; walk_at "same"))
local macro_rules | `(tactic| walk_at "sq") => `(tactic| first
  | assumption
  | (apply SqL.of; walk_at "hp")
  | (apply same_seq; assumption; walk_at "same"))
local macro_rules | `(tactic| walk_at "sqt") => `(tactic| first
  | assumption
  | (apply SqT.of; walk_at "hp")
  | (apply same_sqt; assumption; walk_at "same"))
local macro_rules | `(tactic| walk_at "nw") => `(tactic| first
  | assumption
  | (apply News.mut; walk_at "nw"; (first | assumption | (refine News.notin (by assumption) ?_; assumption)))
  | (apply News.same; walk_at "nw"; walk_at "same"))
/-! one step -/
local macro_rules | `(tactic| walk_at "go1") => `(tactic| first
  | with_reducible refine r_seq ?_
  | with_reducible refine r_asgN ?_
  | with_reducible refine r_set ?_
  | with_reducible refine r_ret ?_
  | with_reducible refine r_drop ?_
  | with_reducible refine r_if ?_
  | with_reducible refine r_next ?_
  | ((with_reducible apply r_nxD); with_reducible refine r_nx ?_)
  | ((with_reducible apply r_rtD); with_reducible refine r_rt ?_)
  | with_reducible refine r_par ?_
  | with_reducible refine k_par ?_
  | with_reducible refine r_fld ?_
  | ((with_reducible apply r_aug); exact rfl)
  | with_reducible refine i_ip ?_
  | ((with_reducible apply e_var); exact rfl)
  | with_reducible refine e_c ?_
  | with_reducible refine e_op ?_
  | with_reducible refine e_un ?_
  | with_reducible refine o_I0 ?_
  | with_reducible refine o_neg ?_
  | with_reducible refine o_eqI ?_
  | with_reducible refine o_neI ?_
  | with_reducible refine o_eqB ?_
  | with_reducible refine o_neB ?_
  | with_reducible refine o_eqS ?_
  | with_reducible refine o_neS ?_
  | with_reducible refine a_nil ?_
  | with_reducible refine a_cons ?_
  | with_reducible refine e_cb ?_
  | with_reducible refine e_call ?_
  | with_reducible refine e_make ?_
  | with_reducible refine e_meth ?_
  | with_reducible refine e_fld ?_
  | with_reducible refine e_lst ?_
  | with_reducible refine e_tup ?_
  | with_reducible refine e_bm ?_
  | with_reducible refine e_bm0 ?_
  | with_reducible refine e_rev ?_
  | with_reducible refine e_sl ?_
  | with_reducible refine e_nopart ?_
  | with_reducible refine e_part ?_
  | with_reducible refine i_ok ?_
  | with_reducible refine e_lenset ?_
  | with_reducible refine e_listRg1 ?_
  | with_reducible refine t_test ?_
  | with_reducible refine t_B ?_
  | with_reducible refine b_ok ?_
  | with_reducible refine t_and ?_
  | with_reducible refine t_or ?_
  | with_reducible refine t_not ?_
  | with_reducible refine v_and ?_
  | with_reducible refine v_or ?_
  | with_reducible refine v_not ?_
  | with_reducible refine e_if ?_
  | with_reducible refine e_chain ?_
  | with_reducible refine e_chain3 ?_
  | with_reducible refine iteT ?_
  | with_reducible refine iteF ?_
  | with_reducible refine ite_nT ?_
  | with_reducible refine ite_nF ?_
  | with_reducible refine r_forL ?_
  | with_reducible refine r_forT ?_
  | with_reducible refine r_forE ?_
  | with_reducible refine r_forR1 ?_
  | with_reducible refine r_forR2 ?_
  | with_reducible refine e_lcL ?_
  | with_reducible refine e_lcR1 ?_
  | with_reducible refine e_lcR2 ?_
  | with_reducible refine r_dput ?_
  | with_reducible refine e_dget ?_
  | with_reducible refine e_dnin ?_
  | with_reducible refine c_max2 ?_
  | with_reducible refine c_min2 ?_
  | ((with_reducible apply c_isiI); (first | exact (show kitB "int" _ = some true by decide +kernel) | exact (show kitB "int" _ = some false by decide +kernel)))
  | ((with_reducible apply m_ty); walk_at "sq"))
local macro_rules | `(tactic| walk_at "go2") => `(tactic| first
  | ((with_reducible apply o_ixI); walk_at "sq"; omega)
  | ((with_reducible refine o_mod ?_ ?_); omega)
  | ((with_reducible refine o_fdiv ?_ ?_); omega)
  | ((with_reducible refine o_mulR ?_ ?_); omega)
  | ((with_reducible refine o_mulL ?_ ?_); omega)
  | ((with_reducible apply c_lenM); walk_at "sq")
  | ((with_reducible apply c_all); walk_at "sq")
  | ((with_reducible apply c_any); walk_at "sq")
  | ((with_reducible apply o_in); walk_at "sq")
  | ((with_reducible apply o_nin); walk_at "sq")
  | ((with_reducible apply o_ixB); walk_at "sq"; omega)
  | ((with_reducible apply m_setB); walk_at "hp"; omega)
  | ((with_reducible apply m_appR); walk_at "hp"; omega)
  | ((with_reducible apply m_ins); walk_at "hp"; omega; omega)
  | ((with_reducible apply m_appM); walk_at "hp"; exact rfl; omega)
  | ((with_reducible apply m_setI); walk_at "hp"; omega))
local macro_rules | `(tactic| walk_at "d") => `(tactic| try dsimp only)
local macro_rules | `(tactic| walk_at "k") => `(tactic| try dsimp only [cxOf, Cx.nox, Cx.blk])
local macro_rules | `(tactic| walk_at "go") => `(tactic| repeat (first | walk_at "go1" | walk_at "go2"))

section
variable {P : Program} {w : World} {K : PySem.W.Frag} {mg : Str → Option Value} {base : Heap} {C_Exchanged C_Fronted C_Ended C_Put C_Answer : Addr} (T : Top K mg C_Exchanged C_Fronted C_Ended C_Put C_Answer)
include T

def sp_enr (K : PySem.W.Frag) : Sp := fun vs H Q _ => ∃ (a : Addr) (ns : List Int) (c : Int), vs = [.ref a, .int c] ∧ SqL K H a (ns.map V.int) ∧ IsRow ns ∧ ns.length ≤ 63 ∧ ∀ H', Same H H' → Q (.bl true) H'
theorem ok__law_ends_right : Cc P w K mg base 4 "_law_ends_right" (sp_enr K) := by
  have c__law_bent := ok__law_bent (P := P) (w := w) (base := base) T
  have c__law_draw := ok__law_draw (P := P) (w := w) (base := base) T
  have c_fronted := ok_fronted (P := P) (w := w) (base := base) T
  have c_Fronted := ok_Fronted___init__ (P := P) (w := w) (base := base) T
  have c__law_says := ok__law_says (P := P) (w := w) (base := base) T
  have c__law_front_due := ok__law_front_due (P := P) (w := w) (base := base) T
  have c_Fronted_shows := ok_Fronted_shows (P := P) (w := w) (base := base) T
  have c_ended := ok_ended (P := P) (w := w) (base := base) T
  have c_Ended := ok_Ended___init__ (P := P) (w := w) (base := base) T
  have c__law_end_due := ok__law_end_due (P := P) (w := w) (base := base) T
  have c_Ended_shows := ok_Ended_shows (P := P) (w := w) (base := base) T
  refine Cc.mk' T.d__law_ends_right sc__law_ends_right ?_ ?_
  · rintro vs H Q E ⟨a, ns, c, rfl, _⟩; rfl
  · rintro f' cdv A outer s H vs Q E hr ⟨a, ns, c, rfl, hS, R, hl, q⟩
    refine ⟨_, (pss_cons (ps_set (i := 2) sc__law_ends_right.nd rfl (by first | exact Or.inl rfl | exact Or.inr rfl) (pe_callB (r := rLen2 K) call_len_seq (by rfl) T.b_len PySem.boot_len (pa_cons (pv 0) pa_nil)))
      (pss_cons (ps_set (i := 3) sc__law_ends_right.nd rfl (by first | exact Or.inl rfl | exact Or.inr rfl) (pe_cc c__law_bent (hr.mono (by decide)) (by rfl) (pa_cons (pe_fld (pe_cc c_fronted (hr.mono (by decide)) (by rfl) (pa_cons (pv 0) pa_nil)) rfl) (pa_cons (pv 1) (pa_cons (pe_op op_sub (pe_cc c__law_draw (hr.mono (by decide)) (by rfl) (pa_cons (pv 1) (pa_cons pe_int (pa_cons (pe_op op_add (pv 2) pe_int) pa_nil)))) pe_int) pa_nil)))))
      (pss_cons (ps_set (i := 4) sc__law_ends_right.nd rfl (by first | exact Or.inl rfl | exact Or.inr rfl) (pe_callTy (r := rList2 K) call_list_of (by rfl) T.b_list PyProof.Rows.boot_list (pa_cons (pv 3) pa_nil)))
      (pss_cons (ps_set (i := 5) sc__law_ends_right.nd rfl (by first | exact Or.inl rfl | exact Or.inr rfl) (pe_cm c_Fronted (hr.mono (by decide)) (by rfl) (pa_cons (pv 4) pa_nil)))
      (pss_cons (ps_expr (pe_bm PySem.F.plainAttrs_list PySem.F.slot_list_append PySem.F.type_list_append mt_append (pv 4) (pa_cons pe_int pa_nil)))
      (pss_cons (ps_if (PW.pt (pw_or (pt_cmpR (r := rNeD K) (op_neD hr.units) (pe_fld (pv 5) rfl) (pv 3) (nomark _)) (pw_or1 (pt_not (pt_val (pe_cc c__law_says (hr.mono (by decide)) (by rfl) (pa_cons (pe_ct c_Fronted_shows (hr.mono (by decide)) (pv 5) (pa_cons (pv 0) pa_nil)) (pa_cons (pe_cc c__law_front_due (hr.mono (by decide)) (by rfl) (pa_cons (pv 0) (pa_cons (pv 3) pa_nil))) pa_nil)))))))) (pss_one (ps_ret pe_bl)) pss_nil)
      (Bo.pss_cut (ps_set (i := 3) sc__law_ends_right.nd rfl (by first | exact Or.inl rfl | exact Or.inr rfl) (pe_ifExp (Bo.pt_tru (pe_cc c__law_draw (hr.mono (by decide)) (by rfl) (pa_cons (pv 1) (pa_cons pe_int (pa_cons pe_int pa_nil))))) (pe_revL (pv 0)) (pe_revL (pe_listRg rfl (by rfl) T.b_list (prg_1 (by rfl) T.b_range (pv 2))))))
      (pss_cons (ps_if (pt_not (pt_val (pe_cc c__law_says (hr.mono (by decide)) (by rfl) (pa_cons (pe_ct c_Fronted_shows (hr.mono (by decide)) (pe_cm c_Fronted (hr.mono (by decide)) (by rfl) (pa_cons (pv 3) pa_nil)) (pa_cons (pv 0) pa_nil)) (pa_cons (pe_cc c__law_front_due (hr.mono (by decide)) (by rfl) (pa_cons (pv 0) (pa_cons (pv 3) pa_nil))) pa_nil))))) (pss_one (ps_ret pe_bl)) pss_nil)
      (pss_cons (ps_set (i := 6) sc__law_ends_right.nd rfl (by first | exact Or.inl rfl | exact Or.inr rfl) (pe_tup (pa_cons (pe_op op_sub (pe_cc c__law_draw (hr.mono (by decide)) (by rfl) (pa_cons (pv 1) (pa_cons pe_int (pa_cons (pe_op op_add (pv 2) pe_int) pa_nil)))) pe_int) (pa_cons (pe_cc c__law_draw (hr.mono (by decide)) (by rfl) (pa_cons (pv 1) (pa_cons pe_int (pa_cons pe_int pa_nil)))) pa_nil))))
      (pss_cons (ps_set (i := 7) sc__law_ends_right.nd rfl (by first | exact Or.inl rfl | exact Or.inr rfl) (pe_cc c__law_bent (hr.mono (by decide)) (by rfl) (pa_cons (pe_fld (pe_cc c_ended (hr.mono (by decide)) (by rfl) (pa_cons (pv 0) pa_nil)) rfl) (pa_cons (pe_op op_fdiv (pv 1) pe_int) (pa_cons (pv 6) pa_nil)))))
      (pss_cons (ps_set (i := 4) sc__law_ends_right.nd rfl (by first | exact Or.inl rfl | exact Or.inr rfl) (pe_callTy (r := rList2 K) call_list_of (by rfl) T.b_list PyProof.Rows.boot_list (pa_cons (pv 7) pa_nil)))
      (pss_cons (ps_set (i := 5) sc__law_ends_right.nd rfl (by first | exact Or.inl rfl | exact Or.inr rfl) (pe_cm c_Ended (hr.mono (by decide)) (by rfl) (pa_cons (pv 4) pa_nil)))
      (pss_cons (ps_expr (pe_bm PySem.F.plainAttrs_list PySem.F.slot_list_append PySem.F.type_list_append mt_append (pv 4) (pa_cons (pe_tup (pa_cons pe_int (pa_cons pe_int pa_nil))) pa_nil)))
      (pss_one (ps_ret (pe_and (pe_cmpR (r := rEqD K) (op_eqD hr.units) (pe_fld (pv 5) rfl) (pv 7) (nomark _)) (pe_one (pe_cc c__law_says (hr.mono (by decide)) (by rfl) (pa_cons (pe_ct c_Ended_shows (hr.mono (by decide)) (pv 5) (pa_cons (pv 0) pa_nil)) (pa_cons (pe_cc c__law_end_due (hr.mono (by decide)) (by rfl) (pa_cons (pv 0) (pa_cons (pv 7) pa_nil))) pa_nil)))))))))))))))))))), ?_⟩
    walk_at "k"
    walk_at "go"
    refine ⟨a, ns, rfl, hS, R, fun x0 pt0 k H1 s1 nx0 npt0 I O => ?_⟩
    have hk := I.le
    have lk : (upTo k).reverse.length = k := by rw [List.length_reverse, upTo_length]
    generalize (upTo k).reverse = th at O lk
    obtain ⟨dx1, ob1⟩ := O.ob
    walk_at "go"
    refine c_fld ob1 T.cl_Fronted T.na_Fronted_things (oneF_at _ pt0) ?_
    walk_at "go"
    refine ⟨c, 9, _, rfl, by omega, fun d1 H2 _ _ s2 => ?_⟩
    walk_at "go"
    refine ⟨Int, V.int, pt0, th, c, d1 - 1, rfl, s2 _ _ O.ht, by omega, fun pq ts H3 s3 npq hpq mm lm => ?_⟩
    have s03 : Same H H3 := (s1.trans s2).trans s3
    clear s1 s2 s3 npq ob1 O mm
    walk_at "go"
    refine c_list (ys := ts.map V.int) (SqL.of hpq) fun ph nph => ?_
    have s34 : Same H3 (upd H3 ph (.lst (ts.map V.int))) := Same.one nph
    have hph : (upd H3 ph (.lst (ts.map V.int))) ph = some (.lst (ts.map V.int)) := upd_same
    generalize upd H3 ph (.lst (ts.map V.int)) = H4 at s34 hph
    walk_at "go"
    intro y dy ny ndy nyd
    refine ⟨y, ph, dy, ts, H4, rfl, upd_same, by walk_at "same", ny, SqL.of hph, fun pu H5 s5 npu O5 => ⟨rfl, ?_⟩⟩
    have e1 : pu ≠ ph := Ne.symm (neo npu hph)
    have hph5 := s5 _ _ hph
    have s35 := s34.trans s5
    clear s34 s5 hph npu ny ndy nyd
    walk_at "go"
    have O6 := O5.mutQ (o := .lst ((ts ++ [0]).map V.int)) hph5 e1
    have s36 : Same H3 (upd H5 ph (.lst ((ts ++ [0]).map V.int))) := Same.new s35 nph
    generalize upd H5 ph (.lst ((ts ++ [0]).map V.int)) = H6 at O6 s36
    clear O5 s35 hph5
    have hpq6 := s36 _ _ hpq
    have s06 := s03.trans s36
    obtain ⟨dx6, ob6⟩ := O6.ob
    refine c_fld ob6 T.cl_Fronted T.na_Fronted_things (oneF_at _ pu) ?_
    walk_at "go"
    refine o_neL (ns := ts) (ms := ts) (SqL.of O6.ht) (SqL.of hpq6) ?_
    walk_at "go"
    refine ite_ndecN rfl ?_
    walk_at "go"
    refine k_meth ob6 (oneF_none pu (by decide)) ?_
    walk_at "go"
    refine ⟨y, pu, a, ts, ns, rfl, O6, s06.seq hS, R, by omega, fun H7 s7 => ?_⟩
    walk_at "go"
    refine ⟨a, pq, ns, ts, rfl, (s06.trans s7).seq hS, SqL.of (s7 _ _ hpq6), R, by omega, fun H8 s8 => ?_⟩
    walk_at "go"
    refine ⟨_, _, rfl, ?_⟩
    rw [beq_self_eq_true]
    have s08 := (s06.trans s7).trans s8
    clear s7 s8 O6 ob6 hpq6 s36 s06 s03 hpq
    walk_at "go"
    -- things anew: the row backwards, or all things falling
    refine c_cut (fun σ' H' => ∃ (p : Addr) (us : List Int), σ' = [some (.ref a), some (.int c), some (.int (ns.length : Nat)), some (.ref p), some (.ref ph), some (.ref y), none, none] ∧ Same H H' ∧ H' p = some (.lst (us.map V.int)) ∧ us.length ≤ 63) ?_ ?_
    · walk_at "go"
      refine t_tru ?_
      walk_at "go"
      refine ⟨c, 10, 2, rfl, by decide, fun d H9 _ _ s9 => k_truI ?_⟩
      have s09 := s08.trans s9
      refine ite_bl (fun _ => ?_) (fun _ => ?_)
      · walk_at "go"
        refine c_rev (f := V.int) (xs := ns) (s09.seq hS) fun p np => ?_
        walk_at "go"
        exact ⟨p, ns.reverse, rfl, Same.new s09 (s09.free np), upd_same, by rw [List.length_reverse]; exact hl⟩
      · walk_at "go"
        refine k_listRg (by omega) fun p1 np1 => ?_
        walk_at "go"
        refine c_rev (f := V.int) (xs := upTo ns.length) (SqL.of upd_same) fun p np => ?_
        walk_at "go"
        refine ⟨p, (upTo ns.length).reverse, rfl, by walk_at "same", upd_same, by rw [List.length_reverse, upTo_length]; exact hl⟩
    clear s08
    rintro σ' H9 ⟨p, us, rfl, s09, hp9, lu⟩
    walk_at "go"
    intro y2 dy ny ndy nyd
    refine ⟨y2, p, dy, us, H9, rfl, upd_same, by walk_at "same", ny, SqL.of hp9, fun pu2 H10 s10 npu2 O10 => ⟨rfl, ?_⟩⟩
    have s010 := s09.trans s10
    have hp10 := s10 _ _ hp9
    clear ny ndy nyd npu2
    obtain ⟨dx10, ob10⟩ := O10.ob
    refine k_meth ob10 (oneF_none pu2 (by decide)) ?_
    walk_at "go"
    refine ⟨y2, pu2, a, us, ns, rfl, O10, s010.seq hS, R, by omega, fun H11 s11 => ?_⟩
    walk_at "go"
    refine ⟨a, p, ns, us, rfl, (s010.trans s11).seq hS, SqL.of (s11 _ _ hp10), R, by omega, fun H12 s12 => ?_⟩
    walk_at "go"
    refine ⟨_, _, rfl, ?_⟩
    rw [beq_self_eq_true]
    have s012 := (s010.trans s11).trans s12
    clear s11 s12 O10 ob10 hp10 s010 s09 hp9 s10
    walk_at "go"
    refine ⟨c, 7, _, rfl, by omega, fun d3 H13 _ _ s13 => ?_⟩
    walk_at "go"
    refine ⟨c, 8, _, rfl, by decide, fun d4 H14 _ _ s14 => ?_⟩
    walk_at "go"
    refine ⟨by show 2 ≤ sizeLine; decide, fun t nt => ?_⟩
    have s015 : Same H (upd H14 t (oP (d3 - 1, d4))) := (s012.trans (s13.trans s14)).trans (Same.one nt)
    have ht15 : (upd H14 t (oP (d3 - 1, d4))) t = some (oP (d3 - 1, d4)) := upd_same
    walk_at "go"
    generalize upd H14 t (oP (d3 - 1, d4)) = H15 at s015 ht15
    clear s012 s13 s14 nt
    refine ⟨a, ns, rfl, s015.seq hS, R, fun x1 pt1 ws H16 s16 nx1 npt1 O16 => ?_⟩
    have ml := enMoves_len R
    have mb : 0 ≤ (runOf ns).b1 := (LI.all R _ (Nat.le_refl _)).b.2.1
    have mt := O16.tf.1
    have lws : ws.length ≤ ns.length := by omega
    obtain ⟨dx16, ob16⟩ := O16.ob
    walk_at "go"
    refine c_fld ob16 T.cl_Ended T.na_Ended_moves (oneF_at _ pt1) ?_
    walk_at "go"
    refine ⟨Addr, V.ref, pt1, ws, _, t, rfl, O16.hm, by omega, fun pm ts' H17 s17 npm hpm mm lm2 => ?_⟩
    obtain ⟨ps', T17⟩ := (O16.tf.same s17).bent (s17 _ _ (s16 _ _ ht15)) mm
    have s017 := (s015.trans s16).trans s17
    have lt' := T17.1
    clear s16 s17 ob16 O16 npm mm ht15
    walk_at "go"
    refine c_list (ys := ts'.map V.ref) (SqL.of hpm) fun ph2 nph2 => ?_
    have s34 : Same H17 (upd H17 ph2 (.lst (ts'.map V.ref))) := Same.one nph2
    have hph : (upd H17 ph2 (.lst (ts'.map V.ref))) ph2 = some (.lst (ts'.map V.ref)) := upd_same
    generalize upd H17 ph2 (.lst (ts'.map V.ref)) = H18 at s34 hph
    walk_at "go"
    intro y3 dy ny ndy nyd
    refine ⟨y3, ph2, dy, ts', ps', H18, rfl, upd_same, by walk_at "same", ny, SqL.of hph, T17.same s34, fun pu H19 s19 npu O19 => ⟨rfl, ?_⟩⟩
    have e2 : pu ≠ ph2 := Ne.symm (neo npu hph)
    have hph19 := s19 _ _ hph
    have s1719 := s34.trans s19
    clear s34 s19 hph npu ny ndy nyd
    walk_at "go"
    refine ⟨by show 2 ≤ sizeLine; decide, fun t2 nt2 => ?_⟩
    have hph20 := lift_ne (u := .tup [.int 0, .int 0]) hph19 (neo nt2 hph19)
    have O20 := O19.same (Same.one (o := .tup [.int 0, .int 0]) nt2)
    have s20 : Same H17 (upd H19 t2 (.tup [.int 0, .int 0])) := s1719.trans (Same.one nt2)
    generalize upd H19 t2 (.tup [.int 0, .int 0]) = H20 at hph20 O20 s20
    clear nt2 hph19 O19 s1719
    refine a_nil (m_appR hph20 (by omega) ?_)
    have O21 := O20.mutQ (o := .lst ((ts' ++ [t2]).map V.ref)) hph20 e2
    have s21 : Same H17 (upd H20 ph2 (.lst ((ts' ++ [t2]).map V.ref))) := Same.new s20 nph2
    generalize upd H20 ph2 (.lst ((ts' ++ [t2]).map V.ref)) = H21 at O21 s21
    clear O20 s20 hph20
    have hpm21 := s21 _ _ hpm
    have T21 := T17.same s21
    have s021 := s017.trans s21
    obtain ⟨dx21, ob21⟩ := O21.ob
    walk_at "go"
    refine c_fld ob21 T.cl_Ended T.na_Ended_moves (oneF_at _ pu) ?_
    walk_at "go"
    refine o_eqPP (SqL.of O21.hm) (SqL.of hpm21) O21.tf T21 ?_
    walk_at "go"
    refine ite_decY rfl ?_
    walk_at "go"
    refine k_meth ob21 (oneF_none pu (by decide)) ?_
    walk_at "go"
    refine ⟨y3, pu, a, ts', ps', ns, rfl, O21, s021.seq hS, R, by omega, fun H22 s22 => ?_⟩
    walk_at "go"
    refine ⟨a, pm, ns, ts', ps', rfl, (s021.trans s22).seq hS, SqL.of (s22 _ _ hpm21), T21.same s22, R, by omega, fun H23 s23 => ?_⟩
    walk_at "go"
    refine ⟨_, _, rfl, ?_⟩
    rw [beq_self_eq_true]
    walk_at "go"
    exact q _ ((s021.trans s22).trans s23)
end
end Bo

namespace Bo
open PySem PySem.Spec PyProof.Rows L2
/-! ### steps of a reading: each a row of its own -/
local macro_rules | `(tactic| walk_at "ne") => `(tactic| first
  | assumption
  | (apply Ne.symm; assumption)
  | (apply neo; assumption; walk_at "hp")
  | (apply Ne.symm; apply neo; assumption; walk_at "hp"))
local macro_rules | `(tactic| walk_at "hp") => `(tactic| first
  | assumption
  | exact upd_same
  | (apply lift_ne; walk_at "hp"; walk_at "ne")
  | (apply Same.up; assumption; walk_at "hp"))
local macro_rules | `(tactic| walk_at "same") => `(tactic| first
  | assumption
  | exact Same.refl _
  | (apply Same.new; walk_at "same"; walk_at "fr")
  | (apply same_trans; assumption; walk_at "same"))
local macro_rules | `(tactic| walk_at "fr") => `(tactic| first
  | assumption
  | (apply same_free; assumption; walk_at "same"))
local macro_rules | `(tactic| walk_at "sq") => `(tactic| first
  | assumption
  | (apply SqL.of; walk_at "hp")
  | (apply same_seq; assumption; walk_at "same"))
local macro_rules | `(tactic| walk_at "sqt") => `(tactic| first
  | assumption
  | (apply SqT.of; walk_at "hp")
  | (apply same_sqt; assumption; walk_at "same"))
local macro_rules | `(tactic| walk_at "nw") => `(tactic| first
  | assumption
  | (apply News.mut; walk_at "nw"; (first | assumption | (refine News.notin (by assumption) ?_; assumption)))
  | (apply News.same; walk_at "nw"; walk_at "same"))
/-! one step -/
local macro_rules | `(tactic| walk_at "go1") => `(tactic| first
  | with_reducible refine r_seq ?_
  | with_reducible refine r_asgN ?_
  | with_reducible refine r_set ?_
  | with_reducible refine r_ret ?_
  | with_reducible refine r_drop ?_
  | with_reducible refine r_if ?_
  | with_reducible refine r_next ?_
  | ((with_reducible apply r_nxD); with_reducible refine r_nx ?_)
  | ((with_reducible apply r_rtD); with_reducible refine r_rt ?_)
  | with_reducible refine r_par ?_
  | with_reducible refine k_par ?_
  | with_reducible refine r_fld ?_
  | ((with_reducible apply r_aug); exact rfl)
  | with_reducible refine i_ip ?_
  | ((with_reducible apply e_var); exact rfl)
  | with_reducible refine e_c ?_
  | with_reducible refine e_op ?_
  | with_reducible refine e_un ?_
  | with_reducible refine o_I0 ?_
  | with_reducible refine o_neg ?_
  | with_reducible refine o_eqI ?_
  | with_reducible refine o_neI ?_
  | with_reducible refine o_eqB ?_
  | with_reducible refine o_neB ?_
  | with_reducible refine o_eqS ?_
  | with_reducible refine o_neS ?_
  | with_reducible refine a_nil ?_
  | with_reducible refine a_cons ?_
  | with_reducible refine e_cb ?_
  | with_reducible refine e_call ?_
  | with_reducible refine e_make ?_
  | with_reducible refine e_meth ?_
  | with_reducible refine e_fld ?_
  | with_reducible refine e_lst ?_
  | with_reducible refine e_tup ?_
  | with_reducible refine e_bm ?_
  | with_reducible refine e_bm0 ?_
  | with_reducible refine e_rev ?_
  | with_reducible refine e_sl ?_
  | with_reducible refine e_nopart ?_
  | with_reducible refine e_part ?_
  | with_reducible refine i_ok ?_
  | with_reducible refine e_lenset ?_
  | with_reducible refine e_listRg1 ?_
  | with_reducible refine t_test ?_
  | with_reducible refine t_B ?_
  | with_reducible refine b_ok ?_
  | with_reducible refine t_and ?_
  | with_reducible refine t_or ?_
  | with_reducible refine t_not ?_
  | with_reducible refine v_and ?_
  | with_reducible refine v_or ?_
  | with_reducible refine v_not ?_
  | with_reducible refine e_if ?_
  | with_reducible refine e_chain ?_
  | with_reducible refine e_chain3 ?_
  | with_reducible refine iteT ?_
  | with_reducible refine iteF ?_
  | with_reducible refine ite_nT ?_
  | with_reducible refine ite_nF ?_
  | with_reducible refine r_forL ?_
  | with_reducible refine r_forT ?_
  | with_reducible refine r_forE ?_
  | with_reducible refine r_forR1 ?_
  | with_reducible refine r_forR2 ?_
  | with_reducible refine e_lcL ?_
  | with_reducible refine e_lcR1 ?_
  | with_reducible refine e_lcR2 ?_
  | with_reducible refine r_dput ?_
  | with_reducible refine e_dget ?_
  | with_reducible refine e_dnin ?_
  | with_reducible refine c_max2 ?_
  | with_reducible refine c_min2 ?_
  | ((with_reducible apply c_isiI); (first | exact (show kitB "int" _ = some true by decide +kernel) | exact (show kitB "int" _ = some false by decide +kernel)))
  | ((with_reducible apply m_ty); walk_at "sq"))
local macro_rules | `(tactic| walk_at "go2") => `(tactic| first
  | ((with_reducible apply o_ixI); walk_at "sq"; omega)
  | ((with_reducible refine o_mod ?_ ?_); omega)
  | ((with_reducible refine o_fdiv ?_ ?_); omega)
  | ((with_reducible refine o_mulR ?_ ?_); omega)
  | ((with_reducible refine o_mulL ?_ ?_); omega)
  | ((with_reducible apply c_lenM); walk_at "sq")
  | ((with_reducible apply c_all); walk_at "sq")
  | ((with_reducible apply c_any); walk_at "sq")
  | ((with_reducible apply o_in); walk_at "sq")
  | ((with_reducible apply o_nin); walk_at "sq")
  | ((with_reducible apply o_ixB); walk_at "sq"; omega)
  | ((with_reducible apply m_setB); walk_at "hp"; omega)
  | ((with_reducible apply m_appR); walk_at "hp"; omega)
  | ((with_reducible apply m_ins); walk_at "hp"; omega; omega)
  | ((with_reducible apply m_appM); walk_at "hp"; exact rfl; omega)
  | ((with_reducible apply m_setI); walk_at "hp"; omega))
local macro_rules | `(tactic| walk_at "d") => `(tactic| try dsimp only)
local macro_rules | `(tactic| walk_at "k") => `(tactic| try dsimp only [cxOf, Cx.nox, Cx.blk])
local macro_rules | `(tactic| walk_at "go") => `(tactic| repeat (first | walk_at "go1" | walk_at "go2"))

section
variable {P : Program} {w : World} {K : PySem.W.Frag} {mg : Str → Option Value} {base : Heap} {C_Exchanged C_Fronted C_Ended C_Put C_Answer : Addr} (T : Top K mg C_Exchanged C_Fronted C_Ended C_Put C_Answer)
include T

def sp_pur (K : PySem.W.Frag) : Sp := fun vs H Q _ => ∃ (a : Addr) (ns : List Int) (c : Int), vs = [.ref a, .int c] ∧ SqL K H a (ns.map V.int) ∧ IsRow ns ∧ ns.length ≤ 63 ∧ ∀ H', Same H H' → Q (.bl true) H'
theorem ok__law_puts_right : Cc P w K mg base 4 "_law_puts_right" (sp_pur K) := by
  have c_put := ok_put (P := P) (w := w) (base := base) T
  have c__law_draw := ok__law_draw (P := P) (w := w) (base := base) T
  have c__law_bent := ok__law_bent (P := P) (w := w) (base := base) T
  have c__law_bent_parts := ok__law_bent_parts (P := P) (w := w) (base := base) T
  have c_Put := ok_Put___init__ (P := P) (w := w) (base := base) T
  have c__law_says := ok__law_says (P := P) (w := w) (base := base) T
  have c__law_put_due := ok__law_put_due (P := P) (w := w) (base := base) T
  have c_Put_shows := ok_Put_shows (P := P) (w := w) (base := base) T
  refine Cc.mk' T.d__law_puts_right sc__law_puts_right ?_ ?_
  · rintro vs H Q E ⟨a, ns, c, rfl, _⟩; rfl
  · rintro f' cdv A outer s H vs Q E hr ⟨a, ns, c, rfl, hS, R, hl, q⟩
    refine ⟨_, (pss_cons (ps_par (i := 2) (j := 3) rfl sc__law_puts_right.nd rfl rfl (by decide) rfl rfl (pa_cons (pe_cc c_put (hr.mono (by decide)) (by rfl) (pa_cons (pv 0) pa_nil)) (pa_cons (pe_callB (r := rLen2 K) call_len_seq (by rfl) T.b_len PySem.boot_len (pa_cons (pv 0) pa_nil)) pa_nil)) (by rfl))
      (pss_cons (ps_set (i := 4) sc__law_puts_right.nd rfl (by first | exact Or.inl rfl | exact Or.inr rfl) (pe_tup (pa_cons (pe_op op_sub (pe_cc c__law_draw (hr.mono (by decide)) (by rfl) (pa_cons (pv 1) (pa_cons pe_int (pa_cons (pe_op op_add (pv 3) pe_int) pa_nil)))) pe_int) (pa_cons (pe_op op_sub (pe_cc c__law_draw (hr.mono (by decide)) (by rfl) (pa_cons (pv 1) (pa_cons pe_int (pa_cons (pe_op op_add (pv 3) pe_int) pa_nil)))) pe_int) pa_nil))))
      (pss_cons (ps_set (i := 5) sc__law_puts_right.nd rfl (by first | exact Or.inl rfl | exact Or.inr rfl) (pe_cc c__law_bent (hr.mono (by decide)) (by rfl) (pa_cons (pe_fld (pv 2) rfl) (pa_cons (pe_op op_fdiv (pv 1) pe_int) (pa_cons (pv 4) pa_nil)))))
      (pss_cons (ps_set (i := 6) sc__law_puts_right.nd rfl (by first | exact Or.inl rfl | exact Or.inr rfl) (pe_cc c__law_bent_parts (hr.mono (by decide)) (by rfl) (pa_cons (pe_fld (pv 2) rfl) (pa_cons (pe_op op_fdiv (pv 1) pe_int) (pa_cons (pv 3) pa_nil)))))
      (pss_cons (ps_set (i := 7) sc__law_puts_right.nd rfl (by first | exact Or.inl rfl | exact Or.inr rfl) (pe_lst (pa_cons (pe_callTy (r := rList2 K) call_list_of (by rfl) T.b_list PyProof.Rows.boot_list (pa_cons (pv 5) pa_nil)) (pa_cons (pe_lc (own := [("_law_fall", 9)]) (g := gName 9) (tt := tYes) rfl sc__law_puts_right.nd (pi_list (pv 6)) (blkOk_by (own := [("_law_fall", 9)]) (N := N__law_puts_right) (sc := defScope s__law_puts_right) (by decide +kernel)) (fun _ _ _ _ _ => (pg_name (i := 9) sc__law_puts_right.nd rfl (Or.inl rfl))) (fun _ _ _ _ _ => pts_nil) (fun _ _ _ _ _ => (pe_callTy (r := rList2 K) call_list_of (by rfl) T.b_list PyProof.Rows.boot_list (pa_cons (pv 9) pa_nil)))) pa_nil))))
      (pss_cons (ps_set (i := 8) sc__law_puts_right.nd rfl (by first | exact Or.inl rfl | exact Or.inr rfl) (pe_cm c_Put (hr.mono (by decide)) (by rfl) (pa_cons (pe_ix (r := rIxL K) ix_list (pv 7) pe_int (fun _ _ => rfl)) (pa_cons (pe_ix (r := rIxL K) ix_list (pv 7) pe_int (fun _ _ => rfl)) pa_nil))))
      (pss_cons (ps_expr (pe_bm PySem.F.plainAttrs_list PySem.F.slot_list_append PySem.F.type_list_append mt_append (pe_ix (r := rIxL K) ix_list (pv 7) pe_int (fun _ _ => rfl)) (pa_cons (pe_tup (pa_cons pe_int (pa_cons pe_int pa_nil))) pa_nil)))
      (pss_cons (ps_for PassesOwn.never rfl (pi_list (pe_ix (r := rIxL K) ix_list (pv 7) pe_int (fun _ _ => rfl))) (pg_name (i := 9) sc__law_puts_right.nd rfl (by first | exact Or.inl rfl | exact Or.inr rfl)) (pss_one (ps_expr (pe_bm PySem.F.plainAttrs_list PySem.F.slot_list_append PySem.F.type_list_append mt_append (pv 9) (pa_cons pe_int pa_nil)))))
      (pss_cons (ps_expr (pe_bm PySem.F.plainAttrs_list PySem.F.slot_list_append PySem.F.type_list_append mt_append (pe_ix (r := rIxL K) ix_list (pv 7) pe_int (fun _ _ => rfl)) (pa_cons (pe_lst pa_nil) pa_nil)))
      (pss_cons (ps_if (PW.pt (pw_or (pt_cmpR (r := rNeD K) (op_neD hr.units) (pe_fld (pv 8) rfl) (pv 5) (nomark _)) (pw_or1 (pt_cmpR (r := rNeD K) (op_neD hr.units) (pe_fld (pv 8) rfl) (pv 6) (nomark _))))) (pss_one (ps_ret pe_bl)) pss_nil)
      (pss_one (ps_ret (pe_cc c__law_says (hr.mono (by decide)) (by rfl) (pa_cons (pe_ct c_Put_shows (hr.mono (by decide)) (pv 8) (pa_cons (pv 0) pa_nil)) (pa_cons (pe_cc c__law_put_due (hr.mono (by decide)) (by rfl) (pa_cons (pv 0) (pa_cons (pv 5) (pa_cons (pv 6) pa_nil)))) pa_nil))))))))))))))), ?_⟩
    walk_at "k"
    walk_at "go"
    refine ⟨a, ns, rfl, hS, R, fun x pp pr ts bs ps rs H1 s1 nx npp npr npe n1 m1 m2 O _ lps cnt rf _ => ?_⟩
    have rsl : ∀ r ∈ rs, r.length ≤ rs.flatten.length := fun r hr => flat_mem_le hr
    have lt := O.tf.1
    have lb := O.lf.1
    have hpp := O.hp
    have hrr := O.hr
    walk_at "go"
    refine ⟨c, 7, _, rfl, by omega, fun d1 H2 _ _ s2 => ?_⟩
    walk_at "go"
    refine ⟨c, 8, _, rfl, by omega, fun d2 H3 _ _ s3 => ?_⟩
    walk_at "go"
    refine ⟨by show 2 ≤ sizeLine; decide, fun t nt => ?_⟩
    have s14 : Same H1 (upd H3 t (oP (d1 - 1, d2 - 1))) := (s2.trans s3).trans (Same.one nt)
    have ht4 : (upd H3 t (oP (d1 - 1, d2 - 1))) t = some (oP (d1 - 1, d2 - 1)) := upd_same
    walk_at "go"
    generalize upd H3 t (oP (d1 - 1, d2 - 1)) = H4 at s14 ht4
    have O4 := O.same s14
    obtain ⟨dx4, ob4⟩ := O4.ob
    refine c_fld ob4 T.cl_Put T.na_Put_moves (puF_moves pp pr) ?_
    walk_at "go"
    refine ⟨Addr, V.ref, pp, ts, _, t, rfl, O4.hp, by omega, fun pq ts' H5 s5 npq hpq mm lm => ?_⟩
    have s15 := s14.trans s5
    obtain ⟨ps', T5⟩ := (O4.tf.same s5).bent (s5 _ _ ht4) mm
    have O5 := O.same s15
    obtain ⟨dx5, ob5⟩ := O5.ob
    walk_at "go"
    refine c_fld ob5 T.cl_Put T.na_Put_falls (puF_falls pp pr) ?_
    walk_at "go"
    refine ⟨pr, bs, rs, _, _, rfl, SqL.of O5.hr, O5.lf, by omega, by omega, by omega, fun pg fs gs H6 s6 npg hpg Lg bl bf => ?_⟩
    have s16 := s15.trans s6
    have hpq6 := s6 _ _ hpq
    have T6 := T5.same s6
    have lt' := T6.1
    have lf' := Lg.1
    have gsl : ∀ r ∈ gs, r.length ≤ gs.flatten.length := fun r hr => flat_mem_le hr
    have s06 : Same H H6 := s1.trans s16
    clear s5 s6 hpq npq npg T5 O5 ob5 O4 ob4 s14 ht4 s15 s16 s2 s3 nt mm
    walk_at "go"
    refine c_list (ys := ts'.map V.ref) (SqL.of hpq6) fun l1 nl1 => ?_
    have s67 : Same H6 (upd H6 l1 (.lst (ts'.map V.ref))) := Same.one nl1
    have h17 : (upd H6 l1 (.lst (ts'.map V.ref))) l1 = some (.lst (ts'.map V.ref)) := upd_same
    generalize upd H6 l1 (.lst (ts'.map V.ref)) = H7 at s67 h17
    walk_at "go"
    refine k_lcNf (as := fs) (xss := gs) oL (s67.seq (SqL.of hpg)) lf' (by omega) (fun _ => rfl) ?_ ?_
    · intro k t r H4 R' ht hr4 s4 k4
      have h4 : H4 t = some (oL r) := s4 _ _ (s67 _ _ (Lg.2 k t r ht hr4))
      walk_at "go"
      refine c_list (SqL.of h4) fun l nl => ?_
      exact k4 l _ nl (Same.one nl) upd_same
    intro l2 cs H8 nl2 s78 n8 m8 h28
    have h18 := s78 _ _ h17
    have e12 : l1 ≠ l2 := neo nl2 h17
    have s68 := s67.trans s78
    have n68 := n8.back s67
    have m1' : l1 ∉ cs := n8.notin1 h17
    have nl26 := s67.free nl2
    clear n8 s67 h17 nl2 s78
    walk_at "go"
    refine l_new (by show 2 ≤ sizeLine; decide) fun ph nph => ?_
    have e13 : l1 ≠ ph := neo nph h18
    have e23 : l2 ≠ ph := neo nph h28
    have m9 : ph ∉ cs := n68.notin nph
    have hh9 : (upd H8 ph (.lst [.ref l1, .ref l2])) ph = some (.lst ([l1, l2].map V.ref)) := upd_same
    have h19 := lift_ne (u := .lst [.ref l1, .ref l2]) h18 e13
    have h29 := lift_ne (u := .lst [.ref l1, .ref l2]) h28 e23
    have nph6 := s68.free nph
    have n69 := n68.mut (o := .lst [.ref l1, .ref l2]) m9
    have s69 : Same H6 (upd H8 ph (.lst [.ref l1, .ref l2])) := Same.new s68 nph6
    generalize upd H8 ph (.lst [.ref l1, .ref l2]) = H9 at hh9 h19 h29 n69 s69
    clear n68 s68 h18 h28 nph
    walk_at "go"
    refine o_ixM (f := V.ref) (xs := [l1, l2]) (j := 0) (x := l1) (SqL.of hh9) rfl rfl ?_
    walk_at "go"
    refine o_ixM (f := V.ref) (xs := [l1, l2]) (j := 1) (x := l2) (SqL.of hh9) rfl rfl ?_
    walk_at "go"
    intro y dy ny ndy nyd
    refine ⟨y, l1, l2, dy, ts', cs, ps', gs, H9, rfl, upd_same, by walk_at "same", ny, SqL.of h19, SqL.of h29, Lf.of n69, T6.same s69, by omega, fun qp qr ds H10 s910 nqp nqr nqe n10 mq1 mq2 O10 => ⟨rfl, ?_⟩⟩
    have f1 : qp ≠ l1 := Ne.symm (neo nqp h19)
    have f2 : qp ≠ l2 := Ne.symm (neo nqp h29)
    have f4 : qr ≠ l1 := Ne.symm (neo nqr h19)
    have f5 : qr ≠ l2 := Ne.symm (neo nqr h29)
    have f7 : l1 ∉ ds := n10.notin1 h19
    have f8 : l2 ∉ ds := n10.notin1 h29
    have fc : ∀ z ∈ cs, qp ≠ z ∧ qr ≠ z ∧ z ∉ ds := fun z hz => by
      obtain ⟨r, _, _, hz9⟩ := n69.mem hz
      exact ⟨Ne.symm (neo nqp hz9), Ne.symm (neo nqr hz9), n10.notin1 hz9⟩
    have s610 := s69.trans s910
    have h110 := s910 _ _ h19
    have h210 := s910 _ _ h29
    have hh10 := s910 _ _ hh9
    have n610 := n69.same s910
    have ld := n10.len
    clear n10 s69 s910 h19 h29 hh9 n69 ny ndy nyd
    walk_at "go"
    refine o_ixM (f := V.ref) (xs := [l1, l2]) (j := 0) (x := l1) (SqL.of hh10) rfl rfl ?_
    walk_at "go"
    refine ⟨by show 2 ≤ sizeLine; decide, fun t2 nt2 => ?_⟩
    have h111 := lift_ne (u := .tup [.int 0, .int 0]) h110 (neo nt2 h110)
    have h211 := lift_ne (u := .tup [.int 0, .int 0]) h210 (neo nt2 h210)
    have hh11 := lift_ne (u := .tup [.int 0, .int 0]) hh10 (neo nt2 hh10)
    have O11 := O10.same (Same.one (o := .tup [.int 0, .int 0]) nt2)
    have n611 := n610.same (Same.one (o := .tup [.int 0, .int 0]) nt2)
    have s611 : Same H6 (upd H10 t2 (.tup [.int 0, .int 0])) := s610.trans (Same.one nt2)
    generalize upd H10 t2 (.tup [.int 0, .int 0]) = H11 at h111 h211 hh11 O11 n611 s611
    clear nt2 h110 h210 hh10 O10 n610 s610
    refine a_nil (m_appR h111 (by omega) ?_)
    have O12 := O11.mutQ (o := .lst ((ts' ++ [t2]).map V.ref)) h111 f1 f4 f7
    have h212 := lift_ne (u := .lst ((ts' ++ [t2]).map V.ref)) h211 (Ne.symm e12)
    have hh12 := lift_ne (u := .lst ((ts' ++ [t2]).map V.ref)) hh11 (Ne.symm e13)
    have n612 := n611.mut (o := .lst ((ts' ++ [t2]).map V.ref)) m1'
    have s612 : Same H6 (upd H11 l1 (.lst ((ts' ++ [t2]).map V.ref))) := Same.new s611 nl1
    generalize upd H11 l1 (.lst ((ts' ++ [t2]).map V.ref)) = H12 at O12 h212 hh12 n612 s612
    clear h111 h211 hh11 O11 n611 s611
    walk_at "go"
    refine o_ixM (f := V.ref) (xs := [l1, l2]) (j := 1) (x := l2) (SqL.of hh12) rfl rfl ?_
    have lc := n612.len
    refine k_lstN (f := V.ref) cs (fun i σ H' => ∃ (v9 : Option V) (ws : List (List Int)), σ = [some (.ref a), some (.int c), some (.ref x), some (.int (ns.length : Nat)), some (.ref t), some (.ref pq), some (.ref pg), some (.ref ph), some (.ref y), v9] ∧ Same H6 H' ∧ PuA C_Put H' y qp qr ts' ds ps' gs ∧ News H6 H' oL cs ws ∧ H' l2 = some (.lst (cs.map V.ref)) ∧ H' ph = some (.lst ([l1, l2].map V.ref)) ∧ ∀ w ∈ ws, w.length ≤ 200 + i)
      (SqL.of h212) ⟨_, gs, rfl, s612, O12, n612, h212, hh12, fun w hw => by have := gsl w hw; omega⟩ (fun i σ H' _ ⟨_, _, _, _, _, _, h, _, _⟩ => SqL.of h) ?_ ?_
    · rintro i z σ H' hi ⟨v9, ws, rfl, s', O', n', h2', hh', bw⟩
      walk_at "d"
      obtain ⟨w, hw⟩ : ∃ w, ws[i]? = some w := ⟨_, List.getElem?_eq_getElem (by rw [← n'.len]; exact (List.getElem?_eq_some_iff.mp hi).1)⟩
      obtain ⟨nz, hz⟩ := n'.2.2 i z w hi hw
      have bz := bw w (List.mem_of_getElem? hw)
      have hil : i < cs.length := (List.getElem?_eq_some_iff.mp hi).1
      obtain ⟨g1, g2, g3⟩ := fc z (List.mem_of_getElem? hi)
      have zl2 : l2 ≠ z := fun e => m8 (by rw [e]; exact List.mem_of_getElem? hi)
      have zph : ph ≠ z := fun e => m9 (by rw [e]; exact List.mem_of_getElem? hi)
      walk_at "go"
      refine ⟨_, ws.set i (w ++ [0]), rfl, Same.new s' nz, O'.mutQ hz g1 g2 g3, n'.put hi, lift_ne h2' zl2, lift_ne hh' zph, fun u hu => ?_⟩
      rcases List.mem_or_eq_of_mem_set hu with hu | hu
      · have := bw u hu; omega
      · rw [hu, List.length_append]; simp; omega
    rintro σ H13 ⟨v9, ws, rfl, s613, O13, n613, h213, hh13, bw⟩
    clear O12 n612 s612 h212 hh12
    walk_at "d"
    walk_at "go"
    refine o_ixM (f := V.ref) (xs := [l1, l2]) (j := 1) (x := l2) (SqL.of hh13) rfl rfl ?_
    walk_at "go"
    refine l_new (Nat.zero_le _) fun l3 nl3 => ?_
    have h214 := lift_ne (u := .lst []) h213 (neo nl3 h213)
    have O14 := O13.same (Same.one (o := .lst []) nl3)
    have s614 : Same H6 (upd H13 l3 (.lst [])) := s613.trans (Same.one nl3)
    generalize upd H13 l3 (.lst []) = H14 at h214 O14 s614
    clear O13 n613 s613 h213 hh13 nl3
    walk_at "go"
    have O15 := O14.mutQ (o := .lst ((cs ++ [l3]).map V.ref)) h214 f2 f5 f8
    have s615 : Same H6 (upd H14 l2 (.lst ((cs ++ [l3]).map V.ref))) := Same.new s614 nl26
    generalize upd H14 l2 (.lst ((cs ++ [l3]).map V.ref)) = H15 at O15 s615
    clear O14 s614 h214
    obtain ⟨dx15, ob15⟩ := O15.ob
    have hq15 := s615 _ _ hpq6
    have hg15 := s615 _ _ hpg
    have T15 := T6.same s615
    have L15 := Lg.same s615
    have s015 := s06.trans s615
    walk_at "go"
    refine c_fld ob15 T.cl_Put T.na_Put_moves (puF_moves qp qr) ?_
    walk_at "go"
    refine o_nePP (SqL.of O15.hp) (SqL.of hq15) O15.tf T15 ?_
    walk_at "go"
    refine ite_ndecN rfl ?_
    walk_at "go"
    refine c_fld ob15 T.cl_Put T.na_Put_falls (puF_falls qp qr) ?_
    walk_at "go"
    refine o_neLf (SqL.of O15.hr) (SqL.of hg15) O15.lf L15 ?_
    walk_at "go"
    refine ite_ndecN rfl ?_
    walk_at "go"
    have O18 := O15
    obtain ⟨dx18, ob18⟩ := O18.ob
    refine k_meth ob18 (puF_none qp qr (by decide) (by decide)) ?_
    walk_at "go"
    refine ⟨y, qp, qr, a, ts', ds, ps', gs, ns, rfl, O18, s015.seq hS, R, by omega, by omega, fun r hr => by have := gsl r hr; omega, by omega, fun H19 s19 => ?_⟩
    walk_at "go"
    refine ⟨a, pq, pg, ns, ts', fs, ps', gs, rfl, (s015.trans s19).seq hS, SqL.of (s19 _ _ hq15), SqL.of (s19 _ _ hg15), T15.same s19, L15.same s19, R, fun r hr => by have := gsl r hr; omega, by omega, fun H20 s20 => ?_⟩
    walk_at "go"
    refine ⟨_, _, rfl, ?_⟩
    rw [beq_self_eq_true]
    walk_at "go"
    exact q _ ((s015.trans s19).trans s20)
end
end Bo

namespace Bo
open PySem PySem.Spec PyProof.Rows L2
/-! answers written out -/
def ItF (P : List Int → Bool → Prop) (H : Hp) (t : Addr) : Prop := ∃ (u : V) (b : Bool) (things : List Int), H t = some (.tup [u, .bl b]) ∧ (∃ l, u = .ref l ∧ H l = some (.lst (things.map V.int))) ∧ P things b
def ItQ (P : List Int → Prop) (H : Hp) (t : Addr) : Prop := ∃ things : List Int, H t = some (.lst (things.map V.int)) ∧ P things
def QL (H : Hp) (u : V) (rs : List (List Int)) : Prop := ∃ l as, u = .ref l ∧ H l = some (.lst (List.map V.ref as)) ∧ Lf H as rs
def QP (H : Hp) (u : V) (ps : List (Int × Int)) : Prop := ∃ l ts, u = .ref l ∧ H l = some (.lst (List.map V.ref ts)) ∧ Tf H ts ps
def ItL (P : List (List Int) → Bool → Prop) (H : Hp) (t : Addr) : Prop := ∃ (u : V) (b : Bool) (rs : List (List Int)), H t = some (.tup [u, .bl b]) ∧ QL H u rs ∧ P rs b
def ItP (P : List (Int × Int) → Bool → Prop) (H : Hp) (t : Addr) : Prop := ∃ (u : V) (b : Bool) (ps : List (Int × Int)), H t = some (.tup [u, .bl b]) ∧ QP H u ps ∧ P ps b
def ItPL (P : List (Int × Int) → List (List Int) → Prop) (H : Hp) (t : Addr) : Prop := ∃ (u v : V) (ps : List (Int × Int)) (rs : List (List Int)), H t = some (.tup [u, v]) ∧ QP H u ps ∧ QL H v rs ∧ P ps rs
def ItPLb (P : List (Int × Int) → List (List Int) → Bool → Prop) (H : Hp) (t : Addr) : Prop := ∃ (u v : V) (b : Bool) (ps : List (Int × Int)) (rs : List (List Int)), H t = some (.tup [u, v, .bl b]) ∧ QP H u ps ∧ QL H v rs ∧ P ps rs b
theorem QL.same {H H' : Hp} {u : V} {rs : List (List Int)} (h : QL H u rs) (s : Same H H') : QL H' u rs := by
  obtain ⟨l, as, e, hl, lf⟩ := h
  exact ⟨l, as, e, s _ _ hl, lf.same s⟩
theorem QP.same {H H' : Hp} {u : V} {ps : List (Int × Int)} (h : QP H u ps) (s : Same H H') : QP H' u ps := by
  obtain ⟨l, ts, e, hl, tf⟩ := h
  exact ⟨l, ts, e, s _ _ hl, tf.same s⟩
theorem ItF.same {P : List Int → Bool → Prop} {H H' : Hp} {t : Addr} (h : ItF P H t) (s : Same H H') : ItF P H' t := by
  obtain ⟨u, b, things, ht, ⟨l, e, hl⟩, p⟩ := h
  exact ⟨u, b, things, s _ _ ht, ⟨l, e, s _ _ hl⟩, p⟩
theorem ItQ.same {P : List Int → Prop} {H H' : Hp} {t : Addr} (h : ItQ P H t) (s : Same H H') : ItQ P H' t := by
  obtain ⟨things, ht, p⟩ := h
  exact ⟨things, s _ _ ht, p⟩
theorem ItL.same {P : List (List Int) → Bool → Prop} {H H' : Hp} {t : Addr} (h : ItL P H t) (s : Same H H') : ItL P H' t := by
  obtain ⟨u, b, rs, ht, q, p⟩ := h
  exact ⟨u, b, rs, s _ _ ht, q.same s, p⟩
theorem ItP.same {P : List (Int × Int) → Bool → Prop} {H H' : Hp} {t : Addr} (h : ItP P H t) (s : Same H H') : ItP P H' t := by
  obtain ⟨u, b, ps, ht, q, p⟩ := h
  exact ⟨u, b, ps, s _ _ ht, q.same s, p⟩
theorem ItPL.same {P : List (Int × Int) → List (List Int) → Prop} {H H' : Hp} {t : Addr} (h : ItPL P H t) (s : Same H H') : ItPL P H' t := by
  obtain ⟨u, v, ps, rs, ht, q, q', p⟩ := h
  exact ⟨u, v, ps, rs, s _ _ ht, q.same s, q'.same s, p⟩
theorem ItPLb.same {P : List (Int × Int) → List (List Int) → Bool → Prop} {H H' : Hp} {t : Addr} (h : ItPLb P H t) (s : Same H H') : ItPLb P H' t := by
  obtain ⟨u, v, b, ps, rs, ht, q, q', p⟩ := h
  exact ⟨u, v, b, ps, rs, s _ _ ht, q.same s, q'.same s, p⟩
def Small (rs : List (List Int)) : Prop := rs.length ≤ 10 ∧ (∀ r ∈ rs, r.length ≤ 10) ∧ rs.flatten.length ≤ 10
instance (rs : List (List Int)) : Decidable (Small rs) := by unfold Small; infer_instance
theorem fm {P : Addr → Prop} {a : Addr} {as : List Addr} (h : P a) (t : ∀ x ∈ as, P x) : ∀ x ∈ a :: as, P x := List.forall_mem_cons.mpr ⟨h, t⟩
theorem fm0 {P : Addr → Prop} : ∀ x ∈ ([] : List Addr), P x := fun x h => absurd h (by simp)
theorem Tf.nil {H : Hp} : Tf H [] [] := ⟨rfl, fun i t p a b => by simp at a⟩
theorem row_10 : IsRow [1, 0] := ⟨by decide, by decide, by decide⟩
theorem row_01 : IsRow [0, 1] := ⟨by decide, by decide, by decide⟩
theorem row_012 : IsRow [0, 1, 2] := ⟨by decide, by decide, by decide⟩
theorem row_201 : IsRow [2, 0, 1] := ⟨by decide, by decide, by decide⟩
theorem row_2013 : IsRow [2, 0, 1, 3] := ⟨by decide, by decide, by decide⟩
theorem gen_D {t : TS} {D : Ends} {σ : L2.St} {H : Hp} (h : ∀ a b c d, D.nx = a → D.rt = b → t (Ends.mk a b c d) σ H) : t D σ H := h D.nx D.rt D.bk D.ct rfl rfl
/-! ### steps of a reading: each a row of its own -/
local macro_rules | `(tactic| walk_at "ne") => `(tactic| first
  | assumption
  | (apply Ne.symm; assumption)
  | (apply neo; assumption; walk_at "hp")
  | (apply Ne.symm; apply neo; assumption; walk_at "hp"))
local macro_rules | `(tactic| walk_at "hp") => `(tactic| first
  | assumption
  | exact upd_same
  | (apply lift_ne; walk_at "hp"; walk_at "ne")
  | (apply Same.up; assumption; walk_at "hp"))
local macro_rules | `(tactic| walk_at "same") => `(tactic| first
  | assumption
  | exact Same.refl _
  | (apply Same.new; walk_at "same"; walk_at "fr")
  | (apply same_trans; assumption; walk_at "same"))
local macro_rules | `(tactic| walk_at "fr") => `(tactic| first
  | assumption
  | (apply same_free; assumption; walk_at "same"))
local macro_rules | `(tactic| walk_at "sq") => `(tactic| first
  | assumption
  | (apply SqL.of; walk_at "hp")
  | (apply same_seq; assumption; walk_at "same"))
local macro_rules | `(tactic| walk_at "sqt") => `(tactic| first
  | assumption
  | (apply SqT.of; walk_at "hp")
  | (apply same_sqt; assumption; walk_at "same"))
local macro_rules | `(tactic| walk_at "nw") => `(tactic| first
  | assumption
  | (apply News.mut; walk_at "nw"; (first | assumption | (refine News.notin (by assumption) ?_; assumption)))
  | (apply News.same; walk_at "nw"; walk_at "same"))
/-! one step -/
local macro_rules | `(tactic| walk_at "go1") => `(tactic| first
  | with_reducible refine r_seq ?_
  | with_reducible refine r_asgN ?_
  | with_reducible refine r_set ?_
  | with_reducible refine r_ret ?_
  | with_reducible refine r_drop ?_
  | with_reducible refine r_if ?_
  | with_reducible refine r_next ?_
  | ((with_reducible apply r_nxD); with_reducible refine r_nx ?_)
  | ((with_reducible apply r_rtD); with_reducible refine r_rt ?_)
  | with_reducible refine r_par ?_
  | with_reducible refine k_par ?_
  | with_reducible refine r_fld ?_
  | ((with_reducible apply r_aug); exact rfl)
  | with_reducible refine i_ip ?_
  | ((with_reducible apply e_var); exact rfl)
  | with_reducible refine e_c ?_
  | with_reducible refine e_op ?_
  | with_reducible refine e_un ?_
  | with_reducible refine o_I0 ?_
  | with_reducible refine o_neg ?_
  | with_reducible refine o_eqI ?_
  | with_reducible refine o_neI ?_
  | with_reducible refine o_eqB ?_
  | with_reducible refine o_neB ?_
  | with_reducible refine o_eqS ?_
  | with_reducible refine o_neS ?_
  | with_reducible refine a_nil ?_
  | with_reducible refine a_cons ?_
  | with_reducible refine e_cb ?_
  | with_reducible refine e_call ?_
  | with_reducible refine e_make ?_
  | with_reducible refine e_meth ?_
  | with_reducible refine e_fld ?_
  | with_reducible refine e_lst ?_
  | with_reducible refine e_tup ?_
  | with_reducible refine e_bm ?_
  | with_reducible refine e_bm0 ?_
  | with_reducible refine e_rev ?_
  | with_reducible refine e_sl ?_
  | with_reducible refine e_nopart ?_
  | with_reducible refine e_part ?_
  | with_reducible refine i_ok ?_
  | with_reducible refine e_lenset ?_
  | with_reducible refine e_listRg1 ?_
  | with_reducible refine t_test ?_
  | with_reducible refine t_B ?_
  | with_reducible refine b_ok ?_
  | with_reducible refine t_and ?_
  | with_reducible refine t_or ?_
  | with_reducible refine t_not ?_
  | with_reducible refine v_and ?_
  | with_reducible refine v_or ?_
  | with_reducible refine v_not ?_
  | with_reducible refine e_if ?_
  | with_reducible refine e_chain ?_
  | with_reducible refine e_chain3 ?_
  | with_reducible refine iteT ?_
  | with_reducible refine iteF ?_
  | with_reducible refine ite_nT ?_
  | with_reducible refine ite_nF ?_
  | with_reducible refine r_forL ?_
  | with_reducible refine r_forT ?_
  | with_reducible refine r_forE ?_
  | with_reducible refine r_forR1 ?_
  | with_reducible refine r_forR2 ?_
  | with_reducible refine e_lcL ?_
  | with_reducible refine e_lcR1 ?_
  | with_reducible refine e_lcR2 ?_
  | with_reducible refine r_dput ?_
  | with_reducible refine e_dget ?_
  | with_reducible refine e_dnin ?_
  | with_reducible refine c_max2 ?_
  | with_reducible refine c_min2 ?_
  | ((with_reducible apply c_isiI); (first | exact (show kitB "int" _ = some true by decide +kernel) | exact (show kitB "int" _ = some false by decide +kernel)))
  | ((with_reducible apply m_ty); walk_at "sq"))
local macro_rules | `(tactic| walk_at "go2") => `(tactic| first
  | ((with_reducible apply o_ixI); walk_at "sq"; omega)
  | ((with_reducible refine o_mod ?_ ?_); omega)
  | ((with_reducible refine o_fdiv ?_ ?_); omega)
  | ((with_reducible refine o_mulR ?_ ?_); omega)
  | ((with_reducible refine o_mulL ?_ ?_); omega)
  | ((with_reducible apply c_lenM); walk_at "sq")
  | ((with_reducible apply c_all); walk_at "sq")
  | ((with_reducible apply c_any); walk_at "sq")
  | ((with_reducible apply o_in); walk_at "sq")
  | ((with_reducible apply o_nin); walk_at "sq")
  | ((with_reducible apply o_ixB); walk_at "sq"; omega)
  | ((with_reducible apply m_setB); walk_at "hp"; omega)
  | ((with_reducible apply m_appR); walk_at "hp"; omega)
  | ((with_reducible apply m_ins); walk_at "hp"; omega; omega)
  | ((with_reducible apply m_appM); walk_at "hp"; exact rfl; omega)
  | ((with_reducible apply m_setI); walk_at "hp"; omega))
local macro_rules | `(tactic| walk_at "d") => `(tactic| try dsimp only)
local macro_rules | `(tactic| walk_at "k") => `(tactic| try dsimp only [cxOf, Cx.nox, Cx.blk])
local macro_rules | `(tactic| walk_at "go") => `(tactic| repeat (first | walk_at "go1" | walk_at "go2"))

section
variable {P : Program} {w : World} {K : PySem.W.Frag} {mg : Str → Option Value} {base : Heap} {C_Exchanged C_Fronted C_Ended C_Put C_Answer : Addr} (T : Top K mg C_Exchanged C_Fronted C_Ended C_Put C_Answer)
include T

def sp_few : Sp := fun vs H Q _ => vs = [] ∧ ∀ H', Q (.bl true) H'
theorem ok__law_few_right : Cc P w K mg base 5 "_law_few_right" sp_few := by
  have c__law_says := ok__law_says (P := P) (w := w) (base := base) T
  have c_Fronted_shows := ok_Fronted_shows (P := P) (w := w) (base := base) T
  have c_Fronted := ok_Fronted___init__ (P := P) (w := w) (base := base) T
  have c_Exchanged_shows := ok_Exchanged_shows (P := P) (w := w) (base := base) T
  have c_Exchanged := ok_Exchanged___init__ (P := P) (w := w) (base := base) T
  have c_Put_shows := ok_Put_shows (P := P) (w := w) (base := base) T
  have c_Put := ok_Put___init__ (P := P) (w := w) (base := base) T
  have c_Ended_shows := ok_Ended_shows (P := P) (w := w) (base := base) T
  have c_Ended := ok_Ended___init__ (P := P) (w := w) (base := base) T
  refine Cc.mk' T.d__law_few_right sc__law_few_right ?_ ?_
  · rintro vs H Q E ⟨rfl, _⟩; rfl
  · rintro f' cdv A outer s H vs Q E hr ⟨rfl, q⟩
    refine ⟨_, (pss_cons (ps_for PassesOwn.never rfl (pi_list (pe_lst (pa_cons (pe_tup (pa_cons (pe_lst (pa_cons pe_int pa_nil)) (pa_cons pe_bl pa_nil))) (pa_cons (pe_tup (pa_cons (pe_lst (pa_cons pe_int (pa_cons pe_int pa_nil))) (pa_cons pe_bl pa_nil))) (pa_cons (pe_tup (pa_cons (pe_lst (pa_cons pe_int (pa_cons pe_int pa_nil))) (pa_cons pe_bl pa_nil))) (pa_cons (pe_tup (pa_cons (pe_lst pa_nil) (pa_cons pe_bl pa_nil))) pa_nil)))))) (pg_tup rfl (pgs_cons (pg_name (i := 0) sc__law_few_right.nd rfl (by first | exact Or.inl rfl | exact Or.inr rfl)) (pgs_cons (pg_name (i := 1) sc__law_few_right.nd rfl (by first | exact Or.inl rfl | exact Or.inr rfl)) pgs_nil))) (pss_one (ps_if (pt_not (pt_val (pe_cc c__law_says (hr.mono (by decide)) (by rfl) (pa_cons (pe_ct c_Fronted_shows (hr.mono (by decide)) (pe_cm c_Fronted (hr.mono (by decide)) (by rfl) (pa_cons (pv 0) pa_nil)) (pa_cons (pe_lst (pa_cons pe_int (pa_cons pe_int pa_nil))) pa_nil)) (pa_cons (pv 1) pa_nil))))) (pss_one (ps_ret pe_bl)) pss_nil)))
      (pss_cons (ps_if (pt_not (pt_val (pe_cc c__law_says (hr.mono (by decide)) (by rfl) (pa_cons (pe_ct c_Exchanged_shows (hr.mono (by decide)) (pe_cm c_Exchanged (hr.mono (by decide)) (by rfl) (pa_cons (pe_lst pa_nil) (pa_cons (pe_lst (pa_cons (pe_lst (pa_cons pe_int pa_nil)) (pa_cons (pe_lst (pa_cons pe_int pa_nil)) pa_nil))) pa_nil))) (pa_cons (pe_lst (pa_cons pe_int (pa_cons pe_int (pa_cons pe_int pa_nil)))) pa_nil)) (pa_cons pe_bl pa_nil))))) (pss_one (ps_ret pe_bl)) pss_nil)
      (pss_cons (ps_if (pt_not (pt_val (pe_cc c__law_says (hr.mono (by decide)) (by rfl) (pa_cons (pe_ct c_Put_shows (hr.mono (by decide)) (pe_cm c_Put (hr.mono (by decide)) (by rfl) (pa_cons (pe_lst pa_nil) (pa_cons (pe_lst (pa_cons (pe_lst (pa_cons pe_int pa_nil)) pa_nil)) pa_nil))) (pa_cons (pe_lst (pa_cons pe_int (pa_cons pe_int pa_nil))) pa_nil)) (pa_cons pe_bl pa_nil))))) (pss_one (ps_ret pe_bl)) pss_nil)
      (pss_cons (ps_for PassesOwn.never rfl (pi_list (pe_lst (pa_cons (pe_tup (pa_cons (pe_lst (pa_cons (pe_lst (pa_cons pe_int (pa_cons pe_int pa_nil))) (pa_cons (pe_lst (pa_cons pe_int pa_nil)) pa_nil))) (pa_cons pe_bl pa_nil))) (pa_cons (pe_tup (pa_cons (pe_lst (pa_cons (pe_lst (pa_cons pe_int (pa_cons pe_int pa_nil))) (pa_cons (pe_lst (pa_cons pe_int pa_nil)) pa_nil))) (pa_cons pe_bl pa_nil))) (pa_cons (pe_tup (pa_cons (pe_lst (pa_cons (pe_lst (pa_cons pe_int (pa_cons pe_int pa_nil))) (pa_cons (pe_lst (pa_cons pe_int pa_nil)) pa_nil))) (pa_cons pe_bl pa_nil))) (pa_cons (pe_tup (pa_cons (pe_lst (pa_cons (pe_lst (pa_cons pe_int (pa_cons pe_int pa_nil))) (pa_cons (pe_lst (pa_cons pe_int pa_nil)) pa_nil))) (pa_cons pe_bl pa_nil))) pa_nil)))))) (pg_tup rfl (pgs_cons (pg_name (i := 2) sc__law_few_right.nd rfl (by first | exact Or.inl rfl | exact Or.inr rfl)) (pgs_cons (pg_name (i := 1) sc__law_few_right.nd rfl (by first | exact Or.inl rfl | exact Or.inr rfl)) pgs_nil))) (pss_one (ps_if (pt_not (pt_val (pe_cc c__law_says (hr.mono (by decide)) (by rfl) (pa_cons (pe_ct c_Put_shows (hr.mono (by decide)) (pe_cm c_Put (hr.mono (by decide)) (by rfl) (pa_cons (pe_lst (pa_cons (pe_tup (pa_cons pe_int (pa_cons pe_int pa_nil))) pa_nil)) (pa_cons (pv 2) pa_nil))) (pa_cons (pe_lst (pa_cons pe_int (pa_cons pe_int (pa_cons pe_int pa_nil)))) pa_nil)) (pa_cons (pv 1) pa_nil))))) (pss_one (ps_ret pe_bl)) pss_nil)))
      (pss_cons (ps_for PassesOwn.never rfl (pi_list (pe_lst (pa_cons (pe_tup (pa_cons (pe_lst pa_nil) (pa_cons (pe_lst (pa_cons (pe_lst (pa_cons pe_int (pa_cons pe_int pa_nil))) pa_nil)) pa_nil))) (pa_cons (pe_tup (pa_cons (pe_lst (pa_cons (pe_tup (pa_cons pe_int (pa_cons pe_int pa_nil))) pa_nil)) (pa_cons (pe_lst (pa_cons (pe_lst (pa_cons pe_int pa_nil)) (pa_cons (pe_lst (pa_cons pe_int pa_nil)) pa_nil))) pa_nil))) pa_nil)))) (pg_tup rfl (pgs_cons (pg_name (i := 3) sc__law_few_right.nd rfl (by first | exact Or.inl rfl | exact Or.inr rfl)) (pgs_cons (pg_name (i := 2) sc__law_few_right.nd rfl (by first | exact Or.inl rfl | exact Or.inr rfl)) pgs_nil))) (pss_one (ps_if (pt_not (pt_val (pe_cc c__law_says (hr.mono (by decide)) (by rfl) (pa_cons (pe_ct c_Put_shows (hr.mono (by decide)) (pe_cm c_Put (hr.mono (by decide)) (by rfl) (pa_cons (pv 3) (pa_cons (pv 2) pa_nil))) (pa_cons (pe_lst (pa_cons pe_int (pa_cons pe_int pa_nil))) pa_nil)) (pa_cons pe_bl pa_nil))))) (pss_one (ps_ret pe_bl)) pss_nil)))
      (pss_cons (ps_for PassesOwn.never rfl (pi_list (pe_lst (pa_cons (pe_tup (pa_cons (pe_lst (pa_cons (pe_tup (pa_cons pe_int (pa_cons pe_int pa_nil))) pa_nil)) (pa_cons (pe_lst (pa_cons (pe_lst (pa_cons pe_int (pa_cons pe_int pa_nil))) pa_nil)) (pa_cons pe_bl pa_nil)))) (pa_cons (pe_tup (pa_cons (pe_lst (pa_cons (pe_tup (pa_cons pe_int (pa_cons pe_int pa_nil))) pa_nil)) (pa_cons (pe_lst (pa_cons (pe_lst (pa_cons pe_int (pa_cons pe_int pa_nil))) pa_nil)) (pa_cons pe_bl pa_nil)))) (pa_cons (pe_tup (pa_cons (pe_lst (pa_cons (pe_tup (pa_cons pe_int (pa_cons pe_int pa_nil))) pa_nil)) (pa_cons (pe_lst (pa_cons (pe_lst (pa_cons pe_int (pa_cons pe_int pa_nil))) pa_nil)) (pa_cons pe_bl pa_nil)))) pa_nil))))) (pg_tup rfl (pgs_cons (pg_name (i := 4) sc__law_few_right.nd rfl (by first | exact Or.inl rfl | exact Or.inr rfl)) (pgs_cons (pg_name (i := 5) sc__law_few_right.nd rfl (by first | exact Or.inl rfl | exact Or.inr rfl)) (pgs_cons (pg_name (i := 1) sc__law_few_right.nd rfl (by first | exact Or.inl rfl | exact Or.inr rfl)) pgs_nil)))) (pss_one (ps_if (pt_not (pt_val (pe_cc c__law_says (hr.mono (by decide)) (by rfl) (pa_cons (pe_ct c_Exchanged_shows (hr.mono (by decide)) (pe_cm c_Exchanged (hr.mono (by decide)) (by rfl) (pa_cons (pv 4) (pa_cons (pv 5) pa_nil))) (pa_cons (pe_lst (pa_cons pe_int (pa_cons pe_int pa_nil))) pa_nil)) (pa_cons (pv 1) pa_nil))))) (pss_one (ps_ret pe_bl)) pss_nil)))
      (pss_cons (ps_if (pt_not (pt_val (pe_cc c__law_says (hr.mono (by decide)) (by rfl) (pa_cons (pe_ct c_Exchanged_shows (hr.mono (by decide)) (pe_cm c_Exchanged (hr.mono (by decide)) (by rfl) (pa_cons (pe_lst (pa_cons (pe_tup (pa_cons pe_int (pa_cons pe_int pa_nil))) (pa_cons (pe_tup (pa_cons pe_int (pa_cons pe_int pa_nil))) pa_nil))) (pa_cons (pe_lst (pa_cons (pe_lst (pa_cons pe_int pa_nil)) (pa_cons (pe_lst (pa_cons pe_int pa_nil)) (pa_cons (pe_lst (pa_cons pe_int pa_nil)) pa_nil)))) pa_nil))) (pa_cons (pe_lst (pa_cons pe_int (pa_cons pe_int (pa_cons pe_int pa_nil)))) pa_nil)) (pa_cons pe_bl pa_nil))))) (pss_one (ps_ret pe_bl)) pss_nil)
      (pss_cons (ps_for PassesOwn.never rfl (pi_list (pe_lst (pa_cons (pe_tup (pa_cons (pe_lst (pa_cons (pe_tup (pa_cons pe_int (pa_cons pe_int pa_nil))) pa_nil)) (pa_cons pe_bl pa_nil))) (pa_cons (pe_tup (pa_cons (pe_lst (pa_cons (pe_tup (pa_cons pe_int (pa_cons pe_int pa_nil))) pa_nil)) (pa_cons pe_bl pa_nil))) (pa_cons (pe_tup (pa_cons (pe_lst (pa_cons (pe_tup (pa_cons pe_int (pa_cons pe_int pa_nil))) pa_nil)) (pa_cons pe_bl pa_nil))) (pa_cons (pe_tup (pa_cons (pe_lst (pa_cons (pe_tup (pa_cons pe_int (pa_cons pe_int pa_nil))) (pa_cons (pe_tup (pa_cons pe_int (pa_cons pe_int pa_nil))) pa_nil))) (pa_cons pe_bl pa_nil))) pa_nil)))))) (pg_tup rfl (pgs_cons (pg_name (i := 3) sc__law_few_right.nd rfl (by first | exact Or.inl rfl | exact Or.inr rfl)) (pgs_cons (pg_name (i := 1) sc__law_few_right.nd rfl (by first | exact Or.inl rfl | exact Or.inr rfl)) pgs_nil))) (pss_one (ps_if (pt_not (pt_val (pe_cc c__law_says (hr.mono (by decide)) (by rfl) (pa_cons (pe_ct c_Ended_shows (hr.mono (by decide)) (pe_cm c_Ended (hr.mono (by decide)) (by rfl) (pa_cons (pv 3) pa_nil)) (pa_cons (pe_lst (pa_cons pe_int (pa_cons pe_int pa_nil))) pa_nil)) (pa_cons (pv 1) pa_nil))))) (pss_one (ps_ret pe_bl)) pss_nil)))
      (pss_cons (ps_for PassesOwn.never rfl (pi_list (pe_lst (pa_cons (pe_lst (pa_cons pe_int (pa_cons pe_int (pa_cons pe_int pa_nil)))) (pa_cons (pe_lst (pa_cons pe_int pa_nil)) pa_nil)))) (pg_name (i := 0) sc__law_few_right.nd rfl (by first | exact Or.inl rfl | exact Or.inr rfl)) (pss_one (ps_if (pt_not (pt_val (pe_cc c__law_says (hr.mono (by decide)) (by rfl) (pa_cons (pe_ct c_Fronted_shows (hr.mono (by decide)) (pe_cm c_Fronted (hr.mono (by decide)) (by rfl) (pa_cons (pv 0) pa_nil)) (pa_cons (pe_lst (pa_cons pe_int (pa_cons pe_int (pa_cons pe_int (pa_cons pe_int pa_nil))))) pa_nil)) (pa_cons pe_bl pa_nil))))) (pss_one (ps_ret pe_bl)) pss_nil)))
      (pss_one (ps_ret (pe_cc c__law_says (hr.mono (by decide)) (by rfl) (pa_cons (pe_ct c_Fronted_shows (hr.mono (by decide)) (pe_cm c_Fronted (hr.mono (by decide)) (by rfl) (pa_cons (pe_lst (pa_cons pe_int pa_nil)) pa_nil)) (pa_cons (pe_lst (pa_cons pe_int (pa_cons pe_int (pa_cons pe_int pa_nil)))) pa_nil)) (pa_cons pe_bl pa_nil)))))))))))))), ?_⟩
    walk_at "k"
    -- 1
    refine r_seq ?_
    refine gen_D fun dnx drt dbk dct hnx hrt => ?_
    walk_at "go"
    refine l_new (by show 1 ≤ sizeLine; decide) fun p1 n1 => ?_
    have s1 : Same H (upd H p1 (.lst [.int 0])) := Same.one n1
    have h1 : (upd H p1 (.lst [.int 0])) p1 = some (.lst [.int 0]) := upd_same
    generalize upd H p1 (.lst [.int 0]) = H1 at s1 h1
    walk_at "go"
    refine l_new (by show 2 ≤ sizeLine; decide) fun p2 n2 => ?_
    have s2 : Same H1 (upd H1 p2 (.tup [.ref p1, .bl true])) := Same.one n2
    have h2 : (upd H1 p2 (.tup [.ref p1, .bl true])) p2 = some (.tup [.ref p1, .bl true]) := upd_same
    generalize upd H1 p2 (.tup [.ref p1, .bl true]) = H2 at s2 h2
    replace h1 := s2 _ _ h1
    walk_at "go"
    refine l_new (by show 2 ≤ sizeLine; decide) fun p3 n3 => ?_
    have s3 : Same H2 (upd H2 p3 (.lst [.int 0, .int 0])) := Same.one n3
    have h3 : (upd H2 p3 (.lst [.int 0, .int 0])) p3 = some (.lst [.int 0, .int 0]) := upd_same
    generalize upd H2 p3 (.lst [.int 0, .int 0]) = H3 at s3 h3
    replace h1 := s3 _ _ h1
    replace h2 := s3 _ _ h2
    walk_at "go"
    refine l_new (by show 2 ≤ sizeLine; decide) fun p4 n4 => ?_
    have s4 : Same H3 (upd H3 p4 (.tup [.ref p3, .bl false])) := Same.one n4
    have h4 : (upd H3 p4 (.tup [.ref p3, .bl false])) p4 = some (.tup [.ref p3, .bl false]) := upd_same
    generalize upd H3 p4 (.tup [.ref p3, .bl false]) = H4 at s4 h4
    replace h1 := s4 _ _ h1
    replace h2 := s4 _ _ h2
    replace h3 := s4 _ _ h3
    walk_at "go"
    refine l_new (by show 2 ≤ sizeLine; decide) fun p5 n5 => ?_
    have s5 : Same H4 (upd H4 p5 (.lst [.int 1, .int 0])) := Same.one n5
    have h5 : (upd H4 p5 (.lst [.int 1, .int 0])) p5 = some (.lst [.int 1, .int 0]) := upd_same
    generalize upd H4 p5 (.lst [.int 1, .int 0]) = H5 at s5 h5
    replace h1 := s5 _ _ h1
    replace h2 := s5 _ _ h2
    replace h3 := s5 _ _ h3
    replace h4 := s5 _ _ h4
    walk_at "go"
    refine l_new (by show 2 ≤ sizeLine; decide) fun p6 n6 => ?_
    have s6 : Same H5 (upd H5 p6 (.tup [.ref p5, .bl false])) := Same.one n6
    have h6 : (upd H5 p6 (.tup [.ref p5, .bl false])) p6 = some (.tup [.ref p5, .bl false]) := upd_same
    generalize upd H5 p6 (.tup [.ref p5, .bl false]) = H6 at s6 h6
    replace h1 := s6 _ _ h1
    replace h2 := s6 _ _ h2
    replace h3 := s6 _ _ h3
    replace h4 := s6 _ _ h4
    replace h5 := s6 _ _ h5
    walk_at "go"
    refine l_new (by show 0 ≤ sizeLine; decide) fun p7 n7 => ?_
    have s7 : Same H6 (upd H6 p7 (.lst [])) := Same.one n7
    have h7 : (upd H6 p7 (.lst [])) p7 = some (.lst []) := upd_same
    generalize upd H6 p7 (.lst []) = H7 at s7 h7
    replace h1 := s7 _ _ h1
    replace h2 := s7 _ _ h2
    replace h3 := s7 _ _ h3
    replace h4 := s7 _ _ h4
    replace h5 := s7 _ _ h5
    replace h6 := s7 _ _ h6
    walk_at "go"
    refine l_new (by show 2 ≤ sizeLine; decide) fun p8 n8 => ?_
    have s8 : Same H7 (upd H7 p8 (.tup [.ref p7, .bl false])) := Same.one n8
    have h8 : (upd H7 p8 (.tup [.ref p7, .bl false])) p8 = some (.tup [.ref p7, .bl false]) := upd_same
    generalize upd H7 p8 (.tup [.ref p7, .bl false]) = H8 at s8 h8
    replace h1 := s8 _ _ h1
    replace h2 := s8 _ _ h2
    replace h3 := s8 _ _ h3
    replace h4 := s8 _ _ h4
    replace h5 := s8 _ _ h5
    replace h6 := s8 _ _ h6
    replace h7 := s8 _ _ h7
    walk_at "go"
    refine l_new (by show 4 ≤ sizeLine; decide) fun p9 n9 => ?_
    have s9 : Same H8 (upd H8 p9 (.lst [.ref p2, .ref p4, .ref p6, .ref p8])) := Same.one n9
    have h9 : (upd H8 p9 (.lst [.ref p2, .ref p4, .ref p6, .ref p8])) p9 = some (.lst [.ref p2, .ref p4, .ref p6, .ref p8]) := upd_same
    generalize upd H8 p9 (.lst [.ref p2, .ref p4, .ref p6, .ref p8]) = H9 at s9 h9
    replace h1 := s9 _ _ h1
    replace h2 := s9 _ _ h2
    replace h3 := s9 _ _ h3
    replace h4 := s9 _ _ h4
    replace h5 := s9 _ _ h5
    replace h6 := s9 _ _ h6
    replace h7 := s9 _ _ h7
    replace h8 := s9 _ _ h8
    have all : ∀ t ∈ [p2, p4, p6, p8], ItF (fun things b => frShows [1, 0] things = b ∧ things.length ≤ 10) H9 t := fm (⟨_, _, [0], h2, ⟨_, rfl, h1⟩, by first | decide +kernel | (show _ ∧ _; decide +kernel)⟩) (fm (⟨_, _, [0, 0], h4, ⟨_, rfl, h3⟩, by first | decide +kernel | (show _ ∧ _; decide +kernel)⟩) (fm (⟨_, _, [1, 0], h6, ⟨_, rfl, h5⟩, by first | decide +kernel | (show _ ∧ _; decide +kernel)⟩) (fm (⟨_, _, [], h8, ⟨_, rfl, h7⟩, by first | decide +kernel | (show _ ∧ _; decide +kernel)⟩) (fm0))))
    have hL := h9
    walk_at "go"
    refine k_lst (f := V.ref) [p2, p4, p6, p8] (fun i σ H' => ∃ v0 v1 v2 v3 v4 v5, σ = [v0, v1, v2, v3, v4, v5] ∧ Same H9 H') (SqL.of hL) ⟨_, _, _, _, _, _, rfl, Same.refl _⟩ (fun i σ H' _ ⟨_, _, _, _, _, _, _, s⟩ => SqL.of (s _ _ hL)) ?_ ?_
    · rintro i t σ H' hi ⟨v0, v1, v2, v3, v4, v5, rfl, S⟩
      obtain ⟨_, b, things, ht, ⟨l, rfl, hu⟩, e, sm⟩ := (all t (List.mem_of_getElem? hi)).same S
      clear all hL hi p1 n1 s1 h1 H1 p2 n2 s2 h2 H2 p3 n3 s3 h3 H3 p4 n4 s4 h4 H4 p5 n5 s5 h5 H5 p6 n6 s6 h6 H6 p7 n7 s7 h7 H7 p8 n8 s8 h8 H8 p9 n9 s9 h9
      refine ⟨t, _, rfl, SqT.of ht, rfl, _, _, rfl, _, _, rfl, rfl, ?_⟩
      walk_at "d"
      walk_at "go"
      intro y dy ny ndy nyd
      refine ⟨y, l, dy, things, H', rfl, upd_same, by walk_at "same", ny, SqL.of hu, fun pu H10 s10 npu O => ⟨rfl, ?_⟩⟩
      replace hu := s10 _ _ hu
      replace S := S.trans s10
      obtain ⟨dx, ob⟩ := O.ob
      refine k_meth ob (oneF_none pu (by decide)) ?_
      walk_at "go"
      refine l_new (by show 2 ≤ sizeLine; decide) fun p11 n11 => ?_
      have s11 : Same H10 (upd H10 p11 (.lst [.int 1, .int 0])) := Same.one n11
      have h11 : (upd H10 p11 (.lst [.int 1, .int 0])) p11 = some (.lst [.int 1, .int 0]) := upd_same
      generalize upd H10 p11 (.lst [.int 1, .int 0]) = H11 at s11 h11
      replace hu := s11 _ _ hu
      replace S := S.trans s11
      replace O := O.same s11
      walk_at "go"
      refine ⟨y, pu, p11, things, [1, 0], rfl, O, SqL.of h11, row_10, by omega, fun H12 s12 => ?_⟩
      replace hu := s12 _ _ hu
      replace h11 := s12 _ _ h11
      replace S := S.trans s12
      walk_at "go"
      refine ⟨_, _, rfl, ?_⟩
      rw [e, beq_self_eq_true]
      walk_at "go"
      exact ⟨_, _, _, _, _, _, rfl, S⟩
    rintro σ H13 ⟨v0, v1, v2, v3, v4, v5, rfl, S⟩
    clear all hL S
    clear p1 n1 s1 h1 H1 p2 n2 s2 h2 H2 p3 n3 s3 h3 H3 p4 n4 s4 h4 H4 p5 n5 s5 h5 H5 p6 n6 s6 h6 H6 p7 n7 s7 h7 H7 p8 n8 s8 h8 H8 p9 n9 s9 h9 H9
    walk_at "d"
    subst hnx hrt
    -- 2
    refine r_nx ?_
    refine r_seq ?_
    refine gen_D fun dnx drt dbk dct hnx hrt => ?_
    walk_at "go"
    refine l_new (by show 0 ≤ sizeLine; decide) fun p14 n14 => ?_
    have s14 : Same H13 (upd H13 p14 (.lst [])) := Same.one n14
    have h14 : (upd H13 p14 (.lst [])) p14 = some (.lst []) := upd_same
    generalize upd H13 p14 (.lst []) = H14 at s14 h14
    walk_at "go"
    refine l_new (by show 1 ≤ sizeLine; decide) fun p15 n15 => ?_
    have s15 : Same H14 (upd H14 p15 (.lst [.int 0])) := Same.one n15
    have h15 : (upd H14 p15 (.lst [.int 0])) p15 = some (.lst [.int 0]) := upd_same
    generalize upd H14 p15 (.lst [.int 0]) = H15 at s15 h15
    replace h14 := s15 _ _ h14
    walk_at "go"
    refine l_new (by show 1 ≤ sizeLine; decide) fun p16 n16 => ?_
    have s16 : Same H15 (upd H15 p16 (.lst [.int 1])) := Same.one n16
    have h16 : (upd H15 p16 (.lst [.int 1])) p16 = some (.lst [.int 1]) := upd_same
    generalize upd H15 p16 (.lst [.int 1]) = H16 at s16 h16
    replace h14 := s16 _ _ h14
    replace h15 := s16 _ _ h15
    walk_at "go"
    refine l_new (by show 2 ≤ sizeLine; decide) fun p17 n17 => ?_
    have s17 : Same H16 (upd H16 p17 (.lst [.ref p15, .ref p16])) := Same.one n17
    have h17 : (upd H16 p17 (.lst [.ref p15, .ref p16])) p17 = some (.lst [.ref p15, .ref p16]) := upd_same
    generalize upd H16 p17 (.lst [.ref p15, .ref p16]) = H17 at s17 h17
    replace h14 := s17 _ _ h14
    replace h15 := s17 _ _ h15
    replace h16 := s17 _ _ h16
    walk_at "go"
    intro y dy ny ndy nyd
    refine ⟨y, p14, p17, dy, [], [p15, p16], [], [[0], [1]], H17, rfl, upd_same, by walk_at "same", ny, SqL.of h14, SqL.of h17, ((Lf.nil.snoc (r := [0]) h15).snoc (r := [1]) h16), Tf.nil, by simp, by simp, fun qp qr ds H18 s18 nqp nqr nqe nn mq1 mq2 O => ⟨rfl, ?_⟩⟩
    replace h14 := s18 _ _ h14
    replace h15 := s18 _ _ h15
    replace h16 := s18 _ _ h16
    replace h17 := s18 _ _ h17
    have ld := nn.len
    clear nn mq1 mq2 nqp nqr nqe ny ndy nyd
    obtain ⟨dx, ob⟩ := O.ob
    refine k_meth ob (exF_none qp qr (by decide) (by decide)) ?_
    walk_at "go"
    refine l_new (by show 3 ≤ sizeLine; decide) fun p19 n19 => ?_
    have s19 : Same H18 (upd H18 p19 (.lst [.int 0, .int 1, .int 2])) := Same.one n19
    have h19 : (upd H18 p19 (.lst [.int 0, .int 1, .int 2])) p19 = some (.lst [.int 0, .int 1, .int 2]) := upd_same
    generalize upd H18 p19 (.lst [.int 0, .int 1, .int 2]) = H19 at s19 h19
    replace h14 := s19 _ _ h14
    replace h15 := s19 _ _ h15
    replace h16 := s19 _ _ h16
    replace h17 := s19 _ _ h17
    replace O := O.same s19
    walk_at "go"
    refine ⟨y, qp, qr, p19, [], ds, [], [[0], [1]], [0, 1, 2], rfl, O, SqL.of h19, by decide, by simp, by rw [ld]; simp, by simp, by simp, fun H20 s20 => ?_⟩
    replace h14 := s20 _ _ h14
    replace h15 := s20 _ _ h15
    replace h16 := s20 _ _ h16
    replace h17 := s20 _ _ h17
    replace h19 := s20 _ _ h19
    walk_at "go"
    refine ⟨_, _, rfl, ?_⟩
    rw [(show exShows [0, 1, 2] [] [[0], [1]] = false by decide +kernel), beq_self_eq_true]
    walk_at "go"
    clear p14 n14 s14 h14 H14 p15 n15 s15 h15 H15 p16 n16 s16 h16 H16 p17 n17 s17 h17 H17 y dy H18 s18 qp qr ds ld O dx ob p19 n19 s19 h19 H19 s20
    subst hnx hrt
    -- 3
    refine r_nx ?_
    refine r_seq ?_
    refine gen_D fun dnx drt dbk dct hnx hrt => ?_
    walk_at "go"
    refine l_new (by show 0 ≤ sizeLine; decide) fun p21 n21 => ?_
    have s21 : Same H20 (upd H20 p21 (.lst [])) := Same.one n21
    have h21 : (upd H20 p21 (.lst [])) p21 = some (.lst []) := upd_same
    generalize upd H20 p21 (.lst []) = H21 at s21 h21
    walk_at "go"
    refine l_new (by show 1 ≤ sizeLine; decide) fun p22 n22 => ?_
    have s22 : Same H21 (upd H21 p22 (.lst [.int 0])) := Same.one n22
    have h22 : (upd H21 p22 (.lst [.int 0])) p22 = some (.lst [.int 0]) := upd_same
    generalize upd H21 p22 (.lst [.int 0]) = H22 at s22 h22
    replace h21 := s22 _ _ h21
    walk_at "go"
    refine l_new (by show 1 ≤ sizeLine; decide) fun p23 n23 => ?_
    have s23 : Same H22 (upd H22 p23 (.lst [.ref p22])) := Same.one n23
    have h23 : (upd H22 p23 (.lst [.ref p22])) p23 = some (.lst [.ref p22]) := upd_same
    generalize upd H22 p23 (.lst [.ref p22]) = H23 at s23 h23
    replace h21 := s23 _ _ h21
    replace h22 := s23 _ _ h22
    walk_at "go"
    intro y dy ny ndy nyd
    refine ⟨y, p21, p23, dy, [], [p22], [], [[0]], H23, rfl, upd_same, by walk_at "same", ny, SqL.of h21, SqL.of h23, (Lf.nil.snoc (r := [0]) h22), Tf.nil, by simp, fun qp qr ds H24 s24 nqp nqr nqe nn mq1 mq2 O => ⟨rfl, ?_⟩⟩
    replace h21 := s24 _ _ h21
    replace h22 := s24 _ _ h22
    replace h23 := s24 _ _ h23
    have ld := nn.len
    clear nn mq1 mq2 nqp nqr nqe ny ndy nyd
    obtain ⟨dx, ob⟩ := O.ob
    refine k_meth ob (puF_none qp qr (by decide) (by decide)) ?_
    walk_at "go"
    refine l_new (by show 2 ≤ sizeLine; decide) fun p25 n25 => ?_
    have s25 : Same H24 (upd H24 p25 (.lst [.int 0, .int 1])) := Same.one n25
    have h25 : (upd H24 p25 (.lst [.int 0, .int 1])) p25 = some (.lst [.int 0, .int 1]) := upd_same
    generalize upd H24 p25 (.lst [.int 0, .int 1]) = H25 at s25 h25
    replace h21 := s25 _ _ h21
    replace h22 := s25 _ _ h22
    replace h23 := s25 _ _ h23
    replace O := O.same s25
    walk_at "go"
    refine ⟨y, qp, qr, p25, [], ds, [], [[0]], [0, 1], rfl, O, SqL.of h25, row_01, by simp, by rw [ld]; simp, by simp, by simp, fun H26 s26 => ?_⟩
    replace h21 := s26 _ _ h21
    replace h22 := s26 _ _ h22
    replace h23 := s26 _ _ h23
    replace h25 := s26 _ _ h25
    walk_at "go"
    refine ⟨_, _, rfl, ?_⟩
    rw [(show putShows [0, 1] [] [[0]] = false by decide +kernel), beq_self_eq_true]
    walk_at "go"
    clear H20 p21 n21 s21 h21 H21 p22 n22 s22 h22 H22 p23 n23 s23 h23 H23 y dy H24 s24 qp qr ds ld O dx ob p25 n25 s25 h25 H25 s26
    subst hnx hrt
    -- 4
    refine r_nx ?_
    refine r_seq ?_
    refine gen_D fun dnx drt dbk dct hnx hrt => ?_
    walk_at "go"
    refine l_new (by show 2 ≤ sizeLine; decide) fun p27 n27 => ?_
    have s27 : Same H26 (upd H26 p27 (.lst [.int 2, .int 0])) := Same.one n27
    have h27 : (upd H26 p27 (.lst [.int 2, .int 0])) p27 = some (.lst [.int 2, .int 0]) := upd_same
    generalize upd H26 p27 (.lst [.int 2, .int 0]) = H27 at s27 h27
    walk_at "go"
    refine l_new (by show 1 ≤ sizeLine; decide) fun p28 n28 => ?_
    have s28 : Same H27 (upd H27 p28 (.lst [.int 1])) := Same.one n28
    have h28 : (upd H27 p28 (.lst [.int 1])) p28 = some (.lst [.int 1]) := upd_same
    generalize upd H27 p28 (.lst [.int 1]) = H28 at s28 h28
    replace h27 := s28 _ _ h27
    walk_at "go"
    refine l_new (by show 2 ≤ sizeLine; decide) fun p29 n29 => ?_
    have s29 : Same H28 (upd H28 p29 (.lst [.ref p27, .ref p28])) := Same.one n29
    have h29 : (upd H28 p29 (.lst [.ref p27, .ref p28])) p29 = some (.lst [.ref p27, .ref p28]) := upd_same
    generalize upd H28 p29 (.lst [.ref p27, .ref p28]) = H29 at s29 h29
    replace h27 := s29 _ _ h27
    replace h28 := s29 _ _ h28
    walk_at "go"
    refine l_new (by show 2 ≤ sizeLine; decide) fun p30 n30 => ?_
    have s30 : Same H29 (upd H29 p30 (.tup [.ref p29, .bl true])) := Same.one n30
    have h30 : (upd H29 p30 (.tup [.ref p29, .bl true])) p30 = some (.tup [.ref p29, .bl true]) := upd_same
    generalize upd H29 p30 (.tup [.ref p29, .bl true]) = H30 at s30 h30
    replace h27 := s30 _ _ h27
    replace h28 := s30 _ _ h28
    replace h29 := s30 _ _ h29
    walk_at "go"
    refine l_new (by show 2 ≤ sizeLine; decide) fun p31 n31 => ?_
    have s31 : Same H30 (upd H30 p31 (.lst [.int 2, .int 1])) := Same.one n31
    have h31 : (upd H30 p31 (.lst [.int 2, .int 1])) p31 = some (.lst [.int 2, .int 1]) := upd_same
    generalize upd H30 p31 (.lst [.int 2, .int 1]) = H31 at s31 h31
    replace h27 := s31 _ _ h27
    replace h28 := s31 _ _ h28
    replace h29 := s31 _ _ h29
    replace h30 := s31 _ _ h30
    walk_at "go"
    refine l_new (by show 1 ≤ sizeLine; decide) fun p32 n32 => ?_
    have s32 : Same H31 (upd H31 p32 (.lst [.int 0])) := Same.one n32
    have h32 : (upd H31 p32 (.lst [.int 0])) p32 = some (.lst [.int 0]) := upd_same
    generalize upd H31 p32 (.lst [.int 0]) = H32 at s32 h32
    replace h27 := s32 _ _ h27
    replace h28 := s32 _ _ h28
    replace h29 := s32 _ _ h29
    replace h30 := s32 _ _ h30
    replace h31 := s32 _ _ h31
    walk_at "go"
    refine l_new (by show 2 ≤ sizeLine; decide) fun p33 n33 => ?_
    have s33 : Same H32 (upd H32 p33 (.lst [.ref p31, .ref p32])) := Same.one n33
    have h33 : (upd H32 p33 (.lst [.ref p31, .ref p32])) p33 = some (.lst [.ref p31, .ref p32]) := upd_same
    generalize upd H32 p33 (.lst [.ref p31, .ref p32]) = H33 at s33 h33
    replace h27 := s33 _ _ h27
    replace h28 := s33 _ _ h28
    replace h29 := s33 _ _ h29
    replace h30 := s33 _ _ h30
    replace h31 := s33 _ _ h31
    replace h32 := s33 _ _ h32
    walk_at "go"
    refine l_new (by show 2 ≤ sizeLine; decide) fun p34 n34 => ?_
    have s34 : Same H33 (upd H33 p34 (.tup [.ref p33, .bl true])) := Same.one n34
    have h34 : (upd H33 p34 (.tup [.ref p33, .bl true])) p34 = some (.tup [.ref p33, .bl true]) := upd_same
    generalize upd H33 p34 (.tup [.ref p33, .bl true]) = H34 at s34 h34
    replace h27 := s34 _ _ h27
    replace h28 := s34 _ _ h28
    replace h29 := s34 _ _ h29
    replace h30 := s34 _ _ h30
    replace h31 := s34 _ _ h31
    replace h32 := s34 _ _ h32
    replace h33 := s34 _ _ h33
    walk_at "go"
    refine l_new (by show 2 ≤ sizeLine; decide) fun p35 n35 => ?_
    have s35 : Same H34 (upd H34 p35 (.lst [.int 0, .int 1])) := Same.one n35
    have h35 : (upd H34 p35 (.lst [.int 0, .int 1])) p35 = some (.lst [.int 0, .int 1]) := upd_same
    generalize upd H34 p35 (.lst [.int 0, .int 1]) = H35 at s35 h35
    replace h27 := s35 _ _ h27
    replace h28 := s35 _ _ h28
    replace h29 := s35 _ _ h29
    replace h30 := s35 _ _ h30
    replace h31 := s35 _ _ h31
    replace h32 := s35 _ _ h32
    replace h33 := s35 _ _ h33
    replace h34 := s35 _ _ h34
    walk_at "go"
    refine l_new (by show 1 ≤ sizeLine; decide) fun p36 n36 => ?_
    have s36 : Same H35 (upd H35 p36 (.lst [.int 2])) := Same.one n36
    have h36 : (upd H35 p36 (.lst [.int 2])) p36 = some (.lst [.int 2]) := upd_same
    generalize upd H35 p36 (.lst [.int 2]) = H36 at s36 h36
    replace h27 := s36 _ _ h27
    replace h28 := s36 _ _ h28
    replace h29 := s36 _ _ h29
    replace h30 := s36 _ _ h30
    replace h31 := s36 _ _ h31
    replace h32 := s36 _ _ h32
    replace h33 := s36 _ _ h33
    replace h34 := s36 _ _ h34
    replace h35 := s36 _ _ h35
    walk_at "go"
    refine l_new (by show 2 ≤ sizeLine; decide) fun p37 n37 => ?_
    have s37 : Same H36 (upd H36 p37 (.lst [.ref p35, .ref p36])) := Same.one n37
    have h37 : (upd H36 p37 (.lst [.ref p35, .ref p36])) p37 = some (.lst [.ref p35, .ref p36]) := upd_same
    generalize upd H36 p37 (.lst [.ref p35, .ref p36]) = H37 at s37 h37
    replace h27 := s37 _ _ h27
    replace h28 := s37 _ _ h28
    replace h29 := s37 _ _ h29
    replace h30 := s37 _ _ h30
    replace h31 := s37 _ _ h31
    replace h32 := s37 _ _ h32
    replace h33 := s37 _ _ h33
    replace h34 := s37 _ _ h34
    replace h35 := s37 _ _ h35
    replace h36 := s37 _ _ h36
    walk_at "go"
    refine l_new (by show 2 ≤ sizeLine; decide) fun p38 n38 => ?_
    have s38 : Same H37 (upd H37 p38 (.tup [.ref p37, .bl false])) := Same.one n38
    have h38 : (upd H37 p38 (.tup [.ref p37, .bl false])) p38 = some (.tup [.ref p37, .bl false]) := upd_same
    generalize upd H37 p38 (.tup [.ref p37, .bl false]) = H38 at s38 h38
    replace h27 := s38 _ _ h27
    replace h28 := s38 _ _ h28
    replace h29 := s38 _ _ h29
    replace h30 := s38 _ _ h30
    replace h31 := s38 _ _ h31
    replace h32 := s38 _ _ h32
    replace h33 := s38 _ _ h33
    replace h34 := s38 _ _ h34
    replace h35 := s38 _ _ h35
    replace h36 := s38 _ _ h36
    replace h37 := s38 _ _ h37
    walk_at "go"
    refine l_new (by show 2 ≤ sizeLine; decide) fun p39 n39 => ?_
    have s39 : Same H38 (upd H38 p39 (.lst [.int 1, .int 0])) := Same.one n39
    have h39 : (upd H38 p39 (.lst [.int 1, .int 0])) p39 = some (.lst [.int 1, .int 0]) := upd_same
    generalize upd H38 p39 (.lst [.int 1, .int 0]) = H39 at s39 h39
    replace h27 := s39 _ _ h27
    replace h28 := s39 _ _ h28
    replace h29 := s39 _ _ h29
    replace h30 := s39 _ _ h30
    replace h31 := s39 _ _ h31
    replace h32 := s39 _ _ h32
    replace h33 := s39 _ _ h33
    replace h34 := s39 _ _ h34
    replace h35 := s39 _ _ h35
    replace h36 := s39 _ _ h36
    replace h37 := s39 _ _ h37
    replace h38 := s39 _ _ h38
    walk_at "go"
    refine l_new (by show 1 ≤ sizeLine; decide) fun p40 n40 => ?_
    have s40 : Same H39 (upd H39 p40 (.lst [.int 2])) := Same.one n40
    have h40 : (upd H39 p40 (.lst [.int 2])) p40 = some (.lst [.int 2]) := upd_same
    generalize upd H39 p40 (.lst [.int 2]) = H40 at s40 h40
    replace h27 := s40 _ _ h27
    replace h28 := s40 _ _ h28
    replace h29 := s40 _ _ h29
    replace h30 := s40 _ _ h30
    replace h31 := s40 _ _ h31
    replace h32 := s40 _ _ h32
    replace h33 := s40 _ _ h33
    replace h34 := s40 _ _ h34
    replace h35 := s40 _ _ h35
    replace h36 := s40 _ _ h36
    replace h37 := s40 _ _ h37
    replace h38 := s40 _ _ h38
    replace h39 := s40 _ _ h39
    walk_at "go"
    refine l_new (by show 2 ≤ sizeLine; decide) fun p41 n41 => ?_
    have s41 : Same H40 (upd H40 p41 (.lst [.ref p39, .ref p40])) := Same.one n41
    have h41 : (upd H40 p41 (.lst [.ref p39, .ref p40])) p41 = some (.lst [.ref p39, .ref p40]) := upd_same
    generalize upd H40 p41 (.lst [.ref p39, .ref p40]) = H41 at s41 h41
    replace h27 := s41 _ _ h27
    replace h28 := s41 _ _ h28
    replace h29 := s41 _ _ h29
    replace h30 := s41 _ _ h30
    replace h31 := s41 _ _ h31
    replace h32 := s41 _ _ h32
    replace h33 := s41 _ _ h33
    replace h34 := s41 _ _ h34
    replace h35 := s41 _ _ h35
    replace h36 := s41 _ _ h36
    replace h37 := s41 _ _ h37
    replace h38 := s41 _ _ h38
    replace h39 := s41 _ _ h39
    replace h40 := s41 _ _ h40
    walk_at "go"
    refine l_new (by show 2 ≤ sizeLine; decide) fun p42 n42 => ?_
    have s42 : Same H41 (upd H41 p42 (.tup [.ref p41, .bl false])) := Same.one n42
    have h42 : (upd H41 p42 (.tup [.ref p41, .bl false])) p42 = some (.tup [.ref p41, .bl false]) := upd_same
    generalize upd H41 p42 (.tup [.ref p41, .bl false]) = H42 at s42 h42
    replace h27 := s42 _ _ h27
    replace h28 := s42 _ _ h28
    replace h29 := s42 _ _ h29
    replace h30 := s42 _ _ h30
    replace h31 := s42 _ _ h31
    replace h32 := s42 _ _ h32
    replace h33 := s42 _ _ h33
    replace h34 := s42 _ _ h34
    replace h35 := s42 _ _ h35
    replace h36 := s42 _ _ h36
    replace h37 := s42 _ _ h37
    replace h38 := s42 _ _ h38
    replace h39 := s42 _ _ h39
    replace h40 := s42 _ _ h40
    replace h41 := s42 _ _ h41
    walk_at "go"
    refine l_new (by show 4 ≤ sizeLine; decide) fun p43 n43 => ?_
    have s43 : Same H42 (upd H42 p43 (.lst [.ref p30, .ref p34, .ref p38, .ref p42])) := Same.one n43
    have h43 : (upd H42 p43 (.lst [.ref p30, .ref p34, .ref p38, .ref p42])) p43 = some (.lst [.ref p30, .ref p34, .ref p38, .ref p42]) := upd_same
    generalize upd H42 p43 (.lst [.ref p30, .ref p34, .ref p38, .ref p42]) = H43 at s43 h43
    replace h27 := s43 _ _ h27
    replace h28 := s43 _ _ h28
    replace h29 := s43 _ _ h29
    replace h30 := s43 _ _ h30
    replace h31 := s43 _ _ h31
    replace h32 := s43 _ _ h32
    replace h33 := s43 _ _ h33
    replace h34 := s43 _ _ h34
    replace h35 := s43 _ _ h35
    replace h36 := s43 _ _ h36
    replace h37 := s43 _ _ h37
    replace h38 := s43 _ _ h38
    replace h39 := s43 _ _ h39
    replace h40 := s43 _ _ h40
    replace h41 := s43 _ _ h41
    replace h42 := s43 _ _ h42
    have all : ∀ t ∈ [p30, p34, p38, p42], ItL (fun rs b => putShows [2, 0, 1] [(2, 2)] rs = b ∧ Small rs) H43 t := fm (⟨_, _, [[2, 0], [1]], h30, ⟨_, [p27, p28], rfl, h29, ((Lf.nil.snoc (r := [2, 0]) h27).snoc (r := [1]) h28)⟩, by first | decide +kernel | (show _ ∧ _; decide +kernel)⟩) (fm (⟨_, _, [[2, 1], [0]], h34, ⟨_, [p31, p32], rfl, h33, ((Lf.nil.snoc (r := [2, 1]) h31).snoc (r := [0]) h32)⟩, by first | decide +kernel | (show _ ∧ _; decide +kernel)⟩) (fm (⟨_, _, [[0, 1], [2]], h38, ⟨_, [p35, p36], rfl, h37, ((Lf.nil.snoc (r := [0, 1]) h35).snoc (r := [2]) h36)⟩, by first | decide +kernel | (show _ ∧ _; decide +kernel)⟩) (fm (⟨_, _, [[1, 0], [2]], h42, ⟨_, [p39, p40], rfl, h41, ((Lf.nil.snoc (r := [1, 0]) h39).snoc (r := [2]) h40)⟩, by first | decide +kernel | (show _ ∧ _; decide +kernel)⟩) (fm0))))
    have hL := h43
    walk_at "go"
    refine k_lst (f := V.ref) [p30, p34, p38, p42] (fun i σ H' => ∃ v0 v1 v2 v3 v4 v5, σ = [v0, v1, v2, v3, v4, v5] ∧ Same H43 H') (SqL.of hL) ⟨_, _, _, _, _, _, rfl, Same.refl _⟩ (fun i σ H' _ ⟨_, _, _, _, _, _, _, s⟩ => SqL.of (s _ _ hL)) ?_ ?_
    · rintro i t σ H' hi ⟨v0, v1, v2, v3, v4, v5, rfl, S⟩
      obtain ⟨_, b, rs, ht, ⟨l, as, rfl, hu, lf⟩, e, sm1, sm2, sm3⟩ := (all t (List.mem_of_getElem? hi)).same S
      clear all hL hi H26 p27 n27 s27 h27 H27 p28 n28 s28 h28 H28 p29 n29 s29 h29 H29 p30 n30 s30 h30 H30 p31 n31 s31 h31 H31 p32 n32 s32 h32 H32 p33 n33 s33 h33 H33 p34 n34 s34 h34 H34 p35 n35 s35 h35 H35 p36 n36 s36 h36 H36 p37 n37 s37 h37 H37 p38 n38 s38 h38 H38 p39 n39 s39 h39 H39 p40 n40 s40 h40 H40 p41 n41 s41 h41 H41 p42 n42 s42 h42 H42 p43 n43 s43 h43
      refine ⟨t, _, rfl, SqT.of ht, rfl, _, _, rfl, _, _, rfl, rfl, ?_⟩
      walk_at "d"
      walk_at "go"
      refine l_new (by show 2 ≤ sizeLine; decide) fun p44 n44 => ?_
      have s44 : Same H' (upd H' p44 (.tup [.int 2, .int 2])) := Same.one n44
      have h44 : (upd H' p44 (.tup [.int 2, .int 2])) p44 = some (.tup [.int 2, .int 2]) := upd_same
      generalize upd H' p44 (.tup [.int 2, .int 2]) = H44 at s44 h44
      replace hu := s44 _ _ hu
      replace lf := lf.same s44
      replace S := S.trans s44
      walk_at "go"
      refine l_new (by show 1 ≤ sizeLine; decide) fun p45 n45 => ?_
      have s45 : Same H44 (upd H44 p45 (.lst [.ref p44])) := Same.one n45
      have h45 : (upd H44 p45 (.lst [.ref p44])) p45 = some (.lst [.ref p44]) := upd_same
      generalize upd H44 p45 (.lst [.ref p44]) = H45 at s45 h45
      replace hu := s45 _ _ hu
      replace h44 := s45 _ _ h44
      replace lf := lf.same s45
      replace S := S.trans s45
      have ll := lf.1
      walk_at "go"
      intro y dy ny ndy nyd
      refine ⟨y, p45, l, dy, [p44], as, [(2, 2)], rs, H45, rfl, upd_same, by walk_at "same", ny, SqL.of h45, SqL.of hu, lf, (Tf.nil.app (Tf.one (p := (2, 2)) h44)), by omega, fun qp qr ds H46 s46 nqp nqr nqe nn mq1 mq2 O => ⟨rfl, ?_⟩⟩
      replace hu := s46 _ _ hu
      replace h44 := s46 _ _ h44
      replace h45 := s46 _ _ h45
      replace lf := lf.same s46
      replace S := S.trans s46
      have ld := nn.len
      clear nn mq1 mq2 nqp nqr nqe ny ndy nyd
      obtain ⟨dx, ob⟩ := O.ob
      refine k_meth ob (puF_none qp qr (by decide) (by decide)) ?_
      walk_at "go"
      refine l_new (by show 3 ≤ sizeLine; decide) fun p47 n47 => ?_
      have s47 : Same H46 (upd H46 p47 (.lst [.int 2, .int 0, .int 1])) := Same.one n47
      have h47 : (upd H46 p47 (.lst [.int 2, .int 0, .int 1])) p47 = some (.lst [.int 2, .int 0, .int 1]) := upd_same
      generalize upd H46 p47 (.lst [.int 2, .int 0, .int 1]) = H47 at s47 h47
      replace hu := s47 _ _ hu
      replace h44 := s47 _ _ h44
      replace h45 := s47 _ _ h45
      replace lf := lf.same s47
      replace S := S.trans s47
      replace O := O.same s47
      walk_at "go"
      refine ⟨y, qp, qr, p47, [p44], ds, [(2, 2)], rs, [2, 0, 1], rfl, O, SqL.of h47, row_201, by simp, by omega, fun r hr => by have := sm2 r hr; omega, by omega, fun H48 s48 => ?_⟩
      replace hu := s48 _ _ hu
      replace h44 := s48 _ _ h44
      replace h45 := s48 _ _ h45
      replace h47 := s48 _ _ h47
      replace lf := lf.same s48
      replace S := S.trans s48
      walk_at "go"
      refine ⟨_, _, rfl, ?_⟩
      rw [e, beq_self_eq_true]
      walk_at "go"
      exact ⟨_, _, _, _, _, _, rfl, S⟩
    rintro σ H49 ⟨v0, v1, v2, v3, v4, v5, rfl, S⟩
    clear all hL S
    clear H26 p27 n27 s27 h27 H27 p28 n28 s28 h28 H28 p29 n29 s29 h29 H29 p30 n30 s30 h30 H30 p31 n31 s31 h31 H31 p32 n32 s32 h32 H32 p33 n33 s33 h33 H33 p34 n34 s34 h34 H34 p35 n35 s35 h35 H35 p36 n36 s36 h36 H36 p37 n37 s37 h37 H37 p38 n38 s38 h38 H38 p39 n39 s39 h39 H39 p40 n40 s40 h40 H40 p41 n41 s41 h41 H41 p42 n42 s42 h42 H42 p43 n43 s43 h43 H43
    walk_at "d"
    subst hnx hrt
    -- 5
    refine r_nx ?_
    refine r_seq ?_
    refine gen_D fun dnx drt dbk dct hnx hrt => ?_
    walk_at "go"
    refine l_new (by show 0 ≤ sizeLine; decide) fun p50 n50 => ?_
    have s50 : Same H49 (upd H49 p50 (.lst [])) := Same.one n50
    have h50 : (upd H49 p50 (.lst [])) p50 = some (.lst []) := upd_same
    generalize upd H49 p50 (.lst []) = H50 at s50 h50
    walk_at "go"
    refine l_new (by show 2 ≤ sizeLine; decide) fun p51 n51 => ?_
    have s51 : Same H50 (upd H50 p51 (.lst [.int 0, .int 1])) := Same.one n51
    have h51 : (upd H50 p51 (.lst [.int 0, .int 1])) p51 = some (.lst [.int 0, .int 1]) := upd_same
    generalize upd H50 p51 (.lst [.int 0, .int 1]) = H51 at s51 h51
    replace h50 := s51 _ _ h50
    walk_at "go"
    refine l_new (by show 1 ≤ sizeLine; decide) fun p52 n52 => ?_
    have s52 : Same H51 (upd H51 p52 (.lst [.ref p51])) := Same.one n52
    have h52 : (upd H51 p52 (.lst [.ref p51])) p52 = some (.lst [.ref p51]) := upd_same
    generalize upd H51 p52 (.lst [.ref p51]) = H52 at s52 h52
    replace h50 := s52 _ _ h50
    replace h51 := s52 _ _ h51
    walk_at "go"
    refine l_new (by show 2 ≤ sizeLine; decide) fun p53 n53 => ?_
    have s53 : Same H52 (upd H52 p53 (.tup [.ref p50, .ref p52])) := Same.one n53
    have h53 : (upd H52 p53 (.tup [.ref p50, .ref p52])) p53 = some (.tup [.ref p50, .ref p52]) := upd_same
    generalize upd H52 p53 (.tup [.ref p50, .ref p52]) = H53 at s53 h53
    replace h50 := s53 _ _ h50
    replace h51 := s53 _ _ h51
    replace h52 := s53 _ _ h52
    walk_at "go"
    refine l_new (by show 2 ≤ sizeLine; decide) fun p54 n54 => ?_
    have s54 : Same H53 (upd H53 p54 (.tup [.int 0, .int 0])) := Same.one n54
    have h54 : (upd H53 p54 (.tup [.int 0, .int 0])) p54 = some (.tup [.int 0, .int 0]) := upd_same
    generalize upd H53 p54 (.tup [.int 0, .int 0]) = H54 at s54 h54
    replace h50 := s54 _ _ h50
    replace h51 := s54 _ _ h51
    replace h52 := s54 _ _ h52
    replace h53 := s54 _ _ h53
    walk_at "go"
    refine l_new (by show 1 ≤ sizeLine; decide) fun p55 n55 => ?_
    have s55 : Same H54 (upd H54 p55 (.lst [.ref p54])) := Same.one n55
    have h55 : (upd H54 p55 (.lst [.ref p54])) p55 = some (.lst [.ref p54]) := upd_same
    generalize upd H54 p55 (.lst [.ref p54]) = H55 at s55 h55
    replace h50 := s55 _ _ h50
    replace h51 := s55 _ _ h51
    replace h52 := s55 _ _ h52
    replace h53 := s55 _ _ h53
    replace h54 := s55 _ _ h54
    walk_at "go"
    refine l_new (by show 1 ≤ sizeLine; decide) fun p56 n56 => ?_
    have s56 : Same H55 (upd H55 p56 (.lst [.int 1])) := Same.one n56
    have h56 : (upd H55 p56 (.lst [.int 1])) p56 = some (.lst [.int 1]) := upd_same
    generalize upd H55 p56 (.lst [.int 1]) = H56 at s56 h56
    replace h50 := s56 _ _ h50
    replace h51 := s56 _ _ h51
    replace h52 := s56 _ _ h52
    replace h53 := s56 _ _ h53
    replace h54 := s56 _ _ h54
    replace h55 := s56 _ _ h55
    walk_at "go"
    refine l_new (by show 1 ≤ sizeLine; decide) fun p57 n57 => ?_
    have s57 : Same H56 (upd H56 p57 (.lst [.int 0])) := Same.one n57
    have h57 : (upd H56 p57 (.lst [.int 0])) p57 = some (.lst [.int 0]) := upd_same
    generalize upd H56 p57 (.lst [.int 0]) = H57 at s57 h57
    replace h50 := s57 _ _ h50
    replace h51 := s57 _ _ h51
    replace h52 := s57 _ _ h52
    replace h53 := s57 _ _ h53
    replace h54 := s57 _ _ h54
    replace h55 := s57 _ _ h55
    replace h56 := s57 _ _ h56
    walk_at "go"
    refine l_new (by show 2 ≤ sizeLine; decide) fun p58 n58 => ?_
    have s58 : Same H57 (upd H57 p58 (.lst [.ref p56, .ref p57])) := Same.one n58
    have h58 : (upd H57 p58 (.lst [.ref p56, .ref p57])) p58 = some (.lst [.ref p56, .ref p57]) := upd_same
    generalize upd H57 p58 (.lst [.ref p56, .ref p57]) = H58 at s58 h58
    replace h50 := s58 _ _ h50
    replace h51 := s58 _ _ h51
    replace h52 := s58 _ _ h52
    replace h53 := s58 _ _ h53
    replace h54 := s58 _ _ h54
    replace h55 := s58 _ _ h55
    replace h56 := s58 _ _ h56
    replace h57 := s58 _ _ h57
    walk_at "go"
    refine l_new (by show 2 ≤ sizeLine; decide) fun p59 n59 => ?_
    have s59 : Same H58 (upd H58 p59 (.tup [.ref p55, .ref p58])) := Same.one n59
    have h59 : (upd H58 p59 (.tup [.ref p55, .ref p58])) p59 = some (.tup [.ref p55, .ref p58]) := upd_same
    generalize upd H58 p59 (.tup [.ref p55, .ref p58]) = H59 at s59 h59
    replace h50 := s59 _ _ h50
    replace h51 := s59 _ _ h51
    replace h52 := s59 _ _ h52
    replace h53 := s59 _ _ h53
    replace h54 := s59 _ _ h54
    replace h55 := s59 _ _ h55
    replace h56 := s59 _ _ h56
    replace h57 := s59 _ _ h57
    replace h58 := s59 _ _ h58
    walk_at "go"
    refine l_new (by show 2 ≤ sizeLine; decide) fun p60 n60 => ?_
    have s60 : Same H59 (upd H59 p60 (.lst [.ref p53, .ref p59])) := Same.one n60
    have h60 : (upd H59 p60 (.lst [.ref p53, .ref p59])) p60 = some (.lst [.ref p53, .ref p59]) := upd_same
    generalize upd H59 p60 (.lst [.ref p53, .ref p59]) = H60 at s60 h60
    replace h50 := s60 _ _ h50
    replace h51 := s60 _ _ h51
    replace h52 := s60 _ _ h52
    replace h53 := s60 _ _ h53
    replace h54 := s60 _ _ h54
    replace h55 := s60 _ _ h55
    replace h56 := s60 _ _ h56
    replace h57 := s60 _ _ h57
    replace h58 := s60 _ _ h58
    replace h59 := s60 _ _ h59
    have all : ∀ t ∈ [p53, p59], ItPL (fun ps rs => putShows [1, 0] ps rs = false ∧ ps.length ≤ 10 ∧ Small rs) H60 t := fm (⟨_, _, [], [[0, 1]], h53, ⟨_, [], rfl, h50, Tf.nil⟩, ⟨_, [p51], rfl, h52, (Lf.nil.snoc (r := [0, 1]) h51)⟩, by first | decide +kernel | (show _ ∧ _; decide +kernel)⟩) (fm (⟨_, _, [(0, 0)], [[1], [0]], h59, ⟨_, [p54], rfl, h55, (Tf.nil.app (Tf.one (p := (0, 0)) h54))⟩, ⟨_, [p56, p57], rfl, h58, ((Lf.nil.snoc (r := [1]) h56).snoc (r := [0]) h57)⟩, by first | decide +kernel | (show _ ∧ _; decide +kernel)⟩) (fm0))
    have hL := h60
    walk_at "go"
    refine k_lst (f := V.ref) [p53, p59] (fun i σ H' => ∃ v0 v1 v2 v3 v4 v5, σ = [v0, v1, v2, v3, v4, v5] ∧ Same H60 H') (SqL.of hL) ⟨_, _, _, _, _, _, rfl, Same.refl _⟩ (fun i σ H' _ ⟨_, _, _, _, _, _, _, s⟩ => SqL.of (s _ _ hL)) ?_ ?_
    · rintro i t σ H' hi ⟨v0, v1, v2, v3, v4, v5, rfl, S⟩
      obtain ⟨_, _, ps, rs, ht, ⟨m, ts, rfl, hm, tf⟩, ⟨l, as, rfl, hu, lf⟩, e, smp, sm1, sm2, sm3⟩ := (all t (List.mem_of_getElem? hi)).same S
      clear all hL hi p50 n50 s50 h50 H50 p51 n51 s51 h51 H51 p52 n52 s52 h52 H52 p53 n53 s53 h53 H53 p54 n54 s54 h54 H54 p55 n55 s55 h55 H55 p56 n56 s56 h56 H56 p57 n57 s57 h57 H57 p58 n58 s58 h58 H58 p59 n59 s59 h59 H59 p60 n60 s60 h60
      refine ⟨t, _, rfl, SqT.of ht, rfl, _, _, rfl, _, _, rfl, rfl, ?_⟩
      walk_at "d"
      have ll := lf.1
      have lt := tf.1
      walk_at "go"
      intro y dy ny ndy nyd
      refine ⟨y, m, l, dy, ts, as, ps, rs, H', rfl, upd_same, by walk_at "same", ny, SqL.of hm, SqL.of hu, lf, tf, by omega, fun qp qr ds H61 s61 nqp nqr nqe nn mq1 mq2 O => ⟨rfl, ?_⟩⟩
      replace hu := s61 _ _ hu
      replace hm := s61 _ _ hm
      replace lf := lf.same s61
      replace tf := tf.same s61
      replace S := S.trans s61
      have ld := nn.len
      clear nn mq1 mq2 nqp nqr nqe ny ndy nyd
      obtain ⟨dx, ob⟩ := O.ob
      refine k_meth ob (puF_none qp qr (by decide) (by decide)) ?_
      walk_at "go"
      refine l_new (by show 2 ≤ sizeLine; decide) fun p62 n62 => ?_
      have s62 : Same H61 (upd H61 p62 (.lst [.int 1, .int 0])) := Same.one n62
      have h62 : (upd H61 p62 (.lst [.int 1, .int 0])) p62 = some (.lst [.int 1, .int 0]) := upd_same
      generalize upd H61 p62 (.lst [.int 1, .int 0]) = H62 at s62 h62
      replace hu := s62 _ _ hu
      replace hm := s62 _ _ hm
      replace lf := lf.same s62
      replace tf := tf.same s62
      replace S := S.trans s62
      replace O := O.same s62
      walk_at "go"
      refine ⟨y, qp, qr, p62, ts, ds, ps, rs, [1, 0], rfl, O, SqL.of h62, row_10, by omega, by omega, fun r hr => by have := sm2 r hr; omega, by omega, fun H63 s63 => ?_⟩
      replace hu := s63 _ _ hu
      replace hm := s63 _ _ hm
      replace h62 := s63 _ _ h62
      replace lf := lf.same s63
      replace tf := tf.same s63
      replace S := S.trans s63
      walk_at "go"
      refine ⟨_, _, rfl, ?_⟩
      rw [e, beq_self_eq_true]
      walk_at "go"
      exact ⟨_, _, _, _, _, _, rfl, S⟩
    rintro σ H64 ⟨v0, v1, v2, v3, v4, v5, rfl, S⟩
    clear all hL S
    clear p50 n50 s50 h50 H50 p51 n51 s51 h51 H51 p52 n52 s52 h52 H52 p53 n53 s53 h53 H53 p54 n54 s54 h54 H54 p55 n55 s55 h55 H55 p56 n56 s56 h56 H56 p57 n57 s57 h57 H57 p58 n58 s58 h58 H58 p59 n59 s59 h59 H59 p60 n60 s60 h60 H60
    walk_at "d"
    subst hnx hrt
    -- 6
    refine r_nx ?_
    refine r_seq ?_
    refine gen_D fun dnx drt dbk dct hnx hrt => ?_
    walk_at "go"
    refine l_new (by show 2 ≤ sizeLine; decide) fun p65 n65 => ?_
    have s65 : Same H64 (upd H64 p65 (.tup [.int 0, .int 1])) := Same.one n65
    have h65 : (upd H64 p65 (.tup [.int 0, .int 1])) p65 = some (.tup [.int 0, .int 1]) := upd_same
    generalize upd H64 p65 (.tup [.int 0, .int 1]) = H65 at s65 h65
    walk_at "go"
    refine l_new (by show 1 ≤ sizeLine; decide) fun p66 n66 => ?_
    have s66 : Same H65 (upd H65 p66 (.lst [.ref p65])) := Same.one n66
    have h66 : (upd H65 p66 (.lst [.ref p65])) p66 = some (.lst [.ref p65]) := upd_same
    generalize upd H65 p66 (.lst [.ref p65]) = H66 at s66 h66
    replace h65 := s66 _ _ h65
    walk_at "go"
    refine l_new (by show 2 ≤ sizeLine; decide) fun p67 n67 => ?_
    have s67 : Same H66 (upd H66 p67 (.lst [.int 0, .int 1])) := Same.one n67
    have h67 : (upd H66 p67 (.lst [.int 0, .int 1])) p67 = some (.lst [.int 0, .int 1]) := upd_same
    generalize upd H66 p67 (.lst [.int 0, .int 1]) = H67 at s67 h67
    replace h65 := s67 _ _ h65
    replace h66 := s67 _ _ h66
    walk_at "go"
    refine l_new (by show 1 ≤ sizeLine; decide) fun p68 n68 => ?_
    have s68 : Same H67 (upd H67 p68 (.lst [.ref p67])) := Same.one n68
    have h68 : (upd H67 p68 (.lst [.ref p67])) p68 = some (.lst [.ref p67]) := upd_same
    generalize upd H67 p68 (.lst [.ref p67]) = H68 at s68 h68
    replace h65 := s68 _ _ h65
    replace h66 := s68 _ _ h66
    replace h67 := s68 _ _ h67
    walk_at "go"
    refine l_new (by show 3 ≤ sizeLine; decide) fun p69 n69 => ?_
    have s69 : Same H68 (upd H68 p69 (.tup [.ref p66, .ref p68, .bl true])) := Same.one n69
    have h69 : (upd H68 p69 (.tup [.ref p66, .ref p68, .bl true])) p69 = some (.tup [.ref p66, .ref p68, .bl true]) := upd_same
    generalize upd H68 p69 (.tup [.ref p66, .ref p68, .bl true]) = H69 at s69 h69
    replace h65 := s69 _ _ h65
    replace h66 := s69 _ _ h66
    replace h67 := s69 _ _ h67
    replace h68 := s69 _ _ h68
    walk_at "go"
    refine l_new (by show 2 ≤ sizeLine; decide) fun p70 n70 => ?_
    have s70 : Same H69 (upd H69 p70 (.tup [.int 1, .int 0])) := Same.one n70
    have h70 : (upd H69 p70 (.tup [.int 1, .int 0])) p70 = some (.tup [.int 1, .int 0]) := upd_same
    generalize upd H69 p70 (.tup [.int 1, .int 0]) = H70 at s70 h70
    replace h65 := s70 _ _ h65
    replace h66 := s70 _ _ h66
    replace h67 := s70 _ _ h67
    replace h68 := s70 _ _ h68
    replace h69 := s70 _ _ h69
    walk_at "go"
    refine l_new (by show 1 ≤ sizeLine; decide) fun p71 n71 => ?_
    have s71 : Same H70 (upd H70 p71 (.lst [.ref p70])) := Same.one n71
    have h71 : (upd H70 p71 (.lst [.ref p70])) p71 = some (.lst [.ref p70]) := upd_same
    generalize upd H70 p71 (.lst [.ref p70]) = H71 at s71 h71
    replace h65 := s71 _ _ h65
    replace h66 := s71 _ _ h66
    replace h67 := s71 _ _ h67
    replace h68 := s71 _ _ h68
    replace h69 := s71 _ _ h69
    replace h70 := s71 _ _ h70
    walk_at "go"
    refine l_new (by show 2 ≤ sizeLine; decide) fun p72 n72 => ?_
    have s72 : Same H71 (upd H71 p72 (.lst [.int 0, .int 1])) := Same.one n72
    have h72 : (upd H71 p72 (.lst [.int 0, .int 1])) p72 = some (.lst [.int 0, .int 1]) := upd_same
    generalize upd H71 p72 (.lst [.int 0, .int 1]) = H72 at s72 h72
    replace h65 := s72 _ _ h65
    replace h66 := s72 _ _ h66
    replace h67 := s72 _ _ h67
    replace h68 := s72 _ _ h68
    replace h69 := s72 _ _ h69
    replace h70 := s72 _ _ h70
    replace h71 := s72 _ _ h71
    walk_at "go"
    refine l_new (by show 1 ≤ sizeLine; decide) fun p73 n73 => ?_
    have s73 : Same H72 (upd H72 p73 (.lst [.ref p72])) := Same.one n73
    have h73 : (upd H72 p73 (.lst [.ref p72])) p73 = some (.lst [.ref p72]) := upd_same
    generalize upd H72 p73 (.lst [.ref p72]) = H73 at s73 h73
    replace h65 := s73 _ _ h65
    replace h66 := s73 _ _ h66
    replace h67 := s73 _ _ h67
    replace h68 := s73 _ _ h68
    replace h69 := s73 _ _ h69
    replace h70 := s73 _ _ h70
    replace h71 := s73 _ _ h71
    replace h72 := s73 _ _ h72
    walk_at "go"
    refine l_new (by show 3 ≤ sizeLine; decide) fun p74 n74 => ?_
    have s74 : Same H73 (upd H73 p74 (.tup [.ref p71, .ref p73, .bl false])) := Same.one n74
    have h74 : (upd H73 p74 (.tup [.ref p71, .ref p73, .bl false])) p74 = some (.tup [.ref p71, .ref p73, .bl false]) := upd_same
    generalize upd H73 p74 (.tup [.ref p71, .ref p73, .bl false]) = H74 at s74 h74
    replace h65 := s74 _ _ h65
    replace h66 := s74 _ _ h66
    replace h67 := s74 _ _ h67
    replace h68 := s74 _ _ h68
    replace h69 := s74 _ _ h69
    replace h70 := s74 _ _ h70
    replace h71 := s74 _ _ h71
    replace h72 := s74 _ _ h72
    replace h73 := s74 _ _ h73
    walk_at "go"
    refine l_new (by show 2 ≤ sizeLine; decide) fun p75 n75 => ?_
    have s75 : Same H74 (upd H74 p75 (.tup [.int 0, .int 1])) := Same.one n75
    have h75 : (upd H74 p75 (.tup [.int 0, .int 1])) p75 = some (.tup [.int 0, .int 1]) := upd_same
    generalize upd H74 p75 (.tup [.int 0, .int 1]) = H75 at s75 h75
    replace h65 := s75 _ _ h65
    replace h66 := s75 _ _ h66
    replace h67 := s75 _ _ h67
    replace h68 := s75 _ _ h68
    replace h69 := s75 _ _ h69
    replace h70 := s75 _ _ h70
    replace h71 := s75 _ _ h71
    replace h72 := s75 _ _ h72
    replace h73 := s75 _ _ h73
    replace h74 := s75 _ _ h74
    walk_at "go"
    refine l_new (by show 1 ≤ sizeLine; decide) fun p76 n76 => ?_
    have s76 : Same H75 (upd H75 p76 (.lst [.ref p75])) := Same.one n76
    have h76 : (upd H75 p76 (.lst [.ref p75])) p76 = some (.lst [.ref p75]) := upd_same
    generalize upd H75 p76 (.lst [.ref p75]) = H76 at s76 h76
    replace h65 := s76 _ _ h65
    replace h66 := s76 _ _ h66
    replace h67 := s76 _ _ h67
    replace h68 := s76 _ _ h68
    replace h69 := s76 _ _ h69
    replace h70 := s76 _ _ h70
    replace h71 := s76 _ _ h71
    replace h72 := s76 _ _ h72
    replace h73 := s76 _ _ h73
    replace h74 := s76 _ _ h74
    replace h75 := s76 _ _ h75
    walk_at "go"
    refine l_new (by show 2 ≤ sizeLine; decide) fun p77 n77 => ?_
    have s77 : Same H76 (upd H76 p77 (.lst [.int 1, .int 0])) := Same.one n77
    have h77 : (upd H76 p77 (.lst [.int 1, .int 0])) p77 = some (.lst [.int 1, .int 0]) := upd_same
    generalize upd H76 p77 (.lst [.int 1, .int 0]) = H77 at s77 h77
    replace h65 := s77 _ _ h65
    replace h66 := s77 _ _ h66
    replace h67 := s77 _ _ h67
    replace h68 := s77 _ _ h68
    replace h69 := s77 _ _ h69
    replace h70 := s77 _ _ h70
    replace h71 := s77 _ _ h71
    replace h72 := s77 _ _ h72
    replace h73 := s77 _ _ h73
    replace h74 := s77 _ _ h74
    replace h75 := s77 _ _ h75
    replace h76 := s77 _ _ h76
    walk_at "go"
    refine l_new (by show 1 ≤ sizeLine; decide) fun p78 n78 => ?_
    have s78 : Same H77 (upd H77 p78 (.lst [.ref p77])) := Same.one n78
    have h78 : (upd H77 p78 (.lst [.ref p77])) p78 = some (.lst [.ref p77]) := upd_same
    generalize upd H77 p78 (.lst [.ref p77]) = H78 at s78 h78
    replace h65 := s78 _ _ h65
    replace h66 := s78 _ _ h66
    replace h67 := s78 _ _ h67
    replace h68 := s78 _ _ h68
    replace h69 := s78 _ _ h69
    replace h70 := s78 _ _ h70
    replace h71 := s78 _ _ h71
    replace h72 := s78 _ _ h72
    replace h73 := s78 _ _ h73
    replace h74 := s78 _ _ h74
    replace h75 := s78 _ _ h75
    replace h76 := s78 _ _ h76
    replace h77 := s78 _ _ h77
    walk_at "go"
    refine l_new (by show 3 ≤ sizeLine; decide) fun p79 n79 => ?_
    have s79 : Same H78 (upd H78 p79 (.tup [.ref p76, .ref p78, .bl true])) := Same.one n79
    have h79 : (upd H78 p79 (.tup [.ref p76, .ref p78, .bl true])) p79 = some (.tup [.ref p76, .ref p78, .bl true]) := upd_same
    generalize upd H78 p79 (.tup [.ref p76, .ref p78, .bl true]) = H79 at s79 h79
    replace h65 := s79 _ _ h65
    replace h66 := s79 _ _ h66
    replace h67 := s79 _ _ h67
    replace h68 := s79 _ _ h68
    replace h69 := s79 _ _ h69
    replace h70 := s79 _ _ h70
    replace h71 := s79 _ _ h71
    replace h72 := s79 _ _ h72
    replace h73 := s79 _ _ h73
    replace h74 := s79 _ _ h74
    replace h75 := s79 _ _ h75
    replace h76 := s79 _ _ h76
    replace h77 := s79 _ _ h77
    replace h78 := s79 _ _ h78
    walk_at "go"
    refine l_new (by show 3 ≤ sizeLine; decide) fun p80 n80 => ?_
    have s80 : Same H79 (upd H79 p80 (.lst [.ref p69, .ref p74, .ref p79])) := Same.one n80
    have h80 : (upd H79 p80 (.lst [.ref p69, .ref p74, .ref p79])) p80 = some (.lst [.ref p69, .ref p74, .ref p79]) := upd_same
    generalize upd H79 p80 (.lst [.ref p69, .ref p74, .ref p79]) = H80 at s80 h80
    replace h65 := s80 _ _ h65
    replace h66 := s80 _ _ h66
    replace h67 := s80 _ _ h67
    replace h68 := s80 _ _ h68
    replace h69 := s80 _ _ h69
    replace h70 := s80 _ _ h70
    replace h71 := s80 _ _ h71
    replace h72 := s80 _ _ h72
    replace h73 := s80 _ _ h73
    replace h74 := s80 _ _ h74
    replace h75 := s80 _ _ h75
    replace h76 := s80 _ _ h76
    replace h77 := s80 _ _ h77
    replace h78 := s80 _ _ h78
    replace h79 := s80 _ _ h79
    have all : ∀ t ∈ [p69, p74, p79], ItPLb (fun ps rs b => exShows [1, 0] ps rs = b ∧ ps.length ≤ 10 ∧ Small rs) H80 t := fm (⟨_, _, _, [(0, 1)], [[0, 1]], h69, ⟨_, [p65], rfl, h66, (Tf.nil.app (Tf.one (p := (0, 1)) h65))⟩, ⟨_, [p67], rfl, h68, (Lf.nil.snoc (r := [0, 1]) h67)⟩, by first | decide +kernel | (show _ ∧ _; decide +kernel)⟩) (fm (⟨_, _, _, [(1, 0)], [[0, 1]], h74, ⟨_, [p70], rfl, h71, (Tf.nil.app (Tf.one (p := (1, 0)) h70))⟩, ⟨_, [p72], rfl, h73, (Lf.nil.snoc (r := [0, 1]) h72)⟩, by first | decide +kernel | (show _ ∧ _; decide +kernel)⟩) (fm (⟨_, _, _, [(0, 1)], [[1, 0]], h79, ⟨_, [p75], rfl, h76, (Tf.nil.app (Tf.one (p := (0, 1)) h75))⟩, ⟨_, [p77], rfl, h78, (Lf.nil.snoc (r := [1, 0]) h77)⟩, by first | decide +kernel | (show _ ∧ _; decide +kernel)⟩) (fm0)))
    have hL := h80
    walk_at "go"
    refine k_lst (f := V.ref) [p69, p74, p79] (fun i σ H' => ∃ v0 v1 v2 v3 v4 v5, σ = [v0, v1, v2, v3, v4, v5] ∧ Same H80 H') (SqL.of hL) ⟨_, _, _, _, _, _, rfl, Same.refl _⟩ (fun i σ H' _ ⟨_, _, _, _, _, _, _, s⟩ => SqL.of (s _ _ hL)) ?_ ?_
    · rintro i t σ H' hi ⟨v0, v1, v2, v3, v4, v5, rfl, S⟩
      obtain ⟨_, _, b, ps, rs, ht, ⟨m, ts, rfl, hm, tf⟩, ⟨l, as, rfl, hu, lf⟩, e, smp, sm1, sm2, sm3⟩ := (all t (List.mem_of_getElem? hi)).same S
      clear all hL hi p65 n65 s65 h65 H65 p66 n66 s66 h66 H66 p67 n67 s67 h67 H67 p68 n68 s68 h68 H68 p69 n69 s69 h69 H69 p70 n70 s70 h70 H70 p71 n71 s71 h71 H71 p72 n72 s72 h72 H72 p73 n73 s73 h73 H73 p74 n74 s74 h74 H74 p75 n75 s75 h75 H75 p76 n76 s76 h76 H76 p77 n77 s77 h77 H77 p78 n78 s78 h78 H78 p79 n79 s79 h79 H79 p80 n80 s80 h80
      refine ⟨t, _, rfl, SqT.of ht, rfl, _, _, rfl, _, _, rfl, _, _, rfl, rfl, ?_⟩
      walk_at "d"
      have ll := lf.1
      have lt := tf.1
      walk_at "go"
      intro y dy ny ndy nyd
      refine ⟨y, m, l, dy, ts, as, ps, rs, H', rfl, upd_same, by walk_at "same", ny, SqL.of hm, SqL.of hu, lf, tf, by omega, fun r hr => by have := sm2 r hr; omega, fun qp qr ds H81 s81 nqp nqr nqe nn mq1 mq2 O => ⟨rfl, ?_⟩⟩
      replace hu := s81 _ _ hu
      replace hm := s81 _ _ hm
      replace lf := lf.same s81
      replace tf := tf.same s81
      replace S := S.trans s81
      have ld := nn.len
      clear nn mq1 mq2 nqp nqr nqe ny ndy nyd
      obtain ⟨dx, ob⟩ := O.ob
      refine k_meth ob (exF_none qp qr (by decide) (by decide)) ?_
      walk_at "go"
      refine l_new (by show 2 ≤ sizeLine; decide) fun p82 n82 => ?_
      have s82 : Same H81 (upd H81 p82 (.lst [.int 1, .int 0])) := Same.one n82
      have h82 : (upd H81 p82 (.lst [.int 1, .int 0])) p82 = some (.lst [.int 1, .int 0]) := upd_same
      generalize upd H81 p82 (.lst [.int 1, .int 0]) = H82 at s82 h82
      replace hu := s82 _ _ hu
      replace hm := s82 _ _ hm
      replace lf := lf.same s82
      replace tf := tf.same s82
      replace S := S.trans s82
      replace O := O.same s82
      walk_at "go"
      refine ⟨y, qp, qr, p82, ts, ds, ps, rs, [1, 0], rfl, O, SqL.of h82, by decide, by omega, by omega, fun r hr => by have := sm2 r hr; omega, by omega, fun H83 s83 => ?_⟩
      replace hu := s83 _ _ hu
      replace hm := s83 _ _ hm
      replace h82 := s83 _ _ h82
      replace lf := lf.same s83
      replace tf := tf.same s83
      replace S := S.trans s83
      walk_at "go"
      refine ⟨_, _, rfl, ?_⟩
      rw [e, beq_self_eq_true]
      walk_at "go"
      exact ⟨_, _, _, _, _, _, rfl, S⟩
    rintro σ H84 ⟨v0, v1, v2, v3, v4, v5, rfl, S⟩
    clear all hL S
    clear p65 n65 s65 h65 H65 p66 n66 s66 h66 H66 p67 n67 s67 h67 H67 p68 n68 s68 h68 H68 p69 n69 s69 h69 H69 p70 n70 s70 h70 H70 p71 n71 s71 h71 H71 p72 n72 s72 h72 H72 p73 n73 s73 h73 H73 p74 n74 s74 h74 H74 p75 n75 s75 h75 H75 p76 n76 s76 h76 H76 p77 n77 s77 h77 H77 p78 n78 s78 h78 H78 p79 n79 s79 h79 H79 p80 n80 s80 h80 H80
    walk_at "d"
    subst hnx hrt
    -- 7
    refine r_nx ?_
    refine r_seq ?_
    refine gen_D fun dnx drt dbk dct hnx hrt => ?_
    walk_at "go"
    refine l_new (by show 2 ≤ sizeLine; decide) fun p85 n85 => ?_
    have s85 : Same H84 (upd H84 p85 (.tup [.int 0, .int 1])) := Same.one n85
    have h85 : (upd H84 p85 (.tup [.int 0, .int 1])) p85 = some (.tup [.int 0, .int 1]) := upd_same
    generalize upd H84 p85 (.tup [.int 0, .int 1]) = H85 at s85 h85
    walk_at "go"
    refine l_new (by show 2 ≤ sizeLine; decide) fun p86 n86 => ?_
    have s86 : Same H85 (upd H85 p86 (.tup [.int 0, .int 1])) := Same.one n86
    have h86 : (upd H85 p86 (.tup [.int 0, .int 1])) p86 = some (.tup [.int 0, .int 1]) := upd_same
    generalize upd H85 p86 (.tup [.int 0, .int 1]) = H86 at s86 h86
    replace h85 := s86 _ _ h85
    walk_at "go"
    refine l_new (by show 2 ≤ sizeLine; decide) fun p87 n87 => ?_
    have s87 : Same H86 (upd H86 p87 (.lst [.ref p85, .ref p86])) := Same.one n87
    have h87 : (upd H86 p87 (.lst [.ref p85, .ref p86])) p87 = some (.lst [.ref p85, .ref p86]) := upd_same
    generalize upd H86 p87 (.lst [.ref p85, .ref p86]) = H87 at s87 h87
    replace h85 := s87 _ _ h85
    replace h86 := s87 _ _ h86
    walk_at "go"
    refine l_new (by show 1 ≤ sizeLine; decide) fun p88 n88 => ?_
    have s88 : Same H87 (upd H87 p88 (.lst [.int 0])) := Same.one n88
    have h88 : (upd H87 p88 (.lst [.int 0])) p88 = some (.lst [.int 0]) := upd_same
    generalize upd H87 p88 (.lst [.int 0]) = H88 at s88 h88
    replace h85 := s88 _ _ h85
    replace h86 := s88 _ _ h86
    replace h87 := s88 _ _ h87
    walk_at "go"
    refine l_new (by show 1 ≤ sizeLine; decide) fun p89 n89 => ?_
    have s89 : Same H88 (upd H88 p89 (.lst [.int 1])) := Same.one n89
    have h89 : (upd H88 p89 (.lst [.int 1])) p89 = some (.lst [.int 1]) := upd_same
    generalize upd H88 p89 (.lst [.int 1]) = H89 at s89 h89
    replace h85 := s89 _ _ h85
    replace h86 := s89 _ _ h86
    replace h87 := s89 _ _ h87
    replace h88 := s89 _ _ h88
    walk_at "go"
    refine l_new (by show 1 ≤ sizeLine; decide) fun p90 n90 => ?_
    have s90 : Same H89 (upd H89 p90 (.lst [.int 2])) := Same.one n90
    have h90 : (upd H89 p90 (.lst [.int 2])) p90 = some (.lst [.int 2]) := upd_same
    generalize upd H89 p90 (.lst [.int 2]) = H90 at s90 h90
    replace h85 := s90 _ _ h85
    replace h86 := s90 _ _ h86
    replace h87 := s90 _ _ h87
    replace h88 := s90 _ _ h88
    replace h89 := s90 _ _ h89
    walk_at "go"
    refine l_new (by show 3 ≤ sizeLine; decide) fun p91 n91 => ?_
    have s91 : Same H90 (upd H90 p91 (.lst [.ref p88, .ref p89, .ref p90])) := Same.one n91
    have h91 : (upd H90 p91 (.lst [.ref p88, .ref p89, .ref p90])) p91 = some (.lst [.ref p88, .ref p89, .ref p90]) := upd_same
    generalize upd H90 p91 (.lst [.ref p88, .ref p89, .ref p90]) = H91 at s91 h91
    replace h85 := s91 _ _ h85
    replace h86 := s91 _ _ h86
    replace h87 := s91 _ _ h87
    replace h88 := s91 _ _ h88
    replace h89 := s91 _ _ h89
    replace h90 := s91 _ _ h90
    walk_at "go"
    intro y dy ny ndy nyd
    refine ⟨y, p87, p91, dy, [p85, p86], [p88, p89, p90], [(0, 1), (0, 1)], [[0], [1], [2]], H91, rfl, upd_same, by walk_at "same", ny, SqL.of h87, SqL.of h91, (((Lf.nil.snoc (r := [0]) h88).snoc (r := [1]) h89).snoc (r := [2]) h90), ((Tf.nil.app (Tf.one (p := (0, 1)) h85)).app (Tf.one (p := (0, 1)) h86)), by simp, by simp, fun qp qr ds H92 s92 nqp nqr nqe nn mq1 mq2 O => ⟨rfl, ?_⟩⟩
    replace h85 := s92 _ _ h85
    replace h86 := s92 _ _ h86
    replace h87 := s92 _ _ h87
    replace h88 := s92 _ _ h88
    replace h89 := s92 _ _ h89
    replace h90 := s92 _ _ h90
    replace h91 := s92 _ _ h91
    have ld := nn.len
    clear nn mq1 mq2 nqp nqr nqe ny ndy nyd
    obtain ⟨dx, ob⟩ := O.ob
    refine k_meth ob (exF_none qp qr (by decide) (by decide)) ?_
    walk_at "go"
    refine l_new (by show 3 ≤ sizeLine; decide) fun p93 n93 => ?_
    have s93 : Same H92 (upd H92 p93 (.lst [.int 0, .int 1, .int 2])) := Same.one n93
    have h93 : (upd H92 p93 (.lst [.int 0, .int 1, .int 2])) p93 = some (.lst [.int 0, .int 1, .int 2]) := upd_same
    generalize upd H92 p93 (.lst [.int 0, .int 1, .int 2]) = H93 at s93 h93
    replace h85 := s93 _ _ h85
    replace h86 := s93 _ _ h86
    replace h87 := s93 _ _ h87
    replace h88 := s93 _ _ h88
    replace h89 := s93 _ _ h89
    replace h90 := s93 _ _ h90
    replace h91 := s93 _ _ h91
    replace O := O.same s93
    walk_at "go"
    refine ⟨y, qp, qr, p93, [p85, p86], ds, [(0, 1), (0, 1)], [[0], [1], [2]], [0, 1, 2], rfl, O, SqL.of h93, by decide, by simp, by rw [ld]; simp, by simp, by simp, fun H94 s94 => ?_⟩
    replace h85 := s94 _ _ h85
    replace h86 := s94 _ _ h86
    replace h87 := s94 _ _ h87
    replace h88 := s94 _ _ h88
    replace h89 := s94 _ _ h89
    replace h90 := s94 _ _ h90
    replace h91 := s94 _ _ h91
    replace h93 := s94 _ _ h93
    walk_at "go"
    refine ⟨_, _, rfl, ?_⟩
    rw [(show exShows [0, 1, 2] [(0, 1), (0, 1)] [[0], [1], [2]] = false by decide +kernel), beq_self_eq_true]
    walk_at "go"
    clear p85 n85 s85 h85 H85 p86 n86 s86 h86 H86 p87 n87 s87 h87 H87 p88 n88 s88 h88 H88 p89 n89 s89 h89 H89 p90 n90 s90 h90 H90 p91 n91 s91 h91 H91 y dy H92 s92 qp qr ds ld O dx ob p93 n93 s93 h93 H93 s94
    subst hnx hrt
    -- 8
    refine r_nx ?_
    refine r_seq ?_
    refine gen_D fun dnx drt dbk dct hnx hrt => ?_
    walk_at "go"
    refine l_new (by show 2 ≤ sizeLine; decide) fun p95 n95 => ?_
    have s95 : Same H94 (upd H94 p95 (.tup [.int 1, .int 1])) := Same.one n95
    have h95 : (upd H94 p95 (.tup [.int 1, .int 1])) p95 = some (.tup [.int 1, .int 1]) := upd_same
    generalize upd H94 p95 (.tup [.int 1, .int 1]) = H95 at s95 h95
    walk_at "go"
    refine l_new (by show 1 ≤ sizeLine; decide) fun p96 n96 => ?_
    have s96 : Same H95 (upd H95 p96 (.lst [.ref p95])) := Same.one n96
    have h96 : (upd H95 p96 (.lst [.ref p95])) p96 = some (.lst [.ref p95]) := upd_same
    generalize upd H95 p96 (.lst [.ref p95]) = H96 at s96 h96
    replace h95 := s96 _ _ h95
    walk_at "go"
    refine l_new (by show 2 ≤ sizeLine; decide) fun p97 n97 => ?_
    have s97 : Same H96 (upd H96 p97 (.tup [.ref p96, .bl true])) := Same.one n97
    have h97 : (upd H96 p97 (.tup [.ref p96, .bl true])) p97 = some (.tup [.ref p96, .bl true]) := upd_same
    generalize upd H96 p97 (.tup [.ref p96, .bl true]) = H97 at s97 h97
    replace h95 := s97 _ _ h95
    replace h96 := s97 _ _ h96
    walk_at "go"
    refine l_new (by show 2 ≤ sizeLine; decide) fun p98 n98 => ?_
    have s98 : Same H97 (upd H97 p98 (.tup [.int 1, .int 2])) := Same.one n98
    have h98 : (upd H97 p98 (.tup [.int 1, .int 2])) p98 = some (.tup [.int 1, .int 2]) := upd_same
    generalize upd H97 p98 (.tup [.int 1, .int 2]) = H98 at s98 h98
    replace h95 := s98 _ _ h95
    replace h96 := s98 _ _ h96
    replace h97 := s98 _ _ h97
    walk_at "go"
    refine l_new (by show 1 ≤ sizeLine; decide) fun p99 n99 => ?_
    have s99 : Same H98 (upd H98 p99 (.lst [.ref p98])) := Same.one n99
    have h99 : (upd H98 p99 (.lst [.ref p98])) p99 = some (.lst [.ref p98]) := upd_same
    generalize upd H98 p99 (.lst [.ref p98]) = H99 at s99 h99
    replace h95 := s99 _ _ h95
    replace h96 := s99 _ _ h96
    replace h97 := s99 _ _ h97
    replace h98 := s99 _ _ h98
    walk_at "go"
    refine l_new (by show 2 ≤ sizeLine; decide) fun p100 n100 => ?_
    have s100 : Same H99 (upd H99 p100 (.tup [.ref p99, .bl false])) := Same.one n100
    have h100 : (upd H99 p100 (.tup [.ref p99, .bl false])) p100 = some (.tup [.ref p99, .bl false]) := upd_same
    generalize upd H99 p100 (.tup [.ref p99, .bl false]) = H100 at s100 h100
    replace h95 := s100 _ _ h95
    replace h96 := s100 _ _ h96
    replace h97 := s100 _ _ h97
    replace h98 := s100 _ _ h98
    replace h99 := s100 _ _ h99
    walk_at "go"
    refine l_new (by show 2 ≤ sizeLine; decide) fun p101 n101 => ?_
    have s101 : Same H100 (upd H100 p101 (.tup [.int 0, .int 0])) := Same.one n101
    have h101 : (upd H100 p101 (.tup [.int 0, .int 0])) p101 = some (.tup [.int 0, .int 0]) := upd_same
    generalize upd H100 p101 (.tup [.int 0, .int 0]) = H101 at s101 h101
    replace h95 := s101 _ _ h95
    replace h96 := s101 _ _ h96
    replace h97 := s101 _ _ h97
    replace h98 := s101 _ _ h98
    replace h99 := s101 _ _ h99
    replace h100 := s101 _ _ h100
    walk_at "go"
    refine l_new (by show 1 ≤ sizeLine; decide) fun p102 n102 => ?_
    have s102 : Same H101 (upd H101 p102 (.lst [.ref p101])) := Same.one n102
    have h102 : (upd H101 p102 (.lst [.ref p101])) p102 = some (.lst [.ref p101]) := upd_same
    generalize upd H101 p102 (.lst [.ref p101]) = H102 at s102 h102
    replace h95 := s102 _ _ h95
    replace h96 := s102 _ _ h96
    replace h97 := s102 _ _ h97
    replace h98 := s102 _ _ h98
    replace h99 := s102 _ _ h99
    replace h100 := s102 _ _ h100
    replace h101 := s102 _ _ h101
    walk_at "go"
    refine l_new (by show 2 ≤ sizeLine; decide) fun p103 n103 => ?_
    have s103 : Same H102 (upd H102 p103 (.tup [.ref p102, .bl true])) := Same.one n103
    have h103 : (upd H102 p103 (.tup [.ref p102, .bl true])) p103 = some (.tup [.ref p102, .bl true]) := upd_same
    generalize upd H102 p103 (.tup [.ref p102, .bl true]) = H103 at s103 h103
    replace h95 := s103 _ _ h95
    replace h96 := s103 _ _ h96
    replace h97 := s103 _ _ h97
    replace h98 := s103 _ _ h98
    replace h99 := s103 _ _ h99
    replace h100 := s103 _ _ h100
    replace h101 := s103 _ _ h101
    replace h102 := s103 _ _ h102
    walk_at "go"
    refine l_new (by show 2 ≤ sizeLine; decide) fun p104 n104 => ?_
    have s104 : Same H103 (upd H103 p104 (.tup [.int 0, .int 0])) := Same.one n104
    have h104 : (upd H103 p104 (.tup [.int 0, .int 0])) p104 = some (.tup [.int 0, .int 0]) := upd_same
    generalize upd H103 p104 (.tup [.int 0, .int 0]) = H104 at s104 h104
    replace h95 := s104 _ _ h95
    replace h96 := s104 _ _ h96
    replace h97 := s104 _ _ h97
    replace h98 := s104 _ _ h98
    replace h99 := s104 _ _ h99
    replace h100 := s104 _ _ h100
    replace h101 := s104 _ _ h101
    replace h102 := s104 _ _ h102
    replace h103 := s104 _ _ h103
    walk_at "go"
    refine l_new (by show 2 ≤ sizeLine; decide) fun p105 n105 => ?_
    have s105 : Same H104 (upd H104 p105 (.tup [.int 0, .int 0])) := Same.one n105
    have h105 : (upd H104 p105 (.tup [.int 0, .int 0])) p105 = some (.tup [.int 0, .int 0]) := upd_same
    generalize upd H104 p105 (.tup [.int 0, .int 0]) = H105 at s105 h105
    replace h95 := s105 _ _ h95
    replace h96 := s105 _ _ h96
    replace h97 := s105 _ _ h97
    replace h98 := s105 _ _ h98
    replace h99 := s105 _ _ h99
    replace h100 := s105 _ _ h100
    replace h101 := s105 _ _ h101
    replace h102 := s105 _ _ h102
    replace h103 := s105 _ _ h103
    replace h104 := s105 _ _ h104
    walk_at "go"
    refine l_new (by show 2 ≤ sizeLine; decide) fun p106 n106 => ?_
    have s106 : Same H105 (upd H105 p106 (.lst [.ref p104, .ref p105])) := Same.one n106
    have h106 : (upd H105 p106 (.lst [.ref p104, .ref p105])) p106 = some (.lst [.ref p104, .ref p105]) := upd_same
    generalize upd H105 p106 (.lst [.ref p104, .ref p105]) = H106 at s106 h106
    replace h95 := s106 _ _ h95
    replace h96 := s106 _ _ h96
    replace h97 := s106 _ _ h97
    replace h98 := s106 _ _ h98
    replace h99 := s106 _ _ h99
    replace h100 := s106 _ _ h100
    replace h101 := s106 _ _ h101
    replace h102 := s106 _ _ h102
    replace h103 := s106 _ _ h103
    replace h104 := s106 _ _ h104
    replace h105 := s106 _ _ h105
    walk_at "go"
    refine l_new (by show 2 ≤ sizeLine; decide) fun p107 n107 => ?_
    have s107 : Same H106 (upd H106 p107 (.tup [.ref p106, .bl false])) := Same.one n107
    have h107 : (upd H106 p107 (.tup [.ref p106, .bl false])) p107 = some (.tup [.ref p106, .bl false]) := upd_same
    generalize upd H106 p107 (.tup [.ref p106, .bl false]) = H107 at s107 h107
    replace h95 := s107 _ _ h95
    replace h96 := s107 _ _ h96
    replace h97 := s107 _ _ h97
    replace h98 := s107 _ _ h98
    replace h99 := s107 _ _ h99
    replace h100 := s107 _ _ h100
    replace h101 := s107 _ _ h101
    replace h102 := s107 _ _ h102
    replace h103 := s107 _ _ h103
    replace h104 := s107 _ _ h104
    replace h105 := s107 _ _ h105
    replace h106 := s107 _ _ h106
    walk_at "go"
    refine l_new (by show 4 ≤ sizeLine; decide) fun p108 n108 => ?_
    have s108 : Same H107 (upd H107 p108 (.lst [.ref p97, .ref p100, .ref p103, .ref p107])) := Same.one n108
    have h108 : (upd H107 p108 (.lst [.ref p97, .ref p100, .ref p103, .ref p107])) p108 = some (.lst [.ref p97, .ref p100, .ref p103, .ref p107]) := upd_same
    generalize upd H107 p108 (.lst [.ref p97, .ref p100, .ref p103, .ref p107]) = H108 at s108 h108
    replace h95 := s108 _ _ h95
    replace h96 := s108 _ _ h96
    replace h97 := s108 _ _ h97
    replace h98 := s108 _ _ h98
    replace h99 := s108 _ _ h99
    replace h100 := s108 _ _ h100
    replace h101 := s108 _ _ h101
    replace h102 := s108 _ _ h102
    replace h103 := s108 _ _ h103
    replace h104 := s108 _ _ h104
    replace h105 := s108 _ _ h105
    replace h106 := s108 _ _ h106
    replace h107 := s108 _ _ h107
    have all : ∀ t ∈ [p97, p100, p103, p107], ItP (fun ps b => enShows [1, 0] ps = b ∧ ps.length ≤ 10) H108 t := fm (⟨_, _, [(1, 1)], h97, ⟨_, [p95], rfl, h96, (Tf.nil.app (Tf.one (p := (1, 1)) h95))⟩, by first | decide +kernel | (show _ ∧ _; decide +kernel)⟩) (fm (⟨_, _, [(1, 2)], h100, ⟨_, [p98], rfl, h99, (Tf.nil.app (Tf.one (p := (1, 2)) h98))⟩, by first | decide +kernel | (show _ ∧ _; decide +kernel)⟩) (fm (⟨_, _, [(0, 0)], h103, ⟨_, [p101], rfl, h102, (Tf.nil.app (Tf.one (p := (0, 0)) h101))⟩, by first | decide +kernel | (show _ ∧ _; decide +kernel)⟩) (fm (⟨_, _, [(0, 0), (0, 0)], h107, ⟨_, [p104, p105], rfl, h106, ((Tf.nil.app (Tf.one (p := (0, 0)) h104)).app (Tf.one (p := (0, 0)) h105))⟩, by first | decide +kernel | (show _ ∧ _; decide +kernel)⟩) (fm0))))
    have hL := h108
    walk_at "go"
    refine k_lst (f := V.ref) [p97, p100, p103, p107] (fun i σ H' => ∃ v0 v1 v2 v3 v4 v5, σ = [v0, v1, v2, v3, v4, v5] ∧ Same H108 H') (SqL.of hL) ⟨_, _, _, _, _, _, rfl, Same.refl _⟩ (fun i σ H' _ ⟨_, _, _, _, _, _, _, s⟩ => SqL.of (s _ _ hL)) ?_ ?_
    · rintro i t σ H' hi ⟨v0, v1, v2, v3, v4, v5, rfl, S⟩
      obtain ⟨_, b, ps, ht, ⟨m, ts, rfl, hm, tf⟩, e, sm⟩ := (all t (List.mem_of_getElem? hi)).same S
      clear all hL hi H94 p95 n95 s95 h95 H95 p96 n96 s96 h96 H96 p97 n97 s97 h97 H97 p98 n98 s98 h98 H98 p99 n99 s99 h99 H99 p100 n100 s100 h100 H100 p101 n101 s101 h101 H101 p102 n102 s102 h102 H102 p103 n103 s103 h103 H103 p104 n104 s104 h104 H104 p105 n105 s105 h105 H105 p106 n106 s106 h106 H106 p107 n107 s107 h107 H107 p108 n108 s108 h108
      refine ⟨t, _, rfl, SqT.of ht, rfl, _, _, rfl, _, _, rfl, rfl, ?_⟩
      walk_at "d"
      have lt := tf.1
      walk_at "go"
      intro y dy ny ndy nyd
      refine ⟨y, m, dy, ts, ps, H', rfl, upd_same, by walk_at "same", ny, SqL.of hm, tf, fun pu H109 s109 npu O => ⟨rfl, ?_⟩⟩
      replace hm := s109 _ _ hm
      replace tf := tf.same s109
      replace S := S.trans s109
      obtain ⟨dx, ob⟩ := O.ob
      refine k_meth ob (oneF_none pu (by decide)) ?_
      walk_at "go"
      refine l_new (by show 2 ≤ sizeLine; decide) fun p110 n110 => ?_
      have s110 : Same H109 (upd H109 p110 (.lst [.int 1, .int 0])) := Same.one n110
      have h110 : (upd H109 p110 (.lst [.int 1, .int 0])) p110 = some (.lst [.int 1, .int 0]) := upd_same
      generalize upd H109 p110 (.lst [.int 1, .int 0]) = H110 at s110 h110
      replace hm := s110 _ _ hm
      replace tf := tf.same s110
      replace S := S.trans s110
      replace O := O.same s110
      walk_at "go"
      refine ⟨y, pu, p110, ts, ps, [1, 0], rfl, O, SqL.of h110, row_10, by omega, fun H111 s111 => ?_⟩
      replace hm := s111 _ _ hm
      replace h110 := s111 _ _ h110
      replace tf := tf.same s111
      replace S := S.trans s111
      walk_at "go"
      refine ⟨_, _, rfl, ?_⟩
      rw [e, beq_self_eq_true]
      walk_at "go"
      exact ⟨_, _, _, _, _, _, rfl, S⟩
    rintro σ H112 ⟨v0, v1, v2, v3, v4, v5, rfl, S⟩
    clear all hL S
    clear H94 p95 n95 s95 h95 H95 p96 n96 s96 h96 H96 p97 n97 s97 h97 H97 p98 n98 s98 h98 H98 p99 n99 s99 h99 H99 p100 n100 s100 h100 H100 p101 n101 s101 h101 H101 p102 n102 s102 h102 H102 p103 n103 s103 h103 H103 p104 n104 s104 h104 H104 p105 n105 s105 h105 H105 p106 n106 s106 h106 H106 p107 n107 s107 h107 H107 p108 n108 s108 h108 H108
    walk_at "d"
    subst hnx hrt
    -- 9
    refine r_nx ?_
    refine r_seq ?_
    refine gen_D fun dnx drt dbk dct hnx hrt => ?_
    walk_at "go"
    refine l_new (by show 3 ≤ sizeLine; decide) fun p113 n113 => ?_
    have s113 : Same H112 (upd H112 p113 (.lst [.int 0, .int 1, .int 0])) := Same.one n113
    have h113 : (upd H112 p113 (.lst [.int 0, .int 1, .int 0])) p113 = some (.lst [.int 0, .int 1, .int 0]) := upd_same
    generalize upd H112 p113 (.lst [.int 0, .int 1, .int 0]) = H113 at s113 h113
    walk_at "go"
    refine l_new (by show 1 ≤ sizeLine; decide) fun p114 n114 => ?_
    have s114 : Same H113 (upd H113 p114 (.lst [.int 0])) := Same.one n114
    have h114 : (upd H113 p114 (.lst [.int 0])) p114 = some (.lst [.int 0]) := upd_same
    generalize upd H113 p114 (.lst [.int 0]) = H114 at s114 h114
    replace h113 := s114 _ _ h113
    walk_at "go"
    refine l_new (by show 2 ≤ sizeLine; decide) fun p115 n115 => ?_
    have s115 : Same H114 (upd H114 p115 (.lst [.ref p113, .ref p114])) := Same.one n115
    have h115 : (upd H114 p115 (.lst [.ref p113, .ref p114])) p115 = some (.lst [.ref p113, .ref p114]) := upd_same
    generalize upd H114 p115 (.lst [.ref p113, .ref p114]) = H115 at s115 h115
    replace h113 := s115 _ _ h113
    replace h114 := s115 _ _ h114
    have all : ∀ t ∈ [p113, p114], ItQ (fun things => frShows [2, 0, 1, 3] things = false ∧ things.length ≤ 10) H115 t := fm (⟨[0, 1, 0], h113, by first | decide +kernel | (show _ ∧ _; decide +kernel)⟩) (fm (⟨[0], h114, by first | decide +kernel | (show _ ∧ _; decide +kernel)⟩) (fm0))
    have hL := h115
    walk_at "go"
    refine k_lstN (f := V.ref) [p113, p114] (fun i σ H' => ∃ v0 v1 v2 v3 v4 v5, σ = [v0, v1, v2, v3, v4, v5] ∧ Same H115 H') (SqL.of hL) ⟨_, _, _, _, _, _, rfl, Same.refl _⟩ (fun i σ H' _ ⟨_, _, _, _, _, _, _, s⟩ => SqL.of (s _ _ hL)) ?_ ?_
    · rintro i t σ H' hi ⟨v0, v1, v2, v3, v4, v5, rfl, S⟩
      obtain ⟨things, ht, e, sm⟩ := (all t (List.mem_of_getElem? hi)).same S
      clear all hL hi p113 n113 s113 h113 H113 p114 n114 s114 h114 H114 p115 n115 s115 h115
      walk_at "d"
      walk_at "go"
      intro y dy ny ndy nyd
      refine ⟨y, t, dy, things, H', rfl, upd_same, by walk_at "same", ny, SqL.of ht, fun pu H116 s116 npu O => ⟨rfl, ?_⟩⟩
      replace ht := s116 _ _ ht
      replace S := S.trans s116
      obtain ⟨dx, ob⟩ := O.ob
      refine k_meth ob (oneF_none pu (by decide)) ?_
      walk_at "go"
      refine l_new (by show 4 ≤ sizeLine; decide) fun p117 n117 => ?_
      have s117 : Same H116 (upd H116 p117 (.lst [.int 2, .int 0, .int 1, .int 3])) := Same.one n117
      have h117 : (upd H116 p117 (.lst [.int 2, .int 0, .int 1, .int 3])) p117 = some (.lst [.int 2, .int 0, .int 1, .int 3]) := upd_same
      generalize upd H116 p117 (.lst [.int 2, .int 0, .int 1, .int 3]) = H117 at s117 h117
      replace ht := s117 _ _ ht
      replace S := S.trans s117
      replace O := O.same s117
      walk_at "go"
      refine ⟨y, pu, p117, things, [2, 0, 1, 3], rfl, O, SqL.of h117, row_2013, by omega, fun H118 s118 => ?_⟩
      replace ht := s118 _ _ ht
      replace h117 := s118 _ _ h117
      replace S := S.trans s118
      walk_at "go"
      refine ⟨_, _, rfl, ?_⟩
      rw [e, beq_self_eq_true]
      walk_at "go"
      exact ⟨_, _, _, _, _, _, rfl, S⟩
    rintro σ H119 ⟨v0, v1, v2, v3, v4, v5, rfl, S⟩
    clear all hL S
    clear p113 n113 s113 h113 H113 p114 n114 s114 h114 H114 p115 n115 s115 h115 H115
    walk_at "d"
    subst hnx hrt
    -- 10
    refine r_nx ?_
    walk_at "go"
    refine l_new (by show 1 ≤ sizeLine; decide) fun p120 n120 => ?_
    have s120 : Same H119 (upd H119 p120 (.lst [.int 0])) := Same.one n120
    have h120 : (upd H119 p120 (.lst [.int 0])) p120 = some (.lst [.int 0]) := upd_same
    generalize upd H119 p120 (.lst [.int 0]) = H120 at s120 h120
    walk_at "go"
    intro y dy ny ndy nyd
    refine ⟨y, p120, dy, [0], H120, rfl, upd_same, by walk_at "same", ny, SqL.of h120, fun pu H121 s121 npu O => ⟨rfl, ?_⟩⟩
    replace h120 := s121 _ _ h120
    obtain ⟨dx, ob⟩ := O.ob
    refine k_meth ob (oneF_none pu (by decide)) ?_
    walk_at "go"
    refine l_new (by show 3 ≤ sizeLine; decide) fun p122 n122 => ?_
    have s122 : Same H121 (upd H121 p122 (.lst [.int 0, .int 1, .int 2])) := Same.one n122
    have h122 : (upd H121 p122 (.lst [.int 0, .int 1, .int 2])) p122 = some (.lst [.int 0, .int 1, .int 2]) := upd_same
    generalize upd H121 p122 (.lst [.int 0, .int 1, .int 2]) = H122 at s122 h122
    replace h120 := s122 _ _ h120
    replace O := O.same s122
    walk_at "go"
    refine ⟨y, pu, p122, [0], [0, 1, 2], rfl, O, SqL.of h122, row_012, by decide, fun H123 s123 => ?_⟩
    replace h120 := s123 _ _ h120
    replace h122 := s123 _ _ h122
    walk_at "go"
    refine ⟨_, _, rfl, ?_⟩
    rw [(show frShows [0, 1, 2] [0] = false by decide +kernel), beq_self_eq_true]
    walk_at "go"
    exact q _
end
end Bo

namespace Bo
open PySem PySem.Spec PyProof.Rows L2
/-! ### steps of a reading: each a row of its own -/
local macro_rules | `(tactic| walk_at "ne") => `(tactic| first
  | assumption
  | (apply Ne.symm; assumption)
  | (apply neo; assumption; walk_at "hp")
  | (apply Ne.symm; apply neo; assumption; walk_at "hp"))
local macro_rules | `(tactic| walk_at "hp") => `(tactic| first
  | assumption
  | exact upd_same
  | (apply lift_ne; walk_at "hp"; walk_at "ne")
  | (apply Same.up; assumption; walk_at "hp"))
local macro_rules | `(tactic| walk_at "same") => `(tactic| first
  | assumption
  | exact Same.refl _
  | (apply Same.new; walk_at "same"; walk_at "fr")
  | (apply same_trans; assumption; walk_at "same"))
local macro_rules | `(tactic| walk_at "fr") => `(tactic| first
  | assumption
  | (apply same_free; assumption; walk_at "same"))
local macro_rules | `(tactic| walk_at "sq") => `(tactic| first
  | assumption
  | (apply SqL.of; walk_at "hp")
  | (apply same_seq; assumption; walk_at "same"))
local macro_rules | `(tactic| walk_at "sqt") => `(tactic| first
  | assumption
  | (apply SqT.of; walk_at "hp")
  | (apply same_sqt; assumption; walk_at "same"))
local macro_rules | `(tactic| walk_at "nw") => `(tactic| first
  | assumption
  | (apply News.mut; walk_at "nw"; (first | assumption | (refine News.notin (by assumption) ?_; assumption)))
  | (apply News.same; walk_at "nw"; walk_at "same"))
/-! one step -/
local macro_rules | `(tactic| walk_at "go1") => `(tactic| first
  | with_reducible refine r_seq ?_
  | with_reducible refine r_asgN ?_
  | with_reducible refine r_set ?_
  | with_reducible refine r_ret ?_
  | with_reducible refine r_drop ?_
  | with_reducible refine r_if ?_
  | with_reducible refine r_next ?_
  | ((with_reducible apply r_nxD); with_reducible refine r_nx ?_)
  | ((with_reducible apply r_rtD); with_reducible refine r_rt ?_)
  | with_reducible refine r_par ?_
  | with_reducible refine k_par ?_
  | with_reducible refine r_fld ?_
  | ((with_reducible apply r_aug); exact rfl)
  | with_reducible refine i_ip ?_
  | ((with_reducible apply e_var); exact rfl)
  | with_reducible refine e_c ?_
  | with_reducible refine e_op ?_
  | with_reducible refine e_un ?_
  | with_reducible refine o_I0 ?_
  | with_reducible refine o_neg ?_
  | with_reducible refine o_eqI ?_
  | with_reducible refine o_neI ?_
  | with_reducible refine o_eqB ?_
  | with_reducible refine o_neB ?_
  | with_reducible refine o_eqS ?_
  | with_reducible refine o_neS ?_
  | with_reducible refine a_nil ?_
  | with_reducible refine a_cons ?_
  | with_reducible refine e_cb ?_
  | with_reducible refine e_call ?_
  | with_reducible refine e_make ?_
  | with_reducible refine e_meth ?_
  | with_reducible refine e_fld ?_
  | with_reducible refine e_lst ?_
  | with_reducible refine e_tup ?_
  | with_reducible refine e_bm ?_
  | with_reducible refine e_bm0 ?_
  | with_reducible refine e_rev ?_
  | with_reducible refine e_sl ?_
  | with_reducible refine e_nopart ?_
  | with_reducible refine e_part ?_
  | with_reducible refine i_ok ?_
  | with_reducible refine e_lenset ?_
  | with_reducible refine e_listRg1 ?_
  | with_reducible refine t_test ?_
  | with_reducible refine t_B ?_
  | with_reducible refine b_ok ?_
  | with_reducible refine t_and ?_
  | with_reducible refine t_or ?_
  | with_reducible refine t_not ?_
  | with_reducible refine v_and ?_
  | with_reducible refine v_or ?_
  | with_reducible refine v_not ?_
  | with_reducible refine e_if ?_
  | with_reducible refine e_chain ?_
  | with_reducible refine e_chain3 ?_
  | with_reducible refine iteT ?_
  | with_reducible refine iteF ?_
  | with_reducible refine ite_nT ?_
  | with_reducible refine ite_nF ?_
  | with_reducible refine r_forL ?_
  | with_reducible refine r_forT ?_
  | with_reducible refine r_forE ?_
  | with_reducible refine r_forR1 ?_
  | with_reducible refine r_forR2 ?_
  | with_reducible refine e_lcL ?_
  | with_reducible refine e_lcR1 ?_
  | with_reducible refine e_lcR2 ?_
  | with_reducible refine r_dput ?_
  | with_reducible refine e_dget ?_
  | with_reducible refine e_dnin ?_
  | with_reducible refine c_max2 ?_
  | with_reducible refine c_min2 ?_
  | ((with_reducible apply c_isiI); (first | exact (show kitB "int" _ = some true by decide +kernel) | exact (show kitB "int" _ = some false by decide +kernel)))
  | ((with_reducible apply m_ty); walk_at "sq"))
local macro_rules | `(tactic| walk_at "go2") => `(tactic| first
  | ((with_reducible apply o_ixI); walk_at "sq"; omega)
  | ((with_reducible refine o_mod ?_ ?_); omega)
  | ((with_reducible refine o_fdiv ?_ ?_); omega)
  | ((with_reducible refine o_mulR ?_ ?_); omega)
  | ((with_reducible refine o_mulL ?_ ?_); omega)
  | ((with_reducible apply c_lenM); walk_at "sq")
  | ((with_reducible apply c_all); walk_at "sq")
  | ((with_reducible apply c_any); walk_at "sq")
  | ((with_reducible apply o_in); walk_at "sq")
  | ((with_reducible apply o_nin); walk_at "sq")
  | ((with_reducible apply o_ixB); walk_at "sq"; omega)
  | ((with_reducible apply m_setB); walk_at "hp"; omega)
  | ((with_reducible apply m_appR); walk_at "hp"; omega)
  | ((with_reducible apply m_ins); walk_at "hp"; omega; omega)
  | ((with_reducible apply m_appM); walk_at "hp"; exact rfl; omega)
  | ((with_reducible apply m_setI); walk_at "hp"; omega))
local macro_rules | `(tactic| walk_at "d") => `(tactic| try dsimp only)
local macro_rules | `(tactic| walk_at "k") => `(tactic| try dsimp only [cxOf, Cx.nox, Cx.blk])
local macro_rules | `(tactic| walk_at "go") => `(tactic| repeat (first | walk_at "go1" | walk_at "go2"))

section
variable {P : Program} {w : World} {K : PySem.W.Frag} {mg : Str → Option Value} {base : Heap} {C_Exchanged C_Fronted C_Ended C_Put C_Answer : Addr} (T : Top K mg C_Exchanged C_Fronted C_Ended C_Put C_Answer)
include T

def sp_law (K : PySem.W.Frag) : Sp := fun vs H Q _ => ∃ (a : Addr) (ns : List Int), vs = [.ref a] ∧ SqL K H a (ns.map V.int) ∧ ns.length ≤ 63 ∧ ∀ H', Q (.bl true) H'
theorem ok_law {f : Addr} {fd : FuncData} (F : L2.Fun K "law" "law" s_law f fd) : FnOk P w K mg base L2.CX0 6 f fd ["_law_script"] (sp_law K) := by
  have c__law_row := ok__law_row (P := P) (w := w) (base := base) T
  have c__law_cell_at := ok__law_cell_at (P := P) (w := w) (base := base) T
  have c__law_ends_right := ok__law_ends_right (P := P) (w := w) (base := base) T
  have c__law_exchanges_right := ok__law_exchanges_right (P := P) (w := w) (base := base) T
  have c__law_puts_right := ok__law_puts_right (P := P) (w := w) (base := base) T
  have c__law_few_right := ok__law_few_right (P := P) (w := w) (base := base) T
  refine F.ok sc_law ?_ ?_
  · rintro vs H Q E ⟨a, ns, rfl, _⟩; rfl
  · rintro cdv A outer s H vs Q E hr ⟨a, ns, rfl, hS, hl, q⟩
    refine ⟨_, (pss_cons (ps_set (i := 1) sc_law.nd rfl (by first | exact Or.inl rfl | exact Or.inr rfl) (pe_cc c__law_row (hr.mono (by decide)) (by rfl) (pa_cons (pv 0) pa_nil)))
      (pss_cons (ps_for PassesOwn.never rfl (pi_range1 (by rfl) T.b_range (pa_cons pe_int pa_nil)) (pg_name (i := 2) sc_law.nd rfl (by first | exact Or.inl rfl | exact Or.inr rfl)) (pss_cons (ps_set (i := 3) sc_law.nd rfl (by first | exact Or.inl rfl | exact Or.inr rfl) (pe_op op_add (pe_op op_add (pe_cc c__law_cell_at (hr.mono (by decide)) (by rfl) (pa_cons (pv 0) (pa_cons (pv 2) pa_nil))) (pe_op op_mul pe_int (pv 2))) (pe_op op_mul pe_int (pe_cc c__law_cell_at (hr.mono (by decide)) (by rfl) (pa_cons (pv 0) (pa_cons (pe_op op_add (pv 2) pe_int) pa_nil))))))
      (pss_cons (ps_if (PW.pt (pw_or (pt_not (pt_val (pe_cc c__law_exchanges_right (hr.mono (by decide)) (by rfl) (pa_cons (pv 1) (pa_cons (pv 3) pa_nil))))) (pw_or1 (pt_not (pt_val (pe_cc c__law_ends_right (hr.mono (by decide)) (by rfl) (pa_cons (pv 1) (pa_cons (pv 3) pa_nil)))))))) (pss_one (ps_ret pe_bl)) pss_nil)
      (pss_one (ps_if (pt_not (pt_val (pe_cc c__law_puts_right (hr.mono (by decide)) (by rfl) (pa_cons (pv 1) (pa_cons (pv 3) pa_nil))))) (pss_one (ps_ret pe_bl)) pss_nil)))))
      (pss_one (ps_ret (pe_cc0 c__law_few_right (hr.mono (by decide)) (by rfl)))))), ?_⟩
    walk_at "k"
    walk_at "go"
    refine ⟨a, ns, rfl, hS, hl, fun p r H1 s1 np R lr' hp => ?_⟩
    walk_at "go"
    refine k_rng1 (fun i σ H' => ∃ v2 v3, σ = [some (.ref a), some (.ref p), v2, v3] ∧ Same H1 H') (by omega) ⟨_, _, rfl, Same.refl _⟩ ?_ ?_
    · rintro i σ H' hi ⟨v2, v3, rfl, s2⟩
      walk_at "d"
      walk_at "go"
      refine ⟨a, ns, _, rfl, (s1.trans s2).seq hS, by omega, fun c1 => ?_⟩
      walk_at "go"
      refine ⟨a, ns, _, rfl, (s1.trans s2).seq hS, by omega, fun c2 => ?_⟩
      walk_at "go"
      refine ⟨p, r, _, rfl, SqL.of (s2 _ _ hp), R, by omega, fun H3 s3 => ?_⟩
      have s13 := s2.trans s3
      walk_at "go"
      refine ⟨p, r, _, rfl, SqL.of (s13 _ _ hp), R, by omega, fun H4 s4 => ?_⟩
      have s14 := s13.trans s4
      walk_at "go"
      refine ⟨p, r, _, rfl, SqL.of (s14 _ _ hp), R, by omega, fun H5 s5 => ?_⟩
      walk_at "go"
      exact ⟨_, _, rfl, s14.trans s5⟩
    · rintro σ H' ⟨v2, v3, rfl, s2⟩
      walk_at "d"
      walk_at "go"
      exact ⟨rfl, fun H2 => q _⟩
end
end Bo

namespace Bo
open PySem PySem.Spec PyProof.Rows L2
theorem all_mk {l : PySem.W.OpenLaw} {w : World} {K : PySem.W.Frag} {h : Heap} {mg : Str → Option Value} {fa : Addr} {C_Exchanged C_Fronted C_Ended C_Put : Addr} (X : K.In h) (G : h.Ns mainGlobals mg) (hfa : mg "law" = some (.ref fa))
    {f1 : Addr} {od1 an1 : Option Addr} {sl1 : Array (Option Value)} {oc1 kV1 dc1 pm1 cd1 ct1 : Value}
    {f2 : Addr} {od2 an2 : Option Addr} {sl2 : Array (Option Value)} {oc2 kV2 dc2 pm2 cd2 ct2 : Value}
    {f3 : Addr} {od3 an3 : Option Addr} {sl3 : Array (Option Value)} {oc3 kV3 dc3 pm3 cd3 ct3 : Value}
    {f4 : Addr} {od4 an4 : Option Addr} {sl4 : Array (Option Value)} {oc4 kV4 dc4 pm4 cd4 ct4 : Value}
    {f5 : Addr} {od5 an5 : Option Addr} {sl5 : Array (Option Value)} {oc5 kV5 dc5 pm5 cd5 ct5 : Value}
    {f6 : Addr} {od6 an6 : Option Addr} {sl6 : Array (Option Value)} {oc6 kV6 dc6 pm6 cd6 ct6 : Value}
    {f7 : Addr} {od7 an7 : Option Addr} {sl7 : Array (Option Value)} {oc7 kV7 dc7 pm7 cd7 ct7 : Value}
    {f8 : Addr} {od8 an8 : Option Addr} {sl8 : Array (Option Value)} {oc8 kV8 dc8 pm8 cd8 ct8 : Value}
    {f9 : Addr} {od9 an9 : Option Addr} {sl9 : Array (Option Value)} {oc9 kV9 dc9 pm9 cd9 ct9 : Value}
    {f10 : Addr} {od10 an10 : Option Addr} {sl10 : Array (Option Value)} {oc10 kV10 dc10 pm10 cd10 ct10 : Value}
    {f11 : Addr} {od11 an11 : Option Addr} {sl11 : Array (Option Value)} {oc11 kV11 dc11 pm11 cd11 ct11 : Value}
    {f12 : Addr} {od12 an12 : Option Addr} {sl12 : Array (Option Value)} {oc12 kV12 dc12 pm12 cd12 ct12 : Value}
    {f13 : Addr} {od13 an13 : Option Addr} {sl13 : Array (Option Value)} {oc13 kV13 dc13 pm13 cd13 ct13 : Value}
    {f14 : Addr} {od14 an14 : Option Addr} {sl14 : Array (Option Value)} {oc14 kV14 dc14 pm14 cd14 ct14 : Value}
    {f15 : Addr} {od15 an15 : Option Addr} {sl15 : Array (Option Value)} {oc15 kV15 dc15 pm15 cd15 ct15 : Value}
    {f16 : Addr} {od16 an16 : Option Addr} {sl16 : Array (Option Value)} {oc16 kV16 dc16 pm16 cd16 ct16 : Value}
    {f17 : Addr} {od17 an17 : Option Addr} {sl17 : Array (Option Value)} {oc17 kV17 dc17 pm17 cd17 ct17 : Value}
    {f18 : Addr} {od18 an18 : Option Addr} {sl18 : Array (Option Value)} {oc18 kV18 dc18 pm18 cd18 ct18 : Value}
    {f19 : Addr} {od19 an19 : Option Addr} {sl19 : Array (Option Value)} {oc19 kV19 dc19 pm19 cd19 ct19 : Value}
    {f20 : Addr} {od20 an20 : Option Addr} {sl20 : Array (Option Value)} {oc20 kV20 dc20 pm20 cd20 ct20 : Value}
    {f21 : Addr} {od21 an21 : Option Addr} {sl21 : Array (Option Value)} {oc21 kV21 dc21 pm21 cd21 ct21 : Value}
    {f22 : Addr} {od22 an22 : Option Addr} {sl22 : Array (Option Value)} {oc22 kV22 dc22 pm22 cd22 ct22 : Value}
    {f23 : Addr} {od23 an23 : Option Addr} {sl23 : Array (Option Value)} {oc23 kV23 dc23 pm23 cd23 ct23 : Value}
    {f24 : Addr} {od24 an24 : Option Addr} {sl24 : Array (Option Value)} {oc24 kV24 dc24 pm24 cd24 ct24 : Value}
    {f25 : Addr} {od25 an25 : Option Addr} {sl25 : Array (Option Value)} {oc25 kV25 dc25 pm25 cd25 ct25 : Value}
    {f26 : Addr} {od26 an26 : Option Addr} {sl26 : Array (Option Value)} {oc26 kV26 dc26 pm26 cd26 ct26 : Value}
    {f27 : Addr} {od27 an27 : Option Addr} {sl27 : Array (Option Value)} {oc27 kV27 dc27 pm27 cd27 ct27 : Value}
    {f28 : Addr} {od28 an28 : Option Addr} {sl28 : Array (Option Value)} {oc28 kV28 dc28 pm28 cd28 ct28 : Value}
    {f29 : Addr} {od29 an29 : Option Addr} {sl29 : Array (Option Value)} {oc29 kV29 dc29 pm29 cd29 ct29 : Value}
    {f30 : Addr} {od30 an30 : Option Addr} {sl30 : Array (Option Value)} {oc30 kV30 dc30 pm30 cd30 ct30 : Value}
    {f31 : Addr} {od31 an31 : Option Addr} {sl31 : Array (Option Value)} {oc31 kV31 dc31 pm31 cd31 ct31 : Value}
    {f32 : Addr} {od32 an32 : Option Addr} {sl32 : Array (Option Value)} {oc32 kV32 dc32 pm32 cd32 ct32 : Value}
    {f33 : Addr} {od33 an33 : Option Addr} {sl33 : Array (Option Value)} {oc33 kV33 dc33 pm33 cd33 ct33 : Value}
    {f34 : Addr} {od34 an34 : Option Addr} {sl34 : Array (Option Value)} {oc34 kV34 dc34 pm34 cd34 ct34 : Value}
    {f35 : Addr} {od35 an35 : Option Addr} {sl35 : Array (Option Value)} {oc35 kV35 dc35 pm35 cd35 ct35 : Value}
    {f36 : Addr} {od36 an36 : Option Addr} {sl36 : Array (Option Value)} {oc36 kV36 dc36 pm36 cd36 ct36 : Value}
    {f37 : Addr} {od37 an37 : Option Addr} {sl37 : Array (Option Value)} {oc37 kV37 dc37 pm37 cd37 ct37 : Value}
    {f38 : Addr} {od38 an38 : Option Addr} {sl38 : Array (Option Value)} {oc38 kV38 dc38 pm38 cd38 ct38 : Value}
    {f39 : Addr} {od39 an39 : Option Addr} {sl39 : Array (Option Value)} {oc39 kV39 dc39 pm39 cd39 ct39 : Value}
    {f40 : Addr} {od40 an40 : Option Addr} {sl40 : Array (Option Value)} {oc40 kV40 dc40 pm40 cd40 ct40 : Value}
    {f41 : Addr} {od41 an41 : Option Addr} {sl41 : Array (Option Value)} {oc41 kV41 dc41 pm41 cd41 ct41 : Value}
    {f42 : Addr} {od42 an42 : Option Addr} {sl42 : Array (Option Value)} {oc42 kV42 dc42 pm42 cd42 ct42 : Value}
    {f43 : Addr} {od43 an43 : Option Addr} {sl43 : Array (Option Value)} {oc43 kV43 dc43 pm43 cd43 ct43 : Value}
    {f44 : Addr} {od44 an44 : Option Addr} {sl44 : Array (Option Value)} {oc44 kV44 dc44 pm44 cd44 ct44 : Value}
    {t_MOST : Tok}
    (aExchanged : PySem.W.nsIn K mainGlobals "Exchanged" = some (some (.ref C_Exchanged)))
    (aFronted : PySem.W.nsIn K mainGlobals "Fronted" = some (some (.ref C_Fronted)))
    (aEnded : PySem.W.nsIn K mainGlobals "Ended" = some (some (.ref C_Ended)))
    (aPut : PySem.W.nsIn K mainGlobals "Put" = some (some (.ref C_Put)))
    (a1 : PySem.W.nsIn K mainGlobals "is_number" = some (some (.ref f1)))
    (l1 : K.lookup f1 = some ⟨oc1, od1, .func (PySem.W.fnOf "is_number" "is_number" (defArgs s_is_number) (defBody s_is_number) (defScope s_is_number) .none kV1 dc1 pm1 an1 cd1 ct1), sl1⟩)
    (c1 : PySem.W.codeIn K cd1 "is_number" = true)
    (k1 : PySem.W.keepIn K (.ref f1) = true)
    (a2 : PySem.W.nsIn K mainGlobals "check_row" = some (some (.ref f2)))
    (l2 : K.lookup f2 = some ⟨oc2, od2, .func (PySem.W.fnOf "check_row" "check_row" (defArgs s_check_row) (defBody s_check_row) (defScope s_check_row) .none kV2 dc2 pm2 an2 cd2 ct2), sl2⟩)
    (c2 : PySem.W.codeIn K cd2 "check_row" = true)
    (k2 : PySem.W.keepIn K (.ref f2) = true)
    (a3 : PySem.W.nsIn K mainGlobals "places_of" = some (some (.ref f3)))
    (l3 : K.lookup f3 = some ⟨oc3, od3, .func (PySem.W.fnOf "places_of" "places_of" (defArgs s_places_of) (defBody s_places_of) (defScope s_places_of) .none kV3 dc3 pm3 an3 cd3 ct3), sl3⟩)
    (c3 : PySem.W.codeIn K cd3 "places_of" = true)
    (k3 : PySem.W.keepIn K (.ref f3) = true)
    (a4 : PySem.W.nsIn K mainGlobals "rings_of" = some (some (.ref f4)))
    (l4 : K.lookup f4 = some ⟨oc4, od4, .func (PySem.W.fnOf "rings_of" "rings_of" (defArgs s_rings_of) (defBody s_rings_of) (defScope s_rings_of) .none kV4 dc4 pm4 an4 cd4 ct4), sl4⟩)
    (c4 : PySem.W.codeIn K cd4 "rings_of" = true)
    (k4 : PySem.W.keepIn K (.ref f4) = true)
    (a5 : PySem.W.nsIn K mainGlobals "is_ring" = some (some (.ref f5)))
    (l5 : K.lookup f5 = some ⟨oc5, od5, .func (PySem.W.fnOf "is_ring" "is_ring" (defArgs s_is_ring) (defBody s_is_ring) (defScope s_is_ring) .none kV5 dc5 pm5 an5 cd5 ct5), sl5⟩)
    (c5 : PySem.W.codeIn K cd5 "is_ring" = true)
    (k5 : PySem.W.keepIn K (.ref f5) = true)
    (a6 : PySem.W.nsIn K mainGlobals "is_order" = some (some (.ref f6)))
    (l6 : K.lookup f6 = some ⟨oc6, od6, .func (PySem.W.fnOf "is_order" "is_order" (defArgs s_is_order) (defBody s_is_order) (defScope s_is_order) .none kV6 dc6 pm6 an6 cd6 ct6), sl6⟩)
    (c6 : PySem.W.codeIn K cd6 "is_order" = true)
    (k6 : PySem.W.keepIn K (.ref f6) = true)
    (a7 : PySem.W.findIn K (.ref C_Exchanged) "__init__" = some (some (.ref f7)))
    (i7 : PySem.W.isFn K (.ref f7) = true)
    (l7 : K.lookup f7 = some ⟨oc7, od7, .func (PySem.W.fnOf "__init__" "Exchanged.__init__" (defArgs s_Exchanged___init__) (defBody s_Exchanged___init__) (defScope s_Exchanged___init__) .none kV7 dc7 pm7 an7 cd7 ct7), sl7⟩)
    (c7 : PySem.W.codeIn K cd7 "Exchanged.__init__" = true)
    (k7 : PySem.W.keepIn K (.ref f7) = true)
    (a8 : PySem.W.findIn K (.ref C_Exchanged) "shows" = some (some (.ref f8)))
    (i8 : PySem.W.isFn K (.ref f8) = true)
    (l8 : K.lookup f8 = some ⟨oc8, od8, .func (PySem.W.fnOf "shows" "Exchanged.shows" (defArgs s_Exchanged_shows) (defBody s_Exchanged_shows) (defScope s_Exchanged_shows) .none kV8 dc8 pm8 an8 cd8 ct8), sl8⟩)
    (c8 : PySem.W.codeIn K cd8 "Exchanged.shows" = true)
    (k8 : PySem.W.keepIn K (.ref f8) = true)
    (a9 : PySem.W.findIn K (.ref C_Exchanged) "rings_show" = some (some (.ref f9)))
    (i9 : PySem.W.isFn K (.ref f9) = true)
    (l9 : K.lookup f9 = some ⟨oc9, od9, .func (PySem.W.fnOf "rings_show" "Exchanged.rings_show" (defArgs s_Exchanged_rings_show) (defBody s_Exchanged_rings_show) (defScope s_Exchanged_rings_show) .none kV9 dc9 pm9 an9 cd9 ct9), sl9⟩)
    (c9 : PySem.W.codeIn K cd9 "Exchanged.rings_show" = true)
    (k9 : PySem.W.keepIn K (.ref f9) = true)
    (a10 : PySem.W.findIn K (.ref C_Fronted) "__init__" = some (some (.ref f10)))
    (i10 : PySem.W.isFn K (.ref f10) = true)
    (l10 : K.lookup f10 = some ⟨oc10, od10, .func (PySem.W.fnOf "__init__" "Fronted.__init__" (defArgs s_Fronted___init__) (defBody s_Fronted___init__) (defScope s_Fronted___init__) .none kV10 dc10 pm10 an10 cd10 ct10), sl10⟩)
    (c10 : PySem.W.codeIn K cd10 "Fronted.__init__" = true)
    (k10 : PySem.W.keepIn K (.ref f10) = true)
    (a11 : PySem.W.findIn K (.ref C_Fronted) "shows" = some (some (.ref f11)))
    (i11 : PySem.W.isFn K (.ref f11) = true)
    (l11 : K.lookup f11 = some ⟨oc11, od11, .func (PySem.W.fnOf "shows" "Fronted.shows" (defArgs s_Fronted_shows) (defBody s_Fronted_shows) (defScope s_Fronted_shows) .none kV11 dc11 pm11 an11 cd11 ct11), sl11⟩)
    (c11 : PySem.W.codeIn K cd11 "Fronted.shows" = true)
    (k11 : PySem.W.keepIn K (.ref f11) = true)
    (a12 : PySem.W.nsIn K mainGlobals "longest_run" = some (some (.ref f12)))
    (l12 : K.lookup f12 = some ⟨oc12, od12, .func (PySem.W.fnOf "longest_run" "longest_run" (defArgs s_longest_run) (defBody s_longest_run) (defScope s_longest_run) .none kV12 dc12 pm12 an12 cd12 ct12), sl12⟩)
    (c12 : PySem.W.codeIn K cd12 "longest_run" = true)
    (k12 : PySem.W.keepIn K (.ref f12) = true)
    (a13 : PySem.W.findIn K (.ref C_Ended) "__init__" = some (some (.ref f13)))
    (i13 : PySem.W.isFn K (.ref f13) = true)
    (l13 : K.lookup f13 = some ⟨oc13, od13, .func (PySem.W.fnOf "__init__" "Ended.__init__" (defArgs s_Ended___init__) (defBody s_Ended___init__) (defScope s_Ended___init__) .none kV13 dc13 pm13 an13 cd13 ct13), sl13⟩)
    (c13 : PySem.W.codeIn K cd13 "Ended.__init__" = true)
    (k13 : PySem.W.keepIn K (.ref f13) = true)
    (a14 : PySem.W.findIn K (.ref C_Ended) "shows" = some (some (.ref f14)))
    (i14 : PySem.W.isFn K (.ref f14) = true)
    (l14 : K.lookup f14 = some ⟨oc14, od14, .func (PySem.W.fnOf "shows" "Ended.shows" (defArgs s_Ended_shows) (defBody s_Ended_shows) (defScope s_Ended_shows) .none kV14 dc14 pm14 an14 cd14 ct14), sl14⟩)
    (c14 : PySem.W.codeIn K cd14 "Ended.shows" = true)
    (k14 : PySem.W.keepIn K (.ref f14) = true)
    (a15 : PySem.W.findIn K (.ref C_Put) "__init__" = some (some (.ref f15)))
    (i15 : PySem.W.isFn K (.ref f15) = true)
    (l15 : K.lookup f15 = some ⟨oc15, od15, .func (PySem.W.fnOf "__init__" "Put.__init__" (defArgs s_Put___init__) (defBody s_Put___init__) (defScope s_Put___init__) .none kV15 dc15 pm15 an15 cd15 ct15), sl15⟩)
    (c15 : PySem.W.codeIn K cd15 "Put.__init__" = true)
    (k15 : PySem.W.keepIn K (.ref f15) = true)
    (a16 : PySem.W.findIn K (.ref C_Put) "shows" = some (some (.ref f16)))
    (i16 : PySem.W.isFn K (.ref f16) = true)
    (l16 : K.lookup f16 = some ⟨oc16, od16, .func (PySem.W.fnOf "shows" "Put.shows" (defArgs s_Put_shows) (defBody s_Put_shows) (defScope s_Put_shows) .none kV16 dc16 pm16 an16 cd16 ct16), sl16⟩)
    (c16 : PySem.W.codeIn K cd16 "Put.shows" = true)
    (k16 : PySem.W.keepIn K (.ref f16) = true)
    (a17 : PySem.W.findIn K (.ref C_Put) "falls_show" = some (some (.ref f17)))
    (i17 : PySem.W.isFn K (.ref f17) = true)
    (l17 : K.lookup f17 = some ⟨oc17, od17, .func (PySem.W.fnOf "falls_show" "Put.falls_show" (defArgs s_Put_falls_show) (defBody s_Put_falls_show) (defScope s_Put_falls_show) .none kV17 dc17 pm17 an17 cd17 ct17), sl17⟩)
    (c17 : PySem.W.codeIn K cd17 "Put.falls_show" = true)
    (k17 : PySem.W.keepIn K (.ref f17) = true)
    (a18 : PySem.W.nsIn K mainGlobals "exchanged" = some (some (.ref f18)))
    (l18 : K.lookup f18 = some ⟨oc18, od18, .func (PySem.W.fnOf "exchanged" "exchanged" (defArgs s_exchanged) (defBody s_exchanged) (defScope s_exchanged) .none kV18 dc18 pm18 an18 cd18 ct18), sl18⟩)
    (c18 : PySem.W.codeIn K cd18 "exchanged" = true)
    (k18 : PySem.W.keepIn K (.ref f18) = true)
    (a19 : PySem.W.nsIn K mainGlobals "fronted" = some (some (.ref f19)))
    (l19 : K.lookup f19 = some ⟨oc19, od19, .func (PySem.W.fnOf "fronted" "fronted" (defArgs s_fronted) (defBody s_fronted) (defScope s_fronted) .none kV19 dc19 pm19 an19 cd19 ct19), sl19⟩)
    (c19 : PySem.W.codeIn K cd19 "fronted" = true)
    (k19 : PySem.W.keepIn K (.ref f19) = true)
    (a20 : PySem.W.nsIn K mainGlobals "ended" = some (some (.ref f20)))
    (l20 : K.lookup f20 = some ⟨oc20, od20, .func (PySem.W.fnOf "ended" "ended" (defArgs s_ended) (defBody s_ended) (defScope s_ended) .none kV20 dc20 pm20 an20 cd20 ct20), sl20⟩)
    (c20 : PySem.W.codeIn K cd20 "ended" = true)
    (k20 : PySem.W.keepIn K (.ref f20) = true)
    (a21 : PySem.W.nsIn K mainGlobals "pile_for" = some (some (.ref f21)))
    (l21 : K.lookup f21 = some ⟨oc21, od21, .func (PySem.W.fnOf "pile_for" "pile_for" (defArgs s_pile_for) (defBody s_pile_for) (defScope s_pile_for) .none kV21 dc21 pm21 an21 cd21 ct21), sl21⟩)
    (c21 : PySem.W.codeIn K cd21 "pile_for" = true)
    (k21 : PySem.W.keepIn K (.ref f21) = true)
    (a22 : PySem.W.nsIn K mainGlobals "falls_and_kept" = some (some (.ref f22)))
    (l22 : K.lookup f22 = some ⟨oc22, od22, .func (PySem.W.fnOf "falls_and_kept" "falls_and_kept" (defArgs s_falls_and_kept) (defBody s_falls_and_kept) (defScope s_falls_and_kept) .none kV22 dc22 pm22 an22 cd22 ct22), sl22⟩)
    (c22 : PySem.W.codeIn K cd22 "falls_and_kept" = true)
    (k22 : PySem.W.keepIn K (.ref f22) = true)
    (a23 : PySem.W.nsIn K mainGlobals "put" = some (some (.ref f23)))
    (l23 : K.lookup f23 = some ⟨oc23, od23, .func (PySem.W.fnOf "put" "put" (defArgs s_put) (defBody s_put) (defScope s_put) .none kV23 dc23 pm23 an23 cd23 ct23), sl23⟩)
    (c23 : PySem.W.codeIn K cd23 "put" = true)
    (k23 : PySem.W.keepIn K (.ref f23) = true)
    (a24 : PySem.W.nsIn K mainGlobals "_law_cell_at" = some (some (.ref f24)))
    (l24 : K.lookup f24 = some ⟨oc24, od24, .func (PySem.W.fnOf "_law_cell_at" "_law_cell_at" (defArgs s__law_cell_at) (defBody s__law_cell_at) (defScope s__law_cell_at) .none kV24 dc24 pm24 an24 cd24 ct24), sl24⟩)
    (c24 : PySem.W.codeIn K cd24 "_law_cell_at" = true)
    (k24 : PySem.W.keepIn K (.ref f24) = true)
    (a25 : PySem.W.nsIn K mainGlobals "_law_draw" = some (some (.ref f25)))
    (l25 : K.lookup f25 = some ⟨oc25, od25, .func (PySem.W.fnOf "_law_draw" "_law_draw" (defArgs s__law_draw) (defBody s__law_draw) (defScope s__law_draw) .none kV25 dc25 pm25 an25 cd25 ct25), sl25⟩)
    (c25 : PySem.W.codeIn K cd25 "_law_draw" = true)
    (k25 : PySem.W.keepIn K (.ref f25) = true)
    (a26 : PySem.W.nsIn K mainGlobals "_law_row" = some (some (.ref f26)))
    (l26 : K.lookup f26 = some ⟨oc26, od26, .func (PySem.W.fnOf "_law_row" "_law_row" (defArgs s__law_row) (defBody s__law_row) (defScope s__law_row) .none kV26 dc26 pm26 an26 cd26 ct26), sl26⟩)
    (c26 : PySem.W.codeIn K cd26 "_law_row" = true)
    (k26 : PySem.W.keepIn K (.ref f26) = true)
    (a27 : PySem.W.nsIn K mainGlobals "_law_exchanged" = some (some (.ref f27)))
    (l27 : K.lookup f27 = some ⟨oc27, od27, .func (PySem.W.fnOf "_law_exchanged" "_law_exchanged" (defArgs s__law_exchanged) (defBody s__law_exchanged) (defScope s__law_exchanged) .none kV27 dc27 pm27 an27 cd27 ct27), sl27⟩)
    (c27 : PySem.W.codeIn K cd27 "_law_exchanged" = true)
    (k27 : PySem.W.keepIn K (.ref f27) = true)
    (a28 : PySem.W.nsIn K mainGlobals "_law_ringed" = some (some (.ref f28)))
    (l28 : K.lookup f28 = some ⟨oc28, od28, .func (PySem.W.fnOf "_law_ringed" "_law_ringed" (defArgs s__law_ringed) (defBody s__law_ringed) (defScope s__law_ringed) .none kV28 dc28 pm28 an28 cd28 ct28), sl28⟩)
    (c28 : PySem.W.codeIn K cd28 "_law_ringed" = true)
    (k28 : PySem.W.keepIn K (.ref f28) = true)
    (a29 : PySem.W.nsIn K mainGlobals "_law_fronted" = some (some (.ref f29)))
    (l29 : K.lookup f29 = some ⟨oc29, od29, .func (PySem.W.fnOf "_law_fronted" "_law_fronted" (defArgs s__law_fronted) (defBody s__law_fronted) (defScope s__law_fronted) .none kV29 dc29 pm29 an29 cd29 ct29), sl29⟩)
    (c29 : PySem.W.codeIn K cd29 "_law_fronted" = true)
    (k29 : PySem.W.keepIn K (.ref f29) = true)
    (a30 : PySem.W.nsIn K mainGlobals "_law_front_due" = some (some (.ref f30)))
    (l30 : K.lookup f30 = some ⟨oc30, od30, .func (PySem.W.fnOf "_law_front_due" "_law_front_due" (defArgs s__law_front_due) (defBody s__law_front_due) (defScope s__law_front_due) .none kV30 dc30 pm30 an30 cd30 ct30), sl30⟩)
    (c30 : PySem.W.codeIn K cd30 "_law_front_due" = true)
    (k30 : PySem.W.keepIn K (.ref f30) = true)
    (a31 : PySem.W.nsIn K mainGlobals "_law_ended" = some (some (.ref f31)))
    (l31 : K.lookup f31 = some ⟨oc31, od31, .func (PySem.W.fnOf "_law_ended" "_law_ended" (defArgs s__law_ended) (defBody s__law_ended) (defScope s__law_ended) .none kV31 dc31 pm31 an31 cd31 ct31), sl31⟩)
    (c31 : PySem.W.codeIn K cd31 "_law_ended" = true)
    (k31 : PySem.W.keepIn K (.ref f31) = true)
    (a32 : PySem.W.nsIn K mainGlobals "_law_run" = some (some (.ref f32)))
    (l32 : K.lookup f32 = some ⟨oc32, od32, .func (PySem.W.fnOf "_law_run" "_law_run" (defArgs s__law_run) (defBody s__law_run) (defScope s__law_run) .none kV32 dc32 pm32 an32 cd32 ct32), sl32⟩)
    (c32 : PySem.W.codeIn K cd32 "_law_run" = true)
    (k32 : PySem.W.keepIn K (.ref f32) = true)
    (a33 : PySem.W.nsIn K mainGlobals "_law_end_due" = some (some (.ref f33)))
    (l33 : K.lookup f33 = some ⟨oc33, od33, .func (PySem.W.fnOf "_law_end_due" "_law_end_due" (defArgs s__law_end_due) (defBody s__law_end_due) (defScope s__law_end_due) .none kV33 dc33 pm33 an33 cd33 ct33), sl33⟩)
    (c33 : PySem.W.codeIn K cd33 "_law_end_due" = true)
    (k33 : PySem.W.keepIn K (.ref f33) = true)
    (a34 : PySem.W.nsIn K mainGlobals "_law_put" = some (some (.ref f34)))
    (l34 : K.lookup f34 = some ⟨oc34, od34, .func (PySem.W.fnOf "_law_put" "_law_put" (defArgs s__law_put) (defBody s__law_put) (defScope s__law_put) .none kV34 dc34 pm34 an34 cd34 ct34), sl34⟩)
    (c34 : PySem.W.codeIn K cd34 "_law_put" = true)
    (k34 : PySem.W.keepIn K (.ref f34) = true)
    (a35 : PySem.W.nsIn K mainGlobals "_law_fallen" = some (some (.ref f35)))
    (l35 : K.lookup f35 = some ⟨oc35, od35, .func (PySem.W.fnOf "_law_fallen" "_law_fallen" (defArgs s__law_fallen) (defBody s__law_fallen) (defScope s__law_fallen) .none kV35 dc35 pm35 an35 cd35 ct35), sl35⟩)
    (c35 : PySem.W.codeIn K cd35 "_law_fallen" = true)
    (k35 : PySem.W.keepIn K (.ref f35) = true)
    (a36 : PySem.W.nsIn K mainGlobals "_law_put_due" = some (some (.ref f36)))
    (l36 : K.lookup f36 = some ⟨oc36, od36, .func (PySem.W.fnOf "_law_put_due" "_law_put_due" (defArgs s__law_put_due) (defBody s__law_put_due) (defScope s__law_put_due) .none kV36 dc36 pm36 an36 cd36 ct36), sl36⟩)
    (c36 : PySem.W.codeIn K cd36 "_law_put_due" = true)
    (k36 : PySem.W.keepIn K (.ref f36) = true)
    (a37 : PySem.W.nsIn K mainGlobals "_law_says" = some (some (.ref f37)))
    (l37 : K.lookup f37 = some ⟨oc37, od37, .func (PySem.W.fnOf "_law_says" "_law_says" (defArgs s__law_says) (defBody s__law_says) (defScope s__law_says) .none kV37 dc37 pm37 an37 cd37 ct37), sl37⟩)
    (c37 : PySem.W.codeIn K cd37 "_law_says" = true)
    (k37 : PySem.W.keepIn K (.ref f37) = true)
    (a38 : PySem.W.nsIn K mainGlobals "_law_bent" = some (some (.ref f38)))
    (l38 : K.lookup f38 = some ⟨oc38, od38, .func (PySem.W.fnOf "_law_bent" "_law_bent" (defArgs s__law_bent) (defBody s__law_bent) (defScope s__law_bent) .none kV38 dc38 pm38 an38 cd38 ct38), sl38⟩)
    (c38 : PySem.W.codeIn K cd38 "_law_bent" = true)
    (k38 : PySem.W.keepIn K (.ref f38) = true)
    (a39 : PySem.W.nsIn K mainGlobals "_law_bent_parts" = some (some (.ref f39)))
    (l39 : K.lookup f39 = some ⟨oc39, od39, .func (PySem.W.fnOf "_law_bent_parts" "_law_bent_parts" (defArgs s__law_bent_parts) (defBody s__law_bent_parts) (defScope s__law_bent_parts) .none kV39 dc39 pm39 an39 cd39 ct39), sl39⟩)
    (c39 : PySem.W.codeIn K cd39 "_law_bent_parts" = true)
    (k39 : PySem.W.keepIn K (.ref f39) = true)
    (a40 : PySem.W.nsIn K mainGlobals "_law_exchanges_right" = some (some (.ref f40)))
    (l40 : K.lookup f40 = some ⟨oc40, od40, .func (PySem.W.fnOf "_law_exchanges_right" "_law_exchanges_right" (defArgs s__law_exchanges_right) (defBody s__law_exchanges_right) (defScope s__law_exchanges_right) .none kV40 dc40 pm40 an40 cd40 ct40), sl40⟩)
    (c40 : PySem.W.codeIn K cd40 "_law_exchanges_right" = true)
    (k40 : PySem.W.keepIn K (.ref f40) = true)
    (a41 : PySem.W.nsIn K mainGlobals "_law_ends_right" = some (some (.ref f41)))
    (l41 : K.lookup f41 = some ⟨oc41, od41, .func (PySem.W.fnOf "_law_ends_right" "_law_ends_right" (defArgs s__law_ends_right) (defBody s__law_ends_right) (defScope s__law_ends_right) .none kV41 dc41 pm41 an41 cd41 ct41), sl41⟩)
    (c41 : PySem.W.codeIn K cd41 "_law_ends_right" = true)
    (k41 : PySem.W.keepIn K (.ref f41) = true)
    (a42 : PySem.W.nsIn K mainGlobals "_law_puts_right" = some (some (.ref f42)))
    (l42 : K.lookup f42 = some ⟨oc42, od42, .func (PySem.W.fnOf "_law_puts_right" "_law_puts_right" (defArgs s__law_puts_right) (defBody s__law_puts_right) (defScope s__law_puts_right) .none kV42 dc42 pm42 an42 cd42 ct42), sl42⟩)
    (c42 : PySem.W.codeIn K cd42 "_law_puts_right" = true)
    (k42 : PySem.W.keepIn K (.ref f42) = true)
    (a43 : PySem.W.nsIn K mainGlobals "_law_few_right" = some (some (.ref f43)))
    (l43 : K.lookup f43 = some ⟨oc43, od43, .func (PySem.W.fnOf "_law_few_right" "_law_few_right" (defArgs s__law_few_right) (defBody s__law_few_right) (defScope s__law_few_right) .none kV43 dc43 pm43 an43 cd43 ct43), sl43⟩)
    (c43 : PySem.W.codeIn K cd43 "_law_few_right" = true)
    (k43 : PySem.W.keepIn K (.ref f43) = true)
    (a44 : PySem.W.nsIn K mainGlobals "law" = some (some (.ref f44)))
    (l44 : K.lookup f44 = some ⟨oc44, od44, .func (PySem.W.fnOf "law" "law" (defArgs s_law) (defBody s_law) (defScope s_law) .none kV44 dc44 pm44 an44 cd44 ct44), sl44⟩)
    (c44 : PySem.W.codeIn K cd44 "law" = true)
    (k44 : PySem.W.keepIn K (.ref f44) = true)
    (z_all : PySem.W.nsIn K mainGlobals "all" = some none)
    (z_any : PySem.W.nsIn K mainGlobals "any" = some none)
    (z_bool : PySem.W.nsIn K mainGlobals "bool" = some none)
    (z_enumerate : PySem.W.nsIn K mainGlobals "enumerate" = some none)
    (z_int : PySem.W.nsIn K mainGlobals "int" = some none)
    (z_isinstance : PySem.W.nsIn K mainGlobals "isinstance" = some none)
    (z_len : PySem.W.nsIn K mainGlobals "len" = some none)
    (z_list : PySem.W.nsIn K mainGlobals "list" = some none)
    (z_max : PySem.W.nsIn K mainGlobals "max" = some none)
    (z_min : PySem.W.nsIn K mainGlobals "min" = some none)
    (z_range : PySem.W.nsIn K mainGlobals "range" = some none)
    (z_set : PySem.W.nsIn K mainGlobals "set" = some none)
    (z_sorted : PySem.W.nsIn K mainGlobals "sorted" = some none)
    (g_MOST : PySem.W.nsIn K mainGlobals "MOST" = some (some (.int 1000000 t_MOST)))
    (pgExchanged : PySem.W.plainGet K C_Exchanged Str.empty = true)
    (hdExchanged : PySem.W.hasDictIn K C_Exchanged = true)
    (poExchanged : PySem.W.plainOver K C_Exchanged = true)
    (saExchanged : PySem.W.findIn K (.ref C_Exchanged) "__setattr__" = some (some (.builtin "object.__setattr__")))
    (mkExchanged : PySem.W.makesIn K C_Exchanged = true)
    (kcExchanged : PySem.W.keepIn K (.ref C_Exchanged) = true)
    (n_Exchanged_pairs : PySem.W.findIn K (.ref C_Exchanged) "pairs" = some none)
    (n_Exchanged_rings : PySem.W.findIn K (.ref C_Exchanged) "rings" = some none)
    (pgFronted : PySem.W.plainGet K C_Fronted Str.empty = true)
    (hdFronted : PySem.W.hasDictIn K C_Fronted = true)
    (poFronted : PySem.W.plainOver K C_Fronted = true)
    (saFronted : PySem.W.findIn K (.ref C_Fronted) "__setattr__" = some (some (.builtin "object.__setattr__")))
    (mkFronted : PySem.W.makesIn K C_Fronted = true)
    (kcFronted : PySem.W.keepIn K (.ref C_Fronted) = true)
    (n_Fronted_things : PySem.W.findIn K (.ref C_Fronted) "things" = some none)
    (pgEnded : PySem.W.plainGet K C_Ended Str.empty = true)
    (hdEnded : PySem.W.hasDictIn K C_Ended = true)
    (poEnded : PySem.W.plainOver K C_Ended = true)
    (saEnded : PySem.W.findIn K (.ref C_Ended) "__setattr__" = some (some (.builtin "object.__setattr__")))
    (mkEnded : PySem.W.makesIn K C_Ended = true)
    (kcEnded : PySem.W.keepIn K (.ref C_Ended) = true)
    (n_Ended_moves : PySem.W.findIn K (.ref C_Ended) "moves" = some none)
    (pgPut : PySem.W.plainGet K C_Put Str.empty = true)
    (hdPut : PySem.W.hasDictIn K C_Put = true)
    (poPut : PySem.W.plainOver K C_Put = true)
    (saPut : PySem.W.findIn K (.ref C_Put) "__setattr__" = some (some (.builtin "object.__setattr__")))
    (mkPut : PySem.W.makesIn K C_Put = true)
    (kcPut : PySem.W.keepIn K (.ref C_Put) = true)
    (n_Put_moves : PySem.W.findIn K (.ref C_Put) "moves" = some none)
    (n_Put_falls : PySem.W.findIn K (.ref C_Put) "falls" = some none) :
    ∃ fd : FuncData, (∀ (s : Shared) (v : Value), BindsTo s fd ⟨[v], []⟩ [("_law_script", v)]) ∧ ∀ base : Heap, K.In base → base.Ns mainGlobals mg → FnOk l.prog w K mg base L2.CX0 6 fa fd ["_law_script"] (sp_law K) := by
  have e := hfa.symm.trans (PySem.W.mg_of X G a44)
  cases e
  have clExchanged : Cls K C_Exchanged := ⟨pgExchanged, hdExchanged, poExchanged, saExchanged⟩
  have clFronted : Cls K C_Fronted := ⟨pgFronted, hdFronted, poFronted, saFronted⟩
  have clEnded : Cls K C_Ended := ⟨pgEnded, hdEnded, poEnded, saEnded⟩
  have clPut : Cls K C_Put := ⟨pgPut, hdPut, poPut, saPut⟩
  have T : Top K mg C_Exchanged C_Fronted C_Ended C_Put 0 := { d_is_number := ⟨_, _, PySem.W.mg_of X G a1, fun_mk (st := s_is_number) l1 c1 k1, (fun_mk (st := s_is_number) l1 c1 k1).binds (ps := ["thing", "low", "high"]) fun _ _ _ _ _ _ us hl => match us, hl with | [_, _, _], _ => rfl⟩, d_check_row := ⟨_, _, PySem.W.mg_of X G a2, fun_mk (st := s_check_row) l2 c2 k2, (fun_mk (st := s_check_row) l2 c2 k2).binds (ps := ["row"]) fun _ _ _ _ _ _ us hl => match us, hl with | [_], _ => rfl⟩, d_places_of := ⟨_, _, PySem.W.mg_of X G a3, fun_mk (st := s_places_of) l3 c3 k3, (fun_mk (st := s_places_of) l3 c3 k3).binds (ps := ["row"]) fun _ _ _ _ _ _ us hl => match us, hl with | [_], _ => rfl⟩, d_rings_of := ⟨_, _, PySem.W.mg_of X G a4, fun_mk (st := s_rings_of) l4 c4 k4, (fun_mk (st := s_rings_of) l4 c4 k4).binds (ps := ["row"]) fun _ _ _ _ _ _ us hl => match us, hl with | [_], _ => rfl⟩, d_is_ring := ⟨_, _, PySem.W.mg_of X G a5, fun_mk (st := s_is_ring) l5 c5 k5, (fun_mk (st := s_is_ring) l5 c5 k5).binds (ps := ["ring", "many"]) fun _ _ _ _ _ _ us hl => match us, hl with | [_, _], _ => rfl⟩, d_is_order := ⟨_, _, PySem.W.mg_of X G a6, fun_mk (st := s_is_order) l6 c6 k6, (fun_mk (st := s_is_order) l6 c6 k6).binds (ps := ["row"]) fun _ _ _ _ _ _ us hl => match us, hl with | [_], _ => rfl⟩, k_Exchanged := ⟨f7, _, PySem.W.mg_of X G aExchanged, ⟨mkExchanged, a7, i7, kcExchanged⟩, fun_mk (st := s_Exchanged___init__) l7 c7 k7, (fun_mk (st := s_Exchanged___init__) l7 c7 k7).binds (ps := ["self", "pairs", "rings"]) fun _ _ _ _ _ _ us hl => match us, hl with | [_, _, _], _ => rfl⟩, m_Exchanged_shows := ⟨f8, _, clExchanged, ⟨a8, i8, k8⟩, fun_mk (st := s_Exchanged_shows) l8 c8 k8, (fun_mk (st := s_Exchanged_shows) l8 c8 k8).binds (ps := ["self", "row"]) fun _ _ _ _ _ _ us hl => match us, hl with | [_, _], _ => rfl⟩, m_Exchanged_rings_show := ⟨f9, _, clExchanged, ⟨a9, i9, k9⟩, fun_mk (st := s_Exchanged_rings_show) l9 c9 k9, (fun_mk (st := s_Exchanged_rings_show) l9 c9 k9).binds (ps := ["self", "row"]) fun _ _ _ _ _ _ us hl => match us, hl with | [_, _], _ => rfl⟩, k_Fronted := ⟨f10, _, PySem.W.mg_of X G aFronted, ⟨mkFronted, a10, i10, kcFronted⟩, fun_mk (st := s_Fronted___init__) l10 c10 k10, (fun_mk (st := s_Fronted___init__) l10 c10 k10).binds (ps := ["self", "things"]) fun _ _ _ _ _ _ us hl => match us, hl with | [_, _], _ => rfl⟩, m_Fronted_shows := ⟨f11, _, clFronted, ⟨a11, i11, k11⟩, fun_mk (st := s_Fronted_shows) l11 c11 k11, (fun_mk (st := s_Fronted_shows) l11 c11 k11).binds (ps := ["self", "row"]) fun _ _ _ _ _ _ us hl => match us, hl with | [_, _], _ => rfl⟩, d_longest_run := ⟨_, _, PySem.W.mg_of X G a12, fun_mk (st := s_longest_run) l12 c12 k12, (fun_mk (st := s_longest_run) l12 c12 k12).binds (ps := ["row"]) fun _ _ _ _ _ _ us hl => match us, hl with | [_], _ => rfl⟩, k_Ended := ⟨f13, _, PySem.W.mg_of X G aEnded, ⟨mkEnded, a13, i13, kcEnded⟩, fun_mk (st := s_Ended___init__) l13 c13 k13, (fun_mk (st := s_Ended___init__) l13 c13 k13).binds (ps := ["self", "moves"]) fun _ _ _ _ _ _ us hl => match us, hl with | [_, _], _ => rfl⟩, m_Ended_shows := ⟨f14, _, clEnded, ⟨a14, i14, k14⟩, fun_mk (st := s_Ended_shows) l14 c14 k14, (fun_mk (st := s_Ended_shows) l14 c14 k14).binds (ps := ["self", "row"]) fun _ _ _ _ _ _ us hl => match us, hl with | [_, _], _ => rfl⟩, k_Put := ⟨f15, _, PySem.W.mg_of X G aPut, ⟨mkPut, a15, i15, kcPut⟩, fun_mk (st := s_Put___init__) l15 c15 k15, (fun_mk (st := s_Put___init__) l15 c15 k15).binds (ps := ["self", "moves", "falls"]) fun _ _ _ _ _ _ us hl => match us, hl with | [_, _, _], _ => rfl⟩, m_Put_shows := ⟨f16, _, clPut, ⟨a16, i16, k16⟩, fun_mk (st := s_Put_shows) l16 c16 k16, (fun_mk (st := s_Put_shows) l16 c16 k16).binds (ps := ["self", "row"]) fun _ _ _ _ _ _ us hl => match us, hl with | [_, _], _ => rfl⟩, m_Put_falls_show := ⟨f17, _, clPut, ⟨a17, i17, k17⟩, fun_mk (st := s_Put_falls_show) l17 c17 k17, (fun_mk (st := s_Put_falls_show) l17 c17 k17).binds (ps := ["self", "row"]) fun _ _ _ _ _ _ us hl => match us, hl with | [_, _], _ => rfl⟩, d_exchanged := ⟨_, _, PySem.W.mg_of X G a18, fun_mk (st := s_exchanged) l18 c18 k18, (fun_mk (st := s_exchanged) l18 c18 k18).binds (ps := ["row"]) fun _ _ _ _ _ _ us hl => match us, hl with | [_], _ => rfl⟩, d_fronted := ⟨_, _, PySem.W.mg_of X G a19, fun_mk (st := s_fronted) l19 c19 k19, (fun_mk (st := s_fronted) l19 c19 k19).binds (ps := ["row"]) fun _ _ _ _ _ _ us hl => match us, hl with | [_], _ => rfl⟩, d_ended := ⟨_, _, PySem.W.mg_of X G a20, fun_mk (st := s_ended) l20 c20 k20, (fun_mk (st := s_ended) l20 c20 k20).binds (ps := ["row"]) fun _ _ _ _ _ _ us hl => match us, hl with | [_], _ => rfl⟩, d_pile_for := ⟨_, _, PySem.W.mg_of X G a21, fun_mk (st := s_pile_for) l21 c21 k21, (fun_mk (st := s_pile_for) l21 c21 k21).binds (ps := ["piles", "thing"]) fun _ _ _ _ _ _ us hl => match us, hl with | [_, _], _ => rfl⟩, d_falls_and_kept := ⟨_, _, PySem.W.mg_of X G a22, fun_mk (st := s_falls_and_kept) l22 c22 k22, (fun_mk (st := s_falls_and_kept) l22 c22 k22).binds (ps := ["row"]) fun _ _ _ _ _ _ us hl => match us, hl with | [_], _ => rfl⟩, d_put := ⟨_, _, PySem.W.mg_of X G a23, fun_mk (st := s_put) l23 c23 k23, (fun_mk (st := s_put) l23 c23 k23).binds (ps := ["row"]) fun _ _ _ _ _ _ us hl => match us, hl with | [_], _ => rfl⟩, d__law_cell_at := ⟨_, _, PySem.W.mg_of X G a24, fun_mk (st := s__law_cell_at) l24 c24 k24, (fun_mk (st := s__law_cell_at) l24 c24 k24).binds (ps := ["_law_script", "_law_k"]) fun _ _ _ _ _ _ us hl => match us, hl with | [_, _], _ => rfl⟩, d__law_draw := ⟨_, _, PySem.W.mg_of X G a25, fun_mk (st := s__law_draw) l25 c25 k25, (fun_mk (st := s__law_draw) l25 c25 k25).binds (ps := ["_law_cell", "_law_k", "_law_many"]) fun _ _ _ _ _ _ us hl => match us, hl with | [_, _, _], _ => rfl⟩, d__law_row := ⟨_, _, PySem.W.mg_of X G a26, fun_mk (st := s__law_row) l26 c26 k26, (fun_mk (st := s__law_row) l26 c26 k26).binds (ps := ["_law_script"]) fun _ _ _ _ _ _ us hl => match us, hl with | [_], _ => rfl⟩, d__law_exchanged := ⟨_, _, PySem.W.mg_of X G a27, fun_mk (st := s__law_exchanged) l27 c27 k27, (fun_mk (st := s__law_exchanged) l27 c27 k27).binds (ps := ["_law_row_here", "_law_pairs_here"]) fun _ _ _ _ _ _ us hl => match us, hl with | [_, _], _ => rfl⟩, d__law_ringed := ⟨_, _, PySem.W.mg_of X G a28, fun_mk (st := s__law_ringed) l28 c28 k28, (fun_mk (st := s__law_ringed) l28 c28 k28).binds (ps := ["_law_row_here", "_law_told"]) fun _ _ _ _ _ _ us hl => match us, hl with | [_, _], _ => rfl⟩, d__law_fronted := ⟨_, _, PySem.W.mg_of X G a29, fun_mk (st := s__law_fronted) l29 c29 k29, (fun_mk (st := s__law_fronted) l29 c29 k29).binds (ps := ["_law_row_here", "_law_things"]) fun _ _ _ _ _ _ us hl => match us, hl with | [_, _], _ => rfl⟩, d__law_front_due := ⟨_, _, PySem.W.mg_of X G a30, fun_mk (st := s__law_front_due) l30 c30 k30, (fun_mk (st := s__law_front_due) l30 c30 k30).binds (ps := ["_law_row_here", "_law_things"]) fun _ _ _ _ _ _ us hl => match us, hl with | [_, _], _ => rfl⟩, d__law_ended := ⟨_, _, PySem.W.mg_of X G a31, fun_mk (st := s__law_ended) l31 c31 k31, (fun_mk (st := s__law_ended) l31 c31 k31).binds (ps := ["_law_row_here", "_law_moves"]) fun _ _ _ _ _ _ us hl => match us, hl with | [_, _], _ => rfl⟩, d__law_run := ⟨_, _, PySem.W.mg_of X G a32, fun_mk (st := s__law_run) l32 c32 k32, (fun_mk (st := s__law_run) l32 c32 k32).binds (ps := ["_law_row_here"]) fun _ _ _ _ _ _ us hl => match us, hl with | [_], _ => rfl⟩, d__law_end_due := ⟨_, _, PySem.W.mg_of X G a33, fun_mk (st := s__law_end_due) l33 c33 k33, (fun_mk (st := s__law_end_due) l33 c33 k33).binds (ps := ["_law_row_here", "_law_moves"]) fun _ _ _ _ _ _ us hl => match us, hl with | [_, _], _ => rfl⟩, d__law_put := ⟨_, _, PySem.W.mg_of X G a34, fun_mk (st := s__law_put) l34 c34 k34, (fun_mk (st := s__law_put) l34 c34 k34).binds (ps := ["_law_row_here", "_law_moves"]) fun _ _ _ _ _ _ us hl => match us, hl with | [_, _], _ => rfl⟩, d__law_fallen := ⟨_, _, PySem.W.mg_of X G a35, fun_mk (st := s__law_fallen) l35 c35 k35, (fun_mk (st := s__law_fallen) l35 c35 k35).binds (ps := ["_law_row_here", "_law_falls"]) fun _ _ _ _ _ _ us hl => match us, hl with | [_, _], _ => rfl⟩, d__law_put_due := ⟨_, _, PySem.W.mg_of X G a36, fun_mk (st := s__law_put_due) l36 c36 k36, (fun_mk (st := s__law_put_due) l36 c36 k36).binds (ps := ["_law_row_here", "_law_moves", "_law_falls"]) fun _ _ _ _ _ _ us hl => match us, hl with | [_, _, _], _ => rfl⟩, d__law_says := ⟨_, _, PySem.W.mg_of X G a37, fun_mk (st := s__law_says) l37 c37 k37, (fun_mk (st := s__law_says) l37 c37 k37).binds (ps := ["_law_told", "_law_due"]) fun _ _ _ _ _ _ us hl => match us, hl with | [_, _], _ => rfl⟩, d__law_bent := ⟨_, _, PySem.W.mg_of X G a38, fun_mk (st := s__law_bent) l38 c38 k38, (fun_mk (st := s__law_bent) l38 c38 k38).binds (ps := ["_law_some", "_law_cell", "_law_more"]) fun _ _ _ _ _ _ us hl => match us, hl with | [_, _, _], _ => rfl⟩, d__law_bent_parts := ⟨_, _, PySem.W.mg_of X G a39, fun_mk (st := s__law_bent_parts) l39 c39 k39, (fun_mk (st := s__law_bent_parts) l39 c39 k39).binds (ps := ["_law_parts", "_law_cell", "_law_many"]) fun _ _ _ _ _ _ us hl => match us, hl with | [_, _, _], _ => rfl⟩, d__law_exchanges_right := ⟨_, _, PySem.W.mg_of X G a40, fun_mk (st := s__law_exchanges_right) l40 c40 k40, (fun_mk (st := s__law_exchanges_right) l40 c40 k40).binds (ps := ["_law_row_here", "_law_cell"]) fun _ _ _ _ _ _ us hl => match us, hl with | [_, _], _ => rfl⟩, d__law_ends_right := ⟨_, _, PySem.W.mg_of X G a41, fun_mk (st := s__law_ends_right) l41 c41 k41, (fun_mk (st := s__law_ends_right) l41 c41 k41).binds (ps := ["_law_row_here", "_law_cell"]) fun _ _ _ _ _ _ us hl => match us, hl with | [_, _], _ => rfl⟩, d__law_puts_right := ⟨_, _, PySem.W.mg_of X G a42, fun_mk (st := s__law_puts_right) l42 c42 k42, (fun_mk (st := s__law_puts_right) l42 c42 k42).binds (ps := ["_law_row_here", "_law_cell"]) fun _ _ _ _ _ _ us hl => match us, hl with | [_, _], _ => rfl⟩, d__law_few_right := ⟨_, _, PySem.W.mg_of X G a43, fun_mk (st := s__law_few_right) l43 c43 k43, (fun_mk (st := s__law_few_right) l43 c43 k43).binds (ps := []) fun _ _ _ _ _ _ us hl => match us, hl with | [], _ => rfl⟩, d_law := ⟨_, _, PySem.W.mg_of X G a44, fun_mk (st := s_law) l44 c44 k44, (fun_mk (st := s_law) l44 c44 k44).binds (ps := ["_law_script"]) fun _ _ _ _ _ _ us hl => match us, hl with | [_], _ => rfl⟩, b_all := PySem.W.mg_none_of X G z_all, b_any := PySem.W.mg_none_of X G z_any, b_bool := PySem.W.mg_none_of X G z_bool, b_enumerate := PySem.W.mg_none_of X G z_enumerate, b_int := PySem.W.mg_none_of X G z_int, b_isinstance := PySem.W.mg_none_of X G z_isinstance, b_len := PySem.W.mg_none_of X G z_len, b_list := PySem.W.mg_none_of X G z_list, b_max := PySem.W.mg_none_of X G z_max, b_min := PySem.W.mg_none_of X G z_min, b_range := PySem.W.mg_none_of X G z_range, b_set := PySem.W.mg_none_of X G z_set, b_sorted := PySem.W.mg_none_of X G z_sorted, g_MOST := ⟨_, PySem.W.mg_of X G g_MOST⟩, c_Exchanged := PySem.W.mg_of X G aExchanged, cl_Exchanged := clExchanged, na_Exchanged_pairs := n_Exchanged_pairs, na_Exchanged_rings := n_Exchanged_rings, c_Fronted := PySem.W.mg_of X G aFronted, cl_Fronted := clFronted, na_Fronted_things := n_Fronted_things, c_Ended := PySem.W.mg_of X G aEnded, cl_Ended := clEnded, na_Ended_moves := n_Ended_moves, c_Put := PySem.W.mg_of X G aPut, cl_Put := clPut, na_Put_moves := n_Put_moves, na_Put_falls := n_Put_falls }
  exact ⟨_, fun s v => .of_eq rfl, fun base _ _ => ok_law T (fun_mk (st := s_law) l44 c44 k44)⟩
end Bo
open PySem PySem.W PyProof.Rows
set_option maxRecDepth 100000 in
set_option maxHeartbeats 0 in
theorem PySem.Challenge.cw_backorder_k06_answers_by_hand_holds : PySem.Challenge.rw_backorder_k06_answers_by_hand.Holds := by
  w_on; o_law; k_head; (case hw => w_witness2)
  k_fill
  refine L2.walk_of (l := PySem.Challenge.rw_backorder_k06_answers_by_hand) (n := 63) (k := 6) (x := "_law_script") (CX := fun _ => L2.CX0) (sp := fun w => Bo.sp_law _) rfl (by decide) rfl ⟨rfl, by decide, by decide⟩ (fun w h Y => PySem.W.kIn_of Y) ?F (fun _ _ a ns hl _ hS => ⟨a, ns, rfl, hS, hl, fun _ => rfl⟩) (fun _ _ _ _ _ h => h)
  case F =>
    intro w mg fa h KX G hmg
    refine' Bo.all_mk KX G hmg ?aExchanged ?aFronted ?aEnded ?aPut ?a1 ?l1 ?c1 ?k1 ?a2 ?l2 ?c2 ?k2 ?a3 ?l3 ?c3 ?k3 ?a4 ?l4 ?c4 ?k4 ?a5 ?l5 ?c5 ?k5 ?a6 ?l6 ?c6 ?k6 ?a7 ?i7 ?l7 ?c7 ?k7 ?a8 ?i8 ?l8 ?c8 ?k8 ?a9 ?i9 ?l9 ?c9 ?k9 ?a10 ?i10 ?l10 ?c10 ?k10 ?a11 ?i11 ?l11 ?c11 ?k11 ?a12 ?l12 ?c12 ?k12 ?a13 ?i13 ?l13 ?c13 ?k13 ?a14 ?i14 ?l14 ?c14 ?k14 ?a15 ?i15 ?l15 ?c15 ?k15 ?a16 ?i16 ?l16 ?c16 ?k16 ?a17 ?i17 ?l17 ?c17 ?k17 ?a18 ?l18 ?c18 ?k18 ?a19 ?l19 ?c19 ?k19 ?a20 ?l20 ?c20 ?k20 ?a21 ?l21 ?c21 ?k21 ?a22 ?l22 ?c22 ?k22 ?a23 ?l23 ?c23 ?k23 ?a24 ?l24 ?c24 ?k24 ?a25 ?l25 ?c25 ?k25 ?a26 ?l26 ?c26 ?k26 ?a27 ?l27 ?c27 ?k27 ?a28 ?l28 ?c28 ?k28 ?a29 ?l29 ?c29 ?k29 ?a30 ?l30 ?c30 ?k30 ?a31 ?l31 ?c31 ?k31 ?a32 ?l32 ?c32 ?k32 ?a33 ?l33 ?c33 ?k33 ?a34 ?l34 ?c34 ?k34 ?a35 ?l35 ?c35 ?k35 ?a36 ?l36 ?c36 ?k36 ?a37 ?l37 ?c37 ?k37 ?a38 ?l38 ?c38 ?k38 ?a39 ?l39 ?c39 ?k39 ?a40 ?l40 ?c40 ?k40 ?a41 ?l41 ?c41 ?k41 ?a42 ?l42 ?c42 ?k42 ?a43 ?l43 ?c43 ?k43 ?a44 ?l44 ?c44 ?k44 ?z_all ?z_any ?z_bool ?z_enumerate ?z_int ?z_isinstance ?z_len ?z_list ?z_max ?z_min ?z_range ?z_set ?z_sorted ?g_MOST ?pgExchanged ?hdExchanged ?poExchanged ?saExchanged ?mkExchanged ?kcExchanged ?n_Exchanged_pairs ?n_Exchanged_rings ?pgFronted ?hdFronted ?poFronted ?saFronted ?mkFronted ?kcFronted ?n_Fronted_things ?pgEnded ?hdEnded ?poEnded ?saEnded ?mkEnded ?kcEnded ?n_Ended_moves ?pgPut ?hdPut ?poPut ?saPut ?mkPut ?kcPut ?n_Put_moves ?n_Put_falls
    (case aExchanged => first | k_is | kit_is)
    (case aFronted => first | k_is | kit_is)
    (case aEnded => first | k_is | kit_is)
    (case aPut => first | k_is | kit_is)
    (case a1 => first | k_is | kit_is)
    (case l1 => first | k_is | kit_is)
    (case c1 => first | k_is | kit_is)
    (case k1 => first | k_is | kit_is)
    (case a2 => first | k_is | kit_is)
    (case l2 => first | k_is | kit_is)
    (case c2 => first | k_is | kit_is)
    (case k2 => first | k_is | kit_is)
    (case a3 => first | k_is | kit_is)
    (case l3 => first | k_is | kit_is)
    (case c3 => first | k_is | kit_is)
    (case k3 => first | k_is | kit_is)
    (case a4 => first | k_is | kit_is)
    (case l4 => first | k_is | kit_is)
    (case c4 => first | k_is | kit_is)
    (case k4 => first | k_is | kit_is)
    (case a5 => first | k_is | kit_is)
    (case l5 => first | k_is | kit_is)
    (case c5 => first | k_is | kit_is)
    (case k5 => first | k_is | kit_is)
    (case a6 => first | k_is | kit_is)
    (case l6 => first | k_is | kit_is)
    (case c6 => first | k_is | kit_is)
    (case k6 => first | k_is | kit_is)
    (case a7 => first | k_is | kit_is)
    (case i7 => first | k_is | kit_is)
    (case l7 => first | k_is | kit_is)
    (case c7 => first | k_is | kit_is)
    (case k7 => first | k_is | kit_is)
    (case a8 => first | k_is | kit_is)
    (case i8 => first | k_is | kit_is)
    (case l8 => first | k_is | kit_is)
    (case c8 => first | k_is | kit_is)
    (case k8 => first | k_is | kit_is)
    (case a9 => first | k_is | kit_is)
    (case i9 => first | k_is | kit_is)
    (case l9 => first | k_is | kit_is)
    (case c9 => first | k_is | kit_is)
    (case k9 => first | k_is | kit_is)
    (case a10 => first | k_is | kit_is)
    (case i10 => first | k_is | kit_is)
    (case l10 => first | k_is | kit_is)
    (case c10 => first | k_is | kit_is)
    (case k10 => first | k_is | kit_is)
    (case a11 => first | k_is | kit_is)
    (case i11 => first | k_is | kit_is)
    (case l11 => first | k_is | kit_is)
    (case c11 => first | k_is | kit_is)
    (case k11 => first | k_is | kit_is)
    (case a12 => first | k_is | kit_is)
    (case l12 => first | k_is | kit_is)
    (case c12 => first | k_is | kit_is)
    (case k12 => first | k_is | kit_is)
    (case a13 => first | k_is | kit_is)
    (case i13 => first | k_is | kit_is)
    (case l13 => first | k_is | kit_is)
    (case c13 => first | k_is | kit_is)
    (case k13 => first | k_is | kit_is)
    (case a14 => first | k_is | kit_is)
    (case i14 => first | k_is | kit_is)
    (case l14 => first | k_is | kit_is)
    (case c14 => first | k_is | kit_is)
    (case k14 => first | k_is | kit_is)
    (case a15 => first | k_is | kit_is)
    (case i15 => first | k_is | kit_is)
    (case l15 => first | k_is | kit_is)
    (case c15 => first | k_is | kit_is)
    (case k15 => first | k_is | kit_is)
    (case a16 => first | k_is | kit_is)
    (case i16 => first | k_is | kit_is)
    (case l16 => first | k_is | kit_is)
    (case c16 => first | k_is | kit_is)
    (case k16 => first | k_is | kit_is)
    (case a17 => first | k_is | kit_is)
    (case i17 => first | k_is | kit_is)
    (case l17 => first | k_is | kit_is)
    (case c17 => first | k_is | kit_is)
    (case k17 => first | k_is | kit_is)
    (case a18 => first | k_is | kit_is)
    (case l18 => first | k_is | kit_is)
    (case c18 => first | k_is | kit_is)
    (case k18 => first | k_is | kit_is)
    (case a19 => first | k_is | kit_is)
    (case l19 => first | k_is | kit_is)
    (case c19 => first | k_is | kit_is)
    (case k19 => first | k_is | kit_is)
    (case a20 => first | k_is | kit_is)
    (case l20 => first | k_is | kit_is)
    (case c20 => first | k_is | kit_is)
    (case k20 => first | k_is | kit_is)
    (case a21 => first | k_is | kit_is)
    (case l21 => first | k_is | kit_is)
    (case c21 => first | k_is | kit_is)
    (case k21 => first | k_is | kit_is)
    (case a22 => first | k_is | kit_is)
    (case l22 => first | k_is | kit_is)
    (case c22 => first | k_is | kit_is)
    (case k22 => first | k_is | kit_is)
    (case a23 => first | k_is | kit_is)
    (case l23 => first | k_is | kit_is)
    (case c23 => first | k_is | kit_is)
    (case k23 => first | k_is | kit_is)
    (case a24 => first | k_is | kit_is)
    (case l24 => first | k_is | kit_is)
    (case c24 => first | k_is | kit_is)
    (case k24 => first | k_is | kit_is)
    (case a25 => first | k_is | kit_is)
    (case l25 => first | k_is | kit_is)
    (case c25 => first | k_is | kit_is)
    (case k25 => first | k_is | kit_is)
    (case a26 => first | k_is | kit_is)
    (case l26 => first | k_is | kit_is)
    (case c26 => first | k_is | kit_is)
    (case k26 => first | k_is | kit_is)
    (case a27 => first | k_is | kit_is)
    (case l27 => first | k_is | kit_is)
    (case c27 => first | k_is | kit_is)
    (case k27 => first | k_is | kit_is)
    (case a28 => first | k_is | kit_is)
    (case l28 => first | k_is | kit_is)
    (case c28 => first | k_is | kit_is)
    (case k28 => first | k_is | kit_is)
    (case a29 => first | k_is | kit_is)
    (case l29 => first | k_is | kit_is)
    (case c29 => first | k_is | kit_is)
    (case k29 => first | k_is | kit_is)
    (case a30 => first | k_is | kit_is)
    (case l30 => first | k_is | kit_is)
    (case c30 => first | k_is | kit_is)
    (case k30 => first | k_is | kit_is)
    (case a31 => first | k_is | kit_is)
    (case l31 => first | k_is | kit_is)
    (case c31 => first | k_is | kit_is)
    (case k31 => first | k_is | kit_is)
    (case a32 => first | k_is | kit_is)
    (case l32 => first | k_is | kit_is)
    (case c32 => first | k_is | kit_is)
    (case k32 => first | k_is | kit_is)
    (case a33 => first | k_is | kit_is)
    (case l33 => first | k_is | kit_is)
    (case c33 => first | k_is | kit_is)
    (case k33 => first | k_is | kit_is)
    (case a34 => first | k_is | kit_is)
    (case l34 => first | k_is | kit_is)
    (case c34 => first | k_is | kit_is)
    (case k34 => first | k_is | kit_is)
    (case a35 => first | k_is | kit_is)
    (case l35 => first | k_is | kit_is)
    (case c35 => first | k_is | kit_is)
    (case k35 => first | k_is | kit_is)
    (case a36 => first | k_is | kit_is)
    (case l36 => first | k_is | kit_is)
    (case c36 => first | k_is | kit_is)
    (case k36 => first | k_is | kit_is)
    (case a37 => first | k_is | kit_is)
    (case l37 => first | k_is | kit_is)
    (case c37 => first | k_is | kit_is)
    (case k37 => first | k_is | kit_is)
    (case a38 => first | k_is | kit_is)
    (case l38 => first | k_is | kit_is)
    (case c38 => first | k_is | kit_is)
    (case k38 => first | k_is | kit_is)
    (case a39 => first | k_is | kit_is)
    (case l39 => first | k_is | kit_is)
    (case c39 => first | k_is | kit_is)
    (case k39 => first | k_is | kit_is)
    (case a40 => first | k_is | kit_is)
    (case l40 => first | k_is | kit_is)
    (case c40 => first | k_is | kit_is)
    (case k40 => first | k_is | kit_is)
    (case a41 => first | k_is | kit_is)
    (case l41 => first | k_is | kit_is)
    (case c41 => first | k_is | kit_is)
    (case k41 => first | k_is | kit_is)
    (case a42 => first | k_is | kit_is)
    (case l42 => first | k_is | kit_is)
    (case c42 => first | k_is | kit_is)
    (case k42 => first | k_is | kit_is)
    (case a43 => first | k_is | kit_is)
    (case l43 => first | k_is | kit_is)
    (case c43 => first | k_is | kit_is)
    (case k43 => first | k_is | kit_is)
    (case a44 => first | k_is | kit_is)
    (case l44 => first | k_is | kit_is)
    (case c44 => first | k_is | kit_is)
    (case k44 => first | k_is | kit_is)
    (case z_all => first | k_is | kit_is)
    (case z_any => first | k_is | kit_is)
    (case z_bool => first | k_is | kit_is)
    (case z_enumerate => first | k_is | kit_is)
    (case z_int => first | k_is | kit_is)
    (case z_isinstance => first | k_is | kit_is)
    (case z_len => first | k_is | kit_is)
    (case z_list => first | k_is | kit_is)
    (case z_max => first | k_is | kit_is)
    (case z_min => first | k_is | kit_is)
    (case z_range => first | k_is | kit_is)
    (case z_set => first | k_is | kit_is)
    (case z_sorted => first | k_is | kit_is)
    (case g_MOST => first | k_is | kit_is)
    (case pgExchanged => first | k_is | kit_is)
    (case hdExchanged => first | k_is | kit_is)
    (case poExchanged => first | k_is | kit_is)
    (case saExchanged => first | k_is | kit_is)
    (case mkExchanged => first | k_is | kit_is)
    (case kcExchanged => first | k_is | kit_is)
    (case n_Exchanged_pairs => first | k_is | kit_is)
    (case n_Exchanged_rings => first | k_is | kit_is)
    (case pgFronted => first | k_is | kit_is)
    (case hdFronted => first | k_is | kit_is)
    (case poFronted => first | k_is | kit_is)
    (case saFronted => first | k_is | kit_is)
    (case mkFronted => first | k_is | kit_is)
    (case kcFronted => first | k_is | kit_is)
    (case n_Fronted_things => first | k_is | kit_is)
    (case pgEnded => first | k_is | kit_is)
    (case hdEnded => first | k_is | kit_is)
    (case poEnded => first | k_is | kit_is)
    (case saEnded => first | k_is | kit_is)
    (case mkEnded => first | k_is | kit_is)
    (case kcEnded => first | k_is | kit_is)
    (case n_Ended_moves => first | k_is | kit_is)
    (case pgPut => first | k_is | kit_is)
    (case hdPut => first | k_is | kit_is)
    (case poPut => first | k_is | kit_is)
    (case saPut => first | k_is | kit_is)
    (case mkPut => first | k_is | kit_is)
    (case kcPut => first | k_is | kit_is)
    (case n_Put_moves => first | k_is | kit_is)
    (case n_Put_falls => first | k_is | kit_is)

