import PyProof.Rows.All
import Wide.All
import OpenK.AllK
import Wide.FinOn
import HandS.ForMost
import HandS.ForExc
import HandS.IsInst
import HandS.Conv
import HandS.SortInts
import HandS.SetFor
import HandS.More
import HandS.Style
import HandS.Zip
import HandS.Codes
import HandS.ExcIs
import HandS.CallLocal
import HandS.StrMore
import PySem.Challenge.RW_backorder_k04_doings
import HandS.Iter
set_option Elab.async false
set_option linter.all false
set_option maxRecDepth 100000
set_option maxHeartbeats 4000000
namespace Bo
open PySem PySem.Spec PyProof.Rows L2

/-! ### defs, methods, classes of the text; what they promise -/
/-- a def of the module under its name -/
structure Df (K : PySem.W.Frag) (mg : Str → Option Value) (x : Str) (st : Stmt) (ps : List Str) : Prop where
  ex : ∃ (f : Addr) (fd : FuncData), mg x = some (.ref f) ∧ L2.Fun K x x st f fd ∧ Binds K fd ps []
/-- a method of the class at C -/
structure Dm (K : PySem.W.Frag) (C : Addr) (m qual : Str) (st : Stmt) (ps : List Str) : Prop where
  ex : ∃ (f : Addr) (fd : FuncData), Cls K C ∧ Meth K C m f ∧ L2.Fun K m qual st f fd ∧ Binds K fd ps []
/-- a class with an __init__ -/
structure Dk (K : PySem.W.Frag) (mg : Str → Option Value) (x : Str) (C : Addr) (qual : Str) (st : Stmt) (ps : List Str) : Prop where
  ex : ∃ (f : Addr) (fd : FuncData), mg x = some (.ref C) ∧ L2.Mk K C f ∧ L2.Fun K "__init__" qual st f fd ∧ Binds K fd ps []
section
variable {P : Program} {w : World} {K : PySem.W.Frag} {mg : Str → Option Value} {base : Heap}
structure Cc (P : Program) (w : World) (K : PySem.W.Frag) (mg : Str → Option Value) (base : Heap) (k : Nat) (x : Str) (sp : Sp) : Prop where
  ex : ∃ (f : Addr) (fd : FuncData) (ps : List Str), FnOk P w K mg base L2.CX0 k f fd ps sp ∧ mg x = some (.ref f) ∧ PySem.W.keepIn K (.ref f) = true ∧ Binds K fd ps []
structure Cm (P : Program) (w : World) (K : PySem.W.Frag) (mg : Str → Option Value) (base : Heap) (k : Nat) (C : Addr) (m : Str) (sp : Sp) : Prop where
  ex : ∃ (f : Addr) (fd : FuncData) (ps : List Str), Cls K C ∧ Meth K C m f ∧ FnOk P w K mg base L2.CX0 k f fd ps sp ∧ Binds K fd ps []
structure Ck (P : Program) (w : World) (K : PySem.W.Frag) (mg : Str → Option Value) (base : Heap) (k : Nat) (x : Str) (C : Addr) (sp : Sp) : Prop where
  ex : ∃ (f : Addr) (fd : FuncData) (ps : List Str), L2.Mk K C f ∧ FnOk P w K mg base L2.CX0 k f fd ps sp ∧ mg x = some (.ref C) ∧ Binds K fd ps []
theorem Cc.mk' {x : Str} {st : Stmt} {N ps : List Str} {k : Nat} {sp : Sp} (D : Df K mg x st ps) (S : FnScope N ps (defScope st)) (len : ∀ vs H Q E, sp vs H Q E → vs.length = ps.length)
    (hbody : ∀ (f : Addr) (cdv : Value) (A : Around) (outer : List Env) (s : Shared) (H : Hp) (vs : List V) (Q : VK) (E : XK), Room k (A.deeper (envOfC x (defScope st) s.heap.objs.size f cdv)) → sp vs H Q E →
      ∃ t, PSs (cxOf L2.CX0 P w K mg base N x (defScope st) f cdv A outer s H E).nox (defBody st) t ∧ t { nx := fun _ H' => Q .non H', rt := Q } (start N vs) H) : Cc P w K mg base (k + 1) x sp := by
  obtain ⟨f, fd, h1, F, b⟩ := D.ex
  exact ⟨f, fd, ps, F.ok S len (hbody f), h1, F.kp, b⟩
theorem Cm.mk' {C : Addr} {m qual : Str} {st : Stmt} {N ps : List Str} {k : Nat} {sp : Sp} (D : Dm K C m qual st ps) (S : FnScope N ps (defScope st)) (len : ∀ vs H Q E, sp vs H Q E → vs.length = ps.length)
    (hbody : ∀ (f : Addr) (cdv : Value) (A : Around) (outer : List Env) (s : Shared) (H : Hp) (vs : List V) (Q : VK) (E : XK), Room k (A.deeper (envOfC qual (defScope st) s.heap.objs.size f cdv)) → sp vs H Q E →
      ∃ t, PSs (cxOf L2.CX0 P w K mg base N qual (defScope st) f cdv A outer s H E).nox (defBody st) t ∧ t { nx := fun _ H' => Q .non H', rt := Q } (start N vs) H) : Cm P w K mg base (k + 1) C m sp := by
  obtain ⟨f, fd, c, me, F, b⟩ := D.ex
  exact ⟨f, fd, ps, c, me, F.ok S len (hbody f), b⟩
theorem Ck.mk' {C : Addr} {x qual : Str} {st : Stmt} {N ps : List Str} {k : Nat} {sp : Sp} (D : Dk K mg x C qual st ps) (S : FnScope N ps (defScope st)) (len : ∀ vs H Q E, sp vs H Q E → vs.length = ps.length)
    (hbody : ∀ (f : Addr) (cdv : Value) (A : Around) (outer : List Env) (s : Shared) (H : Hp) (vs : List V) (Q : VK) (E : XK), Room k (A.deeper (envOfC qual (defScope st) s.heap.objs.size f cdv)) → sp vs H Q E →
      ∃ t, PSs (cxOf L2.CX0 P w K mg base N qual (defScope st) f cdv A outer s H E).nox (defBody st) t ∧ t { nx := fun _ H' => Q .non H', rt := Q } (start N vs) H) : Ck P w K mg base (k + 1) x C sp := by
  obtain ⟨f, fd, h1, M, F, b⟩ := D.ex
  exact ⟨f, fd, ps, M, F.ok S len (hbody f), h1, b⟩
end
section
variable {X : Cx} {k : Nat} {C : Addr} {x m : Str} {sp : Sp} {p pos apos : Pos} {e o : Expr} {es : List Expr} {ta : TE} {t : TA}
theorem pe_cc (c : Cc X.prog X.w X.K X.mg X.base k x sp) (hr : Room k X.A) (hg : Gl X x) (ha : PA X (e :: es) t)
    (hdb : (x == ("__debug__" : Str)) = false := by decide) (he : starEach (e :: es) X.env = (false, eval e X.env) :: starEach es X.env := by rfl) (hpl : (backTo pos (starEach es X.env)).any (·.1) = false := by rfl) :
    PE X (.Call (.Name x p) (e :: es) [] pos) (tCall sp [] L2.E0 t) := by
  obtain ⟨f, fd, ps, F, hm, kp, b⟩ := c.ex
  exact pe_call F hr hg hm kp b .nil L2.pass0 ha hdb he hpl
theorem pe_cc0 (c : Cc X.prog X.w X.K X.mg X.base k x sp) (hr : Room k X.A) (hg : Gl X x)
    (hdb : (x == ("__debug__" : Str)) = false := by decide) : PE X (.Call (.Name x p) [] [] pos) (tCall sp [] L2.E0 tNil) := by
  obtain ⟨f, fd, ps, F, hm, kp, b⟩ := c.ex
  exact pe_call0 F hr hg hm kp b .nil L2.pass0 hdb
theorem pe_cm (c : Ck X.prog X.w X.K X.mg X.base k x C sp) (hr : Room (k + 1) X.A) (hg : Gl X x) (ha : PA X (e :: es) t)
    (hdb : (x == ("__debug__" : Str)) = false := by decide) (he : starEach (e :: es) X.env = (false, eval e X.env) :: starEach es X.env := by rfl) (hpl : (backTo pos (starEach es X.env)).any (·.1) = false := by rfl) :
    PE X (.Call (.Name x p) (e :: es) [] pos) (tMake C sp [] L2.E0 t) := by
  obtain ⟨f, fd, ps, M, F, hm, b⟩ := c.ex
  exact pe_make M F hr hg hm b .nil L2.pass0 ha hdb he hpl
theorem pe_ct {pl : Sem Bool} (c : Cm X.prog X.w X.K X.mg X.base k C m sp) (hr : Room k X.A) (he : PE X o ta) (ha : PA X (e :: es) t)
    (hst : starEach (e :: es) X.env = (false, eval e X.env) :: starEach es X.env := by rfl) (hpl : (backTo pos (starEach es X.env)).any (·.1) = false := by rfl)
    (ht : eval (.Call (.Attribute o m apos) (e :: es) [] pos) X.env = (do
      let ov ← eval o X.env
      standAt apos.atName
      let (f, first) ← holding [ov] (getMethod ov m pl)
      callWith pos f first (backTo pos (starEach (e :: es) X.env)) (backToKw pos (keywordEach [] X.env))) := by rfl) :
    PE X (.Call (.Attribute o m apos) (e :: es) [] pos) (tMeth C m sp [] L2.E0 ta t) := by
  obtain ⟨f, fd, ps, hc, hm, F, b⟩ := c.ex
  exact pe_meth (pl := pl) he hc hm F hr b .nil L2.pass0 ha hst hpl ht
end

theorem u1 {k : Nat} {A : Around} (r : Room k A) : A.units + 1 < cLine := by have := r.un; omega
theorem u65 {k : Nat} {A : Around} (r : Room k A) : A.units + 65 < cLine := by have := r.un; omega
/-! ### three comparisons in a chain -/
def tChain3 (r r' r'' : R2) (ta tb tc td : TE) : TE := fun σ H Q => ta σ H fun x H1 => tb σ H1 fun y H2 => r x y H2 fun z H3 => ∃ k, z = .bl k ∧
  (if k = true then tc σ H3 fun w' H4 => r' y w' H4 fun z' H5 => ∃ k', z' = .bl k' ∧ (if k' = true then td σ H5 fun v' H6 => r'' w' v' H6 Q else Q (.bl false) H5) else Q (.bl false) H3)
section
variable {X : Cx} {a b c d : Expr} {ta tb tc td : TE} {pos : Pos}
theorem pe_chain3 {op op' op'' : CmpOp} {r r' r'' : R2} (ho : OpR X (compareOp op) r) (ho' : OpR X (compareOp op') r') (ho'' : OpR X (compareOp op'') r'') (ha : PE X a ta) (hb : PE X b tb) (hc : PE X c tc) (hd : PE X d td)
    (hm : lastMarks [op, op', op''] [b, c, d] = false := by with_unfolding_all rfl) : PE X (.Compare a [op, op', op''] [b, c, d] pos) (tChain3 r r' r'' ta tb tc td) := by
  refine ⟨fun pins s σ H Q I h => ?_⟩
  refine Compare_chain (thn (ha.run pins s σ H _ I h) fun v s1 ⟨x, H1, I1, r1, q1⟩ => chain_link (thn (hb.run pins s1 σ H1 _ I1 q1) fun u s2 ⟨y, H2, I2, r2, q2⟩ =>
    thn (ho pins s2 σ H2 x y v u _ I2 r1 r2 q2) fun d s3 ⟨z, H3, I3, r3, k, e, q3⟩ => ?_)) hm
  subst e
  cases r3
  refine wpAny_truthy_bool ?_
  cases k with
  | false => exact ite_ff ⟨.bl false, H3, I3, rfl, q3⟩
  | true =>
    refine ite_tt (chain_link (thn (hc.run pins s3 σ H3 _ I3 q3) fun w' s4 ⟨z', H4, I4, r4, q4⟩ => thn (ho' pins s4 σ H4 y z' u w' _ I4 r2 r4 q4) fun d' s5 ⟨z2, H5, I5, r5, k2, e2, q5⟩ => ?_))
    subst e2
    cases r5
    refine wpAny_truthy_bool ?_
    cases k2 with
    | false => exact ite_ff ⟨.bl false, H5, I5, rfl, q5⟩
    | true => exact ite_tt (chain_last (thn (hd.run pins s5 σ H5 _ I5 q5) fun w2 s6 ⟨z3, H6, I6, r6, q6⟩ => ho'' pins s6 σ H6 z' z3 w' w2 Q I6 r4 r6 q6))
theorem pt_chain3 {op op' op'' : CmpOp} {r r' r'' : R2} (ho : OpR X (compareOp op) r) (ho' : OpR X (compareOp op') r') (ho'' : OpR X (compareOp op'') r'') (ha : PE X a ta) (hb : PE X b tb) (hc : PE X c tc) (hd : PE X d td)
    (hm : lastMarks [op, op', op''] [b, c, d] = false := by with_unfolding_all rfl) : PT X (.Compare a [op, op', op''] [b, c, d] pos) (tTest (tChain3 r r' r'' ta tb tc td)) := by
  refine ⟨fun pins s σ H Q I h => ?_⟩
  refine isTrue_chain (thn (ha.run pins s σ H _ I h) fun v s1 ⟨x, H1, I1, r1, q1⟩ => test_link (thn (hb.run pins s1 σ H1 _ I1 q1) fun u s2 ⟨y, H2, I2, r2, q2⟩ =>
    thn (ho pins s2 σ H2 x y v u _ I2 r1 r2 q2) fun d s3 ⟨z, H3, I3, r3, k, e, q3⟩ => ?_)) hm
  subst e
  cases r3
  refine wpAny_truthy_bool ?_
  cases k with
  | false =>
    obtain ⟨k', e', q'⟩ := q3
    cases e'
    exact ite_ff ⟨H3, I3, q'⟩
  | true =>
    refine ite_tt (test_link (thn (hc.run pins s3 σ H3 _ I3 q3) fun w' s4 ⟨z', H4, I4, r4, q4⟩ => thn (ho' pins s4 σ H4 y z' u w' _ I4 r2 r4 q4) fun d' s5 ⟨z2, H5, I5, r5, k2, e2, q5⟩ => ?_))
    subst e2
    cases r5
    refine wpAny_truthy_bool ?_
    cases k2 with
    | false =>
      obtain ⟨k', e', q'⟩ := q5
      cases e'
      exact ite_ff ⟨H5, I5, q'⟩
    | true =>
      refine ite_tt (test_last (thn (hd.run pins s5 σ H5 _ I5 q5) fun w2 s6 ⟨z3, H6, I6, r6, q6⟩ => thn (ho'' pins s6 σ H6 z' z3 w' w2 _ I6 r4 r6 q6) fun d2 s7 ⟨z4, H7, I7, r7, k3, e3, q7⟩ => ?_))
      subst e3
      cases r7
      exact wpAny_truthy_bool ⟨H7, I7, q7⟩
end

/-! ### a statement, a word, the rest -/
def tCut (t u : TS) : TS := fun D σ H => ∃ Mid : L2.St → Hp → Prop, t { nx := Mid, rt := D.rt, bk := D.bk, ct := D.ct } σ H ∧ ∀ σ' H', Mid σ' H' → u D σ' H'
theorem pss_cut {X : Cx} {st : Stmt} {rest : List Stmt} {t u : TS} (h1 : PS X st t) (h2 : PSs X rest u) : PSs X (st :: rest) (tCut t u) := by
  refine ⟨fun pins s σ H D I h => ?_⟩
  obtain ⟨Mid, hm, hu⟩ := h
  refine wpAny_execs_cons (thn (h1.run pins s σ H { nx := Mid, rt := D.rt, bk := D.bk, ct := D.ct } I hm) fun f s1 q => ?_)
  cases f with
  | next =>
    obtain ⟨σ', H', I', q⟩ := q
    exact h2.run pins s1 σ' H' D I' (hu σ' H' q)
  | ret v => exact q
  | brk => exact q
  | cont => exact q
theorem c_cut {t u : TS} {D : Ends} {σ : L2.St} {H : Hp} (Mid : L2.St → Hp → Prop) (h1 : t { nx := Mid, rt := D.rt, bk := D.bk, ct := D.ct } σ H) (h2 : ∀ σ' H', Mid σ' H' → u D σ' H') : tCut t u D σ H := ⟨Mid, h1, h2⟩
theorem c_nocut {t u : TS} {D : Ends} {σ : L2.St} {H : Hp} (h : t { nx := u D, rt := D.rt, bk := D.bk, ct := D.ct } σ H) : tCut t u D σ H := ⟨u D, h, fun _ _ z => z⟩

/-! ### len(set(xs)), xs ints of any kind -/
def nodup_len (ns : List Int) : Nat := (PyProof.Rows.firstMet (fun i => ns.getD i 0) ns.length).length
def tLenSetG (K : PySem.W.Frag) (ta : TE) : TE := fun σ H Q => ta σ H fun x H1 => ∃ (l : Addr) (ns : List Int), x = .ref l ∧ SqL K H1 l (ns.map V.int) ∧ ns.length ≤ 4000 ∧ Q (.int (nodup_len ns : Nat)) H1
theorem pe_lenSetG {X : Cx} {a : Expr} {ta : TE} {p p2 q pos : Pos} (hg : Gl X "len") (hm : X.mg "len" = none) (hg2 : Gl X "set") (hm2 : X.mg "set" = none) (ha : PE X a ta) (hc : X.calm = true := by rfl)
    (na : starEach [a] X.env = (false, eval a X.env) :: starEach [] X.env := by rfl) : PE X (.Call (.Name "len" p) [.Call (.Name "set" p2) [a] [] q] [] pos) (tLenSetG X.K ta) := by
  refine ⟨fun pins s σ H Q I h => ?_⟩
  refine Call_ (ld_blt I hg hm boot_len ?_)
  refine PyProof.Rows.callWith_builtin1 (PyProof.Rows.args_cons ?_ rfl) rfl rfl
  refine Call_ (ld_blt I hg2 hm2 boot_set ?_)
  refine PyProof.Rows.callWith_type1 (PyProof.Rows.args_cons (thn (ha.run pins s σ H _ I h) fun v s1 ⟨x, H1, I1, r1, q1⟩ => PyProof.Rows.args_nil ?_) na) na rfl
  obtain ⟨l, ns, rfl, hq, hl, q1⟩ := q1
  cases r1
  obtain ⟨its, r, pl, hz⟩ := I1.list hq
  have hlen : its.toArray.size = ns.length := by rw [List.size_toArray, ← r.length, List.length_map]
  refine call_set_list (I1.ok.hd hc) pl.isList (by simpa using RZ.intsAre_vals r) (by rw [hlen]; unfold scanBound; omega) fun h' tk hS hk => ?_
  refine PyProof.Rows.args_nil ?_
  rw [hlen] at hS
  obtain ⟨o, es, ep, t, ho, hex, hd, _, _, _, hf, hn⟩ := hS
  have I2 : Inv X pins σ H1 { s1 with heap := h', toks := tk } := I1.kept fun b o e => hk b o (Heap.lt_size e) e
  have hle := PyProof.Rows.firstMet_length_le (fun i => ns.getD i 0) ns.length
  exact call_len_set ho hex hd hf (by rw [hn] <;> omega) ⟨.int (nodup_len ns : Nat), H1, I2.tok _, ⟨_, by rw [hn]; rfl⟩, q1⟩
theorem dedup_len : ∀ (l acc : List Int), (l.foldl PyProof.Rows.step_dedup acc).length ≤ acc.length + l.length
  | [], acc => Nat.le_refl _
  | a :: r, acc => by
    rw [List.foldl_cons, List.length_cons]
    refine Nat.le_trans (dedup_len r _) ?_
    unfold PyProof.Rows.step_dedup
    split
    · omega
    · rw [List.length_append]; simp; omega
theorem dedup_eq : ∀ (l acc : List Int), (l.foldl PyProof.Rows.step_dedup acc).length = acc.length + l.length ↔ (l.Nodup ∧ ∀ x ∈ l, x ∉ acc)
  | [], acc => by simp
  | a :: r, acc => by
    rw [List.foldl_cons, List.length_cons, List.nodup_cons]
    have h1 := dedup_len r (PyProof.Rows.step_dedup acc a)
    by_cases hc : a ∈ acc
    · have e : PyProof.Rows.step_dedup acc a = acc := by
        unfold PyProof.Rows.step_dedup
        rw [if_pos]
        exact List.any_eq_true.mpr ⟨a, hc, by simp⟩
      rw [e] at h1 ⊢
      refine ⟨fun h => absurd h (by omega), fun h => absurd hc (h.2 a (by simp))⟩
    · have e : PyProof.Rows.step_dedup acc a = acc ++ [a] := by
        unfold PyProof.Rows.step_dedup
        rw [if_neg]
        intro h
        obtain ⟨y, hy, ey⟩ := List.any_eq_true.mp h
        have ey2 : y = a := eq_of_beq ey
        exact hc (ey2 ▸ hy)
      have ih := dedup_eq r (acc ++ [a])
      rw [e]
      rw [List.length_append] at ih
      constructor
      · intro h
        obtain ⟨n1, n2⟩ := ih.mp (by simp at h ⊢; omega)
        refine ⟨⟨fun hm => n2 a hm (by simp), n1⟩, fun x hx => ?_⟩
        rcases List.mem_cons.mp hx with rfl | hx
        · exact hc
        · intro z; exact n2 x hx (by simp [z])
      · rintro ⟨⟨n0, n1⟩, n2⟩
        have := ih.mpr ⟨n1, fun x hx z => by
          rcases List.mem_append.mp z with z | z
          · exact n2 x (List.mem_cons_of_mem _ hx) z
          · have : x = a := by simpa using z
            subst this; exact n0 hx⟩
        simp at this ⊢; omega
theorem range_getD (ns : List Int) : (List.range ns.length).map (fun i => ns.getD i 0) = ns := by
  apply List.ext_getElem (by simp)
  intro i h1 h2
  simp at h1 h2 ⊢
  rw [List.getElem?_eq_getElem h1]
  rfl
theorem nodup_len_eq (ns : List Int) : nodup_len ns = ns.length ↔ ns.Nodup := by
  unfold nodup_len PyProof.Rows.firstMet
  rw [range_getD]
  have := dedup_eq ns []
  simp at this ⊢
  exact this
end Bo

namespace Bo
open PySem PySem.Spec PyProof.Rows L2

/-! ### heaps: what stands, what is new -/
theorem Same.new {H0 H : Hp} {p : Addr} {o : HO} (s : Same H0 H) (h : H0 p = none) : Same H0 (upd H p o) := fun b u e => by
  rw [upd_ne (ne_of_none e h)]; exact s b u e
theorem Same.up {H H' : Hp} {p : Addr} {o : HO} (s : Same H H') (e : H p = some o) : H' p = some o := s p o e
theorem Same.one {H : Hp} {p : Addr} {o : HO} (h : H p = none) : Same H (upd H p o) := Same.new (Same.refl H) h
theorem lift_ne {H : Hp} {p q : Addr} {o u : HO} (e : H p = some o) (h : p ≠ q) : upd H q u p = some o := by rw [upd_ne h]; exact e
theorem free_up {H : Hp} {p q : Addr} {u : HO} (h : upd H q u p = none) : H p = none := by
  by_cases e : p = q
  · subst e; rw [upd_same] at h; cases h
  · rwa [upd_ne e] at h
theorem SqT.same {K : PySem.W.Frag} {H H' : Hp} {a : Addr} {xs : List V} (e : Same H H') (h : SqT K H a xs) : SqT K H' a xs := by
  rcases h with (h | ⟨o, h⟩) | h
  · exact .inl (.inl (e _ _ h))
  · exact .inl (.inr ⟨o, e _ _ h⟩)
  · exact .inr h

theorem neo {H : Hp} {a b : Addr} {o : HO} (h' : H b = none) (h : H a = some o) : a ≠ b := ne_of_none h h'
theorem same_trans {H H1 H2 : Hp} (b : Same H1 H2) (a : Same H H1) : Same H H2 := a.trans b
theorem same_free {H H' : Hp} {l : Addr} (h : H' l = none) (e : Same H H') : H l = none := e.free h
theorem same_seq {K : PySem.W.Frag} {H H' : Hp} {a : Addr} {xs : List V} (h : SqL K H a xs) (e : Same H H') : SqL K H' a xs := e.seq h
theorem same_sqt {K : PySem.W.Frag} {H H' : Hp} {a : Addr} {xs : List V} (h : SqT K H a xs) (e : Same H H') : SqT K H' a xs := SqT.same e h
/-! ### ints of a list by an int place -/
def gt (ns : List Int) (i : Int) : Int := if 0 ≤ i then ns.getD i.toNat 0 else ns.getD (i + ns.length).toNat 0
theorem gt_nat (ns : List Int) (i : Nat) : gt ns (i : Int) = ns.getD i 0 := by
  unfold gt
  rw [if_pos (by omega)]
  rfl
theorem gt_get {ns : List Int} {i : Nat} {x : Int} (h : ns[i]? = some x) : gt ns (i : Int) = x := by
  rw [gt_nat, List.getD_eq_getElem?_getD, h]; rfl
theorem getD_some {ns : List Int} {i : Nat} (h : i < ns.length) : ns[i]? = some (ns.getD i 0) := by
  rw [List.getD_eq_getElem?_getD, List.getElem?_eq_getElem h]; rfl
theorem gt_some {ns : List Int} {i : Nat} (h : i < ns.length) : ns[i]? = some (gt ns (i : Int)) := by rw [gt_nat]; exact getD_some h
theorem gt_mem {ns : List Int} {i : Int} (h0 : -(ns.length : Int) ≤ i) (h : i < ns.length) : gt ns i ∈ ns := by
  unfold gt
  by_cases c : 0 ≤ i
  · rw [if_pos c]; exact List.mem_of_getElem? (getD_some (by omega))
  · rw [if_neg c]; exact List.mem_of_getElem? (getD_some (by omega))
theorem at_gt {ns : List Int} {i : Int} (h0 : -(ns.length : Int) ≤ i) (h : i < ns.length) : atI (ns.map V.int) i = some (.int (gt ns i)) := by
  unfold atI ixN gt
  rw [List.length_map]
  by_cases c : 0 ≤ i
  · rw [if_pos c, if_pos h, if_pos c]
    show (ns.map V.int)[i.toNat]? = _
    rw [List.getElem?_map, getD_some (by omega)]; rfl
  · rw [if_neg c, if_pos h0, if_neg c]
    show (ns.map V.int)[(i + ns.length).toNat]? = _
    rw [List.getElem?_map, getD_some (by omega)]; rfl
theorem at_map {α : Type} {f : α → V} {xs : List α} {i : Int} {j : Nat} {x : α} (e : i = (j : Int)) (h : xs[j]? = some x) : atI (xs.map f) i = some (f x) := by
  subst e
  refine atI_nat ?_
  rw [List.getElem?_map, h]; rfl
theorem map_get {α : Type} {f : α → V} {xs : List α} {i : Nat} {y : V} (h : (xs.map f)[i]? = some y) : ∃ x, xs[i]? = some x ∧ y = f x := by
  rw [List.getElem?_map] at h
  cases e : xs[i]? with
  | none => rw [e] at h; cases h
  | some x => rw [e] at h; exact ⟨x, rfl, (Option.some.inj h).symm⟩
/-- places stored -/
def st (ns : List Int) (i x : Int) : List Int := ns.set i.toNat x
theorem st_length (ns : List Int) (i x : Int) : (st ns i x).length = ns.length := List.length_set ..

section
variable {K : PySem.W.Frag} {σ : L2.St} {H H' : Hp} {ta tb te tc : TE} {t u : TT} {x y z v : V} {D : Ends} {tu tw tz : TS} {g : TG} {Q : VK} {i j : Int}

/-! ### statements -/
theorem r_seq (h : tu { nx := tw D, rt := D.rt, bk := D.bk, ct := D.ct } σ H) : tSeq tu tw D σ H := h
theorem r_nx {a : L2.St → Hp → Prop} {b : VK} {c d : L2.St → Hp → Prop} (h : a σ H) : Ends.nx (Ends.mk a b c d) σ H := h
theorem r_rt {a : L2.St → Hp → Prop} {b : VK} {c d : L2.St → Hp → Prop} (h : b v H) : Ends.rt (Ends.mk a b c d) v H := h
theorem r_next (h : D.nx σ H) : tNext D σ H := h
theorem r_asgN {k : Nat} (h : te σ H fun v H1 => D.nx (σ.set k (some v)) H1) : tAsg te (gName k) D σ H := h
theorem r_asg (h : te σ H fun v H1 => g v σ H1 D.nx) : tAsg te g D σ H := h
theorem r_ret (h : te σ H D.rt) : tRet te D σ H := h
theorem r_drop (h : te σ H fun _ H1 => D.nx σ H1) : tDrop te D σ H := h
theorem r_if (h : t σ H fun b H1 => if b = true then tu D σ H1 else tw D σ H1) : tIfS t tu tw D σ H := h
theorem r_set (h : tv σ H fun y H1 => ta σ H1 fun o H2 => tb σ H2 fun i H3 => rSetL o i y H3 fun H4 => D.nx σ H4) : tAsg tv (gSub ta tb rSetL) D σ H := h
def KPar (k l : Nat) (D : Ends) (σ : L2.St) (vs : List V) (H : Hp) : Prop := ∃ v w, vs = [v, w] ∧ D.nx ((σ.set k (some v)).set l (some w)) H
theorem r_par {k l : Nat} {ta : TA} (h : ta σ H fun vs H1 => KPar k l D σ vs H1) : tPar k l ta D σ H := h
theorem k_par {k l : Nat} (h : D.nx ((σ.set k (some x)).set l (some y)) H) : KPar k l D σ [x, y] H := ⟨x, y, rfl, h⟩
theorem r_aug {k : Nat} {a : V} {ti : TIp} (e : σ[k]? = some (some a)) (h : te σ H fun y H1 => ti a y H1 fun z H2 => D.nx (σ.set k (some z)) H2) : tAug k te ti D σ H := ⟨_, e, h⟩
theorem i_ip {f : Int → Int → Int} (q : Q (.int (f i j)) H) : ipI f (.int i) (.int j) H Q := ⟨i, j, rfl, rfl, q⟩
def KFs (K : PySem.W.Frag) (f : Str) (D : Ends) (σ : L2.St) (y x : V) (H : Hp) : Prop := ∃ a C dx fs, x = .ref a ∧ H a = some (.ins C dx fs) ∧ Cls K C ∧ NoAttr K C f ∧ fs.length < 1000 ∧ D.nx σ (upd H a (.ins C dx (putF f y fs)))
theorem r_fld {f : Str} (h : tv σ H fun y H1 => ta σ H1 fun x H2 => KFs K f D σ y x H2) : sFld K ta tv f D σ H := h
theorem k_fld {f : Str} {a C dx : Addr} {fs : List (Str × V)} (h : H a = some (.ins C dx fs)) (c : Cls K C) (n : NoAttr K C f) (z : fs.length < 1000) (q : D.nx σ (upd H a (.ins C dx (putF f y fs)))) : KFs K f D σ y (.ref a) H := ⟨a, C, dx, fs, rfl, h, c, n, z, q⟩
/-! ### expressions -/
theorem e_var {k : Nat} (e : σ[k]? = some (some v)) (q : Q v H) : tVar k σ H Q := ⟨v, e, q⟩
theorem e_c (q : Q v H) : tC v σ H Q := q
theorem e_op {r : R2} (h : ta σ H fun x H1 => tb σ H1 fun y H2 => r x y H2 Q) : tOp r ta tb σ H Q := h
theorem e_un {r : V → Hp → VK → Prop} (h : ta σ H fun x H1 => r x H1 Q) : tUn r ta σ H Q := h
theorem o_I0 {gg : Int → Int → V} (q : Q (gg i j) H) : rI0 gg (.int i) (.int j) H Q := ⟨i, j, rfl, rfl, q⟩
theorem o_I {C : Int → Int → Prop} {gg : Int → Int → V} (c : C i j) (q : Q (gg i j) H) : rI C gg (.int i) (.int j) H Q := ⟨i, j, rfl, rfl, c, q⟩
theorem o_mod (h : 0 < j) (q : Q (.int (i % j)) H) : rI (fun _ j => 0 < j) (fun i j => .int (i % j)) (.int i) (.int j) H Q := ⟨i, j, rfl, rfl, h, q⟩
theorem o_fdiv (h : 0 < j ∧ j < 1073741824) (q : Q (.int (i / j)) H) : rI CDiv (fun i j => .int (i / j)) (.int i) (.int j) H Q := ⟨i, j, rfl, rfl, h, q⟩
theorem o_mulR (h : -10000000000 < j ∧ j < 10000000000) (q : Q (.int (i * j)) H) : rI CMul (fun i j => .int (i * j)) (.int i) (.int j) H Q := ⟨i, j, rfl, rfl, .inr ⟨by omega, by omega⟩, q⟩
theorem o_mulL (h : -10000000000 < i ∧ i < 10000000000) (q : Q (.int (i * j)) H) : rI CMul (fun i j => .int (i * j)) (.int i) (.int j) H Q := ⟨i, j, rfl, rfl, .inl ⟨by omega, by omega⟩, q⟩
theorem o_neg {gg : Int → V} (q : Q (gg i) H) : rU gg (.int i) H Q := ⟨i, rfl, q⟩
theorem o_eqI (q : Q (.bl (decide (i = j))) H) : rEq (.int i) (.int j) H Q := ⟨rfl, by rw [dec_int, Bool.beq_eq_decide_eq]; exact q⟩
theorem o_neI (q : Q (.bl (!decide (i = j))) H) : rNe (.int i) (.int j) H Q := ⟨rfl, by rw [dec_int, Bool.beq_eq_decide_eq]; exact q⟩
theorem o_eqB {a b : Bool} (q : Q (.bl (a == b)) H) : rEq (.bl a) (.bl b) H Q := ⟨rfl, by rw [dec_bl]; exact q⟩
theorem o_neB {a b : Bool} (q : Q (.bl (!(a == b))) H) : rNe (.bl a) (.bl b) H Q := ⟨rfl, by rw [dec_bl]; exact q⟩
theorem o_eqS {a b : Str} (q : Q (.bl (a == b)) H) : rEq (.str a) (.str b) H Q := ⟨rfl, by rw [dec_str]; exact q⟩
theorem o_neS {a b : Str} (q : Q (.bl (!(a == b))) H) : rNe (.str a) (.str b) H Q := ⟨rfl, by rw [dec_str]; exact q⟩
theorem o_ixI {p : Addr} {ns : List Int} (h : SqL K H p (ns.map V.int)) (h0 : -(ns.length : Int) ≤ i ∧ i < ns.length) (q : Q (.int (gt ns i)) H) : rIxL K (.ref p) (.int i) H Q := ⟨p, _, i, _, rfl, rfl, h, at_gt h0.1 h0.2, q⟩
theorem o_ixM {α : Type} {f : α → V} {xs : List α} {p : Addr} {j : Nat} {x : α} (h : SqL K H p (xs.map f)) (e : xs[j]? = some x) (e2 : i = (j : Int)) (q : Q (f x) H) : rIxL K (.ref p) (.int i) H Q := ⟨p, _, i, _, rfl, rfl, h, at_map e2 e, q⟩
theorem o_ixT {xs : List V} {p : Addr} (h : SqT K H p xs) (e : atI xs i = some v) (q : Q v H) : rIxT K (.ref p) (.int i) H Q := ⟨p, _, i, _, rfl, rfl, h, e, q⟩
theorem e_lst {ta : TA} (h : ta σ H fun xs H1 => xs.length ≤ sizeLine ∧ ∀ p, H1 p = none → Q (.ref p) (upd H1 p (.lst xs))) : tLst ta σ H Q := h
theorem e_tup {ta : TA} (h : ta σ H fun xs H1 => xs.length ≤ sizeLine ∧ ∀ p, H1 p = none → Q (.ref p) (upd H1 p (.tup xs))) : tTup ta σ H Q := h
theorem a_nil {R : List V → Hp → Prop} (h : R [] H) : tNil σ H R := h
theorem a_cons {ts : TA} {R : List V → Hp → Prop} (h : ta σ H fun x H1 => ts σ H1 fun xs H2 => R (x :: xs) H2) : tCons ta ts σ H R := h
theorem e_cb {r : List V → Hp → VK → Prop} {ts : TA} (h : ts σ H fun vs H1 => r vs H1 Q) : tCB r ts σ H Q := h
theorem e_call {sp : Sp} {E : XK} {ts : TA} (h : ts σ H fun vs H1 => sp vs H1 Q E) : tCall sp [] E ts σ H Q := by
  have e : (fun (vs : List V) (H1 : Hp) => sp (vs ++ []) H1 Q E) = fun vs H1 => sp vs H1 Q E := by
    funext vs H1; rw [List.append_nil]
  show ts σ H fun vs H1 => sp (vs ++ []) H1 Q E
  rw [e]; exact h
theorem e_make {C : Addr} {sp : Sp} {E : XK} {ts : TA} (h : ts σ H fun vs H1 => ∀ x dx, H1 x = none → H1 dx = none → dx ≠ x → sp (.ref x :: vs) (upd (upd H1 dx (.own x)) x (.ins C dx [])) (fun v H2 => v = .non ∧ Q (.ref x) H2) E) : tMake C sp [] E ts σ H Q := by
  have e : (fun (vs : List V) (H1 : Hp) => ∀ x dx, H1 x = none → H1 dx = none → dx ≠ x → sp (.ref x :: (vs ++ [])) (upd (upd H1 dx (.own x)) x (.ins C dx [])) (fun v H2 => v = .non ∧ Q (.ref x) H2) E) = fun vs H1 => ∀ x dx, H1 x = none → H1 dx = none → dx ≠ x → sp (.ref x :: vs) (upd (upd H1 dx (.own x)) x (.ins C dx [])) (fun v H2 => v = .non ∧ Q (.ref x) H2) E := by
    funext vs H1; rw [List.append_nil]
  show ts σ H fun (vs : List V) (H1 : Hp) => ∀ x dx, H1 x = none → H1 dx = none → dx ≠ x → sp (.ref x :: (vs ++ [])) (upd (upd H1 dx (.own x)) x (.ins C dx [])) (fun v H2 => v = .non ∧ Q (.ref x) H2) E
  rw [e]; exact h
def KM (C : Addr) (m : Str) (sp : Sp) (E : XK) (ts : TA) (σ : L2.St) (Q : VK) (x : V) (H : Hp) : Prop := ∃ a dx fs, x = .ref a ∧ H a = some (.ins C dx fs) ∧ fs.lookup m = none ∧ ts σ H fun vs H2 => sp (x :: vs) H2 Q E
theorem e_meth {C : Addr} {m : Str} {sp : Sp} {E : XK} {ts : TA} (h : ta σ H fun x H1 => KM C m sp E ts σ Q x H1) : tMeth C m sp [] E ta ts σ H Q := by
  have e : ∀ x, (fun (vs : List V) (H2 : Hp) => sp (x :: (vs ++ [])) H2 Q E) = fun vs H2 => sp (x :: vs) H2 Q E := by
    intro x; funext vs H1; rw [List.append_nil]
  show ta σ H fun x H1 => ∃ a dx fs, x = .ref a ∧ H1 a = some (.ins C dx fs) ∧ fs.lookup m = none ∧ ts σ H1 fun vs H2 => sp (x :: (vs ++ [])) H2 Q E
  simp only [e]; exact h
theorem k_meth {C a dx : Addr} {m : Str} {sp : Sp} {E : XK} {ts : TA} {fs : List (Str × V)} (h : H a = some (.ins C dx fs)) (n : fs.lookup m = none) (q : ts σ H fun vs H2 => sp (.ref a :: vs) H2 Q E) : KM C m sp E ts σ Q (.ref a) H := ⟨a, dx, fs, rfl, h, n, q⟩
def KF (K : PySem.W.Frag) (f : Str) (Q : VK) (x : V) (H : Hp) : Prop := ∃ a C dx fs v, x = .ref a ∧ H a = some (.ins C dx fs) ∧ Cls K C ∧ NoAttr K C f ∧ fs.lookup f = some v ∧ Q v H
theorem e_fld {f : Str} (h : ta σ H fun x H1 => KF K f Q x H1) : tFld K ta f σ H Q := h
theorem c_fld {f : Str} {a C dx : Addr} {fs : List (Str × V)} (h : H a = some (.ins C dx fs)) (c : Cls K C) (n : NoAttr K C f) (e : fs.lookup f = some v) (q : Q v H) : KF K f Q (.ref a) H := ⟨a, C, dx, fs, v, rfl, h, c, n, e, q⟩
theorem e_bm {T : String} {r : V → List V → Hp → VK → Prop} {ts : TA} (h : ta σ H fun x H1 => tyV K T x H1 ∧ ts σ H1 fun xs H2 => r x xs H2 Q) : tBM K T r ta ts σ H Q := h
theorem e_bm0 {T : String} {r : V → List V → Hp → VK → Prop} (h : ta σ H fun x H1 => tyV K T x H1 ∧ r x [] H1 Q) : tBM0 K T r ta σ H Q := h
theorem m_ty {p : Addr} {xs : List V} {B : Prop} (h : SqL K H p xs) (q : B) : tyV K "list" (.ref p) H ∧ B := ⟨.inl ⟨rfl, _, h⟩, q⟩
theorem m_app {l : Addr} {xs : List V} (h : H l = some (.lst xs)) (z : xs.length < 1000000) (q : Q .non (upd H l (.lst (xs ++ [v])))) : rAppend (.ref l) [v] H Q := ⟨l, xs, v, rfl, rfl, h, Nat.lt_of_lt_of_le z (by decide), q⟩
theorem m_appM {α : Type} {f : α → V} {l : Addr} {xs : List α} {y : α} (h : H l = some (.lst (xs.map f))) (e : v = f y) (z : xs.length < 1000000) (q : Q .non (upd H l (.lst ((xs ++ [y]).map f)))) : rAppend (.ref l) [v] H Q := by
  refine ⟨l, xs.map f, v, rfl, rfl, h, by rw [List.length_map]; exact Nat.lt_of_lt_of_le z (by decide), ?_⟩
  rw [List.map_append] at q
  rw [e]; exact q
theorem m_setM {α : Type} {f : α → V} {l : Addr} {xs : List α} {y : α} {k : Nat} {R : Hp → Prop} (h : H l = some (.lst (xs.map f))) (e : v = f y) (e2 : i = (k : Int)) (z : k < xs.length) (q : R (upd H l (.lst ((xs.set k y).map f)))) : rSetL (.ref l) (.int i) v H R := by
  refine ⟨l, xs.map f, i, k, rfl, rfl, h, ?_, ?_⟩
  · subst e2
    unfold ixN
    rw [List.length_map, if_pos (by omega), if_pos (by omega)]
    simp
  · rw [List.map_set] at q
    rw [e]; exact q
theorem m_setI {l : Addr} {ns : List Int} {R : Hp → Prop} (h : H l = some (.lst (ns.map V.int))) (z : 0 ≤ i ∧ i < ns.length) (q : R (upd H l (.lst ((st ns i j).map V.int)))) : rSetL (.ref l) (.int i) (.int j) H R :=
  m_setM (k := i.toNat) h rfl (by omega) (by omega) q
def rLen2 (K : PySem.W.Frag) : List V → Hp → VK → Prop := fun xs H Q => ∃ p ys, xs = [.ref p] ∧ (SqL K H p ys ∨ SqT K H p ys) ∧ Q (.int ys.length) H
theorem c_lenM {α : Type} {f : α → V} {p : Addr} {ys : List α} (h : SqL K H p (ys.map f)) (q : Q (.int (ys.length : Nat)) H) : rLen2 K [.ref p] H Q := ⟨p, _, rfl, .inl h, by rw [List.length_map]; exact q⟩
theorem c_lenT {p : Addr} {ys : List V} (h : SqT K H p ys) (q : Q (.int (ys.length : Nat)) H) : rLen2 K [.ref p] H Q := ⟨p, _, rfl, .inr h, q⟩
def rMax2 : List V → Hp → VK → Prop := fun xs H Q => ∃ i j, xs = [.int i, .int j] ∧ Q (.int (if j > i then j else i)) H
def rMin2 : List V → Hp → VK → Prop := fun xs H Q => ∃ i j, xs = [.int i, .int j] ∧ Q (.int (if j < i then j else i)) H
theorem c_max2 (q : Q (.int (max i j)) H) : rMax2 [.int i, .int j] H Q := ⟨i, j, rfl, by
  have e : (if j > i then j else i) = max i j := by split <;> omega
  rw [e]; exact q⟩
theorem c_min2 (q : Q (.int (min i j)) H) : rMin2 [.int i, .int j] H Q := ⟨i, j, rfl, by
  have e : (if j < i then j else i) = min i j := by split <;> omega
  rw [e]; exact q⟩
def rList2 (K : PySem.W.Frag) : List V → Hp → VK → Prop := fun xs H Q => ∃ p ys, xs = [.ref p] ∧ (SqL K H p ys ∨ SqT K H p ys) ∧ ∀ l, H l = none → Q (.ref l) (upd H l (.lst ys))
theorem c_list {p : Addr} {ys : List V} (h : SqL K H p ys) (q : ∀ l, H l = none → Q (.ref l) (upd H l (.lst ys))) : rList2 K [.ref p] H Q := ⟨p, ys, rfl, .inl h, q⟩
theorem c_listT {p : Addr} {ys : List V} (h : SqT K H p ys) (q : ∀ l, H l = none → Q (.ref l) (upd H l (.lst ys))) : rList2 K [.ref p] H Q := ⟨p, ys, rfl, .inr h, q⟩
theorem c_isi {n t : String} {b : Bool} (ty : TyX K H x (.type t)) (e : kitB t n = some b) (q : Q (.bl b) H) : rIsi K [x, .ty n] H Q := ⟨x, .ty n, _, _, b, rfl, .ty n, ty, kit_ty e, q⟩
theorem c_isiI {n : String} {b : Bool} (e : kitB "int" n = some b) (q : Q (.bl b) H) : rIsi K [.int i, .ty n] H Q := c_isi (.base (.int i)) e q
theorem c_isiL {p : Addr} {xs : List V} {n : String} {b : Bool} (h : SqL K H p xs) (e : kitB "list" n = some b) (q : Q (.bl b) H) : rIsi K [.ref p, .ty n] H Q := by
  refine c_isi (t := "list") ?_ e q
  rcases h with (h | ⟨o, h⟩) | ⟨o, its, k, h1, h2, _⟩
  · exact .base (.lst h)
  · exact .base (.frz h)
  · exact .kList h1 h2
theorem c_isiT {p : Addr} {xs : List V} {n : String} {b : Bool} (h : H p = some (.tup xs)) (e : kitB "tuple" n = some b) (q : Q (.bl b) H) : rIsi K [.ref p, .ty n] H Q := c_isi (.base (.tup h)) e q
def gb (bs : List Bool) (i : Int) : Bool := bs.getD i.toNat true
theorem o_ixB {p : Addr} {bs : List Bool} (h : SqL K H p (bs.map V.bl)) (h0 : 0 ≤ i ∧ i < bs.length) (q : Q (.bl (gb bs i)) H) : rIxL K (.ref p) (.int i) H Q := by
  refine o_ixM (j := i.toNat) (x := gb bs i) h ?_ (by omega) q
  unfold gb
  rw [List.getD_eq_getElem?_getD, List.getElem?_eq_getElem (by omega)]; rfl
theorem m_setB {l : Addr} {bs : List Bool} {c : Bool} {R : Hp → Prop} (h : H l = some (.lst (bs.map V.bl))) (z : 0 ≤ i ∧ i < bs.length) (q : R (upd H l (.lst ((bs.set i.toNat c).map V.bl)))) : rSetL (.ref l) (.int i) (.bl c) H R :=
  m_setM (k := i.toNat) h rfl (by omega) (by omega) q
theorem m_appR {l p : Addr} {as : List Addr} (h : H l = some (.lst (as.map V.ref))) (z : as.length < 1000000) (q : Q .non (upd H l (.lst ((as ++ [p]).map V.ref)))) : rAppend (.ref l) [.ref p] H Q := m_appM h rfl z q
theorem e_sl {r : V → Option Int → Option Int → Hp → VK → Prop} {tl th : TO} (h : te σ H fun x H1 => tl σ H1 fun l H2 => th σ H2 fun u H3 => r x l u H3 Q) : tSl r te tl th σ H Q := h
theorem e_nopart {R : Option Int → Hp → Prop} (h : R none H) : tNoPart σ H R := h
theorem e_part {R : Option Int → Hp → Prop} (h : ta σ H fun x H1 => ∃ i, x = .int i ∧ R (some i) H1) : tPart ta σ H R := h
theorem i_ok {R : Int → Prop} (q : R i) : ∃ j, V.int i = .int j ∧ R j := ⟨i, rfl, q⟩
theorem cut_from {α : Type} {f : α → V} {xs : List α} (h : 0 ≤ i) : cutV (xs.map f) (some i) none = (xs.drop i.toNat).map f := by
  obtain ⟨k, rfl⟩ : ∃ k : Nat, i = (k : Int) := ⟨i.toNat, by omega⟩
  unfold cutV
  rw [HT.sIx_nat, HT.sIx_none, List.length_map, Int.toNat_natCast, ← List.map_drop, ← List.map_take]
  congr 1
  by_cases c : k ≤ xs.length
  · rw [Nat.min_eq_left c]; exact List.take_of_length_le (by rw [List.length_drop]; omega)
  · rw [Nat.min_eq_right (by omega), List.drop_eq_nil_of_le (Nat.le_refl _), List.drop_eq_nil_of_le (by omega), List.take_nil]
theorem cut_to {α : Type} {f : α → V} {xs : List α} (h : 0 ≤ i) : cutV (xs.map f) none (some i) = (xs.take i.toNat).map f := by
  obtain ⟨k, rfl⟩ : ∃ k : Nat, i = (k : Int) := ⟨i.toNat, by omega⟩
  unfold cutV
  rw [HT.sIx_nat, HT.sIx_none, List.length_map, Int.toNat_natCast, List.drop_zero, Nat.sub_zero, ← List.map_take]
  congr 1
  by_cases c : k ≤ xs.length
  · rw [Nat.min_eq_left c]
  · rw [Nat.min_eq_right (by omega), List.take_of_length_le (Nat.le_refl _), List.take_of_length_le (by omega)]
theorem o_slFrom {α : Type} {f : α → V} {p : Addr} {xs : List α} (h : SqL K H p (xs.map f)) (z : 0 ≤ i) (q : ∀ l, H l = none → Q (.ref l) (upd H l (.lst ((xs.drop i.toNat).map f)))) : rSlL K (.ref p) (some i) none H Q :=
  ⟨p, _, rfl, h, fun l nl => by rw [cut_from z]; exact q l nl⟩
theorem o_slTo {α : Type} {f : α → V} {p : Addr} {xs : List α} (h : SqL K H p (xs.map f)) (z : 0 ≤ i) (q : ∀ l, H l = none → Q (.ref l) (upd H l (.lst ((xs.take i.toNat).map f)))) : rSlL K (.ref p) none (some i) H Q :=
  ⟨p, _, rfl, h, fun l nl => by rw [cut_to z]; exact q l nl⟩
theorem c_min {p : Addr} {ns : List Int} (h : SqL K H p (ns.map V.int)) (z : 0 < ns.length) (q : ∀ m, m ∈ ns → (∀ y ∈ ns, m ≤ y) → Q (.int m) H) : rMin K [.ref p] H Q := ⟨p, ns, rfl, h, z, q⟩
theorem c_all {p : Addr} {bs : List Bool} (h : SqL K H p (bs.map V.bl)) (q : Q (.bl (bs.all id)) H) : rAll K [.ref p] H Q := ⟨p, bs, rfl, h, q⟩
theorem c_any {p : Addr} {bs : List Bool} (h : SqL K H p (bs.map V.bl)) (q : Q (.bl (bs.any id)) H) : rAny K [.ref p] H Q := ⟨p, bs, rfl, h, q⟩
theorem c_sorted {p : Addr} {ns : List Int} (h : SqL K H p (ns.map V.int)) (q : ∀ ns' l, List.Perm ns' ns → ns'.Pairwise (· ≤ ·) → H l = none → Q (.ref l) (upd H l (.lst (ns'.map V.int)))) : rSortedI K [.ref p] H Q := ⟨p, ns, rfl, h, q⟩
def KLS (K : PySem.W.Frag) (Q : VK) (x : V) (H : Hp) : Prop := ∃ (l : Addr) (ns : List Int), x = .ref l ∧ SqL K H l (ns.map V.int) ∧ ns.length ≤ 4000 ∧ Q (.int (nodup_len ns : Nat)) H
theorem c_lenset {p : Addr} {ns : List Int} (h : SqL K H p (ns.map V.int)) (z : ns.length ≤ 4000) (q : Q (.int (nodup_len ns : Nat)) H) : KLS K Q (.ref p) H := ⟨p, ns, rfl, h, z, q⟩
theorem e_lenset (h : ta σ H fun x H1 => KLS K Q x H1) : tLenSetG K ta σ H Q := h
/-- xs.insert(i, y) -/
def rIns : V → List V → Hp → VK → Prop := fun x vs H Q => ∃ (l : Addr) (xs : List V) (i : Int) (y : V), x = .ref l ∧ vs = [.int i, y] ∧ H l = some (.lst xs) ∧ xs.length < sizeLine ∧ 0 ≤ i ∧ i < 2 ^ 63 ∧ Q .non (upd H l (.lst (xs.take i.toNat ++ [y] ++ xs.drop i.toNat)))
def ins (ns : List Int) (i x : Int) : List Int := ns.take i.toNat ++ [x] ++ ns.drop i.toNat
theorem m_ins {l : Addr} {ns : List Int} (h : H l = some (.lst (ns.map V.int))) (z : ns.length < 1000000) (z2 : 0 ≤ i ∧ i < 2 ^ 63) (q : Q .non (upd H l (.lst ((ins ns i j).map V.int)))) : rIns (.ref l) [.int i, .int j] H Q := by
  refine ⟨l, ns.map V.int, i, .int j, rfl, rfl, h, by rw [List.length_map]; exact Nat.lt_of_lt_of_le z (by decide), z2.1, z2.2, ?_⟩
  unfold ins at q
  rw [List.map_append, List.map_append, List.map_take, List.map_drop] at q
  exact q
theorem find_first : ∀ {ns : List Int} {k : Int}, k ∈ ns → ∃ j, ns[j]? = some k ∧ (∀ m : Nat, m < j → ns[m]? ≠ some k) ∧ ns.eraseIdx j = ns.erase k ∧ ns.idxOf k = j
  | [], k, h => by simp at h
  | a :: r, k, h => by
    by_cases c : a = k
    · subst c
      exact ⟨0, rfl, fun m hm => absurd hm (Nat.not_lt_zero _), by simp, by simp⟩
    · have hr : k ∈ r := by
        rcases List.mem_cons.mp h with e | e
        · exact absurd e.symm c
        · exact e
      obtain ⟨j, h1, h2, h3, h4⟩ := find_first hr
      refine ⟨j + 1, h1, fun m hm => ?_, ?_, ?_⟩
      · cases m with
        | zero => intro z; exact c (Option.some.inj z)
        | succ m => exact h2 m (by omega)
      · rw [List.eraseIdx_cons_succ, h3, List.erase_cons_tail (by simpa using c)]
      · rw [List.idxOf_cons, h4, show (a == k) = false by simpa using c]; rfl
theorem m_rem {l : Addr} {ns : List Int} (h : H l = some (.lst (ns.map V.int))) (hm : i ∈ ns) (q : Q .non (upd H l (.lst ((ns.erase i).map V.int)))) : rRemI (.ref l) [.int i] H Q := by
  obtain ⟨j, h1, h2, h3, _⟩ := find_first hm
  exact ⟨l, ns, i, j, rfl, rfl, h, h1, h2, by rw [h3]; exact q⟩
theorem all_flat (ns : List Int) : (ns.map V.int).all flatV = true := by
  rw [List.all_map]
  exact List.all_eq_true.mpr fun _ _ => rfl
theorem m_idx {l : Addr} {ns : List Int} (h : SqL K H l (ns.map V.int)) (hm : i ∈ ns) (q : Q (.int (ns.idxOf i : Nat)) H) : rIndex K (.ref l) [.int i] H Q := by
  obtain ⟨j, h1, h2, _, h4⟩ := find_first hm
  refine ⟨l, ns.map V.int, .int i, j, .int i, rfl, rfl, h, rfl, all_flat ns, by rw [List.getElem?_map, h1]; rfl, by show (i == i) = true; simp, fun m z' hlt hz => ?_, by rw [← h4]; exact q⟩
  obtain ⟨x, hx, rfl⟩ := map_get hz
  show (x == i) = false
  simp only [beq_eq_false_iff_ne]
  intro e; subst e; exact h2 m hlt hx
theorem inV_ints (ns : List Int) (i : Int) : inV (.int i) (ns.map V.int) = decide (i ∈ ns) := by
  unfold inV
  rw [List.any_map, Bool.eq_iff_iff, List.any_eq_true, decide_eq_true_eq]
  constructor
  · rintro ⟨x, hx, e⟩
    have e' : (x == i) = true := e
    rw [← eq_of_beq e']; exact hx
  · intro h; exact ⟨i, h, by show (i == i) = true; simp⟩
theorem o_in {l : Addr} {ns : List Int} (h : SqL K H l (ns.map V.int)) (q : Q (.bl (decide (i ∈ ns))) H) : rIn K false (.int i) (.ref l) H Q := ⟨l, _, rfl, .inl h, rfl, all_flat ns, by rw [inV_ints]; exact q⟩
theorem o_nin {l : Addr} {ns : List Int} (h : SqL K H l (ns.map V.int)) (q : Q (.bl (!decide (i ∈ ns))) H) : rIn K true (.int i) (.ref l) H Q := ⟨l, _, rfl, .inl h, rfl, all_flat ns, by
  show Q (.bl (!inV (.int i) (ns.map V.int))) H
  rw [inV_ints]; exact q⟩
/-- list(range(n)) -/
def KLR (Q : VK) (x : V) (H : Hp) : Prop := ∃ n, x = .int n ∧ RgOk 0 n ∧ ∀ q, H q = none → Q (.ref q) (upd H q (.lst (rgV 0 n)))
theorem e_listRg1 (h : ta σ H fun x H1 => KLR Q x H1) : tLstRg (tRg1 ta) σ H Q := h
/-- 0, 1, .. below n -/
def upTo (n : Nat) : List Int := (List.range n).map Int.ofNat
theorem upTo_length (n : Nat) : (upTo n).length = n := by unfold upTo; rw [List.length_map, List.length_range]
theorem rgV_upTo (n : Nat) : rgV 0 (n : Int) = (upTo n).map V.int := by
  unfold rgV upTo
  rw [List.map_map]
  have e : ((n : Int) - 0).toNat = n := by omega
  rw [e]
  refine List.map_congr_left fun i _ => ?_
  show V.int (0 + (i : Int)) = V.int (Int.ofNat i)
  rw [Int.zero_add]; rfl
theorem k_listRg {n : Nat} (z : n ≤ 1000000) (q : ∀ p, H p = none → Q (.ref p) (upd H p (.lst ((upTo n).map V.int)))) : KLR Q (.int (n : Nat)) H :=
  ⟨n, rfl, RgOk.of_le (by omega) (by omega) (by omega) (by omega), fun p np => by rw [rgV_upTo]; exact q p np⟩
theorem m_ext {l b : Addr} {α : Type} {f : α → V} {xs zs : List α} (h : H l = some (.lst (xs.map f))) (hb : H b = some (.lst (zs.map f))) (z : xs.length + zs.length < 1000000) (q : Q .non (upd H l (.lst ((xs ++ zs).map f)))) : rExtend (.ref l) [.ref b] H Q := by
  refine ⟨l, b, _, _, rfl, rfl, h, hb, by rw [List.length_map, List.length_map]; exact Nat.le_of_lt (Nat.lt_of_lt_of_le z (by decide)), ?_⟩
  rw [List.map_append] at q; exact q
theorem o_cat {l b : Addr} {α : Type} {f : α → V} {xs zs : List α} (h : H l = some (.lst (xs.map f))) (hb : H b = some (.lst (zs.map f))) (z : xs.length + zs.length < 1000000) (q : ∀ p, H p = none → Q (.ref p) (upd H p (.lst ((xs ++ zs).map f)))) : rCat (.ref l) (.ref b) H Q := by
  refine ⟨l, b, _, _, rfl, rfl, h, hb, by rw [List.length_map, List.length_map]; exact Nat.le_of_lt (Nat.lt_of_lt_of_le z (by decide)), fun p np => ?_⟩
  have := q p np
  rw [List.map_append] at this; exact this
def KRv (K : PySem.W.Frag) (Q : VK) (x : V) (H : Hp) : Prop := ∃ a xs, x = .ref a ∧ SqL K H a xs ∧ ∀ p, H p = none → Q (.ref p) (upd H p (.lst xs.reverse))
theorem e_rev (h : ta σ H fun x H1 => KRv K Q x H1) : tRevL K ta σ H Q := h
theorem c_rev {α : Type} {f : α → V} {p : Addr} {xs : List α} (h : SqL K H p (xs.map f)) (q : ∀ p, H p = none → Q (.ref p) (upd H p (.lst (xs.reverse.map f)))) : KRv K Q (.ref p) H :=
  ⟨p, _, rfl, h, fun p np => by have := q p np; rw [List.map_reverse] at this; exact this⟩
theorem l_new {n : Nat} {B : Prop} (z : n ≤ sizeLine) (q : B) : n ≤ sizeLine ∧ B := ⟨z, q⟩

/-! ### tests -/
variable {R : Bool → Hp → Prop} {b : Bool}
theorem t_test (h : te σ H fun x H1 => ∃ k, x = .bl k ∧ R k H1) : tTest te σ H R := h
theorem t_B (h : te σ H fun x H1 => ∃ k, x = .bl k ∧ R k H1) : tB te σ H R := h
theorem b_ok {R : Bool → Prop} (q : R b) : ∃ k, V.bl b = .bl k ∧ R k := ⟨b, rfl, q⟩
theorem t_and (h : t σ H fun c H1 => if c = true then u σ H1 R else R false H1) : tAnd t u σ H R := h
theorem t_or (h : t σ H fun c H1 => if c = true then R true H1 else u σ H1 R) : tOr t u σ H R := h
theorem t_not (h : t σ H fun c H1 => R (!c) H1) : tNot t σ H R := h
theorem v_and (h : ta σ H fun x H1 => ∃ c, x = .bl c ∧ if c = true then tb σ H1 Q else Q (.bl false) H1) : tAndV ta tb σ H Q := h
theorem v_or (h : ta σ H fun x H1 => ∃ c, x = .bl c ∧ if c = true then Q (.bl true) H1 else tb σ H1 Q) : tOrV ta tb σ H Q := h
theorem v_not (h : ta σ H fun x H1 => ∃ c, x = .bl c ∧ Q (.bl (!c)) H1) : tNotV ta σ H Q := h
theorem e_if (h : t σ H fun c H1 => if c = true then ta σ H1 Q else tb σ H1 Q) : tIf t ta tb σ H Q := h
theorem e_chain {r r' : R2} (h : ta σ H fun x H1 => tb σ H1 fun y H2 => r x y H2 fun z H3 => ∃ k, z = .bl k ∧ (if k = true then tc σ H3 fun w' H4 => r' y w' H4 Q else Q (.bl false) H3)) : tChain r r' ta tb tc σ H Q := h
theorem e_chain3 {r r' r'' : R2} {td : TE} (h : ta σ H fun x H1 => tb σ H1 fun y H2 => r x y H2 fun z H3 => ∃ k, z = .bl k ∧
  (if k = true then tc σ H3 fun w' H4 => r' y w' H4 fun z' H5 => ∃ k', z' = .bl k' ∧ (if k' = true then td σ H5 fun v' H6 => r'' w' v' H6 Q else Q (.bl false) H5) else Q (.bl false) H3)) : tChain3 r r' r'' ta tb tc td σ H Q := h
end
/-! ### the kind of a value -/
def isIntV : V → Bool
  | .int _ => true
  | .bl _ => true
  | _ => false
def isBlV : V → Bool
  | .bl _ => true
  | _ => false
theorem kit_int {K : PySem.W.Frag} {H : Hp} {x : V} {t : String} (h : TyX K H x (.type t)) : kitB t "int" = some (isIntV x) := by
  cases h with
  | base b => cases b <;> first | exact (show kitB _ "int" = some true by decide +kernel) | exact (show kitB _ "int" = some false by decide +kernel)
  | _ => exact (show kitB _ "int" = some false by decide +kernel)
theorem kit_bool {K : PySem.W.Frag} {H : Hp} {x : V} {t : String} (h : TyX K H x (.type t)) : kitB t "bool" = some (isBlV x) := by
  cases h with
  | base b => cases b <;> first | exact (show kitB _ "bool" = some true by decide +kernel) | exact (show kitB _ "bool" = some false by decide +kernel)
  | _ => exact (show kitB _ "bool" = some false by decide +kernel)
/-- whether it is a whole number between two bounds -/
def isNum (x : V) (lo hi : Int) : Bool := match x with
  | .int i => decide (lo ≤ i) && decide (i ≤ hi)
  | _ => false
theorem isNum_int (i lo hi : Int) : isNum (.int i) lo hi = (decide (lo ≤ i) && decide (i ≤ hi)) := rfl
/-- a row: the numbers below its length, each once -/
structure IsRow (ns : List Int) : Prop where
  len : ns.length ≤ 1000
  bd : ∀ x ∈ ns, 0 ≤ x ∧ x < ns.length
  nd : ns.Nodup
theorem IsRow.all_num {ns : List Int} (R : IsRow ns) : (ns.map fun x => isNum (.int x) 0 ((ns.length : Int) - 1)).all id = true := by
  rw [List.all_map]
  refine List.all_eq_true.mpr fun x hx => ?_
  have := R.bd x hx
  show isNum (.int x) 0 ((ns.length : Int) - 1) = true
  rw [isNum_int, decide_eq_true this.1, decide_eq_true (by omega)]; rfl
/-! ### loops -/
def FW (J : It) (g : TG) (tb : TS) (D : Ends) (σ : L2.St) (H : Hp) : Prop := ∃ W : Nat → Nat → L2.St → Hp → Prop, (∃ m, W 0 m σ H) ∧ ∀ i m σ H, W i m σ H →
  (J.stop i H ∧ D.nx σ H) ∨ (J.go i H ∧ ∃ N : L2.St → Hp → Prop, (∀ σ' H', N σ' H' → ∃ m', m' < m ∧ W (i + 1) m' σ' H') ∧ ∀ x H', J.yld i H x H' → g x σ H' fun σ2 H2 => tb { nx := N, rt := D.rt, ct := N, bk := D.nx } σ2 H2)
section
variable {K : PySem.W.Frag} {σ : L2.St} {H : Hp} {D : Ends} {tb : TS} {g : TG} {α : Type} {f : α → V} {a : Addr}
def KL (K : PySem.W.Frag) (g : TG) (tb : TS) (D : Ends) (σ : L2.St) (x : V) (H : Hp) : Prop := ∃ a, x = .ref a ∧ (∃ xs, SqL K H a xs) ∧ FW (Itl K a) g tb D σ H
def KTu (K : PySem.W.Frag) (g : TG) (tb : TS) (D : Ends) (σ : L2.St) (x : V) (H : Hp) : Prop := ∃ a, x = .ref a ∧ (∃ xs, SqT K H a xs) ∧ FW (Itt K a) g tb D σ H
def KE (K : PySem.W.Frag) (g : TG) (tb : TS) (D : Ends) (σ : L2.St) (vs : List V) (H : Hp) : Prop := ∃ a xs, vs = [.ref a] ∧ SqL K H a xs ∧ FW (Ite K a) g tb D σ H
def KR1 (g : TG) (tb : TS) (D : Ends) (σ : L2.St) (vs : List V) (H : Hp) : Prop := ∃ j : Int, vs = [.int j] ∧ -(2 ^ 62) ≤ j ∧ j < 2 ^ 62 ∧ FW (Itr 0 j.toNat) g tb D σ H
def KR2 (g : TG) (tb : TS) (D : Ends) (σ : L2.St) (vs : List V) (H : Hp) : Prop := ∃ i j : Int, vs = [.int i, .int j] ∧ (-(2 ^ 62) ≤ i ∧ i < 2 ^ 62 ∧ -(2 ^ 62) ≤ j ∧ j < 2 ^ 62) ∧ FW (Itr i (j - i).toNat) g tb D σ H
theorem r_forL {tl : TE} (h : tl σ H fun x H1 => KL K g tb D σ x H1) : tFor (iList K tl) g tb D σ H := h
theorem r_forT {tl : TE} (h : tl σ H fun x H1 => KTu K g tb D σ x H1) : tFor (iTup K tl) g tb D σ H := h
theorem r_forE {ta : TA} (h : ta σ H fun vs H1 => KE K g tb D σ vs H1) : tFor (iEnum K ta) g tb D σ H := h
theorem r_forR1 {ta : TA} (h : ta σ H fun vs H1 => KR1 g tb D σ vs H1) : tFor (iRng1 ta) g tb D σ H := h
theorem r_forR2 {ta : TA} (h : ta σ H fun vs H1 => KR2 g tb D σ vs H1) : tFor (iRng2 ta) g tb D σ H := h
/-- a loop over a list -/
theorem k_lst (xs : List α) (Pv : Nat → L2.St → Hp → Prop) (hx : SqL K H a (xs.map f)) (h0 : Pv 0 σ H) (hl : ∀ (i : Nat) (σ : L2.St) (H : Hp), i ≤ xs.length → Pv i σ H → SqL K H a (xs.map f))
    (hs : ∀ (i : Nat) (x : α) (σ : L2.St) (H : Hp), xs[i]? = some x → Pv i σ H → g (f x) σ H fun σ2 H2 => tb { nx := Pv (i + 1), rt := D.rt, ct := Pv (i + 1), bk := D.nx } σ2 H2) (hd : ∀ σ H, Pv xs.length σ H → D.nx σ H) :
    KL K g tb D σ (.ref a) H := by
  refine ⟨a, rfl, ⟨_, hx⟩, for_list (K := K) (a := a) (xs := xs.map f) Pv h0 (fun i σ H hi => hl i σ H (by rw [List.length_map] at hi; exact hi)) (fun i x σ H hx p => ?_) (fun σ H p => hd σ H (by rw [List.length_map] at p; exact p))⟩
  obtain ⟨y, hy, rfl⟩ := map_get hx
  exact hs i y σ H hy p
/-- .. whose target is a name -/
theorem k_lstN {j : Nat} (xs : List α) (Pv : Nat → L2.St → Hp → Prop) (hx : SqL K H a (xs.map f)) (h0 : Pv 0 σ H) (hl : ∀ (i : Nat) (σ : L2.St) (H : Hp), i ≤ xs.length → Pv i σ H → SqL K H a (xs.map f))
    (hs : ∀ (i : Nat) (x : α) (σ : L2.St) (H : Hp), xs[i]? = some x → Pv i σ H → tb { nx := Pv (i + 1), rt := D.rt, ct := Pv (i + 1), bk := D.nx } (σ.set j (some (f x))) H) (hd : ∀ σ H, Pv xs.length σ H → D.nx σ H) :
    KL K (gName j) tb D σ (.ref a) H := k_lst xs Pv hx h0 hl hs hd
/-- .. whose items are tuples: the item's address and what it holds -/
theorem k_lst2 {j1 j2 : Nat} {u v : α → V} {ad : α → Addr} (xs : List α) (Pv : Nat → L2.St → Hp → Prop) (hx : SqL K H a (xs.map fun x => V.ref (ad x))) (h0 : Pv 0 σ H)
    (hl : ∀ (i : Nat) (σ : L2.St) (H : Hp), i ≤ xs.length → Pv i σ H → SqL K H a (xs.map fun x => V.ref (ad x)) ∧ ∀ x ∈ xs, SqT K H (ad x) [u x, v x])
    (hs : ∀ (i : Nat) (x : α) (σ : L2.St) (H : Hp), xs[i]? = some x → Pv i σ H → tb { nx := Pv (i + 1), rt := D.rt, ct := Pv (i + 1), bk := D.nx } ((σ.set j1 (some (u x))).set j2 (some (v x))) H) (hd : ∀ σ H, Pv xs.length σ H → D.nx σ H) :
    KL K (gTup K 2 (gCons (gName j1) (gCons (gName j2) gNil))) tb D σ (.ref a) H := by
  refine k_lst (f := fun x => V.ref (ad x)) xs Pv hx h0 (fun i σ H hi p => (hl i σ H hi p).1) (fun i x σ H hx p => ?_) hd
  have hi : i < xs.length := (List.getElem?_eq_some_iff.mp hx).1
  exact ⟨ad x, _, rfl, (hl i σ H (by omega) p).2 x (List.mem_of_getElem? hx), rfl, _, _, rfl, _, _, rfl, rfl, hs i x σ H hx p⟩
theorem k_tupN {j : Nat} (ys : List V) (Pv : Nat → L2.St → Hp → Prop) (hx : SqT K H a ys) (h0 : Pv 0 σ H) (hl : ∀ (i : Nat) (σ : L2.St) (H : Hp), i ≤ ys.length → Pv i σ H → SqT K H a ys)
    (hs : ∀ (i : Nat) (x : V) (σ : L2.St) (H : Hp), ys[i]? = some x → Pv i σ H → tb { nx := Pv (i + 1), rt := D.rt, ct := Pv (i + 1), bk := D.nx } (σ.set j (some x)) H) (hd : ∀ σ H, Pv ys.length σ H → D.nx σ H) :
    KTu K (gName j) tb D σ (.ref a) H := ⟨a, rfl, ⟨_, hx⟩, for_tup Pv h0 hl hs hd⟩
/-- for i, x in enumerate(list) -/
theorem k_enum {j1 j2 : Nat} (xs : List α) (Pv : Nat → L2.St → Hp → Prop) (hx : SqL K H a (xs.map f)) (h0 : Pv 0 σ H) (hl : ∀ (i : Nat) (σ : L2.St) (H : Hp), i ≤ xs.length → Pv i σ H → SqL K H a (xs.map f))
    (hs : ∀ (i : Nat) (x : α) (σ : L2.St) (H : Hp) (T : Addr), xs[i]? = some x → Pv i σ H → H T = none → tb { nx := Pv (i + 1), rt := D.rt, ct := Pv (i + 1), bk := D.nx } ((σ.set j1 (some (.int (i : Nat)))).set j2 (some (f x))) (upd H T (.tup [.int (i : Nat), f x]))) (hd : ∀ σ H, Pv xs.length σ H → D.nx σ H) :
    KE K (gTup K 2 (gCons (gName j1) (gCons (gName j2) gNil))) tb D σ [.ref a] H := by
  refine ⟨a, _, rfl, hx, fun i m σ H => m = xs.length - i ∧ i ≤ xs.length ∧ Pv i σ H, ⟨xs.length, by simp, Nat.zero_le _, h0⟩, ?_⟩
  rintro i m σ H ⟨rfl, hi, p⟩
  have q := hl i σ H hi p
  by_cases hlt : i < xs.length
  · have hx : xs[i]? = some xs[i] := List.getElem?_eq_getElem hlt
    refine .inr ⟨⟨_, f xs[i], q, by rw [List.getElem?_map, hx]; rfl⟩, Pv (i + 1), fun σ' H' p' => ⟨xs.length - (i + 1), by omega, rfl, hlt, p'⟩, fun x H' y => ?_⟩
    obtain ⟨T, x', rfl, nT, rfl, hy⟩ := y
    have e := hy _ q
    rw [List.getElem?_map, hx] at e
    have e' : f xs[i] = x' := Option.some.inj e
    subst e'
    exact ⟨T, _, rfl, SqT.of upd_same, rfl, _, _, rfl, _, _, rfl, rfl, hs i _ σ H T hx p nT⟩
  · have e : i = xs.length := by omega
    subst e
    exact .inl ⟨⟨_, q, by rw [List.length_map]; exact Nat.le_refl _⟩, hd σ H p⟩
theorem k_rng1 {j : Nat} {n : Int} (Pv : Nat → L2.St → Hp → Prop) (z : 0 ≤ n ∧ n ≤ 1000000) (h0 : Pv 0 σ H)
    (hs : ∀ (i : Nat) (σ : L2.St) (H : Hp), (i : Int) < n → Pv i σ H → tb { nx := Pv (i + 1), rt := D.rt, ct := Pv (i + 1), bk := D.nx } (σ.set j (some (.int (i : Nat)))) H) (hd : ∀ σ H, Pv n.toNat σ H → D.nx σ H) :
    KR1 (gName j) tb D σ [.int n] H := by
  refine ⟨n, rfl, by omega, by omega, for_range (lo := 0) (n := n.toNat) Pv h0 (fun i σ H hi p => ?_) hd⟩
  have e0 : (0 : Int) + (i : Int) = (i : Int) := Int.zero_add _
  show tb _ (σ.set j (some (.int ((0 : Int) + (i : Int))))) H
  rw [e0]
  exact hs i σ H (by omega) p
theorem k_rng2 {j : Nat} {lo n : Int} (Pv : Nat → L2.St → Hp → Prop) (z : 0 ≤ lo ∧ lo ≤ 1000000 ∧ -1 ≤ n ∧ n ≤ 1000000) (h0 : Pv 0 σ H)
    (hs : ∀ (i : Nat) (σ : L2.St) (H : Hp), lo + (i : Int) < n → Pv i σ H → tb { nx := Pv (i + 1), rt := D.rt, ct := Pv (i + 1), bk := D.nx } (σ.set j (some (.int (lo + (i : Nat))))) H) (hd : ∀ σ H, Pv (n - lo).toNat σ H → D.nx σ H) :
    KR2 (gName j) tb D σ [.int lo, .int n] H :=
  ⟨lo, n, rfl, by omega, for_range (lo := lo) (n := (n - lo).toNat) Pv h0 (fun i σ H hi p => hs i σ H (by omega) p) hd⟩
/-- while: a word W by a measure -/
theorem r_while {tc : TT} (W : Nat → L2.St → Hp → Prop) (m0 : Nat) (h0 : W m0 σ H)
    (hs : ∀ m σ' H', W m σ' H' → tc σ' H' fun b H1 => if b = true then ∃ N : L2.St → Hp → Prop, (∀ σ2 H2, N σ2 H2 → ∃ m', m' < m ∧ W m' σ2 H2) ∧ tb { nx := N, rt := D.rt, ct := N, bk := D.nx } σ' H1 else D.nx σ' H1) : tWhile tc tb D σ H :=
  ⟨W, ⟨m0, h0⟩, hs⟩
end
/-! ### comprehensions -/
theorem tYes_ok {σ : L2.St} {H : Hp} {R : Bool → Hp → Prop} (h : R true H) : tYes σ H R := h
def CW (J : It) (g : TG) (tt : TT) (te : TE) (vs : List Nat) (σ : L2.St) (D : Addr) (H1 : Hp) (Qd : Hp → Prop) : Prop := ∃ W : Nat → Nat → Hp → Prop, (∃ m, W 0 m (upd H1 D (.lst []))) ∧ ∀ i m H, W i m H →
  (J.stop i H ∧ Qd H) ∨ (J.go i H ∧ ∃ Nx : Hp → Prop, (∀ H', Nx H' → ∃ m', m' < m ∧ W (i + 1) m' H') ∧ ∀ x H', J.yld i H x H' → g x (wipe σ vs) H' fun σ2 H2 => wipe σ2 vs = wipe σ vs ∧ tt σ2 H2 fun b H3 =>
    if b = true then te σ2 H3 fun y H4 => ∃ acc, H4 D = some (.lst acc) ∧ acc.length < sizeLine ∧ Nx (upd H4 D (.lst (acc ++ [y]))) else Nx H3)
/-- new objects at as, each holding obj of its item -/
def News {α : Type} (H1 H2 : Hp) (obj : α → HO) (as : List Addr) (xs : List α) : Prop := as.length = xs.length ∧ as.Nodup ∧ ∀ (i : Nat) (p : Addr) (x : α), as[i]? = some p → xs[i]? = some x → H1 p = none ∧ H2 p = some (obj x)
section
variable {K : PySem.W.Frag} {σ : L2.St} {H : Hp} {Q : VK} {g : TG} {te : TE} {tt : TT} {α β : Type} {f : α → V} {h : β → V} {a : Addr} {j : Nat} {vs : List Nat}
def KC (K : PySem.W.Frag) (g : TG) (tt : TT) (te : TE) (vs : List Nat) (σ : L2.St) (Q : VK) (x : V) (H : Hp) : Prop := ∃ a, x = .ref a ∧ (∃ xs, SqL K H a xs) ∧ ∀ D, H D = none → CW (Itl K a) g tt te vs σ D H fun H2 => Q (.ref D) H2
def KCR1 (g : TG) (tt : TT) (te : TE) (vs : List Nat) (σ : L2.St) (Q : VK) (us : List V) (H : Hp) : Prop := ∃ j : Int, us = [.int j] ∧ -(2 ^ 62) ≤ j ∧ j < 2 ^ 62 ∧ ∀ D, H D = none → CW (Itr 0 j.toNat) g tt te vs σ D H fun H2 => Q (.ref D) H2
def KCR2 (g : TG) (tt : TT) (te : TE) (vs : List Nat) (σ : L2.St) (Q : VK) (us : List V) (H : Hp) : Prop := ∃ i j : Int, us = [.int i, .int j] ∧ (-(2 ^ 62) ≤ i ∧ i < 2 ^ 62 ∧ -(2 ^ 62) ≤ j ∧ j < 2 ^ 62) ∧ ∀ D, H D = none → CW (Itr i (j - i).toNat) g tt te vs σ D H fun H2 => Q (.ref D) H2
theorem e_lcL {tl : TE} (hh : tl σ H fun x H1 => KC K g tt te vs σ Q x H1) : tLc (iList K tl) g tt te vs σ H Q := hh
theorem e_lcR1 {ta : TA} (hh : ta σ H fun us H1 => KCR1 g tt te vs σ Q us H1) : tLc (iRng1 ta) g tt te vs σ H Q := hh
theorem e_lcR2 {ta : TA} (hh : ta σ H fun us H1 => KCR2 g tt te vs σ Q us H1) : tLc (iRng2 ta) g tt te vs σ H Q := hh
/-- elements that are values, over a list -/
theorem k_lcV {xs : List α} (F : α → β) (hx : SqL K H a (xs.map f)) (z : xs.length < 1000000) (hw : ∀ v : V, wipe ((wipe σ vs).set j (some v)) vs = wipe σ vs)
    (hs : ∀ (i : Nat) (x : α) (H2 : Hp) (R : VK), xs[i]? = some x → Same H H2 → (∀ H3, Same H2 H3 → R (h (F x)) H3) → te ((wipe σ vs).set j (some (f x))) H2 R)
    (hd : ∀ D H2, H D = none → Same H H2 → H2 D = some (.lst ((xs.map F).map h)) → Q (.ref D) H2) : KC K (gName j) tYes te vs σ Q (.ref a) H := by
  refine ⟨a, rfl, ⟨_, hx⟩, fun D nD => ?_⟩
  refine lc_list (xs := xs.map f) (fun i H2 => Same H H2 ∧ H2 D = some (.lst (((xs.take i).map F).map h))) ⟨Same.one nD, upd_same⟩ (fun i H2 _ p => p.1.seq hx) (fun i x H2 hi p => ⟨hw x, ?_⟩) (fun H2 p => ?_)
  · obtain ⟨y, hy, rfl⟩ := map_get hi
    refine tYes_ok (iteT ?_)
    refine hs i y H2 _ hy p.1 fun H4 s4 => ?_
    refine ⟨_, s4 _ _ p.2, ?_, Same.new (p.1.trans s4) nD, ?_⟩
    · rw [List.length_map, List.length_map, List.length_take]
      exact Nat.lt_of_lt_of_le (Nat.lt_of_le_of_lt (Nat.min_le_right _ _) z) (by decide)
    · rw [upd_same, List.take_add_one, hy, List.map_append, List.map_append]; rfl
  · obtain ⟨p1, p2⟩ := p
    rw [List.length_map, List.take_length] at p2
    exact hd D H2 nD p1 p2
/-- .. over a list of lists (as their addresses, xss what stands there) -/
theorem k_lcLf {γ : Type} {as : List Addr} {xss : List γ} (F : γ → β) (hx : SqL K H a (as.map V.ref)) (hl : as.length = xss.length) (z : as.length < 1000000) (hw : ∀ v : V, wipe ((wipe σ vs).set j (some v)) vs = wipe σ vs)
    (hs : ∀ (i : Nat) (p : Addr) (x : γ) (H2 : Hp) (R : VK), as[i]? = some p → xss[i]? = some x → Same H H2 → (∀ H3, Same H2 H3 → R (h (F x)) H3) → te ((wipe σ vs).set j (some (.ref p))) H2 R)
    (hd : ∀ D H2, H D = none → Same H H2 → H2 D = some (.lst ((xss.map F).map h)) → Q (.ref D) H2) : KC K (gName j) tYes te vs σ Q (.ref a) H := by
  have e1 : (as.zip xss).map (fun p => V.ref p.1) = as.map V.ref := by
    have : (as.zip xss).map Prod.fst = as := List.map_fst_zip (by omega)
    conv => rhs; rw [← this, List.map_map]
    rfl
  have e2 : (as.zip xss).map (fun p => F p.2) = xss.map F := by
    have : (as.zip xss).map Prod.snd = xss := List.map_snd_zip (by omega)
    conv => rhs; rw [← this, List.map_map]
    rfl
  refine k_lcV (xs := as.zip xss) (f := fun p => V.ref p.1) (h := h) (fun p => F p.2) (by rw [e1]; exact hx) (by rw [List.length_zip]; omega) hw (fun i x H2 R hi s2 k => ?_) (fun D H2 nD s2 hD => hd D H2 nD s2 (by rw [e2] at hD; exact hD))
  obtain ⟨p, y⟩ := x
  obtain ⟨h1, h2⟩ := List.getElem?_zip_eq_some.mp hi
  exact hs i p y H2 R h1 h2 s2 k
/-- elements that are values, over a range -/
theorem k_lcR1 {n : Int} (F : Nat → β) (z : 0 ≤ n ∧ n < 1000000) (hw : ∀ v : V, wipe ((wipe σ vs).set j (some v)) vs = wipe σ vs)
    (hs : ∀ (i : Nat) (H2 : Hp) (R : VK), (i : Int) < n → Same H H2 → (∀ H3, Same H2 H3 → R (h (F i)) H3) → te ((wipe σ vs).set j (some (.int (i : Nat)))) H2 R)
    (hd : ∀ D H2, H D = none → Same H H2 → H2 D = some (.lst (((List.range n.toNat).map F).map h)) → Q (.ref D) H2) : KCR1 (gName j) tYes te vs σ Q [.int n] H := by
  refine ⟨n, rfl, by omega, by omega, fun D nD => ?_⟩
  refine lc_range (lo := 0) (n := n.toNat) (fun i H2 => Same H H2 ∧ H2 D = some (.lst (((List.range i).map F).map h))) ⟨Same.one nD, upd_same⟩ (fun i H2 hi p => ⟨hw _, ?_⟩) (fun H2 p => hd D H2 nD p.1 p.2)
  have e0 : (0 : Int) + (i : Int) = (i : Int) := Int.zero_add _
  rw [e0]
  refine tYes_ok (iteT ?_)
  refine hs i H2 _ (by omega) p.1 fun H4 s4 => ?_
  refine ⟨_, s4 _ _ p.2, ?_, Same.new (p.1.trans s4) nD, ?_⟩
  · rw [List.length_map, List.length_map, List.length_range]
    exact Nat.lt_of_lt_of_le (show i < 1000000 by omega) (by decide)
  · rw [upd_same, List.range_succ, List.map_append, List.map_append]; rfl
theorem k_lcR2 {lo n : Int} (F : Int → β) (z : 0 ≤ lo ∧ lo ≤ 1000000 ∧ -1 ≤ n ∧ n < 1000000) (hw : ∀ v : V, wipe ((wipe σ vs).set j (some v)) vs = wipe σ vs)
    (hs : ∀ (i : Nat) (H2 : Hp) (R : VK), lo + (i : Int) < n → Same H H2 → (∀ H3, Same H2 H3 → R (h (F (lo + i))) H3) → te ((wipe σ vs).set j (some (.int (lo + (i : Nat))))) H2 R)
    (hd : ∀ D H2, H D = none → Same H H2 → H2 D = some (.lst (((List.range (n - lo).toNat).map fun i : Nat => F (lo + i)).map h)) → Q (.ref D) H2) : KCR2 (gName j) tYes te vs σ Q [.int lo, .int n] H := by
  refine ⟨lo, n, rfl, by omega, fun D nD => ?_⟩
  refine lc_range (lo := lo) (n := (n - lo).toNat) (fun i H2 => Same H H2 ∧ H2 D = some (.lst (((List.range i).map fun i : Nat => F (lo + i)).map h))) ⟨Same.one nD, upd_same⟩ (fun i H2 hi p => ⟨hw _, ?_⟩) (fun H2 p => hd D H2 nD p.1 p.2)
  refine tYes_ok (iteT ?_)
  refine hs i H2 _ (by omega) p.1 fun H4 s4 => ?_
  refine ⟨_, s4 _ _ p.2, ?_, Same.new (p.1.trans s4) nD, ?_⟩
  · rw [List.length_map, List.length_map, List.length_range]
    exact Nat.lt_of_lt_of_le (show i < 1000002 by omega) (by decide)
  · rw [upd_same, List.range_succ, List.map_append, List.map_append]; rfl
/-- elements that are new objects, over a list -/
theorem k_lcN {xs : List α} (obj : α → HO) (hx : SqL K H a (xs.map f)) (z : xs.length < 1000000) (hw : ∀ v : V, wipe ((wipe σ vs).set j (some v)) vs = wipe σ vs)
    (hs : ∀ (i : Nat) (x : α) (H2 : Hp) (R : VK), xs[i]? = some x → Same H H2 → (∀ p H3, H2 p = none → Same H2 H3 → H3 p = some (obj x) → R (.ref p) H3) → te ((wipe σ vs).set j (some (f x))) H2 R)
    (hd : ∀ D as H2, H D = none → Same H H2 → News H H2 obj as xs → D ∉ as → H2 D = some (.lst (as.map V.ref)) → Q (.ref D) H2) : KC K (gName j) tYes te vs σ Q (.ref a) H := by
  refine ⟨a, rfl, ⟨_, hx⟩, fun D nD => ?_⟩
  refine lc_list (xs := xs.map f) (fun i H2 => Same H H2 ∧ ∃ as, News H H2 obj as (xs.take i) ∧ D ∉ as ∧ H2 D = some (.lst (as.map V.ref)))
    ⟨Same.one nD, [], ⟨rfl, List.nodup_nil, fun i p x h => by simp at h⟩, by simp, upd_same⟩ (fun i H2 _ p => p.1.seq hx) (fun i x H2 hi p => ⟨hw x, ?_⟩) (fun H2 p => ?_)
  · obtain ⟨y, hy, rfl⟩ := map_get hi
    obtain ⟨p1, as, ⟨n1, n2, n3⟩, p3, p4⟩ := p
    have hil : i < xs.length := (List.getElem?_eq_some_iff.mp hy).1
    have hl : as.length = i := by rw [n1, List.length_take]; omega
    refine tYes_ok (iteT ?_)
    refine hs i y H2 _ hy p1 fun p H4 np s4 hp => ?_
    have pD : p ≠ D := (ne_of_none p4 np).symm
    have pas : p ∉ as := fun hm => by
      obtain ⟨k, hk⟩ := List.mem_iff_getElem?.mp hm
      have hkl : k < as.length := (List.getElem?_eq_some_iff.mp hk).1
      obtain ⟨x, hx'⟩ : ∃ x, (xs.take i)[k]? = some x := ⟨_, List.getElem?_eq_getElem (by rw [← n1]; exact hkl)⟩
      have := (n3 k p x hk hx').2
      rw [np] at this; cases this
    refine ⟨_, s4 _ _ p4, ?_, Same.new (p1.trans s4) nD, as ++ [p], ⟨?_, ?_, ?_⟩, ?_, ?_⟩
    · rw [List.length_map, hl]
      exact Nat.lt_of_lt_of_le (show i < 1000000 by omega) (by decide)
    · rw [List.length_append, n1, List.take_add_one, hy, List.length_append]; rfl
    · exact List.nodup_append.mpr ⟨n2, by simp, fun x hx y hy => by
        have : y = p := by simpa using hy
        subst this
        exact fun e => pas (e ▸ hx)⟩
    · intro k q x hk hx'
      rw [List.take_add_one, hy] at hx'
      by_cases hki : k < i
      · rw [List.getElem?_append_left (by omega)] at hk
        rw [List.getElem?_append_left (by rw [List.length_take]; omega)] at hx'
        obtain ⟨m1, m2⟩ := n3 k q x hk hx'
        have qD : q ≠ D := fun e => p3 (e ▸ List.mem_of_getElem? hk)
        exact ⟨m1, by rw [upd_ne qD]; exact s4 _ _ m2⟩
      · rw [List.getElem?_append_right (by omega), hl] at hk
        rw [List.getElem?_append_right (by rw [List.length_take]; omega), List.length_take] at hx'
        have e0 : k - i = 0 := by
          cases hz : k - i with
          | zero => rfl
          | succ m => rw [hz] at hk; simp at hk
        have e1 : k - min i xs.length = 0 := by omega
        rw [e0] at hk; rw [e1] at hx'
        have h1 : p = q := Option.some.inj hk
        have h2 : y = x := Option.some.inj hx'
        subst h1 h2
        exact ⟨p1.free np, by rw [upd_ne pD]; exact hp⟩
    · intro hm
      rcases List.mem_append.mp hm with hm | hm
      · exact p3 hm
      · exact pD (by simpa using hm : D = p).symm
    · rw [upd_same, List.map_append]; rfl
  · obtain ⟨p1, as, n, p3, p4⟩ := p
    rw [List.length_map, List.take_length] at n
    exact hd D as H2 nD p1 n p3 p4
end
section
variable {K : PySem.W.Frag} {σ : L2.St} {H : Hp} {Q : VK} {te : TE} {a : Addr} {j : Nat} {vs : List Nat}
/-- .. over a list of lists (as their addresses, xss what stands there) -/
theorem k_lcNf {γ : Type} {as : List Addr} {xss : List γ} (obj : γ → HO) (hx : SqL K H a (as.map V.ref)) (hl : as.length = xss.length) (z : as.length < 1000000) (hw : ∀ v : V, wipe ((wipe σ vs).set j (some v)) vs = wipe σ vs)
    (hs : ∀ (i : Nat) (p : Addr) (x : γ) (H2 : Hp) (R : VK), as[i]? = some p → xss[i]? = some x → Same H H2 → (∀ q H3, H2 q = none → Same H2 H3 → H3 q = some (obj x) → R (.ref q) H3) → te ((wipe σ vs).set j (some (.ref p))) H2 R)
    (hd : ∀ D bs H2, H D = none → Same H H2 → News H H2 obj bs xss → D ∉ bs → H2 D = some (.lst (bs.map V.ref)) → Q (.ref D) H2) : KC K (gName j) tYes te vs σ Q (.ref a) H := by
  have e1 : (as.zip xss).map (fun p => V.ref p.1) = as.map V.ref := by
    have : (as.zip xss).map Prod.fst = as := List.map_fst_zip (by omega)
    conv => rhs; rw [← this, List.map_map]
    rfl
  refine k_lcN (xs := as.zip xss) (f := fun p => V.ref p.1) (fun p => obj p.2) (by rw [e1]; exact hx) (by rw [List.length_zip]; omega) hw (fun i x H2 R hi s2 k => ?_) (fun D bs H2 nD s2 n hn hD => hd D bs H2 nD s2 ⟨by rw [n.1, List.length_zip]; omega, n.2.1, fun i q x hq hx => ?_⟩ hn hD)
  · obtain ⟨p, y⟩ := x
    obtain ⟨h1, h2⟩ := List.getElem?_zip_eq_some.mp hi
    exact hs i p y H2 R h1 h2 s2 k
  · have hi : i < as.length := by rw [hl]; exact (List.getElem?_eq_some_iff.mp hx).1
    exact n.2.2 i q (as[i], x) hq (List.getElem?_zip_eq_some.mpr ⟨List.getElem?_eq_getElem hi, hx⟩)
end
section
variable {α : Type} {H1 H2 H3 : Hp} {obj : α → HO} {as : List Addr} {xs : List α}
theorem News.nil : News H1 H2 obj [] [] := ⟨rfl, List.nodup_nil, fun i p x h => by simp at h⟩
theorem News.len (n : News H1 H2 obj as xs) : as.length = xs.length := n.1
theorem News.get (n : News H1 H2 obj as xs) {i : Nat} {x : α} (h : xs[i]? = some x) : ∃ p, as[i]? = some p ∧ H1 p = none ∧ H2 p = some (obj x) := by
  have hi : i < as.length := by rw [n.1]; exact (List.getElem?_eq_some_iff.mp h).1
  exact ⟨as[i], List.getElem?_eq_getElem hi, n.2.2 i _ x (List.getElem?_eq_getElem hi) h⟩
theorem News.mem (n : News H1 H2 obj as xs) {p : Addr} (h : p ∈ as) : ∃ x ∈ xs, H1 p = none ∧ H2 p = some (obj x) := by
  obtain ⟨i, hi⟩ := List.mem_iff_getElem?.mp h
  have hl : i < xs.length := by rw [← n.1]; exact (List.getElem?_eq_some_iff.mp hi).1
  exact ⟨xs[i], List.getElem_mem hl, n.2.2 i p _ hi (List.getElem?_eq_getElem hl)⟩
theorem News.same (n : News H1 H2 obj as xs) (s : Same H2 H3) : News H1 H3 obj as xs := ⟨n.1, n.2.1, fun i p x h h' => ⟨(n.2.2 i p x h h').1, s _ _ (n.2.2 i p x h h').2⟩⟩
theorem News.back (n : News H1 H2 obj as xs) {H0 : Hp} (s : Same H0 H1) : News H0 H2 obj as xs := ⟨n.1, n.2.1, fun i p x h h' => ⟨s.free (n.2.2 i p x h h').1, (n.2.2 i p x h h').2⟩⟩
theorem News.mut (n : News H1 H2 obj as xs) {p : Addr} {o : HO} (h : p ∉ as) : News H1 (upd H2 p o) obj as xs := ⟨n.1, n.2.1, fun i q x hq hx => ⟨(n.2.2 i q x hq hx).1, by
  rw [upd_ne (fun e => h (by rw [← e]; exact List.mem_of_getElem? hq))]; exact (n.2.2 i q x hq hx).2⟩⟩
theorem News.notin (n : News H1 H2 obj as xs) {p : Addr} (h : H2 p = none) : p ∉ as := fun hm => by
  obtain ⟨x, _, _, e⟩ := n.mem hm
  rw [h] at e; cases e
theorem News.notin1 (n : News H1 H2 obj as xs) {p : Addr} {o : HO} (h : H1 p = some o) : p ∉ as := fun hm => by
  obtain ⟨x, _, e, _⟩ := n.mem hm
  rw [h] at e; cases e
theorem News.snoc (n : News H1 H2 obj as xs) {p : Addr} {x : α} (h : p ∉ as) (h1 : H1 p = none) (h2 : H2 p = some (obj x)) : News H1 H2 obj (as ++ [p]) (xs ++ [x]) := by
  refine ⟨by rw [List.length_append, List.length_append, n.1]; rfl, List.nodup_append.mpr ⟨n.2.1, by simp, fun a ha b hb => ?_⟩, fun i q y hq hy => ?_⟩
  · have : b = p := by simpa using hb
    subst this
    exact fun e => h (e ▸ ha)
  · by_cases hi : i < as.length
    · rw [List.getElem?_append_left hi] at hq
      rw [List.getElem?_append_left (by rw [← n.1]; exact hi)] at hy
      exact n.2.2 i q y hq hy
    · rw [List.getElem?_append_right (by omega)] at hq
      rw [List.getElem?_append_right (by rw [← n.1]; omega), ← n.1] at hy
      have e0 : i - as.length = 0 := by
        cases hz : i - as.length with
        | zero => rfl
        | succ m => rw [hz] at hq; simp at hq
      rw [e0] at hq hy
      have e1 : p = q := Option.some.inj hq
      have e2 : x = y := Option.some.inj hy
      subst e1 e2
      exact ⟨h1, h2⟩
theorem News.reverse (n : News H1 H2 obj as xs) : News H1 H2 obj as.reverse xs.reverse := by
  refine ⟨by rw [List.length_reverse, List.length_reverse, n.1], (List.reverse_perm as).nodup_iff.mpr n.2.1, fun i p x hp hx => ?_⟩
  have hi : i < as.length := by have := (List.getElem?_eq_some_iff.mp hp).1; rwa [List.length_reverse] at this
  rw [List.getElem?_reverse hi] at hp
  rw [List.getElem?_reverse (by rw [← n.1]; exact hi), ← n.1] at hx
  exact n.2.2 _ p x hp hx
theorem nm_snoc {p q : Addr} (h : p ∉ as) (ne : p ≠ q) : p ∉ as ++ [q] := fun hm => by
  rcases List.mem_append.mp hm with hm | hm
  · exact h hm
  · exact ne (by simpa using hm)
end
/-- a pair of ints as an object -/
abbrev oP (p : Int × Int) : HO := .tup [.int p.1, .int p.2]
/-- pairs that stand at their places -/
def Tf (H : Hp) (ts : List Addr) (ps : List (Int × Int)) : Prop := ts.length = ps.length ∧ ∀ (i : Nat) (t : Addr) (p : Int × Int), ts[i]? = some t → ps[i]? = some p → H t = some (oP p)
theorem Tf.same {H H' : Hp} {ts : List Addr} {ps : List (Int × Int)} (h : Tf H ts ps) (s : Same H H') : Tf H' ts ps := ⟨h.1, fun i t p a b => s _ _ (h.2 i t p a b)⟩
theorem Tf.of {H0 H : Hp} {ts : List Addr} {ps : List (Int × Int)} (n : News H0 H oP ts ps) : Tf H ts ps := ⟨n.1, fun i t p a b => (n.2.2 i t p a b).2⟩
section
variable {K : PySem.W.Frag} {σ : L2.St} {H : Hp} {D : Ends} {tb : TS} {a : Addr} {ts : List Addr} {ps : List (Int × Int)}
/-- for x, y in a list of pairs -/
theorem k_lstP {j1 j2 : Nat} (Pv : Nat → L2.St → Hp → Prop) (hx : SqL K H a (ts.map V.ref)) (hl : ts.length = ps.length) (h0 : Pv 0 σ H)
    (hk : ∀ (i : Nat) (σ : L2.St) (H : Hp), i ≤ ts.length → Pv i σ H → SqL K H a (ts.map V.ref) ∧ Tf H ts ps)
    (hs : ∀ (i : Nat) (p : Int × Int) (σ : L2.St) (H : Hp), ps[i]? = some p → Pv i σ H → tb { nx := Pv (i + 1), rt := D.rt, ct := Pv (i + 1), bk := D.nx } ((σ.set j1 (some (.int p.1))).set j2 (some (.int p.2))) H) (hd : ∀ σ H, Pv ps.length σ H → D.nx σ H) :
    KL K (gTup K 2 (gCons (gName j1) (gCons (gName j2) gNil))) tb D σ (.ref a) H := by
  refine k_lst (f := V.ref) ts Pv hx h0 (fun i σ H hi p => (hk i σ H hi p).1) (fun i t σ H ht p => ?_) (fun σ H p => hd σ H (by rw [← hl]; exact p))
  have hi : i < ts.length := (List.getElem?_eq_some_iff.mp ht).1
  have hp : ps[i]? = some ps[i] := List.getElem?_eq_getElem (by omega)
  exact ⟨t, _, rfl, SqT.of ((hk i σ H (by omega) p).2.2 i t _ ht hp), rfl, _, _, rfl, _, _, rfl, rfl, hs i _ σ H hp p⟩
end
/-- a list of ints as an object -/
abbrev oL (r : List Int) : HO := .lst (r.map V.int)
/-! ### ifs -/
theorem ite_nT {A B : Prop} (h : B) : if (!true) = true then A else B := iteF h
theorem ite_nF {A B : Prop} (h : A) : if (!false) = true then A else B := iteT h
theorem ite_bl {b : Bool} {A B : Prop} (h1 : b = true → A) (h2 : b = false → B) : if b = true then A else B := by
  cases b with
  | true => exact iteT (h1 rfl)
  | false => exact iteF (h2 rfl)
theorem ite_y {b : Bool} {A B : Prop} (h : b = true) (a : A) : if b = true then A else B := by subst h; exact iteT a
theorem ite_n {b : Bool} {A B : Prop} (h : b = false) (a : B) : if b = true then A else B := by subst h; exact iteF a
theorem ite_dec {c : Prop} [Decidable c] {A B : Prop} (h1 : c → A) (h2 : ¬ c → B) : if decide c = true then A else B := by
  by_cases h : c
  · rw [if_pos (decide_eq_true h)]; exact h1 h
  · rw [if_neg (by rw [decide_eq_false h]; exact Bool.false_ne_true)]; exact h2 h
theorem ite_ndec {c : Prop} [Decidable c] {A B : Prop} (h1 : ¬ c → A) (h2 : c → B) : if (!decide c) = true then A else B := by
  by_cases h : c
  · rw [if_neg (by rw [decide_eq_true h]; exact Bool.false_ne_true)]; exact h2 h
  · rw [if_pos (by rw [decide_eq_false h]; rfl)]; exact h1 h
theorem ite_decY {c : Prop} [Decidable c] {A B : Prop} (h : c) (a : A) : if decide c = true then A else B := ite_dec (fun _ => a) (fun n => absurd h n)
theorem ite_decN {c : Prop} [Decidable c] {A B : Prop} (h : ¬ c) (a : B) : if decide c = true then A else B := ite_dec (fun n => absurd n h) (fun _ => a)
theorem ite_ndecY {c : Prop} [Decidable c] {A B : Prop} (h : ¬ c) (a : A) : if (!decide c) = true then A else B := ite_ndec (fun _ => a) (fun n => absurd n h)
theorem ite_ndecN {c : Prop} [Decidable c] {A B : Prop} (h : c) (a : B) : if (!decide c) = true then A else B := ite_ndec (fun n => absurd h n) (fun _ => a)
/-! ### dicts whose keys are ints -/
section
variable {σ : L2.St} {H : Hp} {D : Ends} {Q : VK} {td ty tv : TE} {a : Addr} {kvs : List (Key × V)} {i : Int} {v : V}
def KDP (D : Ends) (σ : L2.St) (v x y : V) (H : Hp) : Prop := ∃ a H4, x = .ref a ∧ DPut H a y v H4 ∧ D.nx σ H4
theorem r_dput (h : tv σ H fun v H1 => td σ H1 fun x H2 => ty σ H2 fun y H3 => KDP D σ v x y H3) : sDPut td ty tv D σ H := h
theorem k_dput (h : H a = some (.dK kvs)) (z : kvs.length < 1000000) (q : D.nx σ (upd H a (.dK (putK kvs (.inl i) v)))) : KDP D σ v (.ref a) (.int i) H := ⟨a, _, rfl, DPut.k (k := .inl i) h (Nat.lt_of_lt_of_le z (by decide)), q⟩
def KDG (Q : VK) (x y : V) (H : Hp) : Prop := ∃ a v, x = .ref a ∧ DGet H a y (some v) ∧ Q v H
theorem e_dget (h : td σ H fun x H1 => ty σ H1 fun y H2 => KDG Q x y H2) : tDGet td ty σ H Q := h
theorem k_dget (h : H a = some (.dK kvs)) (e : valV kvs (.inl i) = some v) (q : Q v H) : KDG Q (.ref a) (.int i) H := ⟨a, v, rfl, by have := DGet.k (k := .inl i) h; rw [e] at this; exact this, q⟩
def KDN (Q : VK) (y x : V) (H : Hp) : Prop := ∃ a o, x = .ref a ∧ DGet H a y o ∧ Q (.bl (!o.isSome)) H
theorem e_dnin (h : ty σ H fun y H1 => td σ H1 fun x H2 => KDN Q y x H2) : tDNotIn ty td σ H Q := h
theorem k_dnin (h : H a = some (.dK kvs)) (q : Q (.bl (!(valV kvs (.inl i)).isSome)) H) : KDN Q (.int i) (.ref a) H := ⟨a, _, rfl, DGet.k (k := .inl i) h, q⟩
theorem e_dnew (h : ∀ p, H p = none → Q (.ref p) (upd H p (.dK []))) : tDNewK σ H Q := h
end
end Bo

/-! == of data -/
namespace Bo
open PySem PySem.Spec PyProof.Rows L2
/-- a kind of data: told apart by ==, of a depth -/
structure Emb {α : Type} [DecidableEq α] (f : α → PyData) (k : Nat) : Prop where
  eq : ∀ x y, PyData.eqv (f x) (f y) = decide (x = y)
  lay : ∀ x, (f x).canLay0 = true
  dep : ∀ x, (f x).depth ≤ k
def dI (i : Int) : PyData := .int i
def dB (b : Bool) : PyData := .bool b
def dS (s : Str) : PyData := .str s
def dL {α : Type} (f : α → PyData) (xs : List α) : PyData := .list (xs.map f)
def dP {α β : Type} (f : α → PyData) (g : β → PyData) (p : α × β) : PyData := .tuple [f p.1, g p.2]
theorem emb_I : Emb dI 0 := ⟨fun x y => by
  show PyData.eqv (.int x) (.int y) = _
  rw [PyData.eqv, Bool.eq_iff_iff]; simp, fun x => by show PyData.canLay0 (.int x) = true; simp [PyData.canLay0], fun x => by show PyData.depth (.int x) ≤ 0; simp [PyData.depth]⟩
theorem emb_B : Emb dB 0 := ⟨fun x y => by
  show PyData.eqv (.bool x) (.bool y) = _
  rw [PyData.eqv, Bool.eq_iff_iff]; simp, fun x => by show PyData.canLay0 (.bool x) = true; simp [PyData.canLay0], fun x => by show PyData.depth (.bool x) ≤ 0; simp [PyData.depth]⟩
section
variable {α β : Type} [DecidableEq α] [DecidableEq β] {f : α → PyData} {g : β → PyData} {k l : Nat}
theorem eqvAll_map (E : Emb f k) : ∀ xs ys : List α, PyData.eqvAll (xs.map f) (ys.map f) = decide (xs = ys)
  | [], [] => by rw [Bool.eq_iff_iff]; simp [PyData.eqvAll]
  | [], y :: ys => by rw [Bool.eq_iff_iff]; simp [PyData.eqvAll]
  | x :: xs, [] => by rw [Bool.eq_iff_iff]; simp [PyData.eqvAll]
  | x :: xs, y :: ys => by
    have ih := eqvAll_map E xs ys
    rw [List.map_cons, List.map_cons, PyData.eqvAll, ih, E.eq, Bool.eq_iff_iff]
    simp
theorem layAll_map (E : Emb f k) : ∀ xs : List α, PyData.canLayAll0 (xs.map f) = true
  | [] => by simp [PyData.canLayAll0]
  | x :: xs => by
    rw [List.map_cons]
    simp only [PyData.canLayAll0, E.lay, layAll_map E xs, Bool.and_self]
theorem depAll_map (E : Emb f k) : ∀ xs : List α, PyData.depthAll (xs.map f) ≤ k
  | [] => by simp [PyData.depthAll]
  | x :: xs => by
    rw [List.map_cons]
    have h1 := E.dep x
    have h2 := depAll_map E xs
    simp only [PyData.depthAll]
    omega
theorem emb_L (E : Emb f k) : Emb (dL f) (k + 1) := ⟨fun x y => by
  show PyData.eqv (.list _) (.list _) = _
  rw [PyData.eqv]; exact eqvAll_map E x y, fun x => by
  show PyData.canLay0 (.list _) = true
  rw [PyData.canLay0]; exact layAll_map E x, fun x => by
  show PyData.depth (.list _) ≤ _
  rw [PyData.depth]
  have := depAll_map E x
  omega⟩
theorem emb_P (E : Emb f k) (F : Emb g l) : Emb (dP f g) (max k l + 1) := ⟨fun x y => by
  show PyData.eqv (.tuple _) (.tuple _) = _
  rw [PyData.eqv, PyData.eqvAll, PyData.eqvAll, PyData.eqvAll, E.eq, F.eq, Bool.eq_iff_iff]
  obtain ⟨a, b⟩ := x
  obtain ⟨c, d⟩ := y
  simp, fun x => by
  show PyData.canLay0 (.tuple _) = true
  rw [PyData.canLay0, PyData.canLayAll0, PyData.canLayAll0, PyData.canLayAll0, E.lay, F.lay]; rfl, fun x => by
  show PyData.depth (.tuple _) ≤ _
  have h1 := E.dep x.1
  have h2 := F.dep x.2
  rw [PyData.depth, PyData.depthAll, PyData.depthAll, PyData.depthAll]
  omega⟩
variable {K : PySem.W.Frag} {H : Hp} {x y : V} {Q : VK} {a b : α}
theorem Emb.shaped (E : Emb f k) (hk : k ≤ 60) (a : α) : SeqAt.shaped (f a) = true := by
  unfold SeqAt.shaped
  rw [E.lay, Bool.true_and]
  have := E.dep a
  exact decide_eq_true (by omega)
theorem o_eqD (E : Emb f k) (hk : k ≤ 60) (h1 : Dp K H x (f a)) (h2 : Dp K H y (f b)) (q : Q (.bl (decide (a = b))) H) : rEqD K x y H Q :=
  ⟨_, _, h1, h2, E.shaped hk a, E.shaped hk b, by rw [E.eq]; exact q⟩
theorem o_neD (E : Emb f k) (hk : k ≤ 60) (h1 : Dp K H x (f a)) (h2 : Dp K H y (f b)) (q : Q (.bl (!decide (a = b))) H) : rNeD K x y H Q :=
  ⟨_, _, h1, h2, E.shaped hk a, E.shaped hk b, by rw [E.eq]; exact q⟩
end
section
variable {K : PySem.W.Frag} {H : Hp} {Q : VK}
theorem dpAll_ints : ∀ ns : List Int, DpAll K H (ns.map V.int) (ns.map dI)
  | [] => .nil
  | n :: r => .cons (.int n) (dpAll_ints r)
theorem dpAll_bls : ∀ ns : List Bool, DpAll K H (ns.map V.bl) (ns.map dB)
  | [] => .nil
  | n :: r => .cons (.bl n) (dpAll_bls r)
theorem dp_ints {p : Addr} {ns : List Int} (h : SqL K H p (ns.map V.int)) : Dp K H (.ref p) (dL dI ns) := .lst h (dpAll_ints ns)
theorem dp_bls {p : Addr} {ns : List Bool} (h : SqL K H p (ns.map V.bl)) : Dp K H (.ref p) (dL dB ns) := .lst h (dpAll_bls ns)
theorem dpAll_of {α : Type} {f : α → PyData} : ∀ {vs : List V} {xs : List α}, vs.length = xs.length → (∀ (i : Nat) (v : V) (x : α), vs[i]? = some v → xs[i]? = some x → Dp K H v (f x)) → DpAll K H vs (xs.map f)
  | [], [], _, _ => .nil
  | v :: vs, x :: xs, hl, h => .cons (h 0 v x rfl rfl) (dpAll_of (by simpa using hl) fun i v x hv hx => h (i + 1) v x (by simpa using hv) (by simpa using hx))
  | [], _ :: _, hl, _ => by simp at hl
  | _ :: _, [], hl, _ => by simp at hl
theorem dp_lists {p : Addr} {as : List Addr} {xss : List (List Int)} (h : SqL K H p (as.map V.ref)) (hl : as.length = xss.length) (hh : ∀ (i : Nat) (a : Addr) (x : List Int), as[i]? = some a → xss[i]? = some x → SqL K H a (x.map V.int)) : Dp K H (.ref p) (dL (dL dI) xss) :=
  .lst h (dpAll_of (by rw [List.length_map]; exact hl) fun i v x hv hx => by
    obtain ⟨a, ha, rfl⟩ := map_get hv
    exact dp_ints (hh i a x ha hx))
theorem dp_news {H0 : Hp} {p : Addr} {as : List Addr} {xss : List (List Int)} (h : SqL K H p (as.map V.ref)) (n : News H0 H oL as xss) : Dp K H (.ref p) (dL (dL dI) xss) :=
  dp_lists h n.len fun i a x ha hx => SqL.of (n.2.2 i a x ha hx).2
/-- == of two lists of ints -/
theorem o_eqL {p q : Addr} {ns ms : List Int} (h1 : SqL K H p (ns.map V.int)) (h2 : SqL K H q (ms.map V.int)) (k : Q (.bl (decide (ns = ms))) H) : rEqD K (.ref p) (.ref q) H Q := o_eqD (emb_L emb_I) (by decide) (dp_ints h1) (dp_ints h2) k
theorem o_neL {p q : Addr} {ns ms : List Int} (h1 : SqL K H p (ns.map V.int)) (h2 : SqL K H q (ms.map V.int)) (k : Q (.bl (!decide (ns = ms))) H) : rNeD K (.ref p) (.ref q) H Q := o_neD (emb_L emb_I) (by decide) (dp_ints h1) (dp_ints h2) k
theorem o_eqBs {p q : Addr} {ns ms : List Bool} (h1 : SqL K H p (ns.map V.bl)) (h2 : SqL K H q (ms.map V.bl)) (k : Q (.bl (decide (ns = ms))) H) : rEqD K (.ref p) (.ref q) H Q := o_eqD (emb_L emb_B) (by decide) (dp_bls h1) (dp_bls h2) k
theorem o_eqLL {p q : Addr} {as bs : List Addr} {H0 H1 : Hp} {xs ys : List (List Int)} (h1 : SqL K H p (as.map V.ref)) (h2 : SqL K H q (bs.map V.ref)) (n1 : News H0 H oL as xs) (n2 : News H1 H oL bs ys) (k : Q (.bl (decide (xs = ys))) H) : rEqD K (.ref p) (.ref q) H Q :=
  o_eqD (emb_L (emb_L emb_I)) (by decide) (dp_news h1 n1) (dp_news h2 n2) k
theorem o_neLL {p q : Addr} {as bs : List Addr} {H0 H1 : Hp} {xs ys : List (List Int)} (h1 : SqL K H p (as.map V.ref)) (h2 : SqL K H q (bs.map V.ref)) (n1 : News H0 H oL as xs) (n2 : News H1 H oL bs ys) (k : Q (.bl (!decide (xs = ys))) H) : rNeD K (.ref p) (.ref q) H Q :=
  o_neD (emb_L (emb_L emb_I)) (by decide) (dp_news h1 n1) (dp_news h2 n2) k
end
/-! ### what sorted gives, against 0, 1, .. -/
theorem upTo_get {n i : Nat} (h : i < n) : (upTo n)[i]? = some (i : Int) := by
  unfold upTo
  rw [List.getElem?_map, List.getElem?_range h]; rfl
theorem mem_upTo {n : Nat} {x : Int} : x ∈ upTo n ↔ 0 ≤ x ∧ x < n := by
  unfold upTo
  rw [List.mem_map]
  constructor
  · rintro ⟨i, hi, rfl⟩
    have := List.mem_range.mp hi
    show (0 : Int) ≤ (i : Int) ∧ (i : Int) < n
    omega
  · rintro ⟨h0, h1⟩
    exact ⟨x.toNat, List.mem_range.mpr (by omega), by show ((x.toNat : Nat) : Int) = x; omega⟩
theorem upTo_nodup (n : Nat) : (upTo n).Nodup := by
  unfold upTo
  refine List.Pairwise.map _ (fun a b h => ?_) List.nodup_range
  show (a : Int) ≠ (b : Int)
  omega
theorem upTo_succ (n : Nat) : upTo (n + 1) = upTo n ++ [(n : Int)] := by
  unfold upTo
  rw [List.range_succ, List.map_append]; rfl
theorem upTo_sorted (n : Nat) : (upTo n).Pairwise (· ≤ ·) := by
  unfold upTo
  refine List.Pairwise.map (R := (· < ·)) _ (fun a b h => ?_) List.pairwise_lt_range
  show (a : Int) ≤ (b : Int)
  omega
theorem sorted_unique : ∀ {l m : List Int}, l.Perm m → l.Pairwise (· ≤ ·) → m.Pairwise (· ≤ ·) → l = m
  | [], m, h, _, _ => (List.nil_perm.mp h).symm
  | a :: l, m, h, hl, hm => by
    cases m with
    | nil => exact absurd h.length_eq (by simp)
    | cons b m =>
      have hab : a ≤ b := by
        have : b ∈ a :: l := h.mem_iff.mpr (by simp)
        rcases List.mem_cons.mp this with e | e
        · omega
        · exact (List.pairwise_cons.mp hl).1 b e
      have hba : b ≤ a := by
        have : a ∈ b :: m := h.mem_iff.mp (by simp)
        rcases List.mem_cons.mp this with e | e
        · omega
        · exact (List.pairwise_cons.mp hm).1 a e
      have e : a = b := by omega
      subst e
      rw [sorted_unique (List.Perm.cons_inv h) (List.pairwise_cons.mp hl).2 (List.pairwise_cons.mp hm).2]
/-- sorted(things) == list(range(n)) -/
def isAll (things : List Int) (n : Nat) : Bool := decide (things.Perm (upTo n))
theorem sorted_isAll {things ns : List Int} {n : Nat} (p : ns.Perm things) (s : ns.Pairwise (· ≤ ·)) : decide (ns = upTo n) = isAll things n := by
  unfold isAll
  rw [Bool.eq_iff_iff, decide_eq_true_eq, decide_eq_true_eq]
  constructor
  · rintro rfl; exact p.symm
  · intro h; exact sorted_unique (p.trans h) s (upTo_sorted n)
end Bo

namespace Bo
open PySem PySem.Spec PyProof.Rows L2
def topS (i : Nat) : Stmt := PySem.Challenge.pw_backorder_k04_doings.main.body.getD i (.Pass ⟨0, 0, 0, 0⟩)
abbrev s_is_number : Stmt := topS 7
abbrev N_is_number : List Str := ["thing", "low", "high"]
theorem sc_is_number : FnScope N_is_number ["thing", "low", "high"] (defScope s_is_number) := ⟨rfl, rfl, rfl, by decide +kernel, rfl, by decide +kernel, by decide +kernel⟩
abbrev s_check_row : Stmt := topS 8
abbrev N_check_row : List Str := ["row", "thing"]
theorem sc_check_row : FnScope N_check_row ["row"] (defScope s_check_row) := ⟨rfl, rfl, rfl, by decide +kernel, rfl, by decide +kernel, by decide +kernel⟩
abbrev s_behind : Stmt := topS 9
abbrev N_behind : List Str := ["one", "other", "place"]
theorem sc_behind : FnScope N_behind ["one", "other"] (defScope s_behind) := ⟨rfl, rfl, rfl, by decide +kernel, rfl, by decide +kernel, by decide +kernel⟩
abbrev s_places_of : Stmt := topS 10
abbrev N_places_of : List Str := ["row", "found", "place", "thing"]
theorem sc_places_of : FnScope N_places_of ["row"] (defScope s_places_of) := ⟨rfl, rfl, rfl, by decide +kernel, rfl, by decide +kernel, by decide +kernel⟩
abbrev s_back : Stmt := topS 11
abbrev N_back : List Str := ["row"]
theorem sc_back : FnScope N_back ["row"] (defScope s_back) := ⟨rfl, rfl, rfl, by decide +kernel, rfl, by decide +kernel, by decide +kernel⟩
abbrev s_joined : Stmt := topS 12
abbrev N_joined : List Str := ["left", "right", "found", "many", "at", "thing"]
theorem sc_joined : FnScope N_joined ["left", "right"] (defScope s_joined) := ⟨rfl, rfl, rfl, by decide +kernel, rfl, by decide +kernel, by decide +kernel⟩
abbrev s_wrong : Stmt := topS 13
abbrev N_wrong : List Str := ["row", "parts", "total", "fewer", "k", "part", "many", "thing"]
theorem sc_wrong : FnScope N_wrong ["row"] (defScope s_wrong) := ⟨rfl, rfl, rfl, by decide +kernel, rfl, by decide +kernel, by decide +kernel⟩
abbrev s_rings_of : Stmt := topS 15
abbrev N_rings_of : List Str := ["row", "met", "found", "thing", "ring"]
theorem sc_rings_of : FnScope N_rings_of ["row"] (defScope s_rings_of) := ⟨rfl, rfl, rfl, by decide +kernel, rfl, by decide +kernel, by decide +kernel⟩
abbrev s_times : Stmt := topS 16
abbrev N_times : List Str := ["row", "number", "found", "ring", "by", "k"]
theorem sc_times : FnScope N_times ["row", "number"] (defScope s_times) := ⟨rfl, rfl, rfl, by decide +kernel, rfl, by decide +kernel, by decide +kernel⟩
abbrev s_common : Stmt := topS 17
abbrev N_common : List Str := ["one", "other"]
theorem sc_common : FnScope N_common ["one", "other"] (defScope s_common) := ⟨rfl, rfl, rfl, by decide +kernel, rfl, by decide +kernel, by decide +kernel⟩
abbrev s_turns : Stmt := topS 18
abbrev N_turns : List Str := ["row", "found", "ring"]
theorem sc_turns : FnScope N_turns ["row"] (defScope s_turns) := ⟨rfl, rfl, rfl, by decide +kernel, rfl, by decide +kernel, by decide +kernel⟩
abbrev s__law_cell_at : Stmt := topS 20
abbrev N__law_cell_at : List Str := ["_law_script", "_law_k"]
theorem sc__law_cell_at : FnScope N__law_cell_at ["_law_script", "_law_k"] (defScope s__law_cell_at) := ⟨rfl, rfl, rfl, by decide +kernel, rfl, by decide +kernel, by decide +kernel⟩
abbrev s__law_draw : Stmt := topS 21
abbrev N__law_draw : List Str := ["_law_cell", "_law_k", "_law_many", "_law_primes_here"]
theorem sc__law_draw : FnScope N__law_draw ["_law_cell", "_law_k", "_law_many"] (defScope s__law_draw) := ⟨rfl, rfl, rfl, by decide +kernel, rfl, by decide +kernel, by decide +kernel⟩
abbrev s__law_row : Stmt := topS 22
abbrev N__law_row : List Str := ["_law_script", "_law_kind", "_law_row_here", "_law_k", "_law_away"]
theorem sc__law_row : FnScope N__law_row ["_law_script"] (defScope s__law_row) := ⟨rfl, rfl, rfl, by decide +kernel, rfl, by decide +kernel, by decide +kernel⟩
abbrev s__law_numbers : Stmt := topS 23
abbrev N__law_numbers : List Str := ["_law_found", "_law_one"]
theorem sc__law_numbers : FnScope N__law_numbers ["_law_found"] (defScope s__law_numbers) := ⟨rfl, rfl, rfl, by decide +kernel, rfl, by decide +kernel, by decide +kernel⟩
abbrev s__law_wrong : Stmt := topS 25
abbrev N__law_wrong : List Str := ["_law_row_here", "_law_many", "_law_k", "_law_thing"]
theorem sc__law_wrong : FnScope N__law_wrong ["_law_row_here"] (defScope s__law_wrong) := ⟨rfl, rfl, rfl, by decide +kernel, rfl, by decide +kernel, by decide +kernel⟩
abbrev s__law_primes : Stmt := topS 26
abbrev N__law_primes : List Str := ["_law_number", "_law_found", "_law_prime"]
theorem sc__law_primes : FnScope N__law_primes ["_law_number"] (defScope s__law_primes) := ⟨rfl, rfl, rfl, by decide +kernel, rfl, by decide +kernel, by decide +kernel⟩
abbrev s__law_times_right : Stmt := topS 27
abbrev N__law_times_right : List Str := ["_law_row_here", "_law_undone", "_law_far", "_law_order", "_law_now", "_law_before", "_law_number", "_law_many", "_law_place", "_law_prime"]
theorem sc__law_times_right : FnScope N__law_times_right ["_law_row_here", "_law_undone", "_law_far"] (defScope s__law_times_right) := ⟨rfl, rfl, rfl, by decide +kernel, rfl, by decide +kernel, by decide +kernel⟩
abbrev s_law : Stmt := topS 28
abbrev N_law : List Str := ["_law_script", "_law_row_here", "_law_other", "_law_order", "_law_kept", "_law_found", "_law_undone", "_law_place"]
theorem sc_law : FnScope N_law ["_law_script"] (defScope s_law) := ⟨rfl, rfl, rfl, by decide +kernel, rfl, by decide +kernel, by decide +kernel⟩
structure Top (K : PySem.W.Frag) (mg : Str → Option Value) (C_Exchanged C_Fronted C_Ended C_Put C_Answer : Addr) : Prop where
  d_is_number : Df K mg "is_number" s_is_number ["thing", "low", "high"]
  d_check_row : Df K mg "check_row" s_check_row ["row"]
  d_behind : Df K mg "behind" s_behind ["one", "other"]
  d_places_of : Df K mg "places_of" s_places_of ["row"]
  d_back : Df K mg "back" s_back ["row"]
  d_joined : Df K mg "joined" s_joined ["left", "right"]
  d_wrong : Df K mg "wrong" s_wrong ["row"]
  d_rings_of : Df K mg "rings_of" s_rings_of ["row"]
  d_times : Df K mg "times" s_times ["row", "number"]
  d_common : Df K mg "common" s_common ["one", "other"]
  d_turns : Df K mg "turns" s_turns ["row"]
  d__law_cell_at : Df K mg "_law_cell_at" s__law_cell_at ["_law_script", "_law_k"]
  d__law_draw : Df K mg "_law_draw" s__law_draw ["_law_cell", "_law_k", "_law_many"]
  d__law_row : Df K mg "_law_row" s__law_row ["_law_script"]
  d__law_numbers : Df K mg "_law_numbers" s__law_numbers ["_law_found"]
  d__law_wrong : Df K mg "_law_wrong" s__law_wrong ["_law_row_here"]
  d__law_primes : Df K mg "_law_primes" s__law_primes ["_law_number"]
  d__law_times_right : Df K mg "_law_times_right" s__law_times_right ["_law_row_here", "_law_undone", "_law_far"]
  d_law : Df K mg "law" s_law ["_law_script"]
  b_all : mg "all" = none
  b_any : mg "any" = none
  b_bool : mg "bool" = none
  b_enumerate : mg "enumerate" = none
  b_int : mg "int" = none
  b_isinstance : mg "isinstance" = none
  b_len : mg "len" = none
  b_list : mg "list" = none
  b_max : mg "max" = none
  b_min : mg "min" = none
  b_range : mg "range" = none
  b_set : mg "set" = none
  g_MOST : ∃ t, mg "MOST" = some (.int 1000000 t)
end Bo

/-! what rings.py and rows.py compute, as plain functions -/
namespace Bo
open PySem L2
/-- from t on, as long as t isn't met -/
def ringFrom (row : List Int) : Nat → List Bool → Int → List Int → List Bool × List Int
  | 0, met, _, ring => (met, ring)
  | n + 1, met, t, ring => if gb met t = true then (met, ring) else ringFrom row n (met.set t.toNat true) (gt row t) (ring ++ [t])
def ringAt (row : List Int) (met : List Bool) (t : Int) (ring : List Int) : List Bool × List Int := ringFrom row (met.count false) met t ring
theorem count_set : ∀ {met : List Bool} {k : Nat}, met[k]? = some false → (met.set k true).count false + 1 = met.count false
  | [], k, h => by simp at h
  | b :: r, 0, h => by
    have e : b = false := by simpa using h
    subst e
    simp
  | b :: r, k + 1, h => by
    have ih := count_set (met := r) (k := k) (by simpa using h)
    cases b <;> simp <;> omega
theorem gb_get {met : List Bool} {t : Int} (h0 : 0 ≤ t ∧ t < met.length) : met[t.toNat]? = some (gb met t) := by
  unfold gb
  rw [List.getD_eq_getElem?_getD, List.getElem?_eq_getElem (by omega)]; rfl
theorem ringAt_met {row : List Int} {met : List Bool} {t : Int} {ring : List Int} (h : gb met t = true) : ringAt row met t ring = (met, ring) := by
  unfold ringAt
  cases met.count false with
  | zero => rfl
  | succ n => unfold ringFrom; rw [if_pos h]
theorem ringAt_next {row : List Int} {met : List Bool} {t : Int} {ring : List Int} (h : gb met t = false) (h0 : 0 ≤ t ∧ t < met.length) :
    ringAt row met t ring = ringAt row (met.set t.toNat true) (gt row t) (ring ++ [t]) := by
  have hg := gb_get h0
  rw [h] at hg
  have hc := count_set hg
  unfold ringAt
  rw [← hc]
  conv => lhs; unfold ringFrom
  rw [if_neg (by rw [h]; exact Bool.false_ne_true)]
def ringsAux (row : List Int) : Nat → List Bool × List (List Int)
  | 0 => (row.map fun _ => false, [])
  | i + 1 => ((ringAt row (ringsAux row i).1 (i : Int) []).1, if (ringAt row (ringsAux row i).1 (i : Int) []).2 = [] then (ringsAux row i).2 else (ringsAux row i).2 ++ [(ringAt row (ringsAux row i).1 (i : Int) []).2])
/-- the rings of a row, as rings_of makes them -/
def ringsOf (row : List Int) : List (List Int) := (ringsAux row row.length).2
theorem ringFrom_length (row : List Int) : ∀ (n : Nat) (met : List Bool) (t : Int) (ring : List Int), (ringFrom row n met t ring).1.length = met.length
  | 0, met, t, ring => rfl
  | n + 1, met, t, ring => by
    unfold ringFrom
    split
    · rfl
    · rw [ringFrom_length row n, List.length_set]
theorem ringsAux_length (row : List Int) : ∀ i, (ringsAux row i).1.length = row.length
  | 0 => by simp [ringsAux]
  | i + 1 => by
    show (ringAt row (ringsAux row i).1 (i : Int) []).1.length = row.length
    unfold ringAt
    rw [ringFrom_length, ringsAux_length row i]
theorem ringsAux_count (row : List Int) : ∀ i, (ringsAux row i).2.length ≤ i
  | 0 => Nat.le_refl _
  | i + 1 => by
    have ih := ringsAux_count row i
    show (if _ then (ringsAux row i).2 else (ringsAux row i).2 ++ [_]).length ≤ i + 1
    split
    · omega
    · rw [List.length_append]; simp; exact ih
def primesL : List Int := [1000003, 1000033, 1000037, 1000039, 1000081, 1000099, 1000117, 1000121, 1000133, 1000151, 1000159, 1000171, 1000183, 1000187, 1000193, 1000199]
theorem primes_at (k : Int) : ∃ p, 0 < p ∧ atI (primesL.map V.int) (k % 16) = some (.int p) := by
  have h0 : 0 ≤ k % 16 := Int.emod_nonneg _ (by decide)
  have h1 : k % 16 < 16 := Int.emod_lt_of_pos _ (by decide)
  refine ⟨gt primesL (k % 16), ?_, at_gt (by show -(16 : Int) ≤ _; omega) (by show _ < (16 : Int); omega)⟩
  have hm := gt_mem (ns := primesL) (i := k % 16) (by show -(16 : Int) ≤ _; omega) (by show _ < (16 : Int); omega)
  have ha : ∀ x ∈ primesL, 0 < x := by decide
  exact ha _ hm
theorem ins_row {ns : List Int} {i : Nat} {k : Int} (hl : ns.length = i) (hb : ∀ x ∈ ns, 0 ≤ x ∧ x < i) (hn : ns.Nodup) : (ins ns k (i : Int)).length = i + 1 ∧ (∀ x ∈ ins ns k (i : Int), 0 ≤ x ∧ x < ((i + 1 : Nat) : Int)) ∧ (ins ns k (i : Int)).Nodup := by
  have hp : (ins ns k (i : Int)).Perm ((i : Int) :: ns) := by
    unfold ins
    rw [List.append_assoc, List.singleton_append]
    refine List.perm_middle.trans ?_
    rw [List.take_append_drop]
  refine ⟨by rw [hp.length_eq, List.length_cons, hl], fun x hx => ?_, hp.nodup_iff.mpr (List.nodup_cons.mpr ⟨fun h => ?_, hn⟩)⟩
  · rcases List.mem_cons.mp (hp.mem_iff.mp hx) with e | e
    · omega
    · have := hb x e; omega
  · have := hb _ h; omega
/-- lists that stand at their places -/
def Lf (H : Hp) (as : List Addr) (xss : List (List Int)) : Prop := as.length = xss.length ∧ ∀ (i : Nat) (p : Addr) (x : List Int), as[i]? = some p → xss[i]? = some x → H p = some (oL x)
theorem Lf.same {H H' : Hp} {as : List Addr} {xss : List (List Int)} (h : Lf H as xss) (s : Same H H') : Lf H' as xss := ⟨h.1, fun i p x a b => s _ _ (h.2 i p x a b)⟩
theorem Lf.of {H0 H : Hp} {as : List Addr} {xss : List (List Int)} (n : News H0 H oL as xss) : Lf H as xss := ⟨n.1, fun i p x a b => (n.2.2 i p x a b).2⟩
/-! ### rings told -/
def isRing (ring : List Int) (many : Int) : Bool := !ring.isEmpty && ring.all fun x => isNum (.int x) 0 (many - 1)
def setRing (ring : List Int) : Nat → List Int → List Int
  | 0, f => f
  | k + 1, f => st (setRing ring k f) (gt ring ((k : Int) - 1)) (gt ring (k : Int))
theorem setRing_length (ring : List Int) : ∀ k f, (setRing ring k f).length = f.length
  | 0, f => rfl
  | k + 1, f => by
    show (st _ _ _).length = _
    rw [st_length, setRing_length ring k]
def rowOf (many : Nat) (told : List (List Int)) : List Int := told.foldl (fun f r => setRing r r.length f) (upTo many)
theorem foldl_take {α β : Type} {g : β → α → β} {b : β} {xs : List α} {i : Nat} {x : α} (h : xs[i]? = some x) : (xs.take (i + 1)).foldl g b = g ((xs.take i).foldl g b) x := by
  rw [List.take_add_one, h, List.foldl_append]; rfl
theorem rowOf_len (told : List (List Int)) : ∀ f : List Int, (told.foldl (fun f r => setRing r r.length f) f).length = f.length := by
  induction told with
  | nil => intro f; rfl
  | cons r t ih => intro f; rw [List.foldl_cons, ih, setRing_length]
theorem flatten_take {α : Type} {xs : List (List α)} {i : Nat} {x : List α} (h : xs[i]? = some x) : (xs.take (i + 1)).flatten = (xs.take i).flatten ++ x := by
  rw [List.take_add_one, h, List.flatten_append]; simp
theorem flatten_take_le {α : Type} (xs : List (List α)) (i : Nat) : (xs.take i).flatten.length ≤ xs.flatten.length := by
  conv => rhs; rw [← List.take_append_drop i xs, List.flatten_append, List.length_append]
  omega
/-- a ring of a row -/
def okRing (row ring : List Int) : Bool := (!ring.isEmpty && ring.all fun x => decide (0 ≤ x) && decide (x < row.length)) && (List.range ring.length).all fun k => decide (gt row (gt ring ((k : Int) - 1)) = gt ring (k : Int))
def ringed (row : List Int) (told : List (List Int)) : Bool := told.all (okRing row) && isAll told.flatten row.length
theorem any_not {α : Type} (P : α → Bool) (l : List α) : (l.map fun x => !P x).any id = !(l.all P) := by
  induction l with
  | nil => rfl
  | cons x r ih => rw [List.map_cons, List.any_cons, List.all_cons, ih]; cases P x <;> rfl
end Bo

/-! the rings of a row: the mathematics -/
namespace Bo
open PySem L2
theorem perm_of_mem : ∀ {l m : List Int}, l.Nodup → m.Nodup → (∀ x, x ∈ l ↔ x ∈ m) → l.Perm m
  | [], m, _, _, h => by
    have : m = [] := List.eq_nil_iff_forall_not_mem.mpr fun x hx => by simpa using (h x).mpr hx
    subst this; exact .nil
  | a :: l, m, hl, hm, h => by
    have ha : a ∈ m := (h a).mp (by simp)
    have hl' := List.nodup_cons.mp hl
    have p := List.perm_cons_erase ha
    refine .trans (.cons a ?_) p.symm
    refine perm_of_mem hl'.2 (hm.erase a) fun x => ?_
    rw [hm.mem_erase_iff]
    constructor
    · intro hx
      exact ⟨fun e => hl'.1 (e ▸ hx), (h x).mp (List.mem_cons_of_mem _ hx)⟩
    · rintro ⟨n, hx⟩
      rcases List.mem_cons.mp ((h x).mpr hx) with e | e
      · exact absurd e n
      · exact e
theorem gb_false_get {met : List Bool} {t : Int} (h : gb met t = false) (h0 : 0 ≤ t) : t < met.length := by
  unfold gb at h
  rw [List.getD_eq_getElem?_getD] at h
  by_cases c : t.toNat < met.length
  · omega
  · rw [List.getElem?_eq_none (by omega)] at h
    cases h
theorem gb_set {met : List Bool} {t x : Int} (h0 : 0 ≤ t) (h1 : t < met.length) (hx : 0 ≤ x) : gb (met.set t.toNat true) x = true ↔ gb met x = true ∨ x = t := by
  unfold gb
  rw [List.getD_eq_getElem?_getD, List.getD_eq_getElem?_getD]
  by_cases c : x = t
  · subst c
    rw [List.getElem?_set_self (by omega)]
    simp
  · rw [List.getElem?_set_ne (by omega)]
    simp [c]
theorem gt_inj {row : List Int} (R : IsRow row) {x y : Int} (hx : 0 ≤ x ∧ x < row.length) (hy : 0 ≤ y ∧ y < row.length) (e : gt row x = gt row y) : x = y := by
  have h1 : row[x.toNat]? = some (gt row x) := by
    have := gt_some (ns := row) (i := x.toNat) (by omega)
    rwa [show ((x.toNat : Nat) : Int) = x by omega] at this
  have h2 : row[y.toNat]? = some (gt row y) := by
    have := gt_some (ns := row) (i := y.toNat) (by omega)
    rwa [show ((y.toNat : Nat) : Int) = y by omega] at this
  rw [e] at h1
  have := nd_ix R.nd h1 h2
  omega
theorem gt_bd {row : List Int} (R : IsRow row) {x : Int} (hx : 0 ≤ x ∧ x < row.length) : 0 ≤ gt row x ∧ gt row x < row.length := R.bd _ (gt_mem (by omega) (by omega))
/-- on the way round a ring -/
structure RI (row : List Int) (met0 : List Bool) (t0 : Int) (met : List Bool) (t : Int) (ring : List Int) : Prop where
  len : met.length = row.length
  mem : ∀ x : Int, 0 ≤ x → (gb met x = true ↔ gb met0 x = true ∨ x ∈ ring)
  nd : ring.Nodup
  out : ∀ x ∈ ring, gb met0 x = false
  bd : ∀ x ∈ ring, 0 ≤ x ∧ x < row.length
  bt : 0 ≤ t ∧ t < row.length
  ch : ∀ k, k + 1 < ring.length → gt row (ring.getD k 0) = ring.getD (k + 1) 0
  st : ring = [] ∧ t = t0 ∨ ring ≠ [] ∧ ring.getD 0 0 = t0 ∧ t = gt row (ring.getD (ring.length - 1) 0)
theorem getD_app {l : List Int} {x : Int} {k : Nat} (h : k < l.length) : (l ++ [x]).getD k 0 = l.getD k 0 := by
  rw [List.getD_eq_getElem?_getD, List.getD_eq_getElem?_getD, List.getElem?_append_left h]
theorem getD_last {l : List Int} {x : Int} : (l ++ [x]).getD l.length 0 = x := by
  rw [List.getD_eq_getElem?_getD, List.getElem?_append_right (Nat.le_refl _)]; simp
theorem RI.next {row : List Int} (R : IsRow row) {met0 met : List Bool} {t0 t : Int} {ring : List Int} (I : RI row met0 t0 met t ring) (h : gb met t = false) : RI row met0 t0 (met.set t.toNat true) (gt row t) (ring ++ [t]) := by
  have hl := I.len
  have bt := I.bt
  have nt : ¬ (gb met0 t = true ∨ t ∈ ring) := fun z => by
    have := (I.mem t bt.1).mpr z
    rw [h] at this; cases this
  refine ⟨by rw [List.length_set]; exact I.len, fun x hx => ?_, ?_, fun x hx => ?_, fun x hx => ?_, gt_bd R bt, fun k hk => ?_, .inr ⟨by simp, ?_, ?_⟩⟩
  · rw [gb_set bt.1 (by omega) hx, I.mem x hx, List.mem_append, List.mem_singleton, or_assoc]
  · exact List.nodup_append.mpr ⟨I.nd, by simp, fun a ha b hb => by
      have : b = t := by simpa using hb
      subst this
      exact fun e => nt (.inr (e ▸ ha))⟩
  · rcases List.mem_append.mp hx with hx | hx
    · exact I.out x hx
    · have : x = t := by simpa using hx
      subst this
      cases e : gb met0 x with
      | false => rfl
      | true => exact absurd (.inl e) nt
  · rcases List.mem_append.mp hx with hx | hx
    · exact I.bd x hx
    · have : x = t := by simpa using hx
      subst this; exact bt
  · rw [List.length_append, List.length_singleton] at hk
    by_cases c : k + 1 < ring.length
    · rw [getD_app (by omega), getD_app c]; exact I.ch k c
    · have e : k + 1 = ring.length := by omega
      rw [getD_app (by omega), e, getD_last]
      rcases I.st with ⟨e1, _⟩ | ⟨_, _, e2⟩
      · subst e1; simp at e
      · rw [e2, ← e]; rfl
  · rcases I.st with ⟨e1, e2⟩ | ⟨e1, e2, _⟩
    · subst e1 e2; rfl
    · rw [getD_app (List.length_pos_iff.mpr e1)]; exact e2
  · rw [List.length_append, List.length_singleton, Nat.add_sub_cancel, getD_last]
theorem gb_all {met : List Bool} (h : met.count false = 0) (t : Int) : gb met t = true := by
  unfold gb
  rw [List.getD_eq_getElem?_getD]
  cases e : met[t.toNat]? with
  | none => rfl
  | some b =>
    cases b with
    | true => rfl
    | false =>
      have : false ∈ met := List.mem_of_getElem? e
      exact absurd (List.count_pos_iff.mpr this) (by omega)
theorem RI.run {row : List Int} (R : IsRow row) {met0 : List Bool} {t0 : Int} : ∀ (n : Nat) (met : List Bool) (t : Int) (ring : List Int), met.count false = n → RI row met0 t0 met t ring →
    ∃ t', RI row met0 t0 (ringFrom row n met t ring).1 t' (ringFrom row n met t ring).2 ∧ gb (ringFrom row n met t ring).1 t' = true
  | 0, met, t, ring, hn, I => ⟨t, I, gb_all hn t⟩
  | n + 1, met, t, ring, hn, I => by
    by_cases c : gb met t = true
    · have e : ringFrom row (n + 1) met t ring = (met, ring) := by unfold ringFrom; rw [if_pos c]
      rw [e]; exact ⟨t, I, c⟩
    · have c' : gb met t = false := by simpa using c
      have e : ringFrom row (n + 1) met t ring = ringFrom row n (met.set t.toNat true) (gt row t) (ring ++ [t]) := by
        conv => lhs; unfold ringFrom
        rw [if_neg c]
      rw [e]
      have hg := gb_get (met := met) (t := t) (by rw [I.len]; exact I.bt)
      rw [c'] at hg
      have := count_set hg
      exact RI.run R n _ _ _ (by omega) (I.next R c')
/-- a whole ring -/
structure Ring (row r : List Int) : Prop where
  ne : r ≠ []
  bd : ∀ x ∈ r, 0 ≤ x ∧ x < row.length
  ch : ∀ k, k + 1 < r.length → gt row (r.getD k 0) = r.getD (k + 1) 0
  cl : gt row (r.getD (r.length - 1) 0) = r.getD 0 0
theorem getD_mem {l : List Int} {k : Nat} (h : k < l.length) : l.getD k 0 ∈ l := List.mem_of_getElem? (getD_some h)
theorem mem_getD {l : List Int} {x : Int} (h : x ∈ l) : ∃ k, k < l.length ∧ l.getD k 0 = x := by
  obtain ⟨k, hk, e⟩ := List.mem_iff_getElem.mp h
  exact ⟨k, hk, by rw [List.getD_eq_getElem?_getD, List.getElem?_eq_getElem hk]; exact e⟩
theorem getD_inj {l : List Int} (hn : l.Nodup) {i j : Nat} (hi : i < l.length) (hj : j < l.length) (e : l.getD i 0 = l.getD j 0) : i = j :=
  nd_ix hn (getD_some hi) (by rw [e]; exact getD_some hj)
/-- what a turn of the outer loop gives -/
theorem RI.done {row : List Int} (R : IsRow row) {met0 met : List Bool} {t0 t : Int} {ring : List Int} (I : RI row met0 t0 met t ring) (h : gb met t = true) (bk : ∀ y : Int, 0 ≤ y ∧ y < row.length → gb met0 (gt row y) = true → gb met0 y = true) :
    (ring = [] ∧ gb met0 t0 = true ∧ (∀ x : Int, 0 ≤ x → (gb met x = true ↔ gb met0 x = true))) ∨ (Ring row ring ∧ ring.getD 0 0 = t0 ∧ (∀ y : Int, 0 ≤ y ∧ y < row.length → gb met (gt row y) = true → gb met y = true)) := by
  rcases I.st with ⟨e1, e2⟩ | ⟨e1, e2, e3⟩
  · subst e1 e2
    refine .inl ⟨rfl, ?_, fun x hx => by rw [I.mem x hx]; simp⟩
    have := (I.mem t I.bt.1).mp h
    simpa using this
  · have hp := List.length_pos_iff.mpr e1
    have hlast := getD_mem (l := ring) (k := ring.length - 1) (by omega)
    have bl := I.bd _ hlast
    have et : t = t0 := by
      rcases (I.mem t I.bt.1).mp h with z | z
      · rw [e3] at z
        have := bk _ bl z
        rw [I.out _ hlast] at this; cases this
      · obtain ⟨k, hk, ek⟩ := mem_getD z
        cases k with
        | zero => rw [← ek, e2]
        | succ k =>
          have c := I.ch k hk
          rw [ek, e3] at c
          have hk' := getD_mem (l := ring) (k := k) (by omega)
          have := getD_inj I.nd (by omega) (by omega) (gt_inj R (I.bd _ hk') bl c)
          omega
    refine .inr ⟨⟨e1, I.bd, I.ch, by rw [← e3, et, e2]⟩, e2, fun y hy z => ?_⟩
    rcases (I.mem _ (gt_bd R hy).1).mp z with z | z
    · exact (I.mem y hy.1).mpr (.inl (bk y hy z))
    · refine (I.mem y hy.1).mpr (.inr ?_)
      obtain ⟨k, hk, ek⟩ := mem_getD z
      cases k with
      | zero =>
        have : y = ring.getD (ring.length - 1) 0 := gt_inj R hy bl (by rw [← ek, e2, ← et, e3])
        rw [this]; exact hlast
      | succ k =>
        have hk' := getD_mem (l := ring) (k := k) (by omega)
        have : y = ring.getD k 0 := gt_inj R hy (I.bd _ hk') (by rw [I.ch k hk, ek])
        rw [this]; exact hk'
/-- behind i turns of the outer loop -/
structure RO (row : List Int) (i : Nat) (met : List Bool) (found : List (List Int)) : Prop where
  len : met.length = row.length
  mem : ∀ x : Int, 0 ≤ x → x < row.length → (gb met x = true ↔ x ∈ found.flatten)
  nd : found.flatten.Nodup
  rg : ∀ r ∈ found, Ring row r
  below : ∀ x : Int, 0 ≤ x → x < i → x < row.length → gb met x = true
  bk : ∀ y : Int, 0 ≤ y ∧ y < row.length → gb met (gt row y) = true → gb met y = true
  least : ∀ r ∈ found, ∀ x ∈ r, r.getD 0 0 ≤ x
  up : (found.map fun r => r.getD 0 0).Pairwise (· < ·)
  heads : ∀ r ∈ found, r.getD 0 0 < i
theorem RO.all {row : List Int} (R : IsRow row) : ∀ i, i ≤ row.length → RO row i (ringsAux row i).1 (ringsAux row i).2
  | 0, _ => by
    have e : ∀ x : Int, 0 ≤ x → x < row.length → gb (row.map fun _ => false) x = false := fun x h0 h1 => by
      unfold gb
      rw [List.getD_eq_getElem?_getD, List.getElem?_map, List.getElem?_eq_getElem (by omega)]; rfl
    refine ⟨by simp [ringsAux], fun x h0 h1 => ?_, by simp [ringsAux], by simp [ringsAux], fun x h0 h1 _ => by omega, fun y hy z => ?_, by simp [ringsAux], by simp [ringsAux], by simp [ringsAux]⟩
    · show gb (row.map fun _ => false) x = true ↔ x ∈ ([] : List (List Int)).flatten
      rw [e x h0 h1]; simp
    · have z' : gb (row.map fun _ => false) (gt row y) = true := z
      have := gt_bd R hy
      rw [e _ this.1 this.2] at z'; cases z'
  | i + 1, hi => by
    have O := RO.all R i (by omega)
    have I0 : RI row (ringsAux row i).1 i (ringsAux row i).1 i [] := ⟨O.len, fun x _ => by simp, List.nodup_nil, by simp, by simp, by omega, fun k hk => by simp at hk, .inl ⟨rfl, rfl⟩⟩
    obtain ⟨t', I, ht⟩ := RI.run R _ _ _ _ rfl I0
    have e1 : (ringsAux row (i + 1)).1 = (ringFrom row ((ringsAux row i).1.count false) (ringsAux row i).1 i []).1 := rfl
    have e2 : (ringsAux row (i + 1)).2 = if (ringFrom row ((ringsAux row i).1.count false) (ringsAux row i).1 i []).2 = [] then (ringsAux row i).2 else (ringsAux row i).2 ++ [(ringFrom row ((ringsAux row i).1.count false) (ringsAux row i).1 i []).2] := rfl
    rw [e1, e2]
    generalize (ringFrom row ((ringsAux row i).1.count false) (ringsAux row i).1 i []).1 = met at *
    generalize (ringFrom row ((ringsAux row i).1.count false) (ringsAux row i).1 i []).2 = ring at *
    rcases I.done R ht O.bk with ⟨z1, z2, z3⟩ | ⟨z1, z2, z3⟩
    · rw [if_pos z1]
      refine ⟨I.len, fun x h0 h1 => by rw [z3 x h0, O.mem x h0 h1], O.nd, O.rg, fun x h0 h1 h2 => ?_, fun y hy z => ?_, O.least, O.up, fun r hr => by have := O.heads r hr; omega⟩
      · rw [z3 x h0]
        by_cases c : x < i
        · exact O.below x h0 c h2
        · have : x = i := by omega
          subst this; exact z2
      · rw [z3 _ (gt_bd R hy).1] at z
        rw [z3 y hy.1]
        exact O.bk y hy z
    · rw [if_neg z1.ne]
      have lst : ∀ x ∈ ring, (i : Int) ≤ x := fun x hx => by
        have bx := I.bd x hx
        by_cases c : x < i
        · have := O.below x bx.1 c bx.2
          rw [I.out x hx] at this; cases this
        · omega
      refine ⟨I.len, fun x h0 h1 => ?_, ?_, fun r hr => ?_, fun x h0 h1 h2 => ?_, z3, fun r hr => ?_, ?_, fun r hr => ?_⟩
      · rw [I.mem x h0, O.mem x h0 h1, List.flatten_append, List.mem_append]; simp
      · rw [List.flatten_append]
        refine List.nodup_append.mpr ⟨O.nd, by simpa using I.nd, fun a ha b hb e => ?_⟩
        have hb' : b ∈ ring := by simpa using hb
        subst e
        have bx := I.bd a hb'
        have := (O.mem a bx.1 bx.2).mpr ha
        rw [I.out a hb'] at this; cases this
      · rcases List.mem_append.mp hr with hr | hr
        · exact O.rg r hr
        · have : r = ring := by simpa using hr
          subst this; exact z1
      · rw [I.mem x h0]
        by_cases c : x < i
        · exact .inl (O.below x h0 c h2)
        · have : x = i := by omega
          subst this
          exact .inr (by rw [← z2]; exact getD_mem (List.length_pos_iff.mpr z1.ne))
      · rcases List.mem_append.mp hr with hr | hr
        · exact O.least r hr
        · have : r = ring := by simpa using hr
          subst this
          intro x hx; rw [z2]; exact lst x hx
      · rw [List.map_append]
        refine List.pairwise_append.mpr ⟨O.up, by simp, fun a ha b hb => ?_⟩
        obtain ⟨r, hr, rfl⟩ := List.mem_map.mp ha
        have hb' : b = ring.getD 0 0 := by simpa using hb
        rw [hb', z2]
        exact O.heads r hr
      · rcases List.mem_append.mp hr with hr | hr
        · have := O.heads r hr; omega
        · have : r = ring := by simpa using hr
          subst this; rw [z2]; omega
theorem RO.of {row : List Int} (R : IsRow row) : RO row row.length (ringsAux row row.length).1 (ringsOf row) := RO.all R _ (Nat.le_refl _)
theorem Ring.ok {row r : List Int} (h : Ring row r) : okRing row r = true := by
  unfold okRing
  rw [Bool.and_eq_true, Bool.and_eq_true, List.all_eq_true, List.all_eq_true]
  refine ⟨⟨?_, fun x hx => ?_⟩, fun k hk => ?_⟩
  · cases r with
    | nil => exact absurd rfl h.ne
    | cons _ _ => rfl
  · have := h.bd x hx
    rw [Bool.and_eq_true, decide_eq_true_eq, decide_eq_true_eq]; exact this
  · have hk' := List.mem_range.mp hk
    rw [decide_eq_true_eq, gt_nat]
    cases k with
    | zero =>
      have e : gt r (((0 : Nat) : Int) - 1) = r.getD (r.length - 1) 0 := by
        unfold gt
        rw [if_neg (by omega)]
        congr 1; omega
      rw [e]; exact h.cl
    | succ k =>
      have e : gt r (((k + 1 : Nat) : Int) - 1) = r.getD k 0 := by
        rw [show ((k + 1 : Nat) : Int) - 1 = (k : Int) by omega, gt_nat]
      rw [e]; exact h.ch k hk'
theorem ringsOf_perm {row : List Int} (R : IsRow row) : (ringsOf row).flatten.Perm (upTo row.length) := by
  have O := RO.of R
  refine perm_of_mem O.nd (upTo_nodup _) fun x => ?_
  rw [mem_upTo]
  constructor
  · intro hx
    obtain ⟨r, hr, hx⟩ := List.mem_flatten.mp hx
    exact (O.rg r hr).bd x hx
  · rintro ⟨h0, h1⟩
    exact (O.mem x h0 h1).mp (O.below x h0 h1 h1)
theorem ringsOf_ringed {row : List Int} (R : IsRow row) : ringed row (ringsOf row) = true := by
  unfold ringed isAll
  rw [Bool.and_eq_true, List.all_eq_true, decide_eq_true_eq]
  exact ⟨fun r hr => ((RO.of R).rg r hr).ok, ringsOf_perm R⟩
end Bo

/-! of rings the row -/
namespace Bo
open PySem L2
theorem gt_st {f : List Int} {i x y : Int} (hi : 0 ≤ i ∧ i < f.length) (hy : 0 ≤ y) : gt (st f i x) y = if y = i then x else gt f y := by
  unfold gt st
  rw [if_pos hy, if_pos hy, List.getD_eq_getElem?_getD, List.getD_eq_getElem?_getD]
  by_cases c : y = i
  · subst c
    rw [if_pos rfl, List.getElem?_set_self (by omega)]; rfl
  · rw [if_neg c, List.getElem?_set_ne (by omega)]
theorem gt_upTo {n : Nat} {y : Int} (h : 0 ≤ y ∧ y < n) : gt (upTo n) y = y := by
  have := gt_get (upTo_get (n := n) (i := y.toNat) (by omega))
  rw [show ((y.toNat : Nat) : Int) = y by omega] at this
  exact this
theorem okRing_ne {row r : List Int} (h : okRing row r = true) : r ≠ [] := by
  intro e; subst e; simp [okRing] at h
theorem okRing_bd {row r : List Int} (h : okRing row r = true) : ∀ x ∈ r, 0 ≤ x ∧ x < row.length := fun x hx => by
  unfold okRing at h
  rw [Bool.and_eq_true, Bool.and_eq_true, List.all_eq_true] at h
  have := h.1.2 x hx
  rw [Bool.and_eq_true, decide_eq_true_eq, decide_eq_true_eq] at this
  exact this
theorem okRing_at {row r : List Int} (h : okRing row r = true) {k : Nat} (hk : k < r.length) : gt row (gt r ((k : Int) - 1)) = gt r (k : Int) := by
  unfold okRing at h
  rw [Bool.and_eq_true] at h
  exact of_decide_eq_true (List.all_eq_true.mp h.2 k (List.mem_range.mpr hk))
theorem okRing_isRing {row r : List Int} (h : okRing row r = true) : isRing r (row.length : Nat) = true := by
  unfold isRing
  rw [Bool.and_eq_true, List.all_eq_true]
  refine ⟨?_, fun x hx => ?_⟩
  · cases r with
    | nil => exact absurd rfl (okRing_ne h)
    | cons _ _ => rfl
  · have := okRing_bd h x hx
    rw [isNum_int, decide_eq_true this.1, decide_eq_true (by omega)]; rfl
/-- a row on the way: each place as in order or as in row -/
structure Half (row f : List Int) : Prop where
  len : f.length = row.length
  at_ : ∀ y : Int, 0 ≤ y ∧ y < row.length → gt f y = y ∨ gt f y = gt row y
theorem Half.step {row f : List Int} (h : Half row f) {i : Int} (hi : 0 ≤ i ∧ i < row.length) : Half row (st f i (gt row i)) ∧ gt (st f i (gt row i)) i = gt row i ∧ ∀ y : Int, 0 ≤ y ∧ y < row.length → gt f y = gt row y → gt (st f i (gt row i)) y = gt row y := by
  have hl := h.len
  refine ⟨⟨by rw [st_length, h.len], fun y hy => ?_⟩, ?_, fun y hy e => ?_⟩
  · rw [gt_st (by omega) hy.1]
    by_cases c : y = i
    · rw [if_pos c, c]; exact .inr rfl
    · rw [if_neg c]; exact h.at_ y hy
  · rw [gt_st (by omega) hi.1, if_pos rfl]
  · rw [gt_st (by omega) hy.1]
    by_cases c : y = i
    · rw [if_pos c, c]
    · rw [if_neg c]; exact e
theorem gt_pred_bd {row r : List Int} (h : okRing row r = true) {k : Nat} (hk : k < r.length) : 0 ≤ gt r ((k : Int) - 1) ∧ gt r ((k : Int) - 1) < row.length :=
  okRing_bd h _ (gt_mem (by omega) (by omega))
theorem setRing_half {row r : List Int} (h : okRing row r = true) : ∀ (k : Nat) (f : List Int), k ≤ r.length → Half row f → Half row (setRing r k f) ∧ (∀ j, j < k → gt (setRing r k f) (gt r ((j : Int) - 1)) = gt row (gt r ((j : Int) - 1))) ∧
    ∀ y : Int, 0 ≤ y ∧ y < row.length → gt f y = gt row y → gt (setRing r k f) y = gt row y
  | 0, f, _, hf => ⟨hf, fun j hj => absurd hj (Nat.not_lt_zero _), fun y _ e => e⟩
  | k + 1, f, hk, hf => by
    obtain ⟨h1, h2, h3⟩ := setRing_half h k f (by omega) hf
    have hb := gt_pred_bd h (k := k) (by omega)
    have e : setRing r (k + 1) f = st (setRing r k f) (gt r ((k : Int) - 1)) (gt row (gt r ((k : Int) - 1))) := by
      show st _ _ _ = _
      rw [okRing_at h (by omega)]
    rw [e]
    obtain ⟨s1, s2, s3⟩ := h1.step hb
    refine ⟨s1, fun j hj => ?_, fun y hy e => s3 y hy (h3 y hy e)⟩
    by_cases c : j = k
    · subst c; exact s2
    · exact s3 _ (gt_pred_bd h (by omega)) (h2 j (by omega))
theorem setRing_all {row r : List Int} (h : okRing row r = true) {f : List Int} (hf : Half row f) : Half row (setRing r r.length f) ∧ (∀ y ∈ r, gt (setRing r r.length f) y = gt row y) ∧ ∀ y : Int, 0 ≤ y ∧ y < row.length → gt f y = gt row y → gt (setRing r r.length f) y = gt row y := by
  obtain ⟨h1, h2, h3⟩ := setRing_half h r.length f (Nat.le_refl _) hf
  refine ⟨h1, fun y hy => ?_, h3⟩
  obtain ⟨k, hk, e⟩ := mem_getD hy
  by_cases c : k + 1 < r.length
  · have := h2 (k + 1) c
    rw [show ((k + 1 : Nat) : Int) - 1 = (k : Int) by omega, gt_nat, e] at this
    exact this
  · have := h2 0 (by omega)
    have e0 : gt r (((0 : Nat) : Int) - 1) = y := by
      unfold gt
      rw [if_neg (by omega), ← e]
      congr 1; omega
    rw [e0] at this
    exact this
theorem rowOf_half {row : List Int} : ∀ (told : List (List Int)) (f : List Int), (∀ r ∈ told, okRing row r = true) → Half row f → Half row (told.foldl (fun f r => setRing r r.length f) f) ∧
    (∀ y ∈ told.flatten, gt (told.foldl (fun f r => setRing r r.length f) f) y = gt row y) ∧ ∀ y : Int, 0 ≤ y ∧ y < row.length → gt f y = gt row y → gt (told.foldl (fun f r => setRing r r.length f) f) y = gt row y
  | [], f, _, hf => ⟨hf, by simp, fun y _ e => e⟩
  | r :: t, f, h, hf => by
    obtain ⟨a1, a2, a3⟩ := setRing_all (h r (by simp)) hf
    obtain ⟨b1, b2, b3⟩ := rowOf_half t _ (fun r hr => h r (List.mem_cons_of_mem _ hr)) a1
    rw [List.foldl_cons]
    refine ⟨b1, fun y hy => ?_, fun y hy e => b3 y hy (a3 y hy e)⟩
    rw [List.flatten_cons] at hy
    rcases List.mem_append.mp hy with hy | hy
    · exact b3 y (okRing_bd (h r (by simp)) y hy) (a2 y hy)
    · exact b2 y hy
theorem ext_gt {f g : List Int} (hl : f.length = g.length) (h : ∀ y : Int, 0 ≤ y ∧ y < g.length → gt f y = gt g y) : f = g := by
  apply List.ext_getElem hl
  intro i h1 h2
  have := h i (by omega)
  rw [gt_nat, gt_nat, List.getD_eq_getElem?_getD, List.getD_eq_getElem?_getD, List.getElem?_eq_getElem h1, List.getElem?_eq_getElem h2] at this
  exact this
/-- rings of a row that hold all that doesn't stand at its place tell the row -/
theorem rowOf_is {row : List Int} {told : List (List Int)} (h : ∀ r ∈ told, okRing row r = true) (hm : ∀ y : Int, 0 ≤ y ∧ y < row.length → gt row y ≠ y → y ∈ told.flatten) : rowOf row.length told = row := by
  have h0 : Half row (upTo row.length) := ⟨upTo_length _, fun y hy => .inl (gt_upTo hy)⟩
  obtain ⟨b1, b2, _⟩ := rowOf_half told _ h h0
  refine ext_gt b1.len fun y hy => ?_
  by_cases c : gt row y = y
  · rcases b1.at_ y hy with e | e
    · show gt (rowOf _ _) y = _
      rw [c]; exact e
    · exact e
  · exact b2 y (hm y hy c)
theorem okRing_one {row r : List Int} (h : okRing row r = true) (hl : r.length ≤ 1) {x : Int} (hx : x ∈ r) : gt row x = x := by
  obtain ⟨k, hk, e⟩ := mem_getD hx
  have hk0 : k = 0 := by omega
  subst hk0
  have := okRing_at h (k := 0) hk
  have e1 : gt r (((0 : Nat) : Int) - 1) = x := by
    unfold gt
    rw [if_neg (by omega), ← e]
    congr 1; omega
  rw [e1, gt_nat, e] at this
  exact this
/-- .. as rings_of tells them -/
theorem rowOf_ringsOf {row : List Int} (R : IsRow row) : rowOf row.length (ringsOf row) = row := by
  have h := ringsOf_ringed R
  unfold ringed at h
  rw [Bool.and_eq_true, List.all_eq_true] at h
  exact rowOf_is h.1 fun y hy _ => ((ringsOf_perm R).mem_iff).mpr (mem_upTo.mpr hy)
/-! ### a ring begun elsewhere -/
theorem rot_perm (r : List Int) (a : Nat) : (r.drop a ++ r.take a).Perm r := by
  refine List.perm_append_comm.trans ?_
  rw [List.take_append_drop]
theorem rot_getD (r : List Int) (a k : Nat) (ha : a < r.length) (hk : k < r.length) : (r.drop a ++ r.take a).getD k 0 = if k < r.length - a then r.getD (a + k) 0 else r.getD (k - (r.length - a)) 0 := by
  rw [List.getD_eq_getElem?_getD]
  by_cases c : k < r.length - a
  · rw [if_pos c, List.getElem?_append_left (by rw [List.length_drop]; exact c), List.getElem?_drop, List.getD_eq_getElem?_getD]
  · rw [if_neg c, List.getElem?_append_right (by rw [List.length_drop]; omega), List.length_drop, List.getElem?_take_of_lt (by omega), List.getD_eq_getElem?_getD]
theorem okRing_iff {row r : List Int} : okRing row r = true ↔ r ≠ [] ∧ (∀ x ∈ r, 0 ≤ x ∧ x < row.length) ∧ ∀ k, k < r.length → gt row (r.getD k 0) = if k + 1 < r.length then r.getD (k + 1) 0 else r.getD 0 0 := by
  constructor
  · intro h
    refine ⟨okRing_ne h, okRing_bd h, fun k hk => ?_⟩
    by_cases c : k + 1 < r.length
    · rw [if_pos c]
      have := okRing_at h c
      rw [show ((k + 1 : Nat) : Int) - 1 = (k : Int) by omega, gt_nat, gt_nat] at this
      exact this
    · rw [if_neg c]
      have := okRing_at h (k := 0) (by omega)
      have e : gt r (((0 : Nat) : Int) - 1) = r.getD k 0 := by
        unfold gt
        rw [if_neg (by omega)]
        congr 1; omega
      rw [e, gt_nat] at this
      exact this
  · rintro ⟨h1, h2, h3⟩
    unfold okRing
    rw [Bool.and_eq_true, Bool.and_eq_true, List.all_eq_true, List.all_eq_true]
    have hp := List.length_pos_iff.mpr h1
    refine ⟨⟨?_, fun x hx => ?_⟩, fun k hk => ?_⟩
    · cases r with
      | nil => exact absurd rfl h1
      | cons _ _ => rfl
    · have := h2 x hx
      rw [Bool.and_eq_true, decide_eq_true_eq, decide_eq_true_eq]; exact this
    · have hk' := List.mem_range.mp hk
      rw [decide_eq_true_eq, gt_nat]
      cases k with
      | zero =>
        have e : gt r (((0 : Nat) : Int) - 1) = r.getD (r.length - 1) 0 := by
          unfold gt
          rw [if_neg (by omega)]
          congr 1; omega
        have := h3 (r.length - 1) (by omega)
        rw [if_neg (by omega)] at this
        rw [e]; exact this
      | succ k =>
        have := h3 k (by omega)
        rw [if_pos hk'] at this
        rw [show ((k + 1 : Nat) : Int) - 1 = (k : Int) by omega, gt_nat]
        exact this
theorem okRing_rot {row r : List Int} (h : okRing row r = true) {a : Nat} (ha : a < r.length) : okRing row (r.drop a ++ r.take a) = true := by
  obtain ⟨h1, h2, h3⟩ := okRing_iff.mp h
  have p := rot_perm r a
  have hl : (r.drop a ++ r.take a).length = r.length := p.length_eq
  refine okRing_iff.mpr ⟨fun e => h1 (by rw [e] at p; exact List.nil_perm.mp p), fun x hx => h2 x (p.mem_iff.mp hx), fun k hk => ?_⟩
  rw [hl] at hk ⊢
  rw [rot_getD r a k ha hk]
  by_cases c : k + 1 < r.length
  · rw [if_pos c, rot_getD r a (k + 1) ha c]
    by_cases d : k < r.length - a
    · rw [if_pos d, h3 _ (by omega)]
      by_cases e : k + 1 < r.length - a
      · rw [if_pos e, if_pos (by omega)]; rfl
      · rw [if_neg e, if_neg (by omega)]
        congr 1; omega
    · rw [if_neg d, if_neg (by omega), h3 _ (by omega), if_pos (by omega)]
      congr 1; omega
  · rw [if_neg c, rot_getD r a 0 ha (by omega)]
    by_cases d : k < r.length - a
    · have ha0 : a = 0 := by omega
      subst ha0
      rw [if_pos d, if_pos (by omega), h3 _ (by omega), if_neg (by omega)]
    · rw [if_neg d, h3 _ (by omega), if_pos (by omega), if_pos (by omega)]
      congr 1; omega
/-- the two last of n + 2 change places -/
theorem rowOf_two (n : Nat) : (rowOf (n + 2) [[(n : Int), (n : Int) + 1]]).drop n = [(n : Int) + 1, (n : Int)] := by
  have e : rowOf (n + 2) [[(n : Int), (n : Int) + 1]] = st (st (upTo (n + 2)) ((n : Int) + 1) n) n ((n : Int) + 1) := rfl
  rw [e]
  apply List.ext_getElem?
  intro i
  unfold st
  rw [List.getElem?_drop]
  have h1 : ((n : Int) + 1).toNat = n + 1 := by omega
  have h2 : (n : Int).toNat = n := by omega
  rw [h1, h2]
  have hl : (upTo (n + 2)).length = n + 2 := upTo_length _
  cases i with
  | zero =>
    show (((upTo (n + 2)).set (n + 1) (n : Int)).set n ((n : Int) + 1))[n]? = _
    rw [List.getElem?_set_self (by rw [List.length_set]; omega)]; rfl
  | succ i =>
    cases i with
    | zero =>
      show (((upTo (n + 2)).set (n + 1) (n : Int)).set n ((n : Int) + 1))[n + 1]? = _
      rw [List.getElem?_set_ne (by omega), List.getElem?_set_self (by omega)]; rfl
    | succ i =>
      rw [List.getElem?_eq_none (by rw [List.length_set, List.length_set]; omega)]; rfl
theorem mem_le_flatten {α : Type} : ∀ {l : List (List α)} {r : List α}, r ∈ l → r.length ≤ l.flatten.length
  | a :: l, r, h => by
    rw [List.flatten_cons, List.length_append]
    rcases List.mem_cons.mp h with e | h
    · subst e; omega
    · have := mem_le_flatten h; omega
theorem ringsOf_flat {row : List Int} (R : IsRow row) : (ringsOf row).flatten.length = row.length := by
  rw [(ringsOf_perm R).length_eq, upTo_length]
theorem ringsOf_len {row : List Int} (R : IsRow row) {r : List Int} (h : r ∈ ringsOf row) : r.length ≤ row.length := by
  rw [← ringsOf_flat R]; exact mem_le_flatten h
theorem ringsOf_okR {row : List Int} (R : IsRow row) {r : List Int} (h : r ∈ ringsOf row) : okRing row r = true := ((RO.of R).rg r h).ok
theorem getD_gt0 (r : List Int) : gt r 0 = r.getD 0 0 := by
  exact gt_nat r 0
theorem heads_up {row : List Int} (R : IsRow row) : ((ringsOf row).map fun x => gt x 0).Pairwise (· ≤ ·) := by
  have := (RO.of R).up
  have e : ((ringsOf row).map fun x => gt x 0) = (ringsOf row).map fun r => r.getD 0 0 := List.map_congr_left fun r _ => getD_gt0 r
  rw [e]
  exact this.imp fun h => by omega
/-- rings of a row told otherwise, behind i of them -/
structure Told (row : List Int) (found : List (List Int)) (i : Nat) (told : List (List Int)) : Prop where
  ok : ∀ t ∈ told, okRing row t = true
  nd : told.flatten.Nodup
  sub : ∀ x ∈ told.flatten, x ∈ (found.take i).flatten
  big : ∀ r ∈ found.take i, 1 < r.length → ∀ x ∈ r, x ∈ told.flatten
  len : told.length ≤ i
theorem Told.zero (row : List Int) (found : List (List Int)) : Told row found 0 [] := ⟨by simp, by simp, by simp, by simp, Nat.le_refl _⟩
theorem Told.put {row : List Int} {found told : List (List Int)} {i : Nat} {r : List Int} (h : Told row found i told) (hn : found.flatten.Nodup) (hr : found[i]? = some r) (ho : okRing row r = true) {a : Nat} (ha : a < r.length) : Told row found (i + 1) (told ++ [r.drop a ++ r.take a]) := by
  have p := rot_perm r a
  have e : (told ++ [r.drop a ++ r.take a]).flatten = told.flatten ++ (r.drop a ++ r.take a) := by rw [List.flatten_append]; simp
  have hn2 : ((found.take (i + 1)).flatten).Nodup := by
    have : found.flatten = (found.take (i + 1)).flatten ++ (found.drop (i + 1)).flatten := by rw [← List.flatten_append, List.take_append_drop]
    rw [this] at hn
    exact (List.nodup_append.mp hn).1
  rw [flatten_take hr] at hn2
  obtain ⟨_, n2, n3⟩ := List.nodup_append.mp hn2
  refine ⟨fun t ht => ?_, ?_, fun x hx => ?_, fun s hs hl x hx => ?_, by rw [List.length_append]; simp; exact h.len⟩
  · rcases List.mem_append.mp ht with ht | ht
    · exact h.ok t ht
    · have : t = r.drop a ++ r.take a := by simpa using ht
      subst this; exact okRing_rot ho ha
  · rw [e]
    exact List.nodup_append.mpr ⟨h.nd, p.nodup_iff.mpr n2, fun x hx y hy z => n3 x (h.sub x hx) y (p.mem_iff.mp hy) z⟩
  · rw [flatten_take hr]
    rw [e] at hx
    rcases List.mem_append.mp hx with hx | hx
    · exact List.mem_append_left _ (h.sub x hx)
    · exact List.mem_append_right _ (p.mem_iff.mp hx)
  · rw [e]
    rw [List.take_add_one, hr] at hs
    rcases List.mem_append.mp hs with hs | hs
    · exact List.mem_append_left _ (h.big s hs hl x hx)
    · have : s = r := by simpa using hs
      subst this
      exact List.mem_append_right _ (p.mem_iff.mpr hx)
theorem Told.skip {row : List Int} {found told : List (List Int)} {i : Nat} {r : List Int} (h : Told row found i told) (hr : found[i]? = some r) (hl : ¬ 1 < r.length) : Told row found (i + 1) told := by
  refine ⟨h.ok, h.nd, fun x hx => ?_, fun s hs hl' x hx => ?_, Nat.le_succ_of_le h.len⟩
  · rw [flatten_take hr]; exact List.mem_append_left _ (h.sub x hx)
  · rw [List.take_add_one, hr] at hs
    rcases List.mem_append.mp hs with hs | hs
    · exact h.big s hs hl' x hx
    · have : s = r := by simpa using hs
      subst this; exact absurd hl' hl
/-- what of_rings asks of rings, and that they tell the row -/
structure Tells (row : List Int) (told : List (List Int)) : Prop where
  ok : ∀ t ∈ told, okRing row t = true
  nd : told.flatten.Nodup
  len : told.length ≤ 1000
  flat : told.flatten.length ≤ 1000
  is : rowOf row.length told = row
theorem nodup_sub_len : ∀ {l m : List Int}, l.Nodup → (∀ x ∈ l, x ∈ m) → l.length ≤ m.length
  | [], m, _, _ => Nat.zero_le _
  | a :: l, m, hn, hs => by
    have ha : a ∈ m := hs a (by simp)
    have hn' := List.nodup_cons.mp hn
    have ih := nodup_sub_len (l := l) (m := m.erase a) hn'.2 fun x hx => by
      have ne : x ≠ a := fun e => hn'.1 (by rw [← e]; exact hx)
      exact (List.mem_erase_of_ne ne).mpr (hs x (List.mem_cons_of_mem _ hx))
    rw [List.length_erase_of_mem ha] at ih
    have := List.length_pos_iff.mpr (List.ne_nil_of_mem ha)
    rw [List.length_cons]; omega
theorem nodup_le {row l : List Int} (hn : l.Nodup) (hb : ∀ x ∈ l, 0 ≤ x ∧ x < row.length) : l.length ≤ row.length := by
  have : l.length ≤ (upTo row.length).length := by
    have hs : l ⊆ upTo row.length := fun x hx => mem_upTo.mpr (hb x hx)
    exact nodup_sub_len hn hs
  rwa [upTo_length] at this
theorem Told.tells {row : List Int} {told : List (List Int)} (R : IsRow row) (h : Told row (ringsOf row) (ringsOf row).length told) : Tells row told ∧ Tells row told.reverse := by
  have hl := R.len
  have ob : ∀ x ∈ told.flatten, 0 ≤ x ∧ x < row.length := fun x hx => by
    obtain ⟨t, ht, hx⟩ := List.mem_flatten.mp hx
    exact okRing_bd (h.ok t ht) x hx
  have fl := nodup_le h.nd ob
  have big : ∀ y : Int, 0 ≤ y ∧ y < row.length → gt row y ≠ y → y ∈ told.flatten := fun y hy ny => by
    have hm : y ∈ (ringsOf row).flatten := ((ringsOf_perm R).mem_iff).mpr (mem_upTo.mpr hy)
    obtain ⟨r, hr, hy'⟩ := List.mem_flatten.mp hm
    have ho := ringsOf_okR R hr
    refine h.big r (by rw [List.take_length]; exact hr) ?_ y hy'
    by_cases c : 1 < r.length
    · exact c
    · exact absurd (okRing_one ho (by omega) hy') ny
  have cnt : (ringsOf row).length ≤ row.length := ringsAux_count row row.length
  have hlen := h.len
  have pr : told.reverse.flatten.Perm told.flatten := (List.reverse_perm told).flatten
  refine ⟨⟨h.ok, h.nd, by omega, by omega, rowOf_is h.ok big⟩, ⟨fun t ht => h.ok t (List.mem_reverse.mp ht), pr.nodup_iff.mpr h.nd, by rw [List.length_reverse]; omega, by rw [pr.length_eq]; omega, rowOf_is (fun t ht => h.ok t (List.mem_reverse.mp ht)) fun y hy ny => (pr.mem_iff).mpr (big y hy ny)⟩⟩
theorem ringsOf_tells {row : List Int} (R : IsRow row) : Tells row (ringsOf row) := by
  have hl := R.len
  have cnt : (ringsOf row).length ≤ row.length := ringsAux_count row row.length
  exact ⟨fun t ht => ringsOf_okR R ht, (RO.of R).nd, by omega, by rw [ringsOf_flat R]; omega, rowOf_ringsOf R⟩
end Bo

/-! places, exchanges -/
namespace Bo
open PySem L2
/-- for each thing its place, as places_of makes it -/
def plAux (ns : List Int) : Nat → List Int
  | 0 => ns.map fun _ => 0
  | i + 1 => st (plAux ns i) (gt ns (i : Int)) (i : Int)
def placesOf (ns : List Int) : List Int := plAux ns ns.length
theorem plAux_length (ns : List Int) : ∀ i, (plAux ns i).length = ns.length
  | 0 => by simp [plAux]
  | i + 1 => by show (st _ _ _).length = _; rw [st_length, plAux_length ns i]
theorem placesOf_length (ns : List Int) : (placesOf ns).length = ns.length := plAux_length ns _
theorem plAux_at {ns : List Int} (R : IsRow ns) : ∀ i, i ≤ ns.length → ∀ k : Nat, k < i → gt (plAux ns i) (gt ns (k : Int)) = (k : Int)
  | 0, _, k, hk => absurd hk (Nat.not_lt_zero _)
  | i + 1, hi, k, hk => by
    show gt (st (plAux ns i) (gt ns (i : Int)) (i : Int)) (gt ns (k : Int)) = k
    have bi := gt_bd R (x := (i : Int)) (by omega)
    have bk := gt_bd R (x := (k : Int)) (by omega)
    rw [gt_st (by rw [plAux_length]; exact bi) bk.1]
    by_cases c : k = i
    · subst c; rw [if_pos rfl]
    · have : gt ns (k : Int) ≠ gt ns (i : Int) := fun e => c (by have := gt_inj R (by omega) (by omega) e; omega)
      rw [if_neg this]
      exact plAux_at R i (by omega) k (by omega)
/-- the place of the thing that stands at a place -/
theorem placesOf_gt {ns : List Int} (R : IsRow ns) {x : Int} (h : 0 ≤ x ∧ x < ns.length) : gt (placesOf ns) (gt ns x) = x := by
  have := plAux_at R ns.length (Nat.le_refl _) x.toNat (by omega)
  rwa [show ((x.toNat : Nat) : Int) = x by omega] at this
theorem row_surj {ns : List Int} (R : IsRow ns) {y : Int} (h : 0 ≤ y ∧ y < ns.length) : ∃ x : Int, (0 ≤ x ∧ x < ns.length) ∧ gt ns x = y := by
  have hm : y ∈ (ringsOf ns).flatten := ((ringsOf_perm R).mem_iff).mpr (mem_upTo.mpr h)
  obtain ⟨r, hr, hy⟩ := List.mem_flatten.mp hm
  have ho := ringsOf_okR R hr
  obtain ⟨k, hk, e⟩ := mem_getD hy
  refine ⟨gt r ((k : Int) - 1), gt_pred_bd ho hk, ?_⟩
  rw [okRing_at ho hk, gt_nat, e]
theorem gt_placesOf {ns : List Int} (R : IsRow ns) {y : Int} (h : 0 ≤ y ∧ y < ns.length) : (0 ≤ gt (placesOf ns) y ∧ gt (placesOf ns) y < ns.length) ∧ gt ns (gt (placesOf ns) y) = y := by
  obtain ⟨x, hx, e⟩ := row_surj R h
  rw [← e, placesOf_gt R hx]
  exact ⟨hx, rfl⟩
theorem row_mem {ns : List Int} (R : IsRow ns) {y : Int} (h : 0 ≤ y ∧ y < ns.length) : y ∈ ns := by
  obtain ⟨x, hx, e⟩ := row_surj R h
  rw [← e]; exact gt_mem (by omega) (by omega)
theorem row_perm {ns : List Int} (R : IsRow ns) : ns.Perm (upTo ns.length) :=
  perm_of_mem R.nd (upTo_nodup _) fun x => ⟨fun h => mem_upTo.mpr (R.bd x h), fun h => row_mem R (mem_upTo.mp h)⟩
theorem order_all (ns : List Int) : ((List.range ns.length).map fun i : Nat => decide (gt ns (i : Int) = (i : Int))).all id = decide (ns = upTo ns.length) := by
  rw [List.all_map, Bool.eq_iff_iff, List.all_eq_true, decide_eq_true_eq]
  constructor
  · intro h
    refine ext_gt (upTo_length _).symm fun y hy => ?_
    rw [upTo_length] at hy
    have := h y.toNat (List.mem_range.mpr (by omega))
    have := of_decide_eq_true this
    rw [show ((y.toNat : Nat) : Int) = y by omega] at this
    rw [this, gt_upTo hy]
  · intro h i hi
    have hi' := List.mem_range.mp hi
    show decide (gt ns (i : Int) = (i : Int)) = true
    rw [h, decide_eq_true_eq]
    exact gt_upTo (by omega)
/-! ### exchanges -/
def swap (f : List Int) (p : Int × Int) : List Int := st (st f p.1 (gt f p.2)) p.2 (gt f p.1)
def swapOk (n : Nat) (p : Int × Int) : Bool := decide (0 ≤ p.1) && (decide (p.1 < p.2) && decide (p.2 < n))
theorem swap_length (f : List Int) (p : Int × Int) : (swap f p).length = f.length := by unfold swap; rw [st_length, st_length]
theorem swaps_length : ∀ (ps : List (Int × Int)) (f : List Int), (ps.foldl swap f).length = f.length
  | [], f => rfl
  | p :: ps, f => by rw [List.foldl_cons, swaps_length ps, swap_length]
/-- the row behind exchanges; an empty one for what are none -/
def exL (ns : List Int) (ps : List (Int × Int)) : List Int := if ps.all (swapOk ns.length) = true then ps.foldl swap ns else []
/-- what Exchanged's shows says -/
def exShows (ns : List Int) (ps : List (Int × Int)) (rs : List (List Int)) : Bool := ps.all (swapOk ns.length) && (decide (ps.foldl swap ns = upTo ns.length) && (ringed ns rs && decide ((rs.length : Int) + ps.length = ns.length)))
theorem exDue {ns : List Int} {ps : List (Int × Int)} {rs : List (List Int)} : exShows ns ps rs = ((decide (exL ns ps = upTo ns.length) || decide (ns = [])) && (ringed ns rs && decide ((ps.length : Int) + rs.length = ns.length))) := by
  unfold exShows exL
  have e : decide ((rs.length : Int) + ps.length = ns.length) = decide ((ps.length : Int) + rs.length = ns.length) := by
    rw [Int.add_comm]
  rw [e]
  cases hA : ps.all (swapOk ns.length) with
  | true =>
    rw [if_pos rfl, Bool.true_and]
    by_cases hn : ns = []
    · subst hn
      have : ps.foldl swap [] = upTo ([] : List Int).length := List.eq_nil_of_length_eq_zero (by rw [swaps_length]; rfl)
      rw [decide_eq_true this]; rfl
    · rw [decide_eq_false hn, Bool.or_false]
  | false =>
    rw [if_neg Bool.false_ne_true, Bool.false_and]
    by_cases hn : ns = []
    · subst hn
      have hp : ps ≠ [] := by rintro rfl; simp at hA
      have : decide ((ps.length : Int) + rs.length = (([] : List Int).length : Nat)) = false := decide_eq_false (by
        have := List.length_pos_iff.mpr hp
        simp; omega)
      rw [this, Bool.and_false, Bool.and_false]
    · have : ([] : List Int) ≠ upTo ns.length := fun e => hn (List.eq_nil_of_length_eq_zero (by rw [← upTo_length ns.length, ← e]; rfl))
      rw [decide_eq_false this, decide_eq_false hn]; rfl
end Bo

/-! a row done often; the fewest exchanges -/
namespace Bo
open PySem L2
def it (ns : List Int) : Nat → Int → Int
  | 0, x => x
  | m + 1, x => gt ns (it ns m x)
theorem it_add (ns : List Int) : ∀ (a b : Nat) (x : Int), it ns (a + b) x = it ns a (it ns b x)
  | 0, b, x => by rw [Nat.zero_add]; rfl
  | a + 1, b, x => by
    rw [Nat.succ_add]
    show gt ns (it ns (a + b) x) = gt ns (it ns a (it ns b x))
    rw [it_add ns a b x]
theorem it_mod (ns : List Int) {k : Nat} {x : Int} (hk : 0 < k) (e : it ns k x = x) : ∀ m, it ns m x = it ns (m % k) x := by
  intro m
  induction m using Nat.strongRecOn with
  | _ m ih =>
    by_cases c : m < k
    · rw [Nat.mod_eq_of_lt c]
    · have h := ih (m - k) (by omega)
      rw [show m = (m - k) + k by omega, it_add, e, h, Nat.add_mod_right]
theorem ring_it {row r : List Int} (h : okRing row r = true) {a : Nat} (ha : a < r.length) : ∀ m, it row m (r.getD a 0) = r.getD ((a + m) % r.length) 0
  | 0 => by rw [Nat.add_zero, Nat.mod_eq_of_lt ha]; rfl
  | m + 1 => by
    show gt row (it row m _) = _
    have hm : (a + m) % r.length < r.length := Nat.mod_lt _ (by omega)
    rw [ring_it h ha m, (okRing_iff.mp h).2.2 _ hm, ← Nat.add_assoc, ← Nat.mod_add_mod (a + m) r.length 1]
    by_cases c : (a + m) % r.length + 1 < r.length
    · rw [if_pos c, Nat.mod_eq_of_lt c]
    · rw [if_neg c, show (a + m) % r.length + 1 = r.length by omega, Nat.mod_self]
/-- the greatest of its ring -/
def isTop (ns : List Int) (x : Int) : Prop := ∀ m, it ns m x ≤ x
def topOf (l : List Int) : Int := l.foldr max 0
theorem topOf_le : ∀ {l : List Int} {x : Int}, x ∈ l → x ≤ topOf l
  | [], x, h => by simp at h
  | a :: r, x, h => by
    show x ≤ max a (topOf r)
    rcases List.mem_cons.mp h with rfl | h
    · omega
    · have := topOf_le h; omega
theorem topOf_mem : ∀ {l : List Int}, l ≠ [] → (∀ x ∈ l, 0 ≤ x) → topOf l ∈ l
  | [], h, _ => absurd rfl h
  | [a], _, h => by
    show max a 0 ∈ [a]
    have := h a (by simp)
    rw [show max a 0 = a by omega]; simp
  | a :: b :: r, _, h => by
    show max a (topOf (b :: r)) ∈ a :: b :: r
    have ih := topOf_mem (l := b :: r) (by simp) fun x hx => h x (List.mem_cons_of_mem _ hx)
    by_cases c : a ≤ topOf (b :: r)
    · rw [show max a (topOf (b :: r)) = topOf (b :: r) by omega]; exact List.mem_cons_of_mem _ ih
    · rw [show max a (topOf (b :: r)) = a by omega]; simp
theorem tops_nodup : ∀ {rs : List (List Int)}, rs.flatten.Nodup → (∀ r ∈ rs, topOf r ∈ r) → (rs.map topOf).Nodup
  | [], _, _ => List.nodup_nil
  | r :: rs, hn, h => by
    rw [List.flatten_cons, List.nodup_append] at hn
    rw [List.map_cons, List.nodup_cons]
    refine ⟨fun hm => ?_, tops_nodup hn.2.1 fun x hx => h x (List.mem_cons_of_mem _ hx)⟩
    obtain ⟨r', hr', e⟩ := List.mem_map.mp hm
    have h1 := h r (by simp)
    have h2 := h r' (List.mem_cons_of_mem _ hr')
    exact hn.2.2 _ h1 _ (List.mem_flatten.mpr ⟨r', hr', h2⟩) e.symm
theorem tops_mem {ns : List Int} (R : IsRow ns) (x : Int) : x ∈ (ringsOf ns).map topOf ↔ (0 ≤ x ∧ x < ns.length) ∧ isTop ns x := by
  have tm : ∀ r ∈ ringsOf ns, topOf r ∈ r := fun r hr => topOf_mem (okRing_ne (ringsOf_okR R hr)) fun x hx => (okRing_bd (ringsOf_okR R hr) x hx).1
  constructor
  · intro h
    obtain ⟨r, hr, rfl⟩ := List.mem_map.mp h
    have ok := ringsOf_okR R hr
    refine ⟨okRing_bd ok _ (tm r hr), fun m => ?_⟩
    obtain ⟨a, ha, e⟩ := mem_getD (tm r hr)
    have := ring_it ok ha m
    rw [e] at this
    rw [this]
    exact topOf_le (getD_mem (Nat.mod_lt _ (by omega)))
  · rintro ⟨hb, ht⟩
    have hm : x ∈ (ringsOf ns).flatten := ((ringsOf_perm R).mem_iff).mpr (mem_upTo.mpr hb)
    obtain ⟨r, hr, hx⟩ := List.mem_flatten.mp hm
    have ok := ringsOf_okR R hr
    obtain ⟨a, ha, e⟩ := mem_getD hx
    obtain ⟨b, hb2, e2⟩ := mem_getD (tm r hr)
    have := ring_it ok ha (b + r.length - a)
    rw [show a + (b + r.length - a) = b + r.length by omega, Nat.add_mod_right, Nat.mod_eq_of_lt hb2, e, e2] at this
    have h1 := ht (b + r.length - a)
    rw [this] at h1
    have h2 := topOf_le hx
    exact List.mem_map.mpr ⟨r, hr, by omega⟩
theorem tops_count {ns tops : List Int} (R : IsRow ns) (hn : tops.Nodup) (hm : ∀ x, x ∈ tops ↔ (0 ≤ x ∧ x < ns.length) ∧ isTop ns x) : (ringsOf ns).length = tops.length := by
  have fl : (ringsOf ns).flatten.Nodup := (ringsOf_perm R).symm.nodup (upTo_nodup _)
  have tm : ∀ r ∈ ringsOf ns, topOf r ∈ r := fun r hr => topOf_mem (okRing_ne (ringsOf_okR R hr)) fun x hx => (okRing_bd (ringsOf_okR R hr) x hx).1
  have := (perm_of_mem (tops_nodup fl tm) hn fun x => (tops_mem R x).trans (hm x).symm).length_eq
  rw [List.length_map] at this
  exact this
/-- found, places, pairs, after so many turns of exchanged -/
structure XS where
  f : List Int
  pl : List Int
  ps : List (Int × Int)
def exStep (i : Int) (s : XS) : XS := if gt s.f i = i then s else ⟨st s.f (gt s.pl i) (gt s.f i), st s.pl (gt s.f i) (gt s.pl i), s.ps ++ [(i, gt s.pl i)]⟩
def exAux (ns : List Int) : Nat → XS
  | 0 => ⟨ns, placesOf ns, []⟩
  | i + 1 => exStep i (exAux ns i)
def exPairs (ns : List Int) : List (Int × Int) := (exAux ns ns.length).ps
structure XI (ns : List Int) (i : Nat) (s : XS) : Prop where
  fl : s.f.length = ns.length
  pll : s.pl.length = ns.length
  ok : s.ps.all (swapOk ns.length) = true
  dn : ∀ j : Int, 0 ≤ j ∧ j < i → gt (s.ps.foldl swap ns) j = j
  ff : ∀ j : Int, i ≤ j ∧ j < ns.length → gt s.f j = gt (s.ps.foldl swap ns) j
  pp : ∀ x : Int, i ≤ x ∧ x < ns.length → (i ≤ gt s.pl x ∧ gt s.pl x < ns.length) ∧ gt (s.ps.foldl swap ns) (gt s.pl x) = x
  qq : ∀ x : Int, i ≤ x ∧ x < ns.length → (i ≤ gt (s.ps.foldl swap ns) x ∧ gt (s.ps.foldl swap ns) x < ns.length) ∧ gt s.pl (gt (s.ps.foldl swap ns) x) = x
  fr : ∀ x : Int, i ≤ x ∧ x < ns.length → ∃ k, 0 < k ∧ it ns k x = gt (s.ps.foldl swap ns) x ∧ ∀ m, 0 < m → m < k → it ns m x < i
  ct : ∃ tops : List Int, tops.Nodup ∧ (∀ x, x ∈ tops ↔ (0 ≤ x ∧ x < i) ∧ isTop ns x) ∧ s.ps.length + tops.length = i
theorem XI.zero {ns : List Int} (R : IsRow ns) : XI ns 0 ⟨ns, placesOf ns, []⟩ where
  fl := rfl
  pll := placesOf_length ns
  ok := rfl
  dn := fun j h => by omega
  ff := fun j h => rfl
  pp := fun x h => by
    have := gt_placesOf R (y := x) (by omega)
    exact ⟨⟨by simpa using this.1.1, this.1.2⟩, this.2⟩
  qq := fun x h => by
    have := gt_bd R (x := x) (by omega)
    exact ⟨⟨by simpa using this.1, this.2⟩, placesOf_gt R (by omega)⟩
  fr := fun x h => ⟨1, by omega, rfl, fun m h1 h2 => by omega⟩
  ct := ⟨[], List.nodup_nil, fun x => by simp; omega, rfl⟩
theorem XI.step {ns : List Int} {i : Nat} {s : XS} (I : XI ns i s) (hi : i < ns.length) : XI ns (i + 1) (exStep i s) := by
  obtain ⟨f, pl, ps⟩ := s
  obtain ⟨fl, pll, ok, dn, ff, pp, qq, fr, ct⟩ := I
  dsimp only at fl pll ok dn ff pp qq fr ct
  generalize hg : ps.foldl swap ns = g at dn ff pp qq fr
  have gl : g.length = ns.length := by rw [← hg]; exact swaps_length _ _
  have hfi : gt f (i : Int) = gt g (i : Int) := ff i (by omega)
  obtain ⟨tops, tn, tm, tl⟩ := ct
  unfold exStep
  by_cases c : gt f (i : Int) = i
  · rw [if_pos c]
    rw [hfi] at c
    refine ⟨fl, pll, ok, ?_, ?_, ?_, ?_, ?_, ?_⟩ <;> dsimp only <;> (try rw [hg])
    · intro j hj
      by_cases e : j = i
      · rw [e]; exact c
      · exact dn j (by omega)
    · intro j hj; exact ff j (by omega)
    · intro x hx
      obtain ⟨a, b⟩ := pp x (by omega)
      refine ⟨⟨?_, a.2⟩, b⟩
      have : gt pl x ≠ i := fun e => by rw [e, c] at b; omega
      omega
    · intro x hx
      obtain ⟨a, b⟩ := qq x (by omega)
      refine ⟨⟨?_, a.2⟩, b⟩
      have : gt g x ≠ i := fun e => by
        have h1 := (qq i (by omega)).2
        rw [c] at h1
        rw [e, h1] at b; omega
      omega
    · intro x hx
      obtain ⟨k, k0, e, h⟩ := fr x (by omega)
      exact ⟨k, k0, e, fun m h1 h2 => by have := h m h1 h2; omega⟩
    · refine ⟨tops ++ [(i : Int)], ?_, ?_, by simp; omega⟩
      · rw [List.nodup_append]
        refine ⟨tn, by simp, fun a ha b hb e => ?_⟩
        have := ((tm a).mp ha).1
        simp at hb; omega
      · obtain ⟨k, k0, e, h⟩ := fr i (by omega)
        rw [c] at e
        have top : isTop ns i := fun m => by
          rw [it_mod ns k0 e m]
          have := Nat.mod_lt m k0
          by_cases z : m % k = 0
          · rw [z]; exact Int.le_refl _
          · have := h (m % k) (by omega) this; omega
        intro x
        rw [List.mem_append, tm x]
        constructor
        · rintro (⟨a, b⟩ | a)
          · exact ⟨by omega, b⟩
          · have : x = i := by simpa using a
            subst this
            exact ⟨by omega, top⟩
        · rintro ⟨a, b⟩
          by_cases e : x = i
          · right; simp [e]
          · left; exact ⟨by omega, b⟩
  · rw [if_neg c]
    rw [hfi] at c
    obtain ⟨ob, og⟩ := pp i (by omega)
    obtain ⟨tb, tg⟩ := qq i (by omega)
    have on : gt pl (i : Int) ≠ i := fun e => by rw [e] at og; exact c og
    have ne2 : ∀ x : Int, x ≠ i → gt g x = i → i ≤ x ∧ x < ns.length → x = gt pl (i : Int) := fun x _ e hx => by
      have := (qq x hx).2; rw [e] at this; exact this.symm
    rw [hfi]
    generalize ho : gt pl (i : Int) = o at *
    generalize ht : gt g (i : Int) = t at *
    have hg' : (ps ++ [((i : Int), o)]).foldl swap ns = st (st g i i) o t := by
      rw [List.foldl_append, hg]
      show st (st g i (gt g o)) o (gt g i) = _
      rw [og, ht]
    have g' : ∀ y : Int, 0 ≤ y → gt (st (st g i i) o t) y = if y = o then t else if y = i then (i : Int) else gt g y := fun y hy => by
      rw [gt_st (by rw [st_length]; omega) hy, gt_st (by omega) hy]
    have f' : ∀ y : Int, 0 ≤ y → gt (st f o t) y = if y = o then t else gt f y := fun y hy => gt_st (by omega) hy
    have p' : ∀ y : Int, 0 ≤ y → gt (st pl t o) y = if y = t then o else gt pl y := fun y hy => gt_st (by omega) hy
    refine ⟨?_, ?_, ?_, ?_, ?_, ?_, ?_, ?_, ?_⟩ <;> dsimp only <;> (try rw [hg'])
    · rw [st_length]; exact fl
    · rw [st_length]; exact pll
    · rw [List.all_append, ok]
      show (true && (swapOk ns.length ((i : Int), o) && true)) = true
      unfold swapOk
      rw [decide_eq_true (show (0 : Int) ≤ i by omega), decide_eq_true (show (i : Int) < o by omega), decide_eq_true (show o < ns.length by omega)]; rfl
    · intro j hj
      rw [g' j hj.1, if_neg (by omega)]
      by_cases e : j = i
      · rw [if_pos e, e]
      · rw [if_neg e]; exact dn j (by omega)
    · intro j hj
      rw [g' j (by omega), f' j (by omega), if_neg (show j ≠ i by omega)]
      by_cases e : j = o
      · rw [if_pos e, if_pos e]
      · rw [if_neg e, if_neg e]; exact ff j (by omega)
    · intro x hx
      rw [p' x (by omega)]
      by_cases e : x = t
      · rw [if_pos e, g' o (by omega), if_pos rfl]
        exact ⟨⟨by omega, by omega⟩, e.symm⟩
      · rw [if_neg e]
        obtain ⟨a, b⟩ := pp x (by omega)
        have h1 : gt pl x ≠ i := fun z => by rw [z, ht] at b; exact e b.symm
        have h2 : gt pl x ≠ o := fun z => by rw [z, og] at b; omega
        rw [g' _ (by omega), if_neg h2, if_neg h1]
        exact ⟨⟨by omega, a.2⟩, b⟩
    · intro x hx
      rw [g' x (by omega), if_neg (show x ≠ i by omega)]
      by_cases e : x = o
      · rw [if_pos e, p' t (by omega), if_pos rfl]
        exact ⟨⟨by omega, by omega⟩, e.symm⟩
      · rw [if_neg e]
        obtain ⟨a, b⟩ := qq x (by omega)
        have h1 : gt g x ≠ i := fun z => e (ne2 x (by omega) z (by omega))
        have h2 : gt g x ≠ t := fun z => by rw [z, tg] at b; omega
        rw [p' _ (by omega), if_neg h2]
        exact ⟨⟨by omega, a.2⟩, b⟩
    · intro x hx
      rw [g' x (by omega), if_neg (show x ≠ i by omega)]
      by_cases e : x = o
      · rw [if_pos e]
        obtain ⟨k1, k10, e1, h1⟩ := fr x (by omega)
        obtain ⟨k2, k20, e2, h2⟩ := fr i (by omega)
        rw [e, og] at e1
        rw [ht] at e2
        refine ⟨k2 + k1, by omega, by rw [it_add, e, e1, e2], fun m m0 hm => ?_⟩
        by_cases c1 : m < k1
        · have := h1 m m0 c1; omega
        · by_cases c2 : m = k1
          · rw [c2, e, e1]; omega
          · have := h2 (m - k1) (by omega) (by omega)
            rw [show m = (m - k1) + k1 by omega, it_add, e, e1]; omega
      · rw [if_neg e]
        obtain ⟨k, k0, e, h⟩ := fr x (by omega)
        exact ⟨k, k0, e, fun m h1 h2 => by have := h m h1 h2; omega⟩
    · refine ⟨tops, tn, fun x => ?_, by simp; omega⟩
      rw [tm x]
      constructor
      · rintro ⟨a, b⟩; exact ⟨by omega, b⟩
      · rintro ⟨a, b⟩
        refine ⟨?_, b⟩
        have : x ≠ i := fun e => by
          subst e
          obtain ⟨k, k0, e, h⟩ := fr i (by omega)
          have := b k
          rw [e, ht] at this; omega
        omega
theorem XI.all {ns : List Int} (R : IsRow ns) : ∀ i, i ≤ ns.length → XI ns i (exAux ns i)
  | 0, _ => XI.zero R
  | i + 1, h => (XI.all R i (by omega)).step (by omega)
theorem exPairs_len {ns : List Int} (R : IsRow ns) : (ringsOf ns).length + (exPairs ns).length = ns.length := by
  obtain ⟨tops, tn, tm, tl⟩ := (XI.all R _ (Nat.le_refl _)).ct
  rw [tops_count R tn tm]
  unfold exPairs; omega
theorem exPairs_shows {ns : List Int} (R : IsRow ns) : exShows ns (exPairs ns) (ringsOf ns) = true := by
  have I := XI.all R _ (Nat.le_refl _)
  have e : (exPairs ns).foldl swap ns = upTo ns.length := ext_gt (by rw [swaps_length, upTo_length]) fun y hy => by
    rw [upTo_length] at hy
    rw [gt_upTo hy]; exact I.dn y hy
  have l := exPairs_len R
  unfold exShows
  rw [show (exPairs ns).all (swapOk ns.length) = true from I.ok, decide_eq_true e, ringsOf_ringed R, decide_eq_true (by omega)]
  rfl
theorem isAll_len {l : List Int} {n : Nat} (h : isAll l n = true) : l.length = n := by
  unfold isAll at h
  have := (of_decide_eq_true h).length_eq
  rwa [upTo_length] at this
theorem ringed_len {row : List Int} {told : List (List Int)} (h : told.flatten.length ≠ row.length) : ringed row told = false := by
  unfold ringed
  rw [show isAll told.flatten row.length = false from Bool.eq_false_iff.mpr fun z => h (isAll_len z), Bool.and_false]
theorem exShows_len {row : List Int} {ps : List (Int × Int)} {told : List (List Int)} (h : told.flatten.length ≠ row.length) : exShows row ps told = false := by
  unfold exShows
  rw [ringed_len h, Bool.false_and, Bool.and_false, Bool.and_false]
end Bo

/-! answers as objects -/
namespace Bo
open PySem PySem.Spec PyProof.Rows L2
theorem okRing_split (ns r : List Int) : okRing ns r = (isRing r (ns.length : Nat) && (List.range r.length).all fun k => decide (gt ns (gt r ((k : Int) - 1)) = gt r (k : Int))) := by
  unfold okRing isRing
  have e : (fun x : Int => decide (0 ≤ x) && decide (x < (ns.length : Int))) = fun x => isNum (.int x) 0 ((ns.length : Int) - 1) := by
    funext x
    rw [isNum_int, show decide (x ≤ (ns.length : Int) - 1) = decide (x < (ns.length : Int)) from decide_eq_decide.mpr (by omega)]
  rw [e]
theorem isRing_bd {r : List Int} {n : Nat} (h : isRing r (n : Nat) = true) : ∀ x ∈ r, 0 ≤ x ∧ x < (n : Int) := fun x hx => by
  unfold isRing at h
  rw [Bool.and_eq_true, List.all_eq_true] at h
  have := h.2 x hx
  rw [isNum_int, Bool.and_eq_true, decide_eq_true_eq, decide_eq_true_eq] at this
  omega
theorem exAux_skip {ns : List Int} {i : Nat} (h : gt (exAux ns i).f (i : Int) = i) : exAux ns (i + 1) = exAux ns i := if_pos h
theorem exAux_go {ns : List Int} {i : Nat} (h : ¬ gt (exAux ns i).f (i : Int) = i) : exAux ns (i + 1) = ⟨st (exAux ns i).f (gt (exAux ns i).pl i) (gt (exAux ns i).f i), st (exAux ns i).pl (gt (exAux ns i).f i) (gt (exAux ns i).pl i), (exAux ns i).ps ++ [((i : Int), gt (exAux ns i).pl i)]⟩ := if_neg h
theorem News.nlst {H1 H2 : Hp} {ts : List Addr} {ps : List (Int × Int)} (n : News H1 H2 oP ts ps) {p : Addr} {xs : List V} (h : H2 p = some (.lst xs)) : p ∉ ts := fun hm => by
  obtain ⟨x, _, _, e⟩ := n.mem hm
  rw [h] at e; cases e
theorem Tf.nlst {H : Hp} {ts : List Addr} {ps : List (Int × Int)} (n : Tf H ts ps) {p : Addr} {xs : List V} (h : H p = some (.lst xs)) : p ∉ ts := fun hm => by
  obtain ⟨i, hi, e⟩ := List.getElem_of_mem hm
  have hj : i < ps.length := by rw [← n.1]; exact hi
  have := n.2 i p ps[i] (by rw [List.getElem?_eq_getElem hi, e]) (List.getElem?_eq_getElem hj)
  rw [h] at this; cases this
theorem Tf.mut {H : Hp} {ts : List Addr} {ps : List (Int × Int)} (n : Tf H ts ps) {p : Addr} {xs : List V} {o : HO} (h : H p = some (.lst xs)) : Tf (upd H p o) ts ps := ⟨n.1, fun i t q a b => by
  have ne : t ≠ p := fun e => n.nlst h (by rw [← e]; exact List.mem_of_getElem? a)
  rw [upd_ne ne]; exact n.2 i t q a b⟩
theorem Lf.mut {H : Hp} {bs : List Addr} {rs : List (List Int)} (n : Lf H bs rs) {p : Addr} {o : HO} (h : p ∉ bs) : Lf (upd H p o) bs rs := ⟨n.1, fun i t q a b => by
  have ne : t ≠ p := fun e => h (by rw [← e]; exact List.mem_of_getElem? a)
  rw [upd_ne ne]; exact n.2 i t q a b⟩
theorem Lf.snoc {H : Hp} {bs : List Addr} {rs : List (List Int)} (n : Lf H bs rs) {p : Addr} {r : List Int} (h : H p = some (oL r)) : Lf H (bs ++ [p]) (rs ++ [r]) := ⟨by rw [List.length_append, List.length_append, n.1]; rfl, fun i t q a b => by
  by_cases c : i < bs.length
  · rw [List.getElem?_append_left c] at a
    rw [List.getElem?_append_left (by rw [← n.1]; exact c)] at b
    exact n.2 i t q a b
  · rw [List.getElem?_append_right (by omega)] at a
    rw [List.getElem?_append_right (by rw [← n.1]; omega)] at b
    have e : i - bs.length = 0 := by
      cases z : i - bs.length with
      | zero => rfl
      | succ m => rw [z] at a; simp at a
    rw [e] at a
    rw [← n.1, e] at b
    have a' : p = t := by simpa using a
    have b' : r = q := by simpa using b
    rw [← a', ← b']; exact h⟩
theorem Lf.put {H : Hp} {bs : List Addr} {rs : List (List Int)} (n : Lf H bs rs) (nd : bs.Nodup) {k : Nat} {p : Addr} {r' : List Int} (hk : bs[k]? = some p) : Lf (upd H p (oL r')) bs (rs.set k r') := ⟨by rw [List.length_set]; exact n.1, fun i t q a b => by
  have hkl : k < rs.length := by rw [← n.1]; exact (List.getElem?_eq_some_iff.mp hk).1
  by_cases c : i = k
  · subst c
    rw [List.getElem?_set_self hkl] at b
    rw [hk] at a
    have a' : p = t := Option.some.inj a
    have b' : r' = q := Option.some.inj b
    rw [← a', ← b']; exact upd_same
  · rw [List.getElem?_set_ne (Ne.symm c)] at b
    have ne : t ≠ p := fun e => by
      subst e
      exact c (nd_ix nd a hk)
    rw [upd_ne ne]; exact n.2 i t q a b⟩
theorem flat_put : ∀ {rs : List (List Int)} {k : Nat} {r : List Int}, rs[k]? = some r → (rs.set k (r ++ [0])).flatten.length = rs.flatten.length + 1
  | [], k, r, h => by simp at h
  | x :: rs, 0, r, h => by
    have : x = r := Option.some.inj h
    subst this
    simp; omega
  | x :: rs, k + 1, r, h => by
    have := flat_put (rs := rs) (k := k) (r := r) h
    rw [List.set_cons_succ, List.flatten_cons, List.flatten_cons, List.length_append, List.length_append, this]; omega
theorem ne_kind {H : Hp} {x y : Addr} {o o' : HO} (h : H x = some o) (h' : H y = some o') (n : o ≠ o') : x ≠ y := fun e => by
  subst e; rw [h] at h'; exact n (Option.some.inj h')
theorem m_popS {α : Type} {H : Hp} {Q : VK} {l : Addr} {f : α → V} {xs : List α} {y : α} (h : H l = some (.lst ((xs ++ [y]).map f))) (q : Q (f y) (upd H l (.lst (xs.map f)))) : rPop (.ref l) [] H Q :=
  ⟨l, (xs ++ [y]).map f, f y, rfl, rfl, h, by simp, by rw [List.map_append]; show Q (f y) (upd H l (.lst ((xs.map f ++ [f y]).dropLast))); rw [List.dropLast_concat]; exact q⟩
theorem o_notB {H : Hp} {Q : VK} {a b : Bool} (q : Q (.bl (!decide (a = b))) H) : rNotB (.bl a) (.bl b) H Q := ⟨a, b, rfl, rfl, q⟩
theorem c_isiO {K : PySem.W.Frag} {H : Hp} {Q : VK} {x : V} {C D : Addr} {b : Bool} (ty : TyX K H x (.ref C)) (e : PySem.W.kitOne K (.ref C) (.ref D) = some b) (q : Q (.bl b) H) : rIsi K [x, .ref D] H Q := ⟨x, .ref D, _, _, b, rfl, .own D, ty, e, q⟩
/-! ### what an Exchanged holds -/
def exF (pp pr : Addr) : List (Str × V) := putF "rings" (.ref pr) (putF "pairs" (.ref pp) [])
theorem exF_pairs (pp pr : Addr) : (exF pp pr).lookup ("pairs" : Str) = some (V.ref pp) := by unfold exF; rw [lookup_putF, if_neg (by decide), lookup_putF, if_pos rfl]
theorem exF_rings (pp pr : Addr) : (exF pp pr).lookup ("rings" : Str) = some (V.ref pr) := by unfold exF; rw [lookup_putF, if_pos rfl]
theorem exF_none {m : Str} (pp pr : Addr) (h1 : m ≠ ("rings" : Str)) (h2 : m ≠ ("pairs" : Str)) : (exF pp pr).lookup m = none := by unfold exF; rw [lookup_putF, if_neg h1, lookup_putF, if_neg h2]; rfl
structure ExA (C : Addr) (H : Hp) (x pp pr : Addr) (ts bs : List Addr) (ps : List (Int × Int)) (rs : List (List Int)) : Prop where
  ob : ∃ dx, H x = some (.ins C dx (exF pp pr))
  hp : H pp = some (.lst (ts.map V.ref))
  hr : H pr = some (.lst (bs.map V.ref))
  tf : Tf H ts ps
  lf : Lf H bs rs
theorem ExA.same {C : Addr} {H H' : Hp} {x pp pr : Addr} {ts bs : List Addr} {ps : List (Int × Int)} {rs : List (List Int)} (h : ExA C H x pp pr ts bs ps rs) (s : Same H H') : ExA C H' x pp pr ts bs ps rs where
  ob := by obtain ⟨dx, e⟩ := h.ob; exact ⟨dx, s _ _ e⟩
  hp := s _ _ h.hp
  hr := s _ _ h.hr
  tf := h.tf.same s
  lf := h.lf.same s
section
variable {C : Addr} {H : Hp} {x pp pr : Addr} {ts bs : List Addr} {ps : List (Int × Int)} {rs : List (List Int)}
theorem ExA.setR (O : ExA C H x pp pr ts bs ps rs) (npe : pp ≠ pr) {bs' : List Addr} {rs' : List (List Int)} (L : Lf H bs' rs') (nm : pr ∉ bs') : ExA C (upd H pr (.lst (bs'.map V.ref))) x pp pr ts bs' ps rs' where
  ob := by obtain ⟨dx, e⟩ := O.ob; exact ⟨dx, lift_ne e (ne_kind e O.hr (fun z => by cases z))⟩
  hp := lift_ne O.hp npe
  hr := upd_same
  tf := O.tf.mut O.hr
  lf := L.mut nm
theorem ExA.setB (O : ExA C H x pp pr ts bs ps rs) (m1 : pp ∉ bs) (m2 : pr ∉ bs) (nd : bs.Nodup) {k : Nat} {p : Addr} {r r' : List Int} (hk : bs[k]? = some p) (hr : H p = some (oL r)) : ExA C (upd H p (oL r')) x pp pr ts bs ps (rs.set k r') where
  ob := by obtain ⟨dx, e⟩ := O.ob; exact ⟨dx, lift_ne e (ne_kind e hr (fun z => by cases z))⟩
  hp := lift_ne O.hp (fun e => m1 (by rw [e]; exact List.mem_of_getElem? hk))
  hr := lift_ne O.hr (fun e => m2 (by rw [e]; exact List.mem_of_getElem? hk))
  tf := O.tf.mut hr
  lf := O.lf.put nd hk
end
end Bo

namespace Bo
open PySem PySem.Spec PyProof.Rows L2
section
variable {K : PySem.W.Frag} {σ : L2.St} {H : Hp} {Q : VK} {te : TE} {j : Nat} {vs : List Nat}
/-- elements that are new objects, over a range -/
theorem k_lcR2N {lo n : Int} (obj : Int → HO) (z : 0 ≤ lo ∧ lo ≤ 1000000 ∧ -1 ≤ n ∧ n < 1000000) (hw : ∀ v : V, wipe ((wipe σ vs).set j (some v)) vs = wipe σ vs)
    (hs : ∀ (i : Nat) (H2 : Hp) (R : VK), lo + (i : Int) < n → Same H H2 → (∀ p H3, H2 p = none → Same H2 H3 → H3 p = some (obj (lo + i)) → R (.ref p) H3) → te ((wipe σ vs).set j (some (.int (lo + (i : Nat))))) H2 R)
    (hd : ∀ D as H2, H D = none → Same H H2 → News H H2 obj as ((List.range (n - lo).toNat).map fun i : Nat => lo + i) → D ∉ as → H2 D = some (.lst (as.map V.ref)) → Q (.ref D) H2) : KCR2 (gName j) tYes te vs σ Q [.int lo, .int n] H := by
  refine ⟨lo, n, rfl, by omega, fun D nD => ?_⟩
  refine lc_range (lo := lo) (n := (n - lo).toNat) (fun i H2 => Same H H2 ∧ ∃ as, News H H2 obj as ((List.range i).map fun i : Nat => lo + i) ∧ D ∉ as ∧ H2 D = some (.lst (as.map V.ref))) ⟨Same.one nD, [], News.nil, by simp, upd_same⟩ (fun i H2 hi p => ⟨hw _, ?_⟩) (fun H2 ⟨p1, as, n1, p2, p3⟩ => hd D as H2 nD p1 n1 p2 p3)
  obtain ⟨p1, as, n1, p2, p3⟩ := p
  have la := n1.len
  rw [List.length_map, List.length_range] at la
  refine tYes_ok (iteT ?_)
  refine hs i H2 _ (by omega) p1 fun p H4 np s4 hp => ?_
  have e : D ≠ p := neo np p3
  refine ⟨_, s4 _ _ p3, ?_, Same.new (p1.trans s4) nD, as ++ [p], ?_, nm_snoc p2 e, by rw [upd_same, List.map_append]; rfl⟩
  · rw [List.length_map, la]
    exact Nat.lt_of_lt_of_le (show i < 1000002 by omega) (by decide)
  · rw [List.range_succ, List.map_append]
    exact ((n1.same s4).snoc (n1.notin np) (p1.free np) hp).mut (nm_snoc p2 e)
theorem k_lcR1N {n : Int} (obj : Int → HO) (z : 0 ≤ n ∧ n < 1000000) (hw : ∀ v : V, wipe ((wipe σ vs).set j (some v)) vs = wipe σ vs)
    (hs : ∀ (i : Nat) (H2 : Hp) (R : VK), (i : Int) < n → Same H H2 → (∀ p H3, H2 p = none → Same H2 H3 → H3 p = some (obj (i : Int)) → R (.ref p) H3) → te ((wipe σ vs).set j (some (.int (i : Nat)))) H2 R)
    (hd : ∀ D as H2, H D = none → Same H H2 → News H H2 obj as ((List.range n.toNat).map Int.ofNat) → D ∉ as → H2 D = some (.lst (as.map V.ref)) → Q (.ref D) H2) : KCR1 (gName j) tYes te vs σ Q [.int n] H := by
  refine ⟨n, rfl, by omega, by omega, fun D nD => ?_⟩
  refine lc_range (lo := 0) (n := n.toNat) (fun i H2 => Same H H2 ∧ ∃ as, News H H2 obj as ((List.range i).map Int.ofNat) ∧ D ∉ as ∧ H2 D = some (.lst (as.map V.ref))) ⟨Same.one nD, [], News.nil, by simp, upd_same⟩ (fun i H2 hi p => ⟨hw _, ?_⟩) (fun H2 ⟨p1, as, n1, p2, p3⟩ => hd D as H2 nD p1 n1 p2 p3)
  obtain ⟨p1, as, n1, p2, p3⟩ := p
  have la := n1.len
  rw [List.length_map, List.length_range] at la
  have e0 : (0 : Int) + (i : Int) = (i : Int) := Int.zero_add _
  rw [e0]
  refine tYes_ok (iteT ?_)
  refine hs i H2 _ (by omega) p1 fun p H4 np s4 hp => ?_
  have e : D ≠ p := neo np p3
  refine ⟨_, s4 _ _ p3, ?_, Same.new (p1.trans s4) nD, as ++ [p], ?_, nm_snoc p2 e, by rw [upd_same, List.map_append]; rfl⟩
  · rw [List.length_map, la]
    exact Nat.lt_of_lt_of_le (show i < 1000002 by omega) (by decide)
  · rw [List.range_succ, List.map_append]
    exact ((n1.same s4).snoc (n1.notin np) (p1.free np) hp).mut (nm_snoc p2 e)
/-- a pair taken apart -/
theorem k_tup2 {K : PySem.W.Frag} {j1 j2 : Nat} {p : Addr} {u v : V} {R : L2.St → Hp → Prop} (h : SqT K H p [u, v]) (q : R ((σ.set j1 (some u)).set j2 (some v)) H) : gTup K 2 (gCons (gName j1) (gCons (gName j2) gNil)) (.ref p) σ H R :=
  ⟨p, _, rfl, h, rfl, _, _, rfl, _, _, rfl, rfl, q⟩
theorem o_ninT {K : PySem.W.Frag} {l : Addr} {ns : List Int} {i : Int} (h : SqT K H l (ns.map V.int)) (q : Q (.bl (!decide (i ∈ ns))) H) : rIn K true (.int i) (.ref l) H Q := ⟨l, _, rfl, .inr h, rfl, all_flat ns, by
  show Q (.bl (!inV (.int i) (ns.map V.int))) H
  rw [inV_ints]; exact q⟩
end
theorem News.map {α β : Type} {H1 H2 : Hp} {obj : β → HO} {g : α → β} {as : List Addr} {xs : List α} (n : News H1 H2 (fun x => obj (g x)) as xs) : News H1 H2 obj as (xs.map g) := ⟨by rw [List.length_map]; exact n.1, n.2.1, fun i p x hp hx => by
  rw [List.getElem?_map] at hx
  cases e : xs[i]? with
  | none => rw [e] at hx; cases hx
  | some y =>
    rw [e] at hx
    have : g y = x := Option.some.inj hx
    subst this
    exact n.2.2 i p y hp e⟩
theorem Tf.app {H : Hp} {as bs : List Addr} {xs ys : List (Int × Int)} (h : Tf H as xs) (h' : Tf H bs ys) : Tf H (as ++ bs) (xs ++ ys) := ⟨by rw [List.length_append, List.length_append, h.1, h'.1], fun i t p a b => by
  by_cases c : i < as.length
  · rw [List.getElem?_append_left c] at a
    rw [List.getElem?_append_left (by rw [← h.1]; exact c)] at b
    exact h.2 i t p a b
  · rw [List.getElem?_append_right (by omega)] at a
    rw [List.getElem?_append_right (by rw [← h.1]; omega), ← h.1] at b
    exact h'.2 _ t p a b⟩
end Bo

/-! to the front, to the ends -/
namespace Bo
open PySem PySem.Spec PyProof.Rows L2
def mv (f : List Int) (x : Int) : List Int := x :: f.erase x
def mb (f : List Int) (x : Int) : List Int := f.erase x ++ [x]
theorem mv_perm {f : List Int} {x : Int} (h : x ∈ f) : (mv f x).Perm f := (List.perm_cons_erase h).symm
theorem mb_perm {f : List Int} {x : Int} (h : x ∈ f) : (mb f x).Perm f := List.perm_append_comm.trans (List.perm_cons_erase h).symm
theorem mvs_perm : ∀ {ts f : List Int}, (∀ x ∈ ts, x ∈ f) → (ts.foldl mv f).Perm f
  | [], f, _ => .refl _
  | x :: ts, f, h => by
    have h1 := mv_perm (h x (by simp))
    exact (mvs_perm fun y hy => h1.mem_iff.mpr (h y (List.mem_cons_of_mem _ hy))).trans h1
theorem mvs_is : ∀ {L f : List Int}, L.Nodup → f.Nodup → (∀ x ∈ L, x ∈ f) → L.foldl mv f = L.reverse ++ f.filter fun y => decide (y ∉ L)
  | [], f, _, _, _ => (List.filter_eq_self.mpr fun _ _ => decide_eq_true (List.not_mem_nil)).symm
  | x :: L, f, hL, hf, h => by
    obtain ⟨nx, nL⟩ := List.nodup_cons.mp hL
    have h1 := mv_perm (h x (by simp))
    rw [List.foldl_cons, mvs_is nL (h1.symm.nodup hf) fun y hy => h1.mem_iff.mpr (h y (List.mem_cons_of_mem _ hy)), List.reverse_cons, List.append_assoc]
    congr 1
    unfold mv
    rw [List.filter_cons, if_pos (by simpa using nx), hf.erase_eq_filter, List.filter_filter, List.singleton_append]
    congr 1
    apply List.filter_congr
    intro y _
    by_cases c : y = x
    · simp [c]
    · simp [c]
theorem mbs_is : ∀ {L f : List Int}, L.Nodup → f.Nodup → (∀ x ∈ L, x ∈ f) → L.foldl mb f = (f.filter fun y => decide (y ∉ L)) ++ L
  | [], f, _, _, _ => by rw [List.append_nil]; exact (List.filter_eq_self.mpr fun _ _ => decide_eq_true (List.not_mem_nil)).symm
  | x :: L, f, hL, hf, h => by
    obtain ⟨nx, nL⟩ := List.nodup_cons.mp hL
    have h1 := mb_perm (h x (by simp))
    rw [List.foldl_cons, mbs_is nL (h1.symm.nodup hf) fun y hy => h1.mem_iff.mpr (h y (List.mem_cons_of_mem _ hy))]
    unfold mb
    rw [List.filter_append, List.filter_cons, if_pos (by simpa using nx), List.filter_nil, List.append_assoc, List.singleton_append, hf.erase_eq_filter, List.filter_filter]
    congr 1
    apply List.filter_congr
    intro y _
    by_cases c : y = x
    · simp [c]
    · simp [c]
/-! ### places -/
theorem idx_places {ns : List Int} (R : IsRow ns) {x : Int} (h : 0 ≤ x ∧ x < ns.length) : (ns.idxOf x : Int) = gt (placesOf ns) x := by
  obtain ⟨j, h1, _, _, h4⟩ := find_first (row_mem R h)
  obtain ⟨b, e⟩ := gt_placesOf R h
  have h2 := gt_some (ns := ns) (i := (gt (placesOf ns) x).toNat) (by omega)
  rw [show (((gt (placesOf ns) x).toNat : Nat) : Int) = gt (placesOf ns) x by omega, e] at h2
  have := nd_ix R.nd h1 h2
  omega
theorem places_inj {ns : List Int} (R : IsRow ns) {x y : Int} (hx : 0 ≤ x ∧ x < ns.length) (hy : 0 ≤ y ∧ y < ns.length) (e : gt (placesOf ns) x = gt (placesOf ns) y) : x = y := by
  have h1 := (gt_placesOf R hx).2
  have h2 := (gt_placesOf R hy).2
  rw [e] at h1; omega
/-- things from a below b stand one behind the other -/
def Inc (ns : List Int) (a b : Int) : Prop := ∀ x : Int, a ≤ x ∧ x + 1 < b → gt (placesOf ns) x < gt (placesOf ns) (x + 1)
theorem inc_lt {ns : List Int} {a b : Int} (h : Inc ns a b) : ∀ (d : Nat) (x : Int), a ≤ x → x + d + 1 < b → gt (placesOf ns) x < gt (placesOf ns) (x + d + 1)
  | 0, x, h1, h2 => by
    have := h x ⟨h1, by omega⟩
    rwa [show x + ((0 : Nat) : Int) + 1 = x + 1 by omega]
  | d + 1, x, h1, h2 => by
    have a1 := inc_lt h d x h1 (by omega)
    have a2 := h (x + d + 1) ⟨by omega, by omega⟩
    rw [show x + ((d + 1 : Nat) : Int) + 1 = x + d + 1 + 1 by omega]
    omega
theorem inc_all {ns : List Int} {a b x y : Int} (h : Inc ns a b) (h1 : a ≤ x) (h2 : x < y) (h3 : y < b) : gt (placesOf ns) x < gt (placesOf ns) y := by
  have := inc_lt h (y - x - 1).toNat x h1 (by omega)
  rwa [show x + ((y - x - 1).toNat : Int) + 1 = y by omega] at this
theorem row_sorted {ns : List Int} (R : IsRow ns) {a b : Int} (h0 : 0 ≤ a) (hb : b ≤ ns.length) (h : Inc ns a b) : (ns.filter fun x => decide (a ≤ x) && decide (x < b)).Pairwise (· ≤ ·) := by
  rw [List.pairwise_filter, List.pairwise_iff_getElem]
  intro i j hi hj hij pa pb
  rw [Bool.and_eq_true, decide_eq_true_eq, decide_eq_true_eq] at pa pb
  by_cases c : ns[i] ≤ ns[j]
  · exact c
  · exfalso
    have hl := inc_all h pb.1 (show ns[j] < ns[i] by omega) pa.2
    have e1 : gt ns (i : Int) = ns[i] := gt_get (List.getElem?_eq_getElem hi)
    have e2 : gt ns (j : Int) = ns[j] := gt_get (List.getElem?_eq_getElem hj)
    have p1 := placesOf_gt R (x := (i : Int)) (by omega)
    have p2 := placesOf_gt R (x := (j : Int)) (by omega)
    rw [e1] at p1; rw [e2] at p2
    rw [p1, p2] at hl; omega
theorem rest_is {ns : List Int} (R : IsRow ns) {a b : Int} (h0 : 0 ≤ a) (hab : a ≤ b) (hb : b ≤ ns.length) (h : Inc ns a b) : (ns.filter fun x => decide (a ≤ x) && decide (x < b)) = (List.range (b - a).toNat).map fun i : Nat => a + i := by
  refine sorted_unique (perm_of_mem (R.nd.filter _) ?_ fun x => ?_) (row_sorted R h0 hb h) ?_
  · exact List.pairwise_map.mpr (List.nodup_range.imp fun e z => e (by omega))
  · rw [List.mem_filter, Bool.and_eq_true, decide_eq_true_eq, decide_eq_true_eq, List.mem_map]
    constructor
    · rintro ⟨h1, h2, h3⟩
      exact ⟨(x - a).toNat, List.mem_range.mpr (by omega), by omega⟩
    · rintro ⟨i, hi, rfl⟩
      have := List.mem_range.mp hi
      exact ⟨row_mem R (by omega), by omega, by omega⟩
  · exact List.pairwise_map.mpr (List.pairwise_lt_range.imp fun e => by omega)
theorem upTo_split {a b : Nat} : upTo a ++ ((List.range b).map fun i : Nat => (a : Int) + i) = upTo (a + b) := by
  unfold upTo
  rw [List.range_add, List.map_append, List.map_map]
  congr 1
/-! ### to the front -/
def frTail (row : List Int) (m : Int) : Bool := decide (m = 0) || (decide (m < row.length) && decide ((row.idxOf (m - 1) : Int) > (row.idxOf m : Int)))
def frShows (row things : List Int) : Bool := (things.all fun x => decide (x ∈ row)) && (decide (things.foldl mv row = upTo row.length) && (decide ((nodup_len things : Int) = (things.length : Nat)) && frTail row things.length))
/-- the row behind; an empty one where a thing isn't there -/
def frL (row things : List Int) : List Int := if (things.all fun x => decide (x ∈ row)) = true then things.foldl mv row else []
theorem frDue (row things : List Int) : frShows row things = (decide (frL row things = upTo row.length) && (decide ((nodup_len things : Int) = (things.length : Nat)) && frTail row things.length)) := by
  unfold frShows frL
  cases hA : things.all fun x => decide (x ∈ row) with
  | true => rw [if_pos rfl, Bool.true_and]
  | false =>
    rw [if_neg Bool.false_ne_true, Bool.false_and]
    by_cases hn : row = []
    · subst hn
      have hp : things ≠ [] := by rintro rfl; simp at hA
      have := List.length_pos_iff.mpr hp
      have : frTail [] (things.length : Nat) = false := by
        unfold frTail
        rw [decide_eq_false (by omega), decide_eq_false (by simp), Bool.false_and]; rfl
      rw [this, Bool.and_false, Bool.and_false]
    · have : ([] : List Int) ≠ upTo row.length := fun e => hn (List.eq_nil_of_length_eq_zero (by rw [← upTo_length row.length, ← e]; rfl))
      rw [decide_eq_false this]; rfl
structure FrIs (ns : List Int) (k : Nat) : Prop where
  le : k ≤ ns.length
  inc : Inc ns k ns.length
  stop : k = 0 ∨ (k < ns.length ∧ gt (placesOf ns) k < gt (placesOf ns) ((k : Int) - 1))
theorem frFold {ns : List Int} (R : IsRow ns) {k : Nat} (hk : k ≤ ns.length) : (upTo k).reverse.foldl mv ns = upTo k ++ ns.filter fun x => decide ((k : Int) ≤ x) && decide (x < ns.length) := by
  rw [mvs_is ((List.reverse_perm _).symm.nodup (upTo_nodup k)) R.nd fun x hx => row_mem R (by have := mem_upTo.mp (List.mem_reverse.mp hx); omega), List.reverse_reverse]
  congr 1
  apply List.filter_congr
  intro y hy
  have := R.bd y hy
  have e : y ∈ (upTo k).reverse ↔ 0 ≤ y ∧ y < k := List.mem_reverse.trans mem_upTo
  rw [Bool.eq_iff_iff, Bool.and_eq_true, decide_eq_true_eq, decide_eq_true_eq, decide_eq_true_eq, e]
  omega
theorem FrIs.shows {ns : List Int} (R : IsRow ns) {k : Nat} (I : FrIs ns k) : frShows ns (upTo k).reverse = true := by
  have hk := I.le
  have l : (upTo k).reverse.length = k := by rw [List.length_reverse, upTo_length]
  have a1 : ((upTo k).reverse.all fun x => decide (x ∈ ns)) = true := List.all_eq_true.mpr fun x hx => decide_eq_true (row_mem R (by have := mem_upTo.mp (List.mem_reverse.mp hx); omega))
  have a2 : (upTo k).reverse.foldl mv ns = upTo ns.length := by
    rw [frFold R hk, rest_is R (by omega) (by omega) (Int.le_refl _) I.inc, upTo_split]
    congr 1; omega
  have a3 : nodup_len (upTo k).reverse = (upTo k).reverse.length := (nodup_len_eq _).mpr ((List.reverse_perm _).symm.nodup (upTo_nodup k))
  have a4 : frTail ns (k : Nat) = true := by
    unfold frTail
    rcases I.stop with h | ⟨h1, h2⟩
    · subst h; rfl
    · by_cases c : k = 0
      · subst c; rfl
      · rw [idx_places R (x := (k : Int) - 1) (by omega), idx_places R (x := (k : Int)) (by omega), decide_eq_true (show gt (placesOf ns) ((k : Int) - 1) > gt (placesOf ns) (k : Int) from h2), decide_eq_true (show (k : Int) < ns.length by omega), Bool.and_self, Bool.or_true]
  unfold frShows
  rw [a1, decide_eq_true a2, a3, l, a4, decide_eq_true rfl]; rfl
/-! ### to the ends -/
def em (f : List Int) (p : Int × Int) : List Int := if p.2 = 1 then f.erase p.1 ++ [p.1] else p.1 :: f.erase p.1
def emOk (row : List Int) (p : Int × Int) : Bool := decide (p.1 ∈ row) && decide (p.2 ∈ ([0, 1] : List Int))
theorem em_perm {f : List Int} {p : Int × Int} (h : p.1 ∈ f) : (em f p).Perm f := by
  unfold em
  split
  · exact mb_perm h
  · exact mv_perm h
theorem ems_perm : ∀ {ps : List (Int × Int)} {f : List Int}, (∀ p ∈ ps, p.1 ∈ f) → (ps.foldl em f).Perm f
  | [], f, _ => .refl _
  | x :: ts, f, h => by
    have h1 := em_perm (h x (by simp))
    exact (ems_perm fun y hy => h1.mem_iff.mpr (h y (List.mem_cons_of_mem _ hy))).trans h1
theorem em_fronts (L : List Int) (f : List Int) : (L.map fun x => (x, (0 : Int))).foldl em f = L.foldl mv f := by
  rw [List.foldl_map]; rfl
theorem em_backs (L : List Int) (f : List Int) : (L.map fun x => (x, (1 : Int))).foldl em f = L.foldl mb f := by
  rw [List.foldl_map]; rfl
structure LR where
  b0 : Int
  b1 : Int
  fi : Int
def lrFi (ns : List Int) (i : Nat) (fi : Int) : Int := if 0 < (i : Int) ∧ gt (placesOf ns) i < gt (placesOf ns) ((i : Int) - 1) then i else fi
def lrStep (ns : List Int) (i : Nat) (s : LR) : LR := if (i : Int) + 1 - lrFi ns i s.fi > s.b1 then ⟨lrFi ns i s.fi, (i : Int) + 1 - lrFi ns i s.fi, lrFi ns i s.fi⟩ else ⟨s.b0, s.b1, lrFi ns i s.fi⟩
def lr (ns : List Int) : Nat → LR
  | 0 => ⟨0, 0, 0⟩
  | i + 1 => lrStep ns i (lr ns i)
def runOf (ns : List Int) : LR := lr ns ns.length
structure LI (ns : List Int) (i : Nat) (s : LR) : Prop where
  b : 0 ≤ s.b0 ∧ 0 ≤ s.b1 ∧ s.b0 + s.b1 ≤ i
  f : 0 ≤ s.fi ∧ s.fi ≤ i ∧ (i = 0 → s.fi = 0) ∧ (0 < i → s.fi < i)
  best : Inc ns s.b0 (s.b0 + s.b1)
  here : Inc ns s.fi i
theorem LI.step {ns : List Int} (R : IsRow ns) {i : Nat} {s : LR} (I : LI ns i s) (hi : i < ns.length) : LI ns (i + 1) (lrStep ns i s) := by
  obtain ⟨b0, b1, fi⟩ := s
  obtain ⟨b, f, best, here⟩ := I
  dsimp only at b f best here
  have hf : (0 ≤ lrFi ns i fi ∧ lrFi ns i fi ≤ i) ∧ Inc ns (lrFi ns i fi) ((i + 1 : Nat) : Int) := by
    unfold lrFi
    by_cases c : 0 < (i : Int) ∧ gt (placesOf ns) i < gt (placesOf ns) ((i : Int) - 1)
    · rw [if_pos c]
      exact ⟨by omega, fun x hx => by omega⟩
    · rw [if_neg c]
      refine ⟨by omega, fun x hx => ?_⟩
      by_cases e : x + 1 < i
      · exact here x ⟨hx.1, e⟩
      · have ex : x = (i : Int) - 1 := by omega
        subst ex
        have h1 : gt (placesOf ns) ((i : Int) - 1) ≠ gt (placesOf ns) i := fun z => by
          have := places_inj R (by omega) (by omega) z; omega
        rw [show (i : Int) - 1 + 1 = i by omega]
        omega
  generalize hl : lrFi ns i fi = l at hf
  unfold lrStep
  dsimp only
  rw [hl]
  obtain ⟨⟨l0, l1⟩, l2⟩ := hf
  split
  · exact ⟨by dsimp only; omega, by dsimp only; omega, by dsimp only; rw [show l + ((i : Int) + 1 - l) = ((i + 1 : Nat) : Int) by omega]; exact l2, l2⟩
  · exact ⟨by dsimp only; omega, by dsimp only; omega, best, l2⟩
theorem LI.all {ns : List Int} (R : IsRow ns) : ∀ i, i ≤ ns.length → LI ns i (lr ns i)
  | 0, _ => ⟨by dsimp [lr]; omega, by dsimp [lr]; omega, fun x hx => by dsimp [lr] at hx; omega, fun x hx => by dsimp [lr] at hx; omega⟩
  | i + 1, h => (LI.all R i (by omega)).step R (by omega)
def enShows (row : List Int) (moves : List (Int × Int)) : Bool := moves.all (emOk row) && (decide (moves.foldl em row = upTo row.length) && decide ((moves.length : Int) + (runOf row).b1 = row.length))
def enL (row : List Int) (moves : List (Int × Int)) : List Int := if moves.all (emOk row) = true then moves.foldl em row else []
theorem enDue (row : List Int) (moves : List (Int × Int)) : enShows row moves = (decide (enL row moves = upTo row.length) && decide ((moves.length : Int) = row.length - (runOf row).b1)) := by
  unfold enShows enL
  have e : decide ((moves.length : Int) + (runOf row).b1 = row.length) = decide ((moves.length : Int) = row.length - (runOf row).b1) := decide_eq_decide.mpr (by omega)
  rw [e]
  cases hA : moves.all (emOk row) with
  | true => rw [if_pos rfl, Bool.true_and]
  | false =>
    rw [if_neg Bool.false_ne_true, Bool.false_and]
    by_cases hn : row = []
    · subst hn
      have hp : moves ≠ [] := by rintro rfl; simp at hA
      have := List.length_pos_iff.mpr hp
      rw [decide_eq_false (show ¬ (moves.length : Int) = ([] : List Int).length - (runOf []).b1 by show ¬ (moves.length : Int) = 0 - 0; omega), Bool.and_false]
    · have : ([] : List Int) ≠ upTo row.length := fun e => hn (List.eq_nil_of_length_eq_zero (by rw [← upTo_length row.length, ← e]; rfl))
      rw [decide_eq_false this]; rfl
/-- the moves of ended -/
def enMoves (ns : List Int) : List (Int × Int) := ((upTo (runOf ns).b0.toNat).map fun x => (x, (0 : Int))).reverse ++ ((List.range ((ns.length : Int) - ((runOf ns).b0 + (runOf ns).b1)).toNat).map fun i : Nat => (runOf ns).b0 + (runOf ns).b1 + (i : Int)).map fun x => (x, (1 : Int))
theorem enMoves_len {ns : List Int} (R : IsRow ns) : ((enMoves ns).length : Int) + (runOf ns).b1 = ns.length := by
  have I := (LI.all R _ (Nat.le_refl _)).b
  change 0 ≤ (runOf ns).b0 ∧ 0 ≤ (runOf ns).b1 ∧ (runOf ns).b0 + (runOf ns).b1 ≤ ns.length at I
  unfold enMoves
  rw [List.length_append, List.length_reverse, List.length_map, upTo_length, List.length_map, List.length_map, List.length_range]
  omega
theorem enMoves_shows {ns : List Int} (R : IsRow ns) : enShows ns (enMoves ns) = true := by
  have hl := enMoves_len R
  have I := LI.all R _ (Nat.le_refl _)
  have I1 : 0 ≤ (runOf ns).b0 ∧ 0 ≤ (runOf ns).b1 ∧ (runOf ns).b0 + (runOf ns).b1 ≤ ns.length := I.b
  have I2 : Inc ns (runOf ns).b0 ((runOf ns).b0 + (runOf ns).b1) := I.best
  have hall : (enMoves ns).all (emOk ns) = true := by
    unfold enMoves
    generalize (runOf ns).b0 = a at *
    generalize (runOf ns).b1 = b at *
    rw [List.all_append, Bool.and_eq_true, List.all_eq_true, List.all_eq_true]
    constructor
    · intro p hp
      obtain ⟨x, hx, rfl⟩ := List.mem_map.mp (List.mem_reverse.mp hp)
      have := mem_upTo.mp hx
      unfold emOk
      rw [decide_eq_true (row_mem R (y := x) (by omega)), decide_eq_true (by simp)]; rfl
    · intro p hp
      obtain ⟨x, hx, rfl⟩ := List.mem_map.mp hp
      obtain ⟨i, hi, rfl⟩ := List.mem_map.mp hx
      have := List.mem_range.mp hi
      unfold emOk
      rw [decide_eq_true (row_mem R (y := a + b + (i : Int)) (by omega)), decide_eq_true (by simp)]; rfl
  have hf : (enMoves ns).foldl em ns = upTo ns.length := by
    unfold enMoves
    generalize (runOf ns).b0 = a at *
    generalize (runOf ns).b1 = b at *
    obtain ⟨k, rfl⟩ : ∃ k : Nat, a = (k : Int) := ⟨a.toNat, by omega⟩
    have hk : k ≤ ns.length := by omega
    rw [List.foldl_append, ← List.map_reverse, em_fronts, em_backs, Int.toNat_natCast, frFold R hk]
    generalize hLL : ((List.range ((ns.length : Int) - ((k : Int) + b)).toNat).map fun i : Nat => (k : Int) + b + (i : Int)) = LL
    have mL : ∀ x, x ∈ LL ↔ (k : Int) + b ≤ x ∧ x < ns.length := fun x => by
      rw [← hLL, List.mem_map]
      constructor
      · rintro ⟨i, hi, rfl⟩
        have := List.mem_range.mp hi; omega
      · intro h
        exact ⟨(x - (k + b)).toNat, List.mem_range.mpr (by omega), by omega⟩
    have nL : LL.Nodup := by
      rw [← hLL]
      exact List.pairwise_map.mpr (List.nodup_range.imp fun e z => e (by omega))
    have pf : (upTo k ++ ns.filter fun x => decide ((k : Int) ≤ x) && decide (x < ns.length)).Perm ns := by
      rw [← frFold R hk]
      exact mvs_perm fun x hx => row_mem R (by have := mem_upTo.mp (List.mem_reverse.mp hx); omega)
    rw [mbs_is nL (pf.symm.nodup R.nd) fun x hx => pf.mem_iff.mpr (row_mem R (by have := (mL x).mp hx; omega)), List.filter_append, List.filter_filter]
    have e1 : (upTo k).filter (fun y => decide (y ∉ LL)) = upTo k := List.filter_eq_self.mpr fun x hx => decide_eq_true (fun z => by
      have := mem_upTo.mp hx
      have := (mL x).mp z
      omega)
    have e2 : (ns.filter fun x => decide (x ∉ LL) && (decide ((k : Int) ≤ x) && decide (x < ns.length))) = ns.filter fun x => decide ((k : Int) ≤ x) && decide (x < (k : Int) + b) := by
      apply List.filter_congr
      intro y hy
      have := R.bd y hy
      rw [Bool.eq_iff_iff, Bool.and_eq_true, Bool.and_eq_true, Bool.and_eq_true, decide_eq_true_eq, decide_eq_true_eq, decide_eq_true_eq, decide_eq_true_eq, mL]
      omega
    rw [e1, e2, rest_is R (by omega) (by omega) (by omega) I2, ← hLL]
    obtain ⟨b', rfl⟩ : ∃ k : Nat, b = (k : Int) := ⟨b.toNat, by omega⟩
    rw [show ((k : Int) + b' - k).toNat = b' by omega, upTo_split]
    have := upTo_split (a := k + b') (b := ((ns.length : Int) - ((k : Int) + b')).toNat)
    rw [show (((k + b' : Nat)) : Int) = (k : Int) + b' by omega] at this
    rw [this]
    congr 1; omega
  unfold enShows
  rw [hall, decide_eq_true hf, decide_eq_true hl]; rfl
theorem enShows_len {row : List Int} {moves : List (Int × Int)} (h : (moves.length : Int) + (runOf row).b1 ≠ row.length) : enShows row moves = false := by
  unfold enShows
  rw [decide_eq_false h, Bool.and_false, Bool.and_false]
end Bo

/-! Fronted, Ended as objects -/
namespace Bo
open PySem PySem.Spec PyProof.Rows L2
def oneF (n : Str) (p : Addr) : List (Str × V) := putF n (.ref p) []
theorem oneF_at (n : Str) (p : Addr) : (oneF n p).lookup n = some (V.ref p) := by unfold oneF; rw [lookup_putF, if_pos rfl]
theorem oneF_none {m n : Str} (p : Addr) (h : m ≠ n) : (oneF n p).lookup m = none := by unfold oneF; rw [lookup_putF, if_neg h]; rfl
structure FrA (C : Addr) (H : Hp) (x pt : Addr) (things : List Int) : Prop where
  ob : ∃ dx, H x = some (.ins C dx (oneF "things" pt))
  ht : H pt = some (.lst (things.map V.int))
theorem FrA.same {C : Addr} {H H' : Hp} {x pt : Addr} {things : List Int} (h : FrA C H x pt things) (s : Same H H') : FrA C H' x pt things where
  ob := by obtain ⟨dx, e⟩ := h.ob; exact ⟨dx, s _ _ e⟩
  ht := s _ _ h.ht
theorem FrA.put {C : Addr} {H : Hp} {x pt : Addr} {things : List Int} (h : FrA C H x pt things) (t' : List Int) : FrA C (upd H pt (.lst (t'.map V.int))) x pt t' where
  ob := by obtain ⟨dx, e⟩ := h.ob; exact ⟨dx, lift_ne e (ne_kind e h.ht (fun z => by cases z))⟩
  ht := upd_same
structure EnA (C : Addr) (H : Hp) (x pm : Addr) (ts : List Addr) (ps : List (Int × Int)) : Prop where
  ob : ∃ dx, H x = some (.ins C dx (oneF "moves" pm))
  hm : H pm = some (.lst (ts.map V.ref))
  tf : Tf H ts ps
theorem EnA.same {C : Addr} {H H' : Hp} {x pm : Addr} {ts : List Addr} {ps : List (Int × Int)} (h : EnA C H x pm ts ps) (s : Same H H') : EnA C H' x pm ts ps where
  ob := by obtain ⟨dx, e⟩ := h.ob; exact ⟨dx, s _ _ e⟩
  hm := s _ _ h.hm
  tf := h.tf.same s
theorem Tf.one {H : Hp} {t : Addr} {p : Int × Int} (h : H t = some (oP p)) : Tf H [t] [p] := ⟨rfl, fun i t' p' a b => by
  cases i with
  | zero =>
    have e1 : t = t' := by simpa using a
    have e2 : p = p' := by simpa using b
    rw [← e1, ← e2]; exact h
  | succ i => simp at a⟩
theorem EnA.put {C : Addr} {H : Hp} {x pm : Addr} {ts : List Addr} {ps : List (Int × Int)} (h : EnA C H x pm ts ps) {ts' : List Addr} {ps' : List (Int × Int)} (T : Tf H ts' ps') : EnA C (upd H pm (.lst (ts'.map V.ref))) x pm ts' ps' where
  ob := by obtain ⟨dx, e⟩ := h.ob; exact ⟨dx, lift_ne e (ne_kind e h.hm (fun z => by cases z))⟩
  hm := upd_same
  tf := T.mut h.hm
theorem cut_erase {f : List Int} {x : Int} (h : x ∈ f) : f.take (f.idxOf x) ++ f.drop (f.idxOf x + 1) = f.erase x := by
  obtain ⟨j, _, _, h3, h4⟩ := find_first h
  rw [h4, ← h3, List.eraseIdx_eq_take_drop_succ]
theorem fold_mem {row : List Int} {ts : List Int} (h : (ts.all fun x => decide (x ∈ row)) = true) : (ts.foldl mv row).Perm row := mvs_perm fun x hx => of_decide_eq_true (List.all_eq_true.mp h x hx)
theorem em_mem {row : List Int} {ps : List (Int × Int)} (h : ps.all (emOk row) = true) : (ps.foldl em row).Perm row := ems_perm fun p hp => by
  have := List.all_eq_true.mp h p hp
  unfold emOk at this
  rw [Bool.and_eq_true] at this
  exact of_decide_eq_true this.1
def KPar3 (k l m : Nat) (D : Ends) (σ : L2.St) (vs : List V) (H : Hp) : Prop := ∃ u v w, vs = [u, v, w] ∧ D.nx (((σ.set k (some u)).set l (some v)).set m (some w)) H
theorem r_par3 {k l m : Nat} {ta : TA} {D : Ends} {σ : L2.St} {H : Hp} (h : ta σ H fun vs H1 => KPar3 k l m D σ vs H1) : tPar3 k l m ta D σ H := h
theorem k_par3 {k l m : Nat} {D : Ends} {σ : L2.St} {H : Hp} {x y z : V} (h : D.nx (((σ.set k (some x)).set l (some y)).set m (some z)) H) : KPar3 k l m D σ [x, y, z] H := ⟨x, y, z, rfl, h⟩
theorem IsRow.rev {ns : List Int} (R : IsRow ns) : IsRow ns.reverse := ⟨by rw [List.length_reverse]; exact R.len, fun x hx => by rw [List.length_reverse]; exact R.bd x (List.mem_reverse.mp hx), (List.reverse_perm ns).symm.nodup R.nd⟩
theorem IsRow.more {ns : List Int} (R : IsRow ns) (h : ns.length < 1000) : IsRow (ns ++ [(ns.length : Int)]) := by
  refine ⟨by simp; omega, fun x hx => ?_, ?_⟩
  · rw [List.length_append]
    rcases List.mem_append.mp hx with hx | hx
    · have := R.bd x hx; simp; omega
    · have : x = ns.length := by simpa using hx
      subst this; simp; omega
  · refine List.nodup_append.mpr ⟨R.nd, by simp, fun x hx y hy e => ?_⟩
    have h1 := R.bd x hx
    have h2 : y = ns.length := by simpa using hy
    omega
theorem ins_0 (f : List Int) (x : Int) : ins f 0 x = x :: f := by unfold ins; simp
theorem ins_len (f : List Int) (x : Int) : ins f (f.length : Nat) x = f ++ [x] := by unfold ins; rw [Int.toNat_natCast]; simp
end Bo

/-! pairs that stand wrong -/
namespace Bo
open PySem L2
def inv : List Int → Nat
  | [] => 0
  | x :: r => r.countP (fun y => decide (y < x)) + inv r
def cross (A B : List Int) : Nat := (A.map fun x => B.countP fun y => decide (y < x)).sum
theorem cross_nil (B : List Int) : cross [] B = 0 := rfl
theorem cross_cons (x : Int) (A B : List Int) : cross (x :: A) B = B.countP (fun y => decide (y < x)) + cross A B := by unfold cross; rw [List.map_cons, List.sum_cons]
theorem cross_app_left : ∀ A B C : List Int, cross (A ++ B) C = cross A C + cross B C
  | [], B, C => by rw [List.nil_append, cross_nil, Nat.zero_add]
  | x :: A, B, C => by rw [List.cons_append, cross_cons, cross_cons, cross_app_left A B C, Nat.add_assoc]
theorem cross_app_right : ∀ A B C : List Int, cross A (B ++ C) = cross A B + cross A C
  | [], B, C => rfl
  | x :: A, B, C => by rw [cross_cons, cross_cons, cross_cons, cross_app_right A B C, List.countP_append]; omega
theorem inv_app : ∀ A B : List Int, inv (A ++ B) = inv A + inv B + cross A B
  | [], B => by rw [List.nil_append, cross_nil]; show inv B = 0 + inv B + 0; omega
  | x :: A, B => by
    rw [List.cons_append, cross_cons]
    show (A ++ B).countP _ + inv (A ++ B) = A.countP _ + inv A + inv B + _
    rw [List.countP_append, inv_app A B]; omega
theorem cross_perm_left {A A' : List Int} (h : A.Perm A') (B : List Int) : cross A B = cross A' B := by
  induction h with
  | nil => rfl
  | cons x _ ih => rw [cross_cons, cross_cons, ih]
  | swap x y l => rw [cross_cons, cross_cons, cross_cons, cross_cons]; omega
  | trans _ _ ih1 ih2 => rw [ih1, ih2]
theorem cross_perm_right : ∀ (A : List Int) {B B' : List Int}, B.Perm B' → cross A B = cross A B'
  | [], _, _, _ => rfl
  | x :: A, B, B', h => by rw [cross_cons, cross_cons, cross_perm_right A h, h.countP_eq]
theorem inv_sorted : ∀ {l : List Int}, l.Pairwise (· ≤ ·) → inv l = 0
  | [], _ => rfl
  | x :: r, h => by
    obtain ⟨h1, h2⟩ := List.pairwise_cons.mp h
    show r.countP _ + inv r = 0
    rw [inv_sorted h2, List.countP_eq_zero.mpr fun y hy => by have := h1 y hy; simp; omega]
theorem cross_one : ∀ (A : List Int) (x : Int), cross A [x] = A.countP fun a => decide (x < a)
  | [], x => rfl
  | a :: A, x => by
    rw [cross_cons, cross_one A x, List.countP_singleton, List.countP_cons]
    split <;> omega
theorem inv_snoc (A : List Int) (x : Int) : inv (A ++ [x]) = inv A + A.countP fun a => decide (x < a) := by
  rw [inv_app, cross_one]; show inv A + (0 + 0) + _ = _; omega
/-- two neighbours put together -/
theorem inv_merge {X A B M Z : List Int} (hA : A.Pairwise (· ≤ ·)) (hB : B.Pairwise (· ≤ ·)) (hM : M.Pairwise (· ≤ ·)) (p : M.Perm (A ++ B)) : inv (X ++ (A ++ B) ++ Z) = inv (X ++ M ++ Z) + cross A B := by
  rw [inv_app, inv_app X, inv_app (X ++ M), inv_app X M, inv_app A B, inv_sorted hA, inv_sorted hB, inv_sorted hM, cross_perm_right X p, cross_app_left X, cross_app_left X, cross_perm_left p Z]
  omega
theorem countP_two {x : Int} : ∀ {r : List Int}, x ∉ r → r.countP (fun y => decide (y < x)) + r.countP (fun y => decide (x < y)) = r.length
  | [], _ => rfl
  | y :: r, h => by
    have h1 : x ≠ y := fun e => h (by rw [e]; simp)
    have ih := countP_two (r := r) fun z => h (List.mem_cons_of_mem _ z)
    rw [List.countP_cons, List.countP_cons, List.length_cons]
    by_cases c : y < x
    · rw [if_pos (by simpa using c), if_neg (by simp; omega)]; omega
    · rw [if_neg (by simpa using c), if_pos (by simp; omega)]; omega
theorem inv_rev : ∀ {l : List Int}, l.Nodup → 2 * (inv l + inv l.reverse) = l.length * (l.length - 1)
  | [], _ => rfl
  | x :: r, h => by
    obtain ⟨h1, h2⟩ := List.nodup_cons.mp h
    have ih := inv_rev h2
    have h3 := countP_two h1
    have h4 : r.reverse.countP (fun a => decide (x < a)) = r.countP fun a => decide (x < a) := (List.reverse_perm r).countP_eq _
    rw [List.reverse_cons, inv_snoc, h4]
    show 2 * (r.countP _ + inv r + _) = (r.length + 1) * (r.length + 1 - 1)
    have e : (r.length + 1) * (r.length + 1 - 1) = r.length * (r.length - 1) + 2 * r.length := by
      rw [Nat.add_sub_cancel, Nat.succ_mul]
      cases r.length with
      | zero => rfl
      | succ m => rw [Nat.succ_sub_one]; simp only [Nat.succ_mul, Nat.mul_succ]; omega
    rw [e, ← ih]; omega
/-! ### and of the row behind which it comes to order -/
theorem sum_swap {P : Int → Int → Bool} : ∀ A B : List Int, (A.map fun a => B.countP (P a)).sum = (B.map fun b => A.countP fun a => P a b).sum
  | [], B => by
    rw [List.map_nil, List.sum_nil]
    induction B with
    | nil => rfl
    | cons b B ih => rw [List.map_cons, List.sum_cons, ← ih]; rfl
  | a :: A, B => by
    rw [List.map_cons, List.sum_cons, sum_swap A B]
    induction B with
    | nil => rfl
    | cons b B ih =>
      rw [List.map_cons, List.map_cons, List.sum_cons, List.sum_cons, ← ih, List.countP_cons, List.countP_cons]; omega
theorem sum_perm {f : Int → Nat} {A B : List Int} (h : A.Perm B) : (A.map f).sum = (B.map f).sum := by
  induction h with
  | nil => rfl
  | cons x _ ih => rw [List.map_cons, List.map_cons, List.sum_cons, List.sum_cons, ih]
  | swap x y l => simp only [List.map_cons, List.sum_cons]; omega
  | trans _ _ ih1 ih2 => rw [ih1, ih2]
theorem upTo_map (l : List Int) : (upTo l.length).map (gt l) = l := by
  apply List.ext_getElem?
  intro i
  rw [List.getElem?_map]
  by_cases c : i < l.length
  · rw [upTo_get c, gt_some c]; rfl
  · rw [List.getElem?_eq_none (by rw [upTo_length]; omega), List.getElem?_eq_none (by omega)]; rfl
theorem countP_low {Q : Int → Bool} (n k : Nat) (h : k ≤ n) : (upTo n).countP (fun j => decide (j < (k : Int)) && Q j) = (upTo k).countP Q := by
  induction n with
  | zero =>
    have : k = 0 := by omega
    subst this; rfl
  | succ m ih =>
    rw [upTo_succ, List.countP_append, List.countP_singleton]
    by_cases c : k ≤ m
    · rw [ih c, if_neg (by rw [decide_eq_false (show ¬ ((m : Int) < k) by omega)]; simp)]; omega
    · have : k = m + 1 := by omega
      subst this
      rw [upTo_succ, List.countP_append, List.countP_singleton, decide_eq_true (show (m : Int) < ((m + 1 : Nat) : Int) by omega), Bool.true_and]
      congr 1
      apply List.countP_congr
      intro j hj
      have := mem_upTo.mp hj
      rw [decide_eq_true (show j < ((m + 1 : Nat) : Int) by omega), Bool.true_and]
theorem inv_take (l : List Int) : ∀ k, k ≤ l.length → inv (l.take k) = ((upTo k).map fun b => (upTo l.length).countP fun a => decide (a < b) && decide (gt l b < gt l a)).sum
  | 0, _ => rfl
  | k + 1, h => by
    rw [List.take_add_one, gt_some (ns := l) (i := k) (by omega)]
    show inv (l.take k ++ [gt l (k : Int)]) = _
    rw [inv_snoc, inv_take l k (by omega), upTo_succ, List.map_append, List.sum_append]
    congr 1
    show _ = (upTo l.length).countP (fun a => decide (a < (k : Int)) && decide (gt l (k : Int) < gt l a)) + 0
    rw [Nat.add_zero, countP_low (Q := fun a => decide (gt l (k : Int) < gt l a)) _ _ (by omega)]
    have e : l.take k = (upTo k).map (gt l) := by
      have := upTo_map l
      conv => lhs; rw [← this]
      rw [← List.map_take]
      congr 1
      unfold upTo
      rw [← List.map_take, List.take_range, Nat.min_eq_left (by omega)]
    rw [e, List.countP_map]; rfl
theorem inv_sum (l : List Int) : inv l = ((upTo l.length).map fun b => (upTo l.length).countP fun a => decide (a < b) && decide (gt l b < gt l a)).sum := by
  have := inv_take l l.length (Nat.le_refl _)
  rwa [List.take_length] at this
theorem inv_places {ns : List Int} (R : IsRow ns) : inv (placesOf ns) = inv ns := by
  rw [inv_sum, inv_sum ns, placesOf_length, sum_swap (P := fun b a => decide (a < b) && decide (gt ns b < gt ns a))]
  have hp := row_perm R
  rw [← sum_perm (f := fun b => (upTo ns.length).countP fun a => decide (a < b) && decide (gt (placesOf ns) b < gt (placesOf ns) a)) hp]
  have e1 : ∀ f : Int → Nat, ns.map f = (upTo ns.length).map fun i => f (gt ns i) := fun f => by
    have h := congrArg (List.map f) (upTo_map ns)
    rw [List.map_map] at h; exact h.symm
  have e2 : ∀ P : Int → Bool, ns.countP P = (upTo ns.length).countP fun i => P (gt ns i) := fun P => by
    have h := congrArg (List.countP P) (upTo_map ns)
    rw [List.countP_map] at h; exact h.symm
  rw [e1]
  congr 1
  apply List.map_congr_left
  intro x hx
  have hx' := mem_upTo.mp hx
  show (upTo ns.length).countP (fun a => decide (a < gt ns x) && decide (gt (placesOf ns) (gt ns x) < gt (placesOf ns) a)) = (upTo ns.length).countP fun b => decide (x < b) && decide (gt ns b < gt ns x)
  rw [← hp.countP_eq, placesOf_gt R hx', e2]
  apply List.countP_congr
  intro y hy
  have hy' := mem_upTo.mp hy
  show (decide (gt ns y < gt ns x) && decide (x < gt (placesOf ns) (gt ns y))) = true ↔ _
  rw [placesOf_gt R hy', Bool.and_comm]
end Bo

/-! rows done often, turns -/
namespace Bo
open PySem L2
def tRing (r : List Int) (by_ : Int) : Nat → List Int → List Int
  | 0, f => f
  | k + 1, f => st (tRing r by_ k f) (gt r (k : Int)) (gt r ((k : Int) + by_ - r.length))
theorem tRing_length (r : List Int) (b : Int) : ∀ k f, (tRing r b k f).length = f.length
  | 0, f => rfl
  | k + 1, f => by show (st _ _ _).length = _; rw [st_length, tRing_length r b k f]
def timesAux (number : Int) (rs : List (List Int)) (f : List Int) : List Int := rs.foldl (fun f r => tRing r (number % r.length) r.length f) f
def timesOf (ns : List Int) (number : Int) : List Int := timesAux number (ringsOf ns) ns
theorem timesAux_length (number : Int) : ∀ rs f, (timesAux number rs f).length = f.length
  | [], f => rfl
  | r :: rs, f => by
    show (timesAux number rs (tRing r _ _ f)).length = _
    rw [timesAux_length number rs, tRing_length]
theorem timesOf_length (ns : List Int) (number : Int) : (timesOf ns number).length = ns.length := timesAux_length _ _ _
theorem tRing_out {row r : List Int} (ok : okRing row r = true) (b : Int) : ∀ k f, k ≤ r.length → f.length = row.length → ∀ y : Int, 0 ≤ y → y ∉ r → gt (tRing r b k f) y = gt f y
  | 0, f, _, _, y, _, _ => rfl
  | k + 1, f, hk, hf, y, h0, hy => by
    have hm : gt r (k : Int) ∈ r := gt_mem (by omega) (by omega)
    have hb := okRing_bd ok _ hm
    show gt (st (tRing r b k f) _ _) y = _
    rw [gt_st (by rw [tRing_length]; omega) h0, if_neg (fun e => hy (by rw [e]; exact hm))]
    exact tRing_out ok b k f (by omega) hf y h0 hy
theorem tRing_in {row r : List Int} (ok : okRing row r = true) (nd : r.Nodup) (b : Int) : ∀ k f, k ≤ r.length → f.length = row.length → ∀ j : Nat, j < k → gt (tRing r b k f) (gt r (j : Int)) = gt r ((j : Int) + b - r.length)
  | 0, f, _, _, j, hj => absurd hj (Nat.not_lt_zero _)
  | k + 1, f, hk, hf, j, hj => by
    have hm : gt r (k : Int) ∈ r := gt_mem (by omega) (by omega)
    have hm' : gt r (j : Int) ∈ r := gt_mem (by omega) (by omega)
    have hb := okRing_bd ok _ hm
    have hb' := okRing_bd ok _ hm'
    show gt (st (tRing r b k f) _ _) _ = _
    rw [gt_st (by rw [tRing_length]; omega) hb'.1]
    by_cases c : j = k
    · subst c; rw [if_pos rfl]
    · have : gt r (j : Int) ≠ gt r (k : Int) := fun e => by
        rw [gt_nat, gt_nat] at e
        exact c (getD_inj nd (by omega) (by omega) e)
      rw [if_neg this]
      exact tRing_in ok nd b k f (by omega) hf j (by omega)
theorem gt_wrap {r : List Int} {j : Nat} {b : Int} (hj : j < r.length) (hb : 0 ≤ b ∧ b < r.length) : gt r ((j : Int) + b - r.length) = r.getD ((j + b.toNat) % r.length) 0 := by
  unfold gt
  by_cases c : 0 ≤ (j : Int) + b - r.length
  · rw [if_pos c]
    congr 1
    have : j + b.toNat = ((j : Int) + b - r.length).toNat + r.length := by omega
    rw [this, Nat.add_mod_right, Nat.mod_eq_of_lt (by omega)]
  · rw [if_neg c]
    congr 1
    rw [Nat.mod_eq_of_lt (by omega)]; omega
/-- a row done so often -/
def IsPow (ns : List Int) (number : Int) (f : List Int) : Prop := f.length = ns.length ∧ ∀ r ∈ ringsOf ns, ∀ x ∈ r, gt f x = it ns (number % r.length).toNat x
theorem timesAux_pow {row : List Int} (number : Int) : ∀ (rs : List (List Int)) (f : List Int), (∀ r ∈ rs, okRing row r = true) → rs.flatten.Nodup → f.length = row.length →
    (∀ r ∈ rs, ∀ x ∈ r, gt (timesAux number rs f) x = it row (number % r.length).toNat x) ∧ ∀ y : Int, 0 ≤ y → y ∉ rs.flatten → gt (timesAux number rs f) y = gt f y
  | [], f, _, _, _ => ⟨fun r h => by simp at h, fun y _ _ => rfl⟩
  | r :: rs, f, ok, nd, hf => by
    rw [List.flatten_cons, List.nodup_append] at nd
    obtain ⟨n1, n2, n3⟩ := nd
    have okr := ok r (by simp)
    have hl : (tRing r (number % r.length) r.length f).length = row.length := by rw [tRing_length]; exact hf
    obtain ⟨i1, i2⟩ := timesAux_pow number rs (tRing r (number % r.length) r.length f) (fun x hx => ok x (List.mem_cons_of_mem _ hx)) n2 hl
    have e : timesAux number (r :: rs) f = timesAux number rs (tRing r (number % r.length) r.length f) := rfl
    rw [e]
    refine ⟨fun q hq x hx => ?_, fun y h0 hy => ?_⟩
    · rcases List.mem_cons.mp hq with rfl | hq
      · have hb := okRing_bd okr x hx
        rw [i2 x hb.1 fun z => n3 x hx x z rfl]
        obtain ⟨a, ha, ex⟩ := mem_getD hx
        have hlen : (0 : Int) < q.length := by omega
        have h1 := Int.emod_nonneg number (show (q.length : Int) ≠ 0 by omega)
        have h2 := Int.emod_lt_of_pos number hlen
        rw [← ex, ← gt_nat, tRing_in okr n1 _ q.length f (Nat.le_refl _) hf a ha, gt_wrap ha ⟨h1, h2⟩, gt_nat, ring_it okr ha]
      · exact i1 q hq x hx
    · rw [i2 y h0 fun z => hy (by rw [List.flatten_cons]; exact List.mem_append_right _ z)]
      exact tRing_out okr _ _ f (Nat.le_refl _) hf y h0 fun z => hy (by rw [List.flatten_cons]; exact List.mem_append_left _ z)
theorem timesOf_pow {ns : List Int} (R : IsRow ns) (number : Int) : IsPow ns number (timesOf ns number) :=
  ⟨timesOf_length _ _, (timesAux_pow number (ringsOf ns) ns (fun r hr => ringsOf_okR R hr) ((ringsOf_perm R).symm.nodup (upTo_nodup _)) rfl).1⟩
theorem in_ring {ns : List Int} (R : IsRow ns) {x : Int} (h : 0 ≤ x ∧ x < ns.length) : ∃ r ∈ ringsOf ns, x ∈ r := by
  have hm : x ∈ (ringsOf ns).flatten := ((ringsOf_perm R).mem_iff).mpr (mem_upTo.mpr h)
  obtain ⟨r, hr, hx⟩ := List.mem_flatten.mp hm
  exact ⟨r, hr, hx⟩
theorem ring_turn {ns r : List Int} (ok : okRing ns r = true) {x : Int} (hx : x ∈ r) : 0 < r.length ∧ it ns r.length x = x := by
  obtain ⟨a, ha, e⟩ := mem_getD hx
  have := ring_it ok ha r.length
  rw [Nat.add_mod_right, Nat.mod_eq_of_lt ha, e] at this
  exact ⟨by omega, this⟩
theorem it_bd {ns : List Int} (R : IsRow ns) {x : Int} (h : 0 ≤ x ∧ x < ns.length) : ∀ m, 0 ≤ it ns m x ∧ it ns m x < ns.length
  | 0 => h
  | m + 1 => gt_bd R (it_bd R h m)
theorem it_inj {ns : List Int} (R : IsRow ns) : ∀ (m : Nat) {x y : Int}, 0 ≤ x ∧ x < ns.length → 0 ≤ y ∧ y < ns.length → it ns m x = it ns m y → x = y
  | 0, x, y, _, _, e => e
  | m + 1, x, y, hx, hy, e => it_inj R m hx hy (gt_inj R (it_bd R hx m) (it_bd R hy m) e)
theorem it_back {ns : List Int} (R : IsRow ns) {x : Int} (h : 0 ≤ x ∧ x < ns.length) : ∀ k, (0 ≤ it (placesOf ns) k x ∧ it (placesOf ns) k x < ns.length) ∧ it ns k (it (placesOf ns) k x) = x
  | 0 => ⟨h, rfl⟩
  | k + 1 => by
    obtain ⟨b, e⟩ := it_back R h k
    obtain ⟨b2, e2⟩ := gt_placesOf R b
    refine ⟨b2, ?_⟩
    show it ns (k + 1) (gt (placesOf ns) (it (placesOf ns) k x)) = x
    rw [it_add ns k 1]
    show it ns k (gt ns (gt (placesOf ns) (it (placesOf ns) k x))) = x
    rw [e2, e]
theorem pow_nat {ns f : List Int} (R : IsRow ns) {k : Nat} (h : IsPow ns (k : Int) f) {x : Int} (hx : 0 ≤ x ∧ x < ns.length) : gt f x = it ns k x := by
  obtain ⟨r, hr, hm⟩ := in_ring R hx
  obtain ⟨h0, e⟩ := ring_turn (ringsOf_okR R hr) hm
  rw [h.2 r hr x hm, it_mod ns h0 e k]; congr 1
theorem pow_neg {ns f : List Int} (R : IsRow ns) {k : Nat} (h : IsPow ns (-(k : Int)) f) {x : Int} (hx : 0 ≤ x ∧ x < ns.length) : gt f x = it (placesOf ns) k x := by
  obtain ⟨r, hr, hm⟩ := in_ring R hx
  obtain ⟨h0, e⟩ := ring_turn (ringsOf_okR R hr) hm
  obtain ⟨b, eb⟩ := it_back R hx k
  rw [h.2 r hr x hm]
  refine it_inj R k (it_bd R hx _) b ?_
  rw [eb, ← it_add, it_mod ns h0 e]
  have hz : (k + (-(k : Int) % (r.length : Int)).toNat) % r.length = 0 := by
    have h1 := Int.emod_nonneg (-(k : Int)) (show (r.length : Int) ≠ 0 by omega)
    have h2 : ((r.length : Int)) ∣ ((k : Int) + -(k : Int) % (r.length : Int)) := by
      have := Int.emod_add_mul_ediv (-(k : Int)) (r.length : Int)
      exact ⟨-(-(k : Int) / (r.length : Int)), by rw [Int.mul_neg]; omega⟩
    have h3 : (r.length : Int) ∣ ((k + (-(k : Int) % (r.length : Int)).toNat : Nat) : Int) := by
      rw [Int.natCast_add, Int.toNat_of_nonneg h1]; exact h2
    exact Nat.mod_eq_zero_of_dvd (Int.natCast_dvd_natCast.mp h3)
  rw [hz]; rfl
theorem pow_same {ns f g : List Int} (R : IsRow ns) {a b : Int} (hf : IsPow ns a f) (hg : IsPow ns b g) (h : ∀ r ∈ ringsOf ns, a % (r.length : Int) = b % (r.length : Int)) : f = g :=
  ext_gt (by rw [hf.1, hg.1]) fun y hy => by
    rw [hg.1] at hy
    obtain ⟨r, hr, hm⟩ := in_ring R hy
    rw [hf.2 r hr y hm, hg.2 r hr y hm, h r hr]
theorem pow_order {ns f : List Int} (R : IsRow ns) {m : Nat} (h : IsPow ns (m : Int) f) (hd : ∀ r ∈ ringsOf ns, r.length ∣ m) : f = upTo ns.length :=
  ext_gt (by rw [h.1, upTo_length]) fun y hy => by
    rw [upTo_length] at hy
    obtain ⟨r, hr, hm⟩ := in_ring R hy
    have : ((m : Int) % (r.length : Int)).toNat = m % r.length := rfl
    rw [h.2 r hr y hm, gt_upTo hy, this, Nat.mod_eq_zero_of_dvd (hd r hr)]; rfl
theorem order_pow {ns : List Int} (R : IsRow ns) {m : Nat} (h : IsPow ns (m : Int) (upTo ns.length)) : ∀ r ∈ ringsOf ns, r.length ∣ m := fun r hr => by
  have ok := ringsOf_okR R hr
  have nd : r.Nodup := by
    have fl : (ringsOf ns).flatten.Nodup := (ringsOf_perm R).symm.nodup (upTo_nodup _)
    exact (List.pairwise_flatten.mp fl).1 r hr
  have h0 := List.length_pos_iff.mpr (okRing_ne ok)
  have hm : r.getD 0 0 ∈ r := getD_mem h0
  have hb := okRing_bd ok _ hm
  have e := h.2 r hr _ hm
  rw [gt_upTo hb, show ((m : Int) % (r.length : Int)).toNat = m % r.length from rfl, ring_it ok h0, Nat.zero_add, Nat.mod_mod] at e
  have := getD_inj nd h0 (Nat.mod_lt _ h0) e
  exact Nat.dvd_of_mod_eq_zero this.symm
/-! ### turns -/
def turnsAux (rs : List (List Int)) (f : Nat) : Nat := rs.foldl (fun f r => f / Nat.gcd f r.length * r.length) f
def turnsOf (ns : List Int) : Nat := turnsAux (ringsOf ns) 1
theorem lcm_step (f l : Nat) : f / Nat.gcd f l * l = Nat.lcm f l := by
  rw [Nat.div_mul_right_comm (Nat.gcd_dvd_left f l)]; rfl
theorem turnsAux_is : ∀ (rs : List (List Int)) (f : Nat), 0 < f → (∀ r ∈ rs, 0 < r.length) → 0 < turnsAux rs f ∧ f ∣ turnsAux rs f ∧ (∀ r ∈ rs, r.length ∣ turnsAux rs f) ∧ ∀ m, f ∣ m → (∀ r ∈ rs, r.length ∣ m) → turnsAux rs f ∣ m
  | [], f, h, _ => ⟨h, Nat.dvd_refl _, by simp, fun m h _ => h⟩
  | r :: rs, f, h, hr => by
    have h1 := hr r (by simp)
    have e : turnsAux (r :: rs) f = turnsAux rs (Nat.lcm f r.length) := by
      show turnsAux rs (f / Nat.gcd f r.length * r.length) = _
      rw [lcm_step]
    obtain ⟨a, b, c, d⟩ := turnsAux_is rs (Nat.lcm f r.length) (Nat.lcm_pos h h1) fun x hx => hr x (List.mem_cons_of_mem _ hx)
    rw [e]
    refine ⟨a, Nat.dvd_trans (Nat.dvd_lcm_left _ _) b, fun x hx => ?_, fun m hm hx => d m (Nat.lcm_dvd hm (hx r (by simp))) fun x hx' => hx x (List.mem_cons_of_mem _ hx')⟩
    rcases List.mem_cons.mp hx with rfl | hx
    · exact Nat.dvd_trans (Nat.dvd_lcm_right _ _) b
    · exact c x hx
theorem turnsAux_coprime {N : Nat} : ∀ (rs : List (List Int)) (f : Nat), Nat.Coprime N f → (∀ r ∈ rs, Nat.Coprime N r.length) → Nat.Coprime N (turnsAux rs f)
  | [], f, h, _ => h
  | r :: rs, f, h, hr => by
    show Nat.Coprime N (turnsAux rs (f / Nat.gcd f r.length * r.length))
    rw [lcm_step]
    refine turnsAux_coprime rs _ ?_ fun x hx => hr x (List.mem_cons_of_mem _ hx)
    exact Nat.Coprime.coprime_dvd_right (Nat.lcm_dvd_mul f r.length) (Nat.Coprime.mul_right h (hr r (by simp)))
theorem rings_pos {ns : List Int} (R : IsRow ns) : ∀ r ∈ ringsOf ns, 0 < r.length := fun r hr => List.length_pos_iff.mpr (okRing_ne (ringsOf_okR R hr))
theorem turns_pos {ns : List Int} (R : IsRow ns) : 0 < turnsOf ns := (turnsAux_is _ 1 (by decide) (rings_pos R)).1
theorem turns_dvd {ns : List Int} (R : IsRow ns) : ∀ r ∈ ringsOf ns, r.length ∣ turnsOf ns := (turnsAux_is _ 1 (by decide) (rings_pos R)).2.2.1
theorem turns_least {ns : List Int} (R : IsRow ns) {m : Nat} (h : ∀ r ∈ ringsOf ns, r.length ∣ m) : turnsOf ns ∣ m := (turnsAux_is _ 1 (by decide) (rings_pos R)).2.2.2 m (Nat.one_dvd _) h
/-- what goes into the turns has something in common with a ring -/
theorem turns_part {ns : List Int} (R : IsRow ns) {N : Nat} (h : N ∣ turnsOf ns) (h1 : 1 < N) : ∃ d, 1 < d ∧ d ∣ N ∧ d ≤ ns.length := by
  by_cases c : ∀ r ∈ ringsOf ns, Nat.Coprime N r.length
  · have := turnsAux_coprime (N := N) (ringsOf ns) 1 (Nat.coprime_one_right N) c
    have h2 : N = 1 := Nat.Coprime.eq_one_of_dvd this h
    omega
  · obtain ⟨r, hr, hc⟩ : ∃ r, r ∈ ringsOf ns ∧ ¬ Nat.Coprime N r.length := by
      refine Classical.byContradiction fun z => c fun r hr => Classical.byContradiction fun z2 => z ⟨r, hr, z2⟩
    have h0 := rings_pos R r hr
    have g0 : 0 < Nat.gcd N r.length := Nat.gcd_pos_of_pos_right _ h0
    refine ⟨Nat.gcd N r.length, ?_, Nat.gcd_dvd_left _ _, Nat.le_trans (Nat.le_of_dvd h0 (Nat.gcd_dvd_right _ _)) (ringsOf_len R hr)⟩
    have : Nat.gcd N r.length ≠ 1 := hc
    omega
/-- by no part of them -/
theorem turns_part_not {ns : List Int} (R : IsRow ns) {p : Nat} (hp : 2 ≤ p) (hd : p ∣ turnsOf ns) : timesOf ns ((turnsOf ns / p : Nat) : Int) ≠ upTo ns.length := fun e => by
  have h := timesOf_pow R ((turnsOf ns / p : Nat) : Int)
  rw [e] at h
  have h1 := turns_least R (order_pow R h)
  have h0 := turns_pos R
  have h2 : 0 < turnsOf ns / p := Nat.div_pos (Nat.le_of_dvd h0 hd) (by omega)
  have h3 := Nat.le_of_dvd h2 h1
  have h4 : turnsOf ns / p < turnsOf ns := Nat.div_lt_self h0 (by omega)
  omega
end Bo

/-! rising rows put together -/
namespace Bo
open PySem L2
structure JI (L R : List Int) (i at_ : Nat) (found : List Int) : Prop where
  le : at_ ≤ R.length
  perm : found.Perm (L.take i ++ R.take at_)
  so : found.Pairwise (· ≤ ·)
  up : ∀ x ∈ found, (∀ y ∈ L.drop i, x ≤ y) ∧ ∀ y ∈ R.drop at_, x ≤ y
  lo : ∀ y ∈ R.take at_, ∀ x ∈ L.drop i, y < x
theorem JI.zero (L R : List Int) : JI L R 0 0 [] := ⟨Nat.zero_le _, .refl _, List.Pairwise.nil, by simp, by simp⟩
theorem drop_get {l : List Int} {i : Nat} {x : Int} (h : l[i]? = some x) : l.drop i = x :: l.drop (i + 1) := by
  obtain ⟨hi, e⟩ := List.getElem?_eq_some_iff.mp h
  rw [← e]; exact List.drop_eq_getElem_cons hi
theorem snoc_so {l : List Int} {x : Int} (h : l.Pairwise (· ≤ ·)) (h2 : ∀ y ∈ l, y ≤ x) : (l ++ [x]).Pairwise (· ≤ ·) :=
  List.pairwise_append.mpr ⟨h, List.pairwise_singleton _ _, fun a ha b hb => by
    have : b = x := by simpa using hb
    rw [this]; exact h2 a ha⟩
theorem drop_so {l : List Int} (h : l.Pairwise (· ≤ ·)) (i : Nat) : (l.drop i).Pairwise (· ≤ ·) := h.sublist (List.drop_sublist _ _)
theorem JI.right {L R found : List Int} {i at_ : Nat} (hL : L.Pairwise (· ≤ ·)) (hR : R.Pairwise (· ≤ ·)) (J : JI L R i at_ found) {t y : Int} (ht : L[i]? = some t) (hy : R[at_]? = some y) (h : y < t) : JI L R i (at_ + 1) (found ++ [y]) := by
  have hlt := (List.getElem?_eq_some_iff.mp hy).1
  have dR := drop_get hy
  have sR := drop_so hR at_
  rw [dR] at sR
  have sR := List.pairwise_cons.mp sR
  have dL := drop_get ht
  have sL := drop_so hL i
  rw [dL] at sL
  have sL := List.pairwise_cons.mp sL
  have tl : ∀ z ∈ L.drop i, t ≤ z := fun z hz => by
    rw [dL] at hz
    rcases List.mem_cons.mp hz with rfl | hz
    · exact Int.le_refl _
    · exact sL.1 z hz
  refine ⟨by omega, ?_, snoc_so J.so fun z hz => (J.up z hz).2 y (by rw [dR]; simp), fun x hx => ?_, fun z hz x hx => ?_⟩
  · rw [List.take_add_one, hy, ← List.append_assoc]
    exact List.Perm.append_right _ J.perm
  · rcases List.mem_append.mp hx with hx | hx
    · exact ⟨(J.up x hx).1, fun z hz => (J.up x hx).2 z (by rw [dR]; exact List.mem_cons_of_mem _ hz)⟩
    · have : x = y := by simpa using hx
      subst this
      exact ⟨fun z hz => by have := tl z hz; omega, fun z hz => sR.1 z hz⟩
  · rw [List.take_add_one, hy] at hz
    rcases List.mem_append.mp hz with hz | hz
    · exact J.lo z hz x hx
    · have : z = y := by simpa using hz
      subst this
      have := tl x hx; omega
theorem JI.left {L R found : List Int} {i at_ : Nat} (hL : L.Pairwise (· ≤ ·)) (hR : R.Pairwise (· ≤ ·)) (J : JI L R i at_ found) {t : Int} (ht : L[i]? = some t) (h : ∀ y, R[at_]? = some y → ¬ y < t) : JI L R (i + 1) at_ (found ++ [t]) ∧ cross (L.take (i + 1)) R = cross (L.take i) R + at_ := by
  have dL := drop_get ht
  have sL := drop_so hL i
  rw [dL] at sL
  have sL := List.pairwise_cons.mp sL
  have tm : t ∈ L.drop i := by rw [dL]; simp
  have tr : ∀ z ∈ R.drop at_, t ≤ z := fun z hz => by
    cases e : R[at_]? with
    | none =>
      have := List.getElem?_eq_none_iff.mp e
      rw [List.drop_eq_nil_of_le this] at hz; simp at hz
    | some y =>
      have h1 := h y e
      have dR := drop_get e
      have sR := drop_so hR at_
      rw [dR] at sR hz
      have sR := List.pairwise_cons.mp sR
      rcases List.mem_cons.mp hz with rfl | hz
      · omega
      · have := sR.1 z hz; omega
  refine ⟨⟨J.le, ?_, snoc_so J.so fun z hz => (J.up z hz).1 t tm, fun x hx => ?_, fun z hz x hx => J.lo z hz x (by rw [dL]; exact List.mem_cons_of_mem _ hx)⟩, ?_⟩
  · rw [List.take_add_one, ht]
    refine (List.Perm.append_right _ J.perm).trans ?_
    rw [List.append_assoc, List.append_assoc]
    exact List.Perm.append_left _ List.perm_append_comm
  · rcases List.mem_append.mp hx with hx | hx
    · exact ⟨fun z hz => (J.up x hx).1 z (by rw [dL]; exact List.mem_cons_of_mem _ hz), (J.up x hx).2⟩
    · have : x = t := by simpa using hx
      subst this
      exact ⟨fun z hz => sL.1 z hz, tr⟩
  · rw [List.take_add_one, ht, cross_app_left]
    congr 1
    show cross [t] R = at_
    rw [cross_cons, cross_nil, Nat.add_zero]
    have e : R = R.take at_ ++ R.drop at_ := (List.take_append_drop ..).symm
    rw [e, List.countP_append, List.countP_eq_length.mpr fun y hy => by simpa using J.lo y hy t tm, List.countP_eq_zero.mpr fun y hy => by have := tr y hy; simp; omega, List.length_take]
    have := J.le
    omega
theorem JI.done {L R found : List Int} {at_ : Nat} (hR : R.Pairwise (· ≤ ·)) (J : JI L R L.length at_ found) : (found ++ R.drop at_).Perm (L ++ R) ∧ (found ++ R.drop at_).Pairwise (· ≤ ·) := by
  constructor
  · have := List.Perm.append_right (R.drop at_) J.perm
    rw [List.take_length, List.append_assoc, List.take_append_drop] at this
    exact this
  · exact List.pairwise_append.mpr ⟨J.so, drop_so hR at_, fun a ha b hb => (J.up a ha).2 b hb⟩
/-! ### by halves -/
structure WI (N n : Nat) (parts : List (List Int)) (t : Nat) (fewer : List (List Int)) (total : Nat) : Prop where
  len : fewer.length = t
  so : ∀ p ∈ fewer, p.Pairwise (· ≤ ·)
  ct : total + inv (fewer.flatten ++ (parts.drop (2 * t)).flatten) = N
  fl : fewer.flatten.length + (parts.drop (2 * t)).flatten.length = n
theorem drop_get' {α : Type} {l : List α} {i : Nat} {x : α} (h : l[i]? = some x) : l.drop i = x :: l.drop (i + 1) := by
  obtain ⟨hi, e⟩ := List.getElem?_eq_some_iff.mp h
  rw [← e]; exact List.drop_eq_getElem_cons hi
theorem WI.step {N n : Nat} {parts fewer : List (List Int)} {t total : Nat} (I : WI N n parts t fewer total) {A B M : List Int} (hA : parts[2 * t]? = some A) (hB : parts[2 * t + 1]? = some B) (sA : A.Pairwise (· ≤ ·)) (sB : B.Pairwise (· ≤ ·)) (sM : M.Pairwise (· ≤ ·)) (p : M.Perm (A ++ B)) :
    WI N n parts (t + 1) (fewer ++ [M]) (total + cross A B) := by
  have d : parts.drop (2 * t) = A :: B :: parts.drop (2 * (t + 1)) := by
    rw [drop_get' hA, drop_get' hB]; rfl
  obtain ⟨len, so, ct, fl⟩ := I
  rw [d] at ct fl
  have pl := p.length_eq
  rw [List.length_append] at pl
  refine ⟨by simp [len], fun q hq => ?_, ?_, ?_⟩
  · rcases List.mem_append.mp hq with hq | hq
    · exact so q hq
    · have : q = M := by simpa using hq
      rw [this]; exact sM
  · rw [← ct, List.flatten_append, List.flatten_singleton]
    have := inv_merge (X := fewer.flatten) (Z := (parts.drop (2 * (t + 1))).flatten) sA sB sM p
    rw [List.flatten_cons, List.flatten_cons, show fewer.flatten ++ (A ++ (B ++ (parts.drop (2 * (t + 1))).flatten)) = fewer.flatten ++ (A ++ B) ++ (parts.drop (2 * (t + 1))).flatten by simp only [List.append_assoc], this]
    omega
  · rw [List.flatten_append, List.flatten_singleton, List.length_append]
    rw [List.flatten_cons, List.flatten_cons, List.length_append, List.length_append] at fl
    omega
/-- what wrong keeps -/
structure WP (N n : Nat) (parts : List (List Int)) (total : Nat) : Prop where
  so : ∀ p ∈ parts, p.Pairwise (· ≤ ·)
  ct : total + inv parts.flatten = N
  fl : parts.flatten.length = n
theorem WP.first (ns : List Int) : WP (inv ns) ns.length (ns.map fun x => [x]) 0 := by
  have e : (ns.map fun x => [x]).flatten = ns := by
    induction ns with
    | nil => rfl
    | cons x r ih => rw [List.map_cons, List.flatten_cons, ih]; rfl
  exact ⟨fun p hp => by
    obtain ⟨x, _, rfl⟩ := List.mem_map.mp hp
    exact List.pairwise_singleton _ _, by rw [e]; omega, by rw [e]⟩
theorem WP.start {N n : Nat} {parts : List (List Int)} {total : Nat} (I : WP N n parts total) : WI N n parts 0 [] total := ⟨rfl, by simp, by simpa using I.ct, by simpa using I.fl⟩
theorem WI.even {N n : Nat} {parts fewer : List (List Int)} {t total : Nat} (I : WI N n parts t fewer total) (h : parts.length = 2 * t) : WP N n fewer total := by
  obtain ⟨len, so, ct, fl⟩ := I
  rw [← h, List.drop_length] at ct fl
  exact ⟨so, by simpa using ct, by simpa using fl⟩
theorem WI.odd {N n : Nat} {parts fewer : List (List Int)} {t total : Nat} (I : WI N n parts t fewer total) {p : List Int} (h : parts.length = 2 * t + 1) (hp : parts[2 * t]? = some p) (sp : p.Pairwise (· ≤ ·)) : WP N n (fewer ++ [p]) total := by
  obtain ⟨len, so, ct, fl⟩ := I
  rw [drop_get' hp, ← h, List.drop_length] at ct fl
  refine ⟨fun q hq => ?_, by simpa using ct, by simpa using fl⟩
  rcases List.mem_append.mp hq with hq | hq
  · exact so q hq
  · have : q = p := by simpa using hq
    rw [this]; exact sp
theorem WP.done {N n : Nat} {parts : List (List Int)} {total : Nat} (I : WP N n parts total) (h : parts.length ≤ 1) : total = N := by
  have := I.ct
  match parts, h with
  | [], _ => simpa [inv] using this
  | [p], _ =>
    have h1 := inv_sorted (I.so p (by simp))
    simp at this
    omega
end Bo

namespace Bo
open PySem PySem.Spec PyProof.Rows L2
theorem rg_two {m : Nat} (h : m ≤ 1000000) : RgC 0 ((m : Int) - 1) 2 (m / 2) := by
  have e : Builtin.Range.rangeSize 0 ((m : Int) - 1) 2 = ((m / 2 : Nat) : Int) := by
    unfold Builtin.Range.rangeSize
    rw [if_pos (by decide)]
    split <;> omega
  refine ⟨by decide, by decide, ?_, e⟩
  unfold Builtin.Range.small
  rw [e]
  simp only [Builtin.Range.rangeFitsLong, Bool.and_eq_true, Bool.or_eq_true, decide_eq_true_eq, beq_iff_eq, show ((2 : Int) > 0) by decide, if_true]
  omega
section
variable {K : PySem.W.Frag} {σ : L2.St} {H : Hp} {D : Ends} {tb : TS} {g : TG} {Q : VK} {te : TE}
def KR3 (g : TG) (tb : TS) (D : Ends) (σ : L2.St) (vs : List V) (H : Hp) : Prop := ∃ (i j c : Int) (n : Nat), vs = [.int i, .int j, .int c] ∧ RgC i j c n ∧ FW (Itc i c n) g tb D σ H
theorem r_forR3 {ta : TA} (h : ta σ H fun vs H1 => KR3 g tb D σ vs H1) : tFor (iRng3 ta) g tb D σ H := h
theorem k_rng3 {j : Nat} {m : Nat} (z : m ≤ 1000000) (Pv : Nat → L2.St → Hp → Prop) (h0 : Pv 0 σ H)
    (hs : ∀ (i : Nat) (σ : L2.St) (H : Hp), i < m / 2 → Pv i σ H → tb { nx := Pv (i + 1), rt := D.rt, ct := Pv (i + 1), bk := D.nx } (σ.set j (some (.int ((0 : Int) + (i : Nat) * 2)))) H) (hd : ∀ σ H, Pv (m / 2) σ H → D.nx σ H) :
    KR3 (gName j) tb D σ [.int 0, .int ((m : Int) - 1), .int 2] H := ⟨0, _, 2, m / 2, rfl, rg_two z, for_rangeC Pv h0 hs hd⟩
/-- a comprehension with a test, over a list of ints: how many there are -/
theorem k_lcF {a : Addr} {xs : List Int} {tt : TT} {j : Nat} {vs : List Nat} (P : Int → Bool) (hx : SqL K H a (xs.map V.int)) (z : xs.length < 1000000) (hw : ∀ v : V, wipe ((wipe σ vs).set j (some v)) vs = wipe σ vs)
    (ht : ∀ (i : Nat) (x : Int) (H2 : Hp) (R : Bool → Hp → Prop), xs[i]? = some x → Same H H2 → R (P x) H2 → tt ((wipe σ vs).set j (some (.int x))) H2 R)
    (he : ∀ (i : Nat) (x : Int) (H2 : Hp) (R : VK), xs[i]? = some x → Same H H2 → R (.int x) H2 → te ((wipe σ vs).set j (some (.int x))) H2 R)
    (hd : ∀ D H2, H D = none → Same H H2 → H2 D = some (.lst ((xs.filter P).map V.int)) → Q (.ref D) H2) : KC K (gName j) tt te vs σ Q (.ref a) H := by
  refine ⟨a, rfl, ⟨_, hx⟩, fun D nD => ?_⟩
  refine lc_list (xs := xs.map V.int) (fun i H2 => Same H H2 ∧ H2 D = some (.lst (((xs.take i).filter P).map V.int))) ⟨Same.one nD, upd_same⟩ (fun i H2 _ p => p.1.seq hx) (fun i x H2 hi p => ⟨hw x, ?_⟩) (fun H2 p => ?_)
  · obtain ⟨y, hy, rfl⟩ := map_get hi
    refine ht i y H2 _ hy p.1 ?_
    have e : (xs.take (i + 1)).filter P = (xs.take i).filter P ++ if P y = true then [y] else [] := by
      rw [List.take_add_one, hy, List.filter_append]; congr 1
      show List.filter P [y] = _
      rw [List.filter_cons]; rfl
    cases hP : P y with
    | true =>
      refine iteT ?_
      refine he i y H2 _ hy p.1 ⟨_, p.2, ?_, Same.new p.1 nD, ?_⟩
      · rw [List.length_map]
        have h1 := List.length_filter_le P (xs.take i)
        rw [List.length_take] at h1
        exact Nat.lt_of_lt_of_le (show ((xs.take i).filter P).length < 1000000 by omega) (by decide)
      · rw [e, hP, if_pos rfl, upd_same, List.map_append]; rfl
    | false =>
      refine iteF ?_
      refine ⟨p.1, ?_⟩
      rw [e, hP, if_neg Bool.false_ne_true, List.append_nil]; exact p.2
  · rw [List.length_map, List.take_length] at p
    exact hd D H2 nD p.1 p.2
theorem o_ixLast {α : Type} {f : α → V} {xs : List α} {p : Addr} {x : α} (h : SqL K H p (xs.map f)) (e : xs[xs.length - 1]? = some x) (q : Q (f x) H) : rIxL K (.ref p) (.int (-1)) H Q := by
  have hl := (List.getElem?_eq_some_iff.mp e).1
  refine ⟨p, _, -1, f x, rfl, rfl, h, ?_, q⟩
  unfold atI ixN
  rw [List.length_map, if_neg (by omega), if_pos (by omega)]
  show (xs.map f)[((-1 : Int) + (xs.length : Int)).toNat]? = _
  rw [show ((-1 : Int) + (xs.length : Int)).toNat = xs.length - 1 by omega, List.getElem?_map, e]; rfl
theorem Lf.notin {H : Hp} {as : List Addr} {xs : List (List Int)} (L : Lf H as xs) {p : Addr} (h : H p = none) : p ∉ as := fun hm => by
  obtain ⟨i, hi, e⟩ := List.getElem_of_mem hm
  have hj : i < xs.length := by rw [← L.1]; exact hi
  have := L.2 i p xs[i] (by rw [List.getElem?_eq_getElem hi, e]) (List.getElem?_eq_getElem hj)
  rw [h] at this; cases this
end
end Bo

/-! one row behind another -/
namespace Bo
open PySem PySem.Spec PyProof.Rows L2
theorem gt_map {o : List Int} {g : Int → Int} {x : Int} (h : 0 ≤ x ∧ x < o.length) : gt (o.map g) x = g (gt o x) := by
  have h1 := gt_some (ns := o) (i := x.toNat) (by omega)
  rw [show ((x.toNat : Nat) : Int) = x by omega] at h1
  have h2 : (o.map g)[x.toNat]? = some (g (gt o x)) := by rw [List.getElem?_map, h1]; rfl
  have := gt_get h2
  rwa [show ((x.toNat : Nat) : Int) = x by omega] at this
theorem IsRow.of_inj {f : List Int} (hl : f.length ≤ 1000) (hb : ∀ x : Int, 0 ≤ x ∧ x < f.length → 0 ≤ gt f x ∧ gt f x < f.length) (hi : ∀ x y : Int, 0 ≤ x ∧ x < f.length → 0 ≤ y ∧ y < f.length → gt f x = gt f y → x = y) : IsRow f := by
  refine ⟨hl, fun x hx => ?_, ?_⟩
  · obtain ⟨i, hi, rfl⟩ := List.getElem_of_mem hx
    have := hb (i : Int) (by omega)
    rwa [gt_get (List.getElem?_eq_getElem hi)] at this
  · refine List.pairwise_iff_getElem.mpr fun i j h1 h2 hij e => ?_
    have := hi (i : Int) (j : Int) (by omega) (by omega) (by rw [gt_get (List.getElem?_eq_getElem h1), gt_get (List.getElem?_eq_getElem h2), e])
    omega
theorem IsRow.places {ns : List Int} (R : IsRow ns) : IsRow (placesOf ns) := by
  have l := placesOf_length ns
  refine IsRow.of_inj (by rw [l]; exact R.len) (fun x hx => ?_) fun x y hx hy e => ?_
  · rw [l] at hx ⊢; exact (gt_placesOf R hx).1
  · rw [l] at hx hy
    have h1 := (gt_placesOf R hx).2
    have h2 := (gt_placesOf R hy).2
    rw [e] at h1; omega
theorem IsRow.comp {ns o : List Int} (R : IsRow ns) (O : IsRow o) (hl : o.length = ns.length) : IsRow (o.map (gt ns)) := by
  have l : (o.map (gt ns)).length = ns.length := by rw [List.length_map, hl]
  refine IsRow.of_inj (by rw [l]; exact R.len) (fun x hx => ?_) fun x y hx hy e => ?_
  · rw [l] at hx ⊢
    rw [gt_map (by omega)]
    exact gt_bd R (by have := gt_bd O (x := x) (by omega); omega)
  · rw [l] at hx hy
    rw [gt_map (by omega), gt_map (by omega)] at e
    have b1 := gt_bd O (x := x) (by omega)
    have b2 := gt_bd O (x := y) (by omega)
    exact gt_inj O (by omega) (by omega) (gt_inj R (by omega) (by omega) e)
theorem places_unique {ns f : List Int} (R : IsRow ns) (hl : f.length = ns.length) (h : ∀ x : Int, 0 ≤ x ∧ x < ns.length → gt f (gt ns x) = x) : placesOf ns = f :=
  ext_gt (by rw [placesOf_length, hl]) fun y hy => by
    rw [hl] at hy
    obtain ⟨b, e⟩ := gt_placesOf R hy
    have := h _ b
    rw [e] at this; exact this.symm
theorem back_order {ns : List Int} (R : IsRow ns) : (placesOf ns).map (gt ns) = upTo ns.length :=
  ext_gt (by rw [List.length_map, placesOf_length, upTo_length]) fun y hy => by
    rw [upTo_length] at hy
    rw [gt_map (by rw [placesOf_length]; exact hy), gt_upTo hy]
    exact (gt_placesOf R hy).2
theorem order_back {ns : List Int} (R : IsRow ns) : ns.map (gt (placesOf ns)) = upTo ns.length :=
  ext_gt (by rw [List.length_map, upTo_length]) fun y hy => by
    rw [upTo_length] at hy
    rw [gt_map hy, gt_upTo hy]
    exact placesOf_gt R hy
theorem back_comp {ns o : List Int} (R : IsRow ns) (O : IsRow o) (hl : o.length = ns.length) : placesOf (o.map (gt ns)) = (placesOf ns).map (gt (placesOf o)) := by
  have l : (o.map (gt ns)).length = ns.length := by rw [List.length_map, hl]
  refine places_unique (R.comp O hl) (by rw [List.length_map, placesOf_length, l]) fun x hx => ?_
  rw [l] at hx
  have b1 := gt_bd O (x := x) (by omega)
  have b2 := gt_bd R (x := gt o x) (by omega)
  rw [gt_map (o := o) (g := gt ns) (x := x) (by omega), gt_map (by rw [placesOf_length]; exact b2), placesOf_gt R (by omega), placesOf_gt O (by omega)]
theorem back_back {ns : List Int} (R : IsRow ns) : placesOf (placesOf ns) = ns := by
  refine places_unique R.places (by rw [placesOf_length]) fun x hx => ?_
  rw [placesOf_length] at hx
  exact (gt_placesOf R hx).2
theorem times_one {ns : List Int} (R : IsRow ns) : timesOf ns 1 = ns :=
  ext_gt (timesOf_length _ _) fun y hy => pow_nat R (k := 1) (timesOf_pow R 1) hy
theorem inv_both {ns : List Int} (R : IsRow ns) : (inv ns : Int) + (inv ns.reverse : Int) = (ns.length : Int) * ((ns.length : Int) - 1) / 2 := by
  have h := inv_rev R.nd
  have e : (((ns.length * (ns.length - 1) : Nat)) : Int) = (ns.length : Int) * ((ns.length : Int) - 1) := by
    cases ns.length with
    | zero => rfl
    | succ m => rw [Nat.succ_sub_one]; push_cast; congr 1; omega
  rw [← e, ← h]; omega
theorem o_eqLf {K : PySem.W.Frag} {H : Hp} {Q : VK} {p q : Addr} {as bs : List Addr} {xs ys : List (List Int)} (h1 : SqL K H p (as.map V.ref)) (h2 : SqL K H q (bs.map V.ref)) (L1 : Lf H as xs) (L2' : Lf H bs ys) (k : Q (.bl (decide (xs = ys))) H) : rEqD K (.ref p) (.ref q) H Q :=
  o_eqD (emb_L (emb_L emb_I)) (by decide) (dp_lists h1 L1.1 fun i a x ha hx => SqL.of (L1.2 i a x ha hx)) (dp_lists h2 L2'.1 fun i a x ha hx => SqL.of (L2'.2 i a x ha hx)) k
theorem Lf.two {H : Hp} {a b : Addr} {x y : List Int} (h1 : H a = some (oL x)) (h2 : H b = some (oL y)) : Lf H [a, b] [x, y] :=
  Lf.snoc (bs := [a]) (rs := [x]) (Lf.snoc (bs := []) (rs := []) ⟨rfl, fun i p x h => by simp at h⟩ h1) h2
end Bo

namespace Bo
open PySem PySem.Spec PyProof.Rows L2
/-! ### steps of a reading: each a row of its own -/
local macro_rules | `(tactic| walk_at "ne") => `(tactic| first
  | assumption
  | (apply Ne.symm; assumption)
  | (apply neo; assumption; walk_at "hp")
  | (apply Ne.symm; apply neo; assumption; walk_at "hp"))
local macro_rules | `(tactic| walk_at "hp") => `(tactic| first
  | assumption
  | exact upd_same
  | (apply lift_ne; walk_at "hp"; walk_at "ne")
  | (apply Same.up; assumption; walk_at "hp"))
local macro_rules | `(tactic| walk_at "same") => `(tactic| first
  | assumption
  | exact Same.refl _
  | (apply Same.new; walk_at "same"; walk_at "fr")
  | (apply same_trans; assumption; walk_at "same"))
local macro_rules | `(tactic| walk_at "fr") => `(tactic| first
  | assumption
  | (apply same_free; assumption; walk_at "same"))
local macro_rules | `(tactic| walk_at "sq") => `(tactic| first
  | assumption
  | (apply SqL.of; walk_at "hp")
  | (apply same_seq; assumption; walk_at "same"))
local macro_rules | `(tactic| walk_at "sqt") => `(tactic| first
  | assumption
  | (apply SqT.of; walk_at "hp")
  | (apply same_sqt; assumption; walk_at "same"))
local macro_rules | `(tactic| walk_at "nw") => `(tactic| first
  | assumption
  | (apply News.mut; walk_at "nw"; (first | assumption | (refine News.notin (by assumption) ?_; assumption)))
  | (apply News.same; walk_at "nw"; walk_at "same"))
/-! one step -/
local macro_rules | `(tactic| walk_at "go1") => `(tactic| first
  | with_reducible refine r_seq ?_
  | with_reducible refine r_asgN ?_
  | with_reducible refine r_set ?_
  | with_reducible refine r_ret ?_
  | with_reducible refine r_drop ?_
  | with_reducible refine r_if ?_
  | with_reducible refine r_next ?_
  | with_reducible refine r_nx ?_
  | with_reducible refine r_rt ?_
  | with_reducible refine r_par ?_
  | with_reducible refine k_par ?_
  | with_reducible refine r_fld ?_
  | ((with_reducible apply r_aug); exact rfl)
  | with_reducible refine i_ip ?_
  | ((with_reducible apply e_var); exact rfl)
  | with_reducible refine e_c ?_
  | with_reducible refine e_op ?_
  | with_reducible refine e_un ?_
  | with_reducible refine o_I0 ?_
  | with_reducible refine o_neg ?_
  | with_reducible refine o_eqI ?_
  | with_reducible refine o_neI ?_
  | with_reducible refine o_eqB ?_
  | with_reducible refine o_neB ?_
  | with_reducible refine o_eqS ?_
  | with_reducible refine o_neS ?_
  | with_reducible refine a_nil ?_
  | with_reducible refine a_cons ?_
  | with_reducible refine e_cb ?_
  | with_reducible refine e_call ?_
  | with_reducible refine e_make ?_
  | with_reducible refine e_meth ?_
  | with_reducible refine e_fld ?_
  | with_reducible refine e_lst ?_
  | with_reducible refine e_tup ?_
  | with_reducible refine e_bm ?_
  | with_reducible refine e_bm0 ?_
  | with_reducible refine e_rev ?_
  | with_reducible refine e_sl ?_
  | with_reducible refine e_nopart ?_
  | with_reducible refine e_part ?_
  | with_reducible refine i_ok ?_
  | with_reducible refine e_lenset ?_
  | with_reducible refine e_listRg1 ?_
  | with_reducible refine t_test ?_
  | with_reducible refine t_B ?_
  | with_reducible refine b_ok ?_
  | with_reducible refine t_and ?_
  | with_reducible refine t_or ?_
  | with_reducible refine t_not ?_
  | with_reducible refine v_and ?_
  | with_reducible refine v_or ?_
  | with_reducible refine v_not ?_
  | with_reducible refine e_if ?_
  | with_reducible refine e_chain ?_
  | with_reducible refine e_chain3 ?_
  | with_reducible refine iteT ?_
  | with_reducible refine iteF ?_
  | with_reducible refine ite_nT ?_
  | with_reducible refine ite_nF ?_
  | with_reducible refine r_forL ?_
  | with_reducible refine r_forT ?_
  | with_reducible refine r_forE ?_
  | with_reducible refine r_forR1 ?_
  | with_reducible refine r_forR2 ?_
  | with_reducible refine e_lcL ?_
  | with_reducible refine e_lcR1 ?_
  | with_reducible refine e_lcR2 ?_
  | with_reducible refine r_dput ?_
  | with_reducible refine e_dget ?_
  | with_reducible refine e_dnin ?_
  | with_reducible refine c_max2 ?_
  | with_reducible refine c_min2 ?_
  | ((with_reducible apply c_isiI); (first | exact (show kitB "int" _ = some true by decide +kernel) | exact (show kitB "int" _ = some false by decide +kernel)))
  | ((with_reducible apply m_ty); walk_at "sq"))
local macro_rules | `(tactic| walk_at "go2") => `(tactic| first
  | ((with_reducible apply o_ixI); walk_at "sq"; omega)
  | ((with_reducible refine o_mod ?_ ?_); omega)
  | ((with_reducible refine o_fdiv ?_ ?_); omega)
  | ((with_reducible refine o_mulR ?_ ?_); omega)
  | ((with_reducible refine o_mulL ?_ ?_); omega)
  | ((with_reducible apply c_lenM); walk_at "sq")
  | ((with_reducible apply c_all); walk_at "sq")
  | ((with_reducible apply c_any); walk_at "sq")
  | ((with_reducible apply o_in); walk_at "sq")
  | ((with_reducible apply o_nin); walk_at "sq")
  | ((with_reducible apply o_ixB); walk_at "sq"; omega)
  | ((with_reducible apply m_setB); walk_at "hp"; omega)
  | ((with_reducible apply m_appR); walk_at "hp"; omega)
  | ((with_reducible apply m_ins); walk_at "hp"; omega; omega)
  | ((with_reducible apply m_appM); walk_at "hp"; exact rfl; omega)
  | ((with_reducible apply m_setI); walk_at "hp"; omega))
local macro_rules | `(tactic| walk_at "d") => `(tactic| try dsimp only)
local macro_rules | `(tactic| walk_at "k") => `(tactic| try dsimp only [cxOf, Cx.nox, Cx.blk])
local macro_rules | `(tactic| walk_at "go") => `(tactic| repeat (first | walk_at "go1" | walk_at "go2"))

section
variable {P : Program} {w : World} {K : PySem.W.Frag} {mg : Str → Option Value} {base : Heap} {C_Exchanged C_Fronted C_Ended C_Put C_Answer : Addr} (T : Top K mg C_Exchanged C_Fronted C_Ended C_Put C_Answer)
include T
def sp_is_number (K : PySem.W.Frag) : Sp := fun vs H Q _ => ∃ (x : V) (lo hi : Int) (t : String), vs = [x, .int lo, .int hi] ∧ TyX K H x (.type t) ∧ Q (.bl (isNum x lo hi)) H
theorem ok_is_number : Cc P w K mg base 1 "is_number" (sp_is_number K) := by
  refine Cc.mk' T.d_is_number sc_is_number ?_ ?_
  · rintro vs H Q E ⟨x, lo, hi, t, rfl, _⟩; rfl
  · rintro f cdv A outer s H vs Q E hr ⟨x, lo, hi, t, rfl, ty, q⟩
    refine ⟨_, (pss_one (ps_ret (pe_and (pe_callB (r := rIsi K) call_isi (by rfl) T.b_isinstance PyProof.Rows.boot_isinstance (pa_cons (pv 0) (pa_cons (pe_bltn (v := .ty "int") (by rfl) T.b_int PyProof.Rows.boot_int rfl) pa_nil))) (pe_and (pe_not (pe_callB (r := rIsi K) call_isi (by rfl) T.b_isinstance PyProof.Rows.boot_isinstance (pa_cons (pv 0) (pa_cons (pe_bltn (v := .ty "bool") (by rfl) T.b_bool PyProof.Rows.boot_bool rfl) pa_nil)))) (pe_one (pe_chain op_le op_le (pv 1) (pv 0) (pv 2))))))), ?_⟩
    walk_at "k"
    walk_at "go"
    refine c_isi ty (kit_int ty) ?_
    walk_at "go"
    refine ite_bl (fun h1 => ?_) (fun h1 => ?_)
    · walk_at "go"
      refine c_isi ty (kit_bool ty) ?_
      walk_at "go"
      refine ite_bl (fun h2 => ?_) (fun h2 => ?_)
      · obtain ⟨i, rfl⟩ : ∃ i, x = .int i := by
          cases x <;> simp [isIntV, isBlV] at h1 h2 ⊢
        walk_at "go"
        rw [isNum_int] at q
        refine ite_dec (fun h3 => ?_) (fun h3 => ?_)
        · walk_at "go"
          rw [decide_eq_true h3, Bool.true_and] at q
          exact q
        · walk_at "go"
          rw [decide_eq_false h3, Bool.false_and] at q
          exact q
      · walk_at "go"
        have e : isNum x lo hi = false := by
          cases x <;> simp [isIntV, isBlV, isNum] at h1 h2 ⊢
        rw [e] at q; exact q
    · walk_at "go"
      have e : isNum x lo hi = false := by
        cases x <;> simp [isIntV, isNum] at h1 ⊢
      rw [e] at q; exact q
def sp_check_row (K : PySem.W.Frag) : Sp := fun vs H Q _ => ∃ (a : Addr) (ns : List Int), vs = [.ref a] ∧ SqL K H a (ns.map V.int) ∧ IsRow ns ∧ ∀ H', Same H H' → Q .non H'
theorem ok_check_row : Cc P w K mg base 2 "check_row" (sp_check_row K) := by
  have c_is_number := ok_is_number (P := P) (w := w) (base := base) T
  obtain ⟨tM, g_MOST⟩ := T.g_MOST
  refine Cc.mk' T.d_check_row sc_check_row ?_ ?_
  · rintro vs H Q E ⟨a, ns, rfl, _⟩; rfl
  · rintro f cdv A outer s H vs Q E hr ⟨a, ns, rfl, hS, R, q⟩
    have hl := R.len
    refine ⟨_, (pss_cons (ps_if (PW.pt (pw_or (pt_not (pt_val (pe_callB (r := rIsi K) call_isi (by rfl) T.b_isinstance PyProof.Rows.boot_isinstance (pa_cons (pv 0) (pa_cons (pe_bltn (v := .ty "list") (by rfl) T.b_list PyProof.Rows.boot_list rfl) pa_nil))))) (pw_or (pt_cmpR op_gt (pe_callB (r := rLen2 K) call_len_seq (by rfl) T.b_len PySem.boot_len (pa_cons (pv 0) pa_nil)) (pe_glob (v := .int 1000000) (by rfl) g_MOST ⟨_, rfl⟩) (nomark _)) (pw_or1 (pt_not (pt_val (pe_callB (r := rAll K) (cr_all rfl) (by rfl) T.b_all PyProof.Rows.boot_all (pa_cons (pe_lc (own := [("thing", 1)]) (g := gName 1) (tt := tYes) rfl sc_check_row.nd (pi_list (pv 0)) (blkOk_by (own := [("thing", 1)]) (N := N_check_row) (sc := defScope s_check_row) (by decide +kernel)) (fun _ _ _ _ _ => (pg_name (i := 1) sc_check_row.nd rfl (Or.inl rfl))) (fun _ _ _ _ _ => pts_nil) (fun _ _ _ _ _ => (pe_cc c_is_number (hr.mono (by decide)) (by rfl) (pa_cons (pv 1) (pa_cons pe_int (pa_cons (pe_op op_sub (pe_callB (r := rLen2 K) call_len_seq (by rfl) T.b_len PySem.boot_len (pa_cons (pv 0) pa_nil)) pe_int) pa_nil)))))) pa_nil)))))))) pss_never pss_nil)
      (pss_one (ps_if (pt_cmpR op_ne (pe_lenSetG (by rfl) T.b_len (by rfl) T.b_set (pv 0)) (pe_callB (r := rLen2 K) call_len_seq (by rfl) T.b_len PySem.boot_len (pa_cons (pv 0) pa_nil)) (nomark _)) pss_never pss_nil))), ?_⟩
    walk_at "k"
    walk_at "go"
    refine c_isiL hS (show kitB "list" "list" = some true by decide +kernel) ?_
    walk_at "go"
    refine ite_decN (by omega) ?_
    walk_at "go"
    refine k_lcV (xs := ns) (f := V.int) (h := V.bl) (fun x => isNum (.int x) 0 ((ns.length : Int) - 1)) (by walk_at "sq") (by omega) (fun _ => rfl) ?_ ?_
    · intro i x H2 R' hx s2 k2
      walk_at "go"
      refine ⟨.int x, 0, _, "int", rfl, .base (.int x), ?_⟩
      exact k2 H2 (Same.refl _)
    · intro D H2 nD s2 hD
      walk_at "go"
      rw [R.all_num]
      walk_at "go"
      refine c_lenset (by walk_at "sq") (by omega) ?_
      walk_at "go"
      rw [(nodup_len_eq ns).mpr R.nd]
      refine ite_ndecN rfl ?_
      walk_at "go"
      exact q _ s2
def sp_rings_of (K : PySem.W.Frag) : Sp := fun vs H Q _ => ∃ (a : Addr) (ns : List Int), vs = [.ref a] ∧ SqL K H a (ns.map V.int) ∧ IsRow ns ∧
  ∀ p as H', Same H H' → H p = none → News H H' oL as (ringsOf ns) → p ∉ as → H' p = some (.lst (as.map V.ref)) → Q (.ref p) H'
theorem ok_rings_of : Cc P w K mg base 1 "rings_of" (sp_rings_of K) := by
  refine Cc.mk' T.d_rings_of sc_rings_of ?_ ?_
  · rintro vs H Q E ⟨a, ns, rfl, _⟩; rfl
  · rintro f cdv A outer s H vs Q E hr ⟨a, ns, rfl, hS, R, q⟩
    have hl := R.len
    refine ⟨_, (pss_cons (ps_setLc (i := 1) (own := [("thing", 3)]) (g := gName 3) (tt := tYes) rfl sc_rings_of.nd rfl rfl (sw_true rfl rfl rfl (by decide +kernel)) (pi_list (pv 0)) (blkOk_by (own := [("thing", 3)]) (N := N_rings_of) (sc := defScope s_rings_of) (by decide +kernel)) (fun _ _ _ _ _ => (pg_name (i := 3) sc_rings_of.nd rfl (Or.inl rfl))) (fun _ _ _ _ _ => pts_nil) (fun _ _ _ _ _ => pe_bl))
      (pss_cons (ps_set (i := 2) sc_rings_of.nd rfl (by first | exact Or.inl rfl | exact Or.inr rfl) (pe_lst pa_nil))
      (pss_cons (ps_for PassesOwn.never rfl (pi_range1 (by rfl) T.b_range (pa_cons (pe_callB (r := rLen2 K) call_len_seq (by rfl) T.b_len PySem.boot_len (pa_cons (pv 0) pa_nil)) pa_nil)) (pg_name (i := 3) sc_rings_of.nd rfl (by first | exact Or.inl rfl | exact Or.inr rfl)) (pss_cons (ps_set (i := 4) sc_rings_of.nd rfl (by first | exact Or.inl rfl | exact Or.inr rfl) (pe_lst pa_nil))
      (pss_cons (ps_while PassesOwn.never (pt_not (pt_val (pe_ix (r := rIxL K) ix_list (pv 1) (pv 3) (fun _ _ => rfl)))) (pss_cons (ps_asg pe_bl (pg_sub (pv 1) (pv 3) set_list))
      (pss_cons (ps_expr (pe_bm PySem.F.plainAttrs_list PySem.F.slot_list_append PySem.F.type_list_append mt_append (pv 4) (pa_cons (pv 3) pa_nil)))
      (pss_one (ps_set (i := 3) sc_rings_of.nd rfl (by first | exact Or.inl rfl | exact Or.inr rfl) (pe_ix (r := rIxL K) ix_list (pv 0) (pv 3) (fun _ _ => rfl)))))))
      (pss_one (ps_if (pt_cmpR op_gt (pe_callB (r := rLen2 K) call_len_seq (by rfl) T.b_len PySem.boot_len (pa_cons (pv 4) pa_nil)) pe_int (nomark _)) (pss_one (ps_expr (pe_bm PySem.F.plainAttrs_list PySem.F.slot_list_append PySem.F.type_list_append mt_append (pv 2) (pa_cons (pv 4) pa_nil)))) pss_nil)))))
      (pss_one (ps_ret (pv 2)))))), ?_⟩
    walk_at "k"
    walk_at "go"
    refine k_lcV (xs := ns) (f := V.int) (h := V.bl) (fun _ => false) (by walk_at "sq") (by omega) (fun _ => rfl) (fun i x H2 R' hx s2 k2 => k2 H2 (Same.refl _)) ?_
    intro pm H1 npm s1 hpm
    walk_at "go"
    refine ⟨Nat.zero_le _, fun pf npf => ?_⟩
    have hmf : pm ≠ pf := by walk_at "ne"
    have npf0 : H pf = none := by walk_at "fr"
    walk_at "go"
    refine k_rng1 (fun i σ H' => ∃ as th rg, σ = [some (.ref a), some (.ref pm), some (.ref pf), th, rg] ∧ Same H H' ∧ H' pm = some (.lst ((ringsAux ns i).1.map V.bl)) ∧ H' pf = some (.lst (as.map V.ref)) ∧ News H H' oL as (ringsAux ns i).2 ∧ pm ∉ as ∧ pf ∉ as)
      (by omega) ⟨[], none, none, rfl, by walk_at "same", by walk_at "hp", by walk_at "hp", News.nil, by simp, by simp⟩ ?_ ?_
    · rintro i σ H' hi ⟨as, th, rg, rfl, s2, h1, h2, n2, m1, m2⟩
      walk_at "go"
      refine ⟨Nat.zero_le _, fun pr npr => ?_⟩
      walk_at "go"
      walk_at "d"
      have prm : pr ≠ pm := by walk_at "ne"
      have prf : pr ≠ pf := by walk_at "ne"
      have hpr0 : H pr = none := by walk_at "fr"
      have pra : pr ∉ as := n2.notin npr
      have ml := ringsAux_length ns i
      refine r_while (fun m σ H'' => ∃ met ring t, m = met.count false ∧ σ = [some (.ref a), some (.ref pm), some (.ref pf), some (.int t), some (.ref pr)] ∧ Same H H'' ∧ H'' pm = some (.lst (met.map V.bl)) ∧ H'' pf = some (.lst (as.map V.ref)) ∧
          News H H'' oL as (ringsAux ns i).2 ∧ H'' pr = some (.lst (ring.map V.int)) ∧ met.length = ns.length ∧ (0 ≤ t ∧ t < ns.length) ∧ ring.length + met.count false = (ringsAux ns i).1.count false ∧ ringAt ns met t ring = ringAt ns (ringsAux ns i).1 i [])
        _ ⟨(ringsAux ns i).1, [], i, rfl, rfl, by walk_at "same", by walk_at "hp", by walk_at "hp", by walk_at "nw", by walk_at "hp", ml, by omega, by simp, rfl⟩ ?_
      rintro m σ H'' ⟨met, ring, t, rfl, rfl, s3, h3, h4, n3, h5, l3, bt, lr, e3⟩
      have hcl : (ringsAux ns i).1.count false ≤ ns.length := by rw [← ml]; exact List.count_le_length ..
      walk_at "go"
      cases hb : gb met t with
      | false =>
        walk_at "go"
        refine ⟨_, fun σ2 H2 h => h, ?_⟩
        walk_at "go"
        have hc := count_set (by rw [← hb]; exact gb_get (met := met) (t := t) (by omega))
        have bt2 := R.bd (gt ns t) (gt_mem (by omega) (by omega))
        refine ⟨_, ?_, met.set t.toNat true, ring ++ [t], gt ns t, rfl, rfl, by walk_at "same", by walk_at "hp", by walk_at "hp", by walk_at "nw", by walk_at "hp", by rw [List.length_set]; exact l3, bt2, by rw [List.length_append]; simp; omega, ?_⟩
        · omega
        · rw [← e3]
          exact (ringAt_next hb (by omega)).symm
      | true =>
        walk_at "go"
        rw [ringAt_met hb] at e3
        have e4 : ringsAux ns (i + 1) = (met, if ring = [] then (ringsAux ns i).2 else (ringsAux ns i).2 ++ [ring]) := by
          show ((ringAt ns (ringsAux ns i).1 (i : Int) []).1, if (ringAt ns (ringsAux ns i).1 (i : Int) []).2 = [] then _ else _) = _
          rw [← e3]
        refine ite_dec (fun h6 => ?_) (fun h6 => ?_)
        · have hn : ring ≠ [] := by rintro rfl; simp at h6
          rw [if_neg hn] at e4
          have la : as.length = (ringsAux ns i).2.length := n3.len
          have lb : (ringsAux ns i).2.length ≤ i := ringsAux_count ns i
          walk_at "go"
          refine ⟨as ++ [pr], _, _, rfl, by walk_at "same", ?_, by walk_at "hp", ?_, nm_snoc m1 prm.symm, nm_snoc m2 prf.symm⟩
          · rw [e4]; walk_at "hp"
          · rw [e4]
            refine News.snoc (by walk_at "nw") pra hpr0 ?_
            walk_at "hp"
        · have hn : ring = [] := by
            cases ring with
            | nil => rfl
            | cons x r => exact absurd (by simp) h6
          rw [if_pos hn] at e4
          walk_at "go"
          refine ⟨as, _, _, rfl, by walk_at "same", ?_, by walk_at "hp", ?_, m1, m2⟩
          · rw [e4]; walk_at "hp"
          · rw [e4]; walk_at "nw"
    · rintro σ H' ⟨as, th, rg, rfl, s2, h1, h2, n2, m1, m2⟩
      walk_at "go"
      rw [Int.toNat_natCast] at n2
      exact q pf as H' s2 npf0 n2 m2 h2
end
end Bo

namespace Bo
open PySem PySem.Spec PyProof.Rows L2
/-! ### steps of a reading: each a row of its own -/
local macro_rules | `(tactic| walk_at "ne") => `(tactic| first
  | assumption
  | (apply Ne.symm; assumption)
  | (apply neo; assumption; walk_at "hp")
  | (apply Ne.symm; apply neo; assumption; walk_at "hp"))
local macro_rules | `(tactic| walk_at "hp") => `(tactic| first
  | assumption
  | exact upd_same
  | (apply lift_ne; walk_at "hp"; walk_at "ne")
  | (apply Same.up; assumption; walk_at "hp"))
local macro_rules | `(tactic| walk_at "same") => `(tactic| first
  | assumption
  | exact Same.refl _
  | (apply Same.new; walk_at "same"; walk_at "fr")
  | (apply same_trans; assumption; walk_at "same"))
local macro_rules | `(tactic| walk_at "fr") => `(tactic| first
  | assumption
  | (apply same_free; assumption; walk_at "same"))
local macro_rules | `(tactic| walk_at "sq") => `(tactic| first
  | assumption
  | (apply SqL.of; walk_at "hp")
  | (apply same_seq; assumption; walk_at "same"))
local macro_rules | `(tactic| walk_at "sqt") => `(tactic| first
  | assumption
  | (apply SqT.of; walk_at "hp")
  | (apply same_sqt; assumption; walk_at "same"))
local macro_rules | `(tactic| walk_at "nw") => `(tactic| first
  | assumption
  | (apply News.mut; walk_at "nw"; (first | assumption | (refine News.notin (by assumption) ?_; assumption)))
  | (apply News.same; walk_at "nw"; walk_at "same"))
/-! one step -/
local macro_rules | `(tactic| walk_at "go1") => `(tactic| first
  | with_reducible refine r_seq ?_
  | with_reducible refine r_asgN ?_
  | with_reducible refine r_set ?_
  | with_reducible refine r_ret ?_
  | with_reducible refine r_drop ?_
  | with_reducible refine r_if ?_
  | with_reducible refine r_next ?_
  | with_reducible refine r_nx ?_
  | with_reducible refine r_rt ?_
  | with_reducible refine r_par ?_
  | with_reducible refine k_par ?_
  | with_reducible refine r_fld ?_
  | ((with_reducible apply r_aug); exact rfl)
  | with_reducible refine i_ip ?_
  | ((with_reducible apply e_var); exact rfl)
  | with_reducible refine e_c ?_
  | with_reducible refine e_op ?_
  | with_reducible refine e_un ?_
  | with_reducible refine o_I0 ?_
  | with_reducible refine o_neg ?_
  | with_reducible refine o_eqI ?_
  | with_reducible refine o_neI ?_
  | with_reducible refine o_eqB ?_
  | with_reducible refine o_neB ?_
  | with_reducible refine o_eqS ?_
  | with_reducible refine o_neS ?_
  | with_reducible refine a_nil ?_
  | with_reducible refine a_cons ?_
  | with_reducible refine e_cb ?_
  | with_reducible refine e_call ?_
  | with_reducible refine e_make ?_
  | with_reducible refine e_meth ?_
  | with_reducible refine e_fld ?_
  | with_reducible refine e_lst ?_
  | with_reducible refine e_tup ?_
  | with_reducible refine e_bm ?_
  | with_reducible refine e_bm0 ?_
  | with_reducible refine e_rev ?_
  | with_reducible refine e_sl ?_
  | with_reducible refine e_nopart ?_
  | with_reducible refine e_part ?_
  | with_reducible refine i_ok ?_
  | with_reducible refine e_lenset ?_
  | with_reducible refine e_listRg1 ?_
  | with_reducible refine t_test ?_
  | with_reducible refine t_B ?_
  | with_reducible refine b_ok ?_
  | with_reducible refine t_and ?_
  | with_reducible refine t_or ?_
  | with_reducible refine t_not ?_
  | with_reducible refine v_and ?_
  | with_reducible refine v_or ?_
  | with_reducible refine v_not ?_
  | with_reducible refine e_if ?_
  | with_reducible refine e_chain ?_
  | with_reducible refine e_chain3 ?_
  | with_reducible refine iteT ?_
  | with_reducible refine iteF ?_
  | with_reducible refine ite_nT ?_
  | with_reducible refine ite_nF ?_
  | with_reducible refine r_forL ?_
  | with_reducible refine r_forT ?_
  | with_reducible refine r_forE ?_
  | with_reducible refine r_forR1 ?_
  | with_reducible refine r_forR2 ?_
  | with_reducible refine e_lcL ?_
  | with_reducible refine e_lcR1 ?_
  | with_reducible refine e_lcR2 ?_
  | with_reducible refine r_dput ?_
  | with_reducible refine e_dget ?_
  | with_reducible refine e_dnin ?_
  | with_reducible refine c_max2 ?_
  | with_reducible refine c_min2 ?_
  | ((with_reducible apply c_isiI); (first | exact (show kitB "int" _ = some true by decide +kernel) | exact (show kitB "int" _ = some false by decide +kernel)))
  | ((with_reducible apply m_ty); walk_at "sq"))
local macro_rules | `(tactic| walk_at "go2") => `(tactic| first
  | ((with_reducible apply o_ixI); walk_at "sq"; omega)
  | ((with_reducible refine o_mod ?_ ?_); omega)
  | ((with_reducible refine o_fdiv ?_ ?_); omega)
  | ((with_reducible refine o_mulR ?_ ?_); omega)
  | ((with_reducible refine o_mulL ?_ ?_); omega)
  | ((with_reducible apply c_lenM); walk_at "sq")
  | ((with_reducible apply c_all); walk_at "sq")
  | ((with_reducible apply c_any); walk_at "sq")
  | ((with_reducible apply o_in); walk_at "sq")
  | ((with_reducible apply o_nin); walk_at "sq")
  | ((with_reducible apply o_ixB); walk_at "sq"; omega)
  | ((with_reducible apply m_setB); walk_at "hp"; omega)
  | ((with_reducible apply m_appR); walk_at "hp"; omega)
  | ((with_reducible apply m_ins); walk_at "hp"; omega; omega)
  | ((with_reducible apply m_appM); walk_at "hp"; exact rfl; omega)
  | ((with_reducible apply m_setI); walk_at "hp"; omega))
local macro_rules | `(tactic| walk_at "d") => `(tactic| try dsimp only)
local macro_rules | `(tactic| walk_at "k") => `(tactic| try dsimp only [cxOf, Cx.nox, Cx.blk])
local macro_rules | `(tactic| walk_at "go") => `(tactic| repeat (first | walk_at "go1" | walk_at "go2"))

section
variable {P : Program} {w : World} {K : PySem.W.Frag} {mg : Str → Option Value} {base : Heap} {C_Exchanged C_Fronted C_Ended C_Put C_Answer : Addr} (T : Top K mg C_Exchanged C_Fronted C_Ended C_Put C_Answer)
include T

def sp_cell_at (K : PySem.W.Frag) : Sp := fun vs H Q _ => ∃ (a : Addr) (ns : List Int) (k : Int), vs = [.ref a, .int k] ∧ SqL K H a (ns.map V.int) ∧ 0 ≤ k ∧ ∀ r, Q (.int r) H
theorem ok__law_cell_at : Cc P w K mg base 1 "_law_cell_at" (sp_cell_at K) := by
  refine Cc.mk' T.d__law_cell_at sc__law_cell_at ?_ ?_
  · rintro vs H Q E ⟨a, ns, k, rfl, _⟩; rfl
  · rintro f cdv A outer s H vs Q E hr ⟨a, ns, k, rfl, hS, h0, q⟩
    refine ⟨_, (pss_cons (ps_if (pt_cmpR op_lt (pv 1) (pe_callB (r := rLen2 K) call_len_seq (by rfl) T.b_len PySem.boot_len (pa_cons (pv 0) pa_nil)) (nomark _)) (pss_one (ps_ret (pe_ix (r := rIxL K) ix_list (pv 0) (pv 1) (fun _ _ => rfl)))) pss_nil)
      (pss_one (ps_ret pe_int))), ?_⟩
    walk_at "k"
    walk_at "go"
    refine ite_dec (fun h => ?_) (fun h => ?_)
    · walk_at "go"
      exact q _
    · walk_at "go"
      exact q _
def sp_draw (K : PySem.W.Frag) : Sp := fun vs H Q _ => ∃ (c k m : Int), vs = [.int c, .int k, .int m] ∧ 0 < m ∧ ∀ r H', 0 ≤ r → r < m → Same H H' → Q (.int r) H'
theorem ok__law_draw : Cc P w K mg base 1 "_law_draw" (sp_draw K) := by
  refine Cc.mk' T.d__law_draw sc__law_draw ?_ ?_
  · rintro vs H Q E ⟨c, k, m, rfl, _⟩; rfl
  · rintro f cdv A outer s H vs Q E hr ⟨c, k, m, rfl, h0, q⟩
    refine ⟨_, (pss_cons (ps_set (i := 3) sc__law_draw.nd rfl (by first | exact Or.inl rfl | exact Or.inr rfl) (pe_tup (pa_cons pe_int (pa_cons pe_int (pa_cons pe_int (pa_cons pe_int (pa_cons pe_int (pa_cons pe_int (pa_cons pe_int (pa_cons pe_int (pa_cons pe_int (pa_cons pe_int (pa_cons pe_int (pa_cons pe_int (pa_cons pe_int (pa_cons pe_int (pa_cons pe_int (pa_cons pe_int pa_nil))))))))))))))))))
      (pss_one (ps_ret (pe_op op_mod (pe_op op_mod (pe_op op_add (pe_op op_mul (pv 0) pe_int) (pe_op op_mul (pv 1) pe_int)) (pe_ix (r := rIxT K) ix_tup (pv 3) (pe_op op_mod (pv 1) pe_int) (fun _ _ => rfl))) (pv 2))))), ?_⟩
    walk_at "k"
    walk_at "go"
    refine ⟨by show 16 ≤ sizeLine; decide, fun p np => ?_⟩
    walk_at "go"
    obtain ⟨pr, hp, e⟩ := primes_at k
    refine o_ixT (SqT.of upd_same) e ?_
    walk_at "go"
    exact q _ _ (Int.emod_nonneg _ (by omega)) (Int.emod_lt_of_pos _ h0) (Same.one np)
/-- the row that a law builds of its script: some row of as many things -/
def sp_law_row (K : PySem.W.Frag) : Sp := fun vs H Q _ => ∃ (a : Addr) (ns : List Int), vs = [.ref a] ∧ SqL K H a (ns.map V.int) ∧ ns.length ≤ 63 ∧
  ∀ p r H', Same H H' → H p = none → IsRow r → r.length = ns.length → H' p = some (.lst (r.map V.int)) → Q (.ref p) H'
theorem ok__law_row : Cc P w K mg base 2 "_law_row" (sp_law_row K) := by
  have c__law_draw := ok__law_draw (P := P) (w := w) (base := base) T
  have c__law_cell_at := ok__law_cell_at (P := P) (w := w) (base := base) T
  refine Cc.mk' T.d__law_row sc__law_row ?_ ?_
  · rintro vs H Q E ⟨a, ns, rfl, _⟩; rfl
  · rintro f cdv A outer s H vs Q E hr ⟨a, ns, rfl, hS, hl, q⟩
    refine ⟨_, (pss_cons (ps_par (i := 1) (j := 2) rfl sc__law_row.nd rfl rfl (by decide) rfl rfl (pa_cons (pe_cc c__law_draw (hr.mono (by decide)) (by rfl) (pa_cons (pe_cc c__law_cell_at (hr.mono (by decide)) (by rfl) (pa_cons (pv 0) (pa_cons pe_int pa_nil))) (pa_cons pe_int (pa_cons pe_int pa_nil)))) (pa_cons (pe_lst pa_nil) pa_nil)) (by rfl))
      (pss_cons (ps_for PassesOwn.never rfl (pi_range1 (by rfl) T.b_range (pa_cons (pe_callB (r := rLen2 K) call_len_seq (by rfl) T.b_len PySem.boot_len (pa_cons (pv 0) pa_nil)) pa_nil)) (pg_name (i := 3) sc__law_row.nd rfl (by first | exact Or.inl rfl | exact Or.inr rfl)) (pss_cons (ps_set (i := 4) sc__law_row.nd rfl (by first | exact Or.inl rfl | exact Or.inr rfl) (pe_cc c__law_draw (hr.mono (by decide)) (by rfl) (pa_cons (pe_ix (r := rIxL K) ix_list (pv 0) (pv 3) (fun _ _ => rfl)) (pa_cons (pe_op op_add (pe_op op_mod (pv 3) pe_int) pe_int) (pa_cons (pe_op op_add (pv 3) pe_int) pa_nil)))))
      (Bo.pss_cut (ps_if (pt_cmpR op_eq (pv 1) pe_int (nomark _)) (pss_one (ps_set (i := 4) sc__law_row.nd rfl (by first | exact Or.inl rfl | exact Or.inr rfl) (pe_callB (r := rMin2) (call_min2 rfl) (by rfl) T.b_min PyProof.Rows.boot_min (pa_cons (pv 4) (pa_cons (pe_cc c__law_draw (hr.mono (by decide)) (by rfl) (pa_cons (pe_ix (r := rIxL K) ix_list (pv 0) (pv 3) (fun _ _ => rfl)) (pa_cons (pe_op op_add (pe_op op_mod (pv 3) pe_int) pe_int) (pa_cons pe_int pa_nil)))) pa_nil))))) pss_nil)
      (Bo.pss_cut (ps_if (pt_cmpR op_eq (pv 1) pe_int (nomark _)) (pss_one (ps_set (i := 4) sc__law_row.nd rfl (by first | exact Or.inl rfl | exact Or.inr rfl) (pe_callB (r := rMax2) (call_max2 rfl) (by rfl) T.b_max PyProof.Rows.boot_max (pa_cons (pv 4) (pa_cons (pe_op op_sub (pv 3) (pe_cc c__law_draw (hr.mono (by decide)) (by rfl) (pa_cons (pe_ix (r := rIxL K) ix_list (pv 0) (pv 3) (fun _ _ => rfl)) (pa_cons (pe_op op_add (pe_op op_mod (pv 3) pe_int) pe_int) (pa_cons pe_int pa_nil))))) pa_nil))))) pss_nil)
      (Bo.pss_cut (ps_if (PW.pt (pw_and (pt_cmpR op_eq (pv 1) pe_int (nomark _)) (pw_and1 (pt_cmpR op_gt (pe_op op_mod (pv 4) pe_int) pe_int (nomark _))))) (pss_one (ps_set (i := 4) sc__law_row.nd rfl (by first | exact Or.inl rfl | exact Or.inr rfl) pe_int)) pss_nil)
      (pss_one (ps_expr (pe_bm (r := rIns) PySem.F.plainAttrs_list PySem.F.slot_list_insert PySem.F.type_list_insert mt_insert (pv 2) (pa_cons (pe_op op_sub (pv 3) (pv 4)) (pa_cons (pv 3) pa_nil))))))))))
      (pss_one (ps_ret (pv 2))))), ?_⟩
    walk_at "k"
    walk_at "go"
    refine ⟨a, ns, 0, rfl, hS, by decide, fun c => ?_⟩
    walk_at "go"
    refine ⟨c, 6, 4, rfl, by decide, fun kind H1 k0 k1 s1 => ?_⟩
    walk_at "go"
    refine ⟨Nat.zero_le _, fun p np => ?_⟩
    have np0 : H p = none := by walk_at "fr"
    walk_at "go"
    refine k_rng1 (fun i σ H' => ∃ r kk aw, σ = [some (.ref a), some (.int kind), some (.ref p), kk, aw] ∧ Same H H' ∧ H' p = some (.lst (r.map V.int)) ∧ r.length = i ∧ (∀ x ∈ r, 0 ≤ x ∧ x < (i : Int)) ∧ r.Nodup)
      (by omega) ⟨[], none, none, rfl, by walk_at "same", by walk_at "hp", rfl, by simp, List.nodup_nil⟩ ?_ ?_
    · rintro i σ H' hi ⟨r, kk, aw, rfl, s2, h1, l1, b1, n1⟩
      walk_at "d"
      walk_at "go"
      -- the last step, once how far is known
      have fin : ∀ (away : Int) (H3 : Hp), 0 ≤ away → away ≤ i → Same H H3 → H3 p = some (.lst (r.map V.int)) → ∃ (r' : List Int) (kk' aw' : Option V), ([some (.ref a), some (.int kind), some (.ref p), some (.int (i : Int)), some (.int away)] : L2.St) = [some (.ref a), some (.int kind), some (.ref p), kk', aw'] ∧
          Same H (upd H3 p (.lst ((ins r ((i : Int) - away) (i : Int)).map V.int))) ∧ (upd H3 p (.lst ((ins r ((i : Int) - away) (i : Int)).map V.int))) p = some (.lst (r'.map V.int)) ∧ r'.length = i + 1 ∧ (∀ x ∈ r', 0 ≤ x ∧ x < ((i + 1 : Nat) : Int)) ∧ r'.Nodup := by
        intro away H3 a0 a1 s3 h3
        obtain ⟨e1, e2, e3⟩ := ins_row (k := (i : Int) - away) l1 b1 n1
        exact ⟨_, _, _, rfl, by walk_at "same", upd_same, e1, e2, e3⟩
      refine ⟨_, _, _, rfl, by omega, fun a0 H3 a1 a2 s3 => ?_⟩
      walk_at "go"
      refine c_nocut ?_
      walk_at "go"
      refine ite_dec (fun hk => ?_) (fun hk => ?_)
      · walk_at "go"
        refine ⟨_, _, _, rfl, by omega, fun b H4 b1 b2 s4 => ?_⟩
        walk_at "go"
        refine c_nocut ?_
        walk_at "go"
        refine ite_decN (by omega) ?_
        walk_at "go"
        refine c_nocut ?_
        walk_at "go"
        refine ite_decN (by omega) ?_
        walk_at "go"
        exact fin _ _ (by omega) (by omega) (by walk_at "same") (by walk_at "hp")
      · walk_at "go"
        refine c_nocut ?_
        walk_at "go"
        refine ite_dec (fun hk2 => ?_) (fun hk2 => ?_)
        · walk_at "go"
          refine ⟨_, _, _, rfl, by omega, fun b H4 b1 b2 s4 => ?_⟩
          walk_at "go"
          refine c_nocut ?_
          walk_at "go"
          refine ite_decN (by omega) ?_
          walk_at "go"
          exact fin _ _ (by omega) (by omega) (by walk_at "same") (by walk_at "hp")
        · walk_at "go"
          refine c_nocut ?_
          walk_at "go"
          refine ite_dec (fun hk3 => ?_) (fun hk3 => ?_)
          · walk_at "go"
            refine ite_dec (fun hk4 => ?_) (fun hk4 => ?_)
            · walk_at "go"
              exact fin _ _ (by omega) (by omega) (by walk_at "same") (by walk_at "hp")
            · walk_at "go"
              exact fin _ _ (by omega) (by omega) (by walk_at "same") (by walk_at "hp")
          · walk_at "go"
            exact fin _ _ (by omega) (by omega) (by walk_at "same") (by walk_at "hp")
    · rintro σ H' ⟨r, kk, aw, rfl, s2, h1, l1, b1, n1⟩
      walk_at "go"
      rw [Int.toNat_natCast] at l1 b1
      exact q p r H' s2 np0 ⟨by omega, by rw [l1]; exact b1, n1⟩ l1 h1
end
end Bo

namespace Bo
open PySem PySem.Spec PyProof.Rows L2
/-! ### steps of a reading: each a row of its own -/
local macro_rules | `(tactic| walk_at "ne") => `(tactic| first
  | assumption
  | (apply Ne.symm; assumption)
  | (apply neo; assumption; walk_at "hp")
  | (apply Ne.symm; apply neo; assumption; walk_at "hp"))
local macro_rules | `(tactic| walk_at "hp") => `(tactic| first
  | assumption
  | exact upd_same
  | (apply lift_ne; walk_at "hp"; walk_at "ne")
  | (apply Same.up; assumption; walk_at "hp"))
local macro_rules | `(tactic| walk_at "same") => `(tactic| first
  | assumption
  | exact Same.refl _
  | (apply Same.new; walk_at "same"; walk_at "fr")
  | (apply same_trans; assumption; walk_at "same"))
local macro_rules | `(tactic| walk_at "fr") => `(tactic| first
  | assumption
  | (apply same_free; assumption; walk_at "same"))
local macro_rules | `(tactic| walk_at "sq") => `(tactic| first
  | assumption
  | (apply SqL.of; walk_at "hp")
  | (apply same_seq; assumption; walk_at "same"))
local macro_rules | `(tactic| walk_at "sqt") => `(tactic| first
  | assumption
  | (apply SqT.of; walk_at "hp")
  | (apply same_sqt; assumption; walk_at "same"))
local macro_rules | `(tactic| walk_at "nw") => `(tactic| first
  | assumption
  | (apply News.mut; walk_at "nw"; (first | assumption | (refine News.notin (by assumption) ?_; assumption)))
  | (apply News.same; walk_at "nw"; walk_at "same"))
/-! one step -/
local macro_rules | `(tactic| walk_at "go1") => `(tactic| first
  | with_reducible refine r_seq ?_
  | with_reducible refine r_asgN ?_
  | with_reducible refine r_set ?_
  | with_reducible refine r_ret ?_
  | with_reducible refine r_drop ?_
  | with_reducible refine r_if ?_
  | with_reducible refine r_next ?_
  | with_reducible refine r_nx ?_
  | with_reducible refine r_rt ?_
  | with_reducible refine r_par ?_
  | with_reducible refine k_par ?_
  | with_reducible refine r_fld ?_
  | ((with_reducible apply r_aug); exact rfl)
  | with_reducible refine i_ip ?_
  | ((with_reducible apply e_var); exact rfl)
  | with_reducible refine e_c ?_
  | with_reducible refine e_op ?_
  | with_reducible refine e_un ?_
  | with_reducible refine o_I0 ?_
  | with_reducible refine o_neg ?_
  | with_reducible refine o_eqI ?_
  | with_reducible refine o_neI ?_
  | with_reducible refine o_eqB ?_
  | with_reducible refine o_neB ?_
  | with_reducible refine o_eqS ?_
  | with_reducible refine o_neS ?_
  | with_reducible refine a_nil ?_
  | with_reducible refine a_cons ?_
  | with_reducible refine e_cb ?_
  | with_reducible refine e_call ?_
  | with_reducible refine e_make ?_
  | with_reducible refine e_meth ?_
  | with_reducible refine e_fld ?_
  | with_reducible refine e_lst ?_
  | with_reducible refine e_tup ?_
  | with_reducible refine e_bm ?_
  | with_reducible refine e_bm0 ?_
  | with_reducible refine e_rev ?_
  | with_reducible refine e_sl ?_
  | with_reducible refine e_nopart ?_
  | with_reducible refine e_part ?_
  | with_reducible refine i_ok ?_
  | with_reducible refine e_lenset ?_
  | with_reducible refine e_listRg1 ?_
  | with_reducible refine t_test ?_
  | with_reducible refine t_B ?_
  | with_reducible refine b_ok ?_
  | with_reducible refine t_and ?_
  | with_reducible refine t_or ?_
  | with_reducible refine t_not ?_
  | with_reducible refine v_and ?_
  | with_reducible refine v_or ?_
  | with_reducible refine v_not ?_
  | with_reducible refine e_if ?_
  | with_reducible refine e_chain ?_
  | with_reducible refine e_chain3 ?_
  | with_reducible refine iteT ?_
  | with_reducible refine iteF ?_
  | with_reducible refine ite_nT ?_
  | with_reducible refine ite_nF ?_
  | with_reducible refine r_forL ?_
  | with_reducible refine r_forT ?_
  | with_reducible refine r_forE ?_
  | with_reducible refine r_forR1 ?_
  | with_reducible refine r_forR2 ?_
  | with_reducible refine e_lcL ?_
  | with_reducible refine e_lcR1 ?_
  | with_reducible refine e_lcR2 ?_
  | with_reducible refine r_dput ?_
  | with_reducible refine e_dget ?_
  | with_reducible refine e_dnin ?_
  | with_reducible refine c_max2 ?_
  | with_reducible refine c_min2 ?_
  | ((with_reducible apply c_isiI); (first | exact (show kitB "int" _ = some true by decide +kernel) | exact (show kitB "int" _ = some false by decide +kernel)))
  | ((with_reducible apply m_ty); walk_at "sq"))
local macro_rules | `(tactic| walk_at "go2") => `(tactic| first
  | ((with_reducible apply o_ixI); walk_at "sq"; omega)
  | ((with_reducible refine o_mod ?_ ?_); omega)
  | ((with_reducible refine o_fdiv ?_ ?_); omega)
  | ((with_reducible refine o_mulR ?_ ?_); omega)
  | ((with_reducible refine o_mulL ?_ ?_); omega)
  | ((with_reducible apply c_lenM); walk_at "sq")
  | ((with_reducible apply c_all); walk_at "sq")
  | ((with_reducible apply c_any); walk_at "sq")
  | ((with_reducible apply o_in); walk_at "sq")
  | ((with_reducible apply o_nin); walk_at "sq")
  | ((with_reducible apply o_ixB); walk_at "sq"; omega)
  | ((with_reducible apply m_setB); walk_at "hp"; omega)
  | ((with_reducible apply m_appR); walk_at "hp"; omega)
  | ((with_reducible apply m_ins); walk_at "hp"; omega; omega)
  | ((with_reducible apply m_appM); walk_at "hp"; exact rfl; omega)
  | ((with_reducible apply m_setI); walk_at "hp"; omega))
local macro_rules | `(tactic| walk_at "d") => `(tactic| try dsimp only)
local macro_rules | `(tactic| walk_at "k") => `(tactic| try dsimp only [cxOf, Cx.nox, Cx.blk])
local macro_rules | `(tactic| walk_at "go") => `(tactic| repeat (first | walk_at "go1" | walk_at "go2"))

section
variable {P : Program} {w : World} {K : PySem.W.Frag} {mg : Str → Option Value} {base : Heap} {C_Exchanged C_Fronted C_Ended C_Put C_Answer : Addr} (T : Top K mg C_Exchanged C_Fronted C_Ended C_Put C_Answer)
include T

def sp_numbers (K : PySem.W.Frag) : Sp := fun vs H Q _ => ∃ (a : Addr) (ns : List Int), vs = [.ref a] ∧ SqL K H a (ns.map V.int) ∧ ns.length ≤ 1000 ∧ ∀ H', Same H H' → Q (.bl true) H'
theorem ok__law_numbers : Cc P w K mg base 1 "_law_numbers" (sp_numbers K) := by
  skip
  refine Cc.mk' T.d__law_numbers sc__law_numbers ?_ ?_
  · rintro vs H Q E ⟨a, ns, rfl, _⟩; rfl
  · rintro f cdv A outer s H vs Q E hr ⟨a, ns, rfl, hS, hl, q⟩
    refine ⟨_, (pss_cons (ps_if (pt_not (pt_val (pe_callB (r := rIsi K) call_isi (by rfl) T.b_isinstance PyProof.Rows.boot_isinstance (pa_cons (pv 0) (pa_cons (pe_bltn (v := .ty "list") (by rfl) T.b_list PyProof.Rows.boot_list rfl) pa_nil))))) (pss_one (ps_ret pe_bl)) pss_nil)
      (pss_one (ps_ret (pe_not (pe_callB (r := rAny K) (cr_any rfl) (by rfl) T.b_any PyProof.Rows.boot_any (pa_cons (pe_lc (own := [("_law_one", 1)]) (g := gName 1) (tt := tYes) rfl sc__law_numbers.nd (pi_list (pv 0)) (blkOk_by (own := [("_law_one", 1)]) (N := N__law_numbers) (sc := defScope s__law_numbers) (by decide +kernel)) (fun _ _ _ _ _ => (pg_name (i := 1) sc__law_numbers.nd rfl (Or.inl rfl))) (fun _ _ _ _ _ => pts_nil) (fun _ _ _ _ _ => (pe_or (pe_callB (r := rIsi K) call_isi (by rfl) T.b_isinstance PyProof.Rows.boot_isinstance (pa_cons (pv 1) (pa_cons (pe_bltn (v := .ty "bool") (by rfl) T.b_bool PyProof.Rows.boot_bool rfl) pa_nil))) (pe_one (pe_not (pe_callB (r := rIsi K) call_isi (by rfl) T.b_isinstance PyProof.Rows.boot_isinstance (pa_cons (pv 1) (pa_cons (pe_bltn (v := .ty "int") (by rfl) T.b_int PyProof.Rows.boot_int rfl) pa_nil)))))))) pa_nil)))))), ?_⟩
    walk_at "k"
    walk_at "go"
    refine c_isiL hS (show kitB "list" "list" = some true by decide +kernel) ?_
    walk_at "go"
    refine k_lcV (xs := ns) (f := V.int) (h := V.bl) (fun x => false) (by walk_at "sq") (by omega) (fun _ => rfl) ?_ ?_
    · intro i x H2 R' hx s2 k2
      walk_at "go"
      exact k2 H2 (Same.refl _)
    · intro D H2 nD s2 hD
      walk_at "go"
      have e : (ns.map fun _ => false).any id = false := by rw [List.any_map, List.any_eq_false]; intro x _; simp
      rw [e]
      exact q _ s2
end
end Bo

namespace Bo
open PySem PySem.Spec PyProof.Rows L2
/-! ### steps of a reading: each a row of its own -/
local macro_rules | `(tactic| walk_at "ne") => `(tactic| first
  | assumption
  | (apply Ne.symm; assumption)
  | (apply neo; assumption; walk_at "hp")
  | (apply Ne.symm; apply neo; assumption; walk_at "hp"))
local macro_rules | `(tactic| walk_at "hp") => `(tactic| first
  | assumption
  | exact upd_same
  | (apply lift_ne; walk_at "hp"; walk_at "ne")
  | (apply Same.up; assumption; walk_at "hp"))
local macro_rules | `(tactic| walk_at "same") => `(tactic| first
  | assumption
  | exact Same.refl _
  | (apply Same.new; walk_at "same"; walk_at "fr")
  | (apply same_trans; assumption; walk_at "same"))
local macro_rules | `(tactic| walk_at "fr") => `(tactic| first
  | assumption
  | (apply same_free; assumption; walk_at "same"))
local macro_rules | `(tactic| walk_at "sq") => `(tactic| first
  | assumption
  | (apply SqL.of; walk_at "hp")
  | (apply same_seq; assumption; walk_at "same"))
local macro_rules | `(tactic| walk_at "sqt") => `(tactic| first
  | assumption
  | (apply SqT.of; walk_at "hp")
  | (apply same_sqt; assumption; walk_at "same"))
local macro_rules | `(tactic| walk_at "nw") => `(tactic| first
  | assumption
  | (apply News.mut; walk_at "nw"; (first | assumption | (refine News.notin (by assumption) ?_; assumption)))
  | (apply News.same; walk_at "nw"; walk_at "same"))
/-! one step -/
local macro_rules | `(tactic| walk_at "go1") => `(tactic| first
  | with_reducible refine r_seq ?_
  | with_reducible refine r_asgN ?_
  | with_reducible refine r_set ?_
  | with_reducible refine r_ret ?_
  | with_reducible refine r_drop ?_
  | with_reducible refine r_if ?_
  | with_reducible refine r_next ?_
  | with_reducible refine r_nx ?_
  | with_reducible refine r_rt ?_
  | with_reducible refine r_par ?_
  | with_reducible refine k_par ?_
  | with_reducible refine r_fld ?_
  | ((with_reducible apply r_aug); exact rfl)
  | with_reducible refine i_ip ?_
  | ((with_reducible apply e_var); exact rfl)
  | with_reducible refine e_c ?_
  | with_reducible refine e_op ?_
  | with_reducible refine e_un ?_
  | with_reducible refine o_I0 ?_
  | with_reducible refine o_neg ?_
  | with_reducible refine o_eqI ?_
  | with_reducible refine o_neI ?_
  | with_reducible refine o_eqB ?_
  | with_reducible refine o_neB ?_
  | with_reducible refine o_eqS ?_
  | with_reducible refine o_neS ?_
  | with_reducible refine a_nil ?_
  | with_reducible refine a_cons ?_
  | with_reducible refine e_cb ?_
  | with_reducible refine e_call ?_
  | with_reducible refine e_make ?_
  | with_reducible refine e_meth ?_
  | with_reducible refine e_fld ?_
  | with_reducible refine e_lst ?_
  | with_reducible refine e_tup ?_
  | with_reducible refine e_bm ?_
  | with_reducible refine e_bm0 ?_
  | with_reducible refine e_rev ?_
  | with_reducible refine e_sl ?_
  | with_reducible refine e_nopart ?_
  | with_reducible refine e_part ?_
  | with_reducible refine i_ok ?_
  | with_reducible refine e_lenset ?_
  | with_reducible refine e_listRg1 ?_
  | with_reducible refine t_test ?_
  | with_reducible refine t_B ?_
  | with_reducible refine b_ok ?_
  | with_reducible refine t_and ?_
  | with_reducible refine t_or ?_
  | with_reducible refine t_not ?_
  | with_reducible refine v_and ?_
  | with_reducible refine v_or ?_
  | with_reducible refine v_not ?_
  | with_reducible refine e_if ?_
  | with_reducible refine e_chain ?_
  | with_reducible refine e_chain3 ?_
  | with_reducible refine iteT ?_
  | with_reducible refine iteF ?_
  | with_reducible refine ite_nT ?_
  | with_reducible refine ite_nF ?_
  | with_reducible refine r_forL ?_
  | with_reducible refine r_forT ?_
  | with_reducible refine r_forE ?_
  | with_reducible refine r_forR1 ?_
  | with_reducible refine r_forR2 ?_
  | with_reducible refine e_lcL ?_
  | with_reducible refine e_lcR1 ?_
  | with_reducible refine e_lcR2 ?_
  | with_reducible refine r_dput ?_
  | with_reducible refine e_dget ?_
  | with_reducible refine e_dnin ?_
  | with_reducible refine c_max2 ?_
  | with_reducible refine c_min2 ?_
  | ((with_reducible apply c_isiI); (first | exact (show kitB "int" _ = some true by decide +kernel) | exact (show kitB "int" _ = some false by decide +kernel)))
  | ((with_reducible apply m_ty); walk_at "sq"))
local macro_rules | `(tactic| walk_at "go2") => `(tactic| first
  | ((with_reducible apply o_ixI); walk_at "sq"; omega)
  | ((with_reducible refine o_mod ?_ ?_); omega)
  | ((with_reducible refine o_fdiv ?_ ?_); omega)
  | ((with_reducible refine o_mulR ?_ ?_); omega)
  | ((with_reducible refine o_mulL ?_ ?_); omega)
  | ((with_reducible apply c_lenM); walk_at "sq")
  | ((with_reducible apply c_all); walk_at "sq")
  | ((with_reducible apply c_any); walk_at "sq")
  | ((with_reducible apply o_in); walk_at "sq")
  | ((with_reducible apply o_nin); walk_at "sq")
  | ((with_reducible apply o_ixB); walk_at "sq"; omega)
  | ((with_reducible apply m_setB); walk_at "hp"; omega)
  | ((with_reducible apply m_appR); walk_at "hp"; omega)
  | ((with_reducible apply m_ins); walk_at "hp"; omega; omega)
  | ((with_reducible apply m_appM); walk_at "hp"; exact rfl; omega)
  | ((with_reducible apply m_setI); walk_at "hp"; omega))
local macro_rules | `(tactic| walk_at "d") => `(tactic| try dsimp only)
local macro_rules | `(tactic| walk_at "k") => `(tactic| try dsimp only [cxOf, Cx.nox, Cx.blk])
local macro_rules | `(tactic| walk_at "go") => `(tactic| repeat (first | walk_at "go1" | walk_at "go2"))

section
variable {P : Program} {w : World} {K : PySem.W.Frag} {mg : Str → Option Value} {base : Heap} {C_Exchanged C_Fronted C_Ended C_Put C_Answer : Addr} (T : Top K mg C_Exchanged C_Fronted C_Ended C_Put C_Answer)
include T

end
end Bo

namespace Bo
open PySem PySem.Spec PyProof.Rows L2
/-! ### steps of a reading: each a row of its own -/
local macro_rules | `(tactic| walk_at "ne") => `(tactic| first
  | assumption
  | (apply Ne.symm; assumption)
  | (apply neo; assumption; walk_at "hp")
  | (apply Ne.symm; apply neo; assumption; walk_at "hp"))
local macro_rules | `(tactic| walk_at "hp") => `(tactic| first
  | assumption
  | exact upd_same
  | (apply lift_ne; walk_at "hp"; walk_at "ne")
  | (apply Same.up; assumption; walk_at "hp"))
local macro_rules | `(tactic| walk_at "same") => `(tactic| first
  | assumption
  | exact Same.refl _
  | (apply Same.new; walk_at "same"; walk_at "fr")
  | (apply same_trans; assumption; walk_at "same"))
local macro_rules | `(tactic| walk_at "fr") => `(tactic| first
  | assumption
  | (apply same_free; assumption; walk_at "same"))
local macro_rules | `(tactic| walk_at "sq") => `(tactic| first
  | assumption
  | (apply SqL.of; walk_at "hp")
  | (apply same_seq; assumption; walk_at "same"))
local macro_rules | `(tactic| walk_at "sqt") => `(tactic| first
  | assumption
  | (apply SqT.of; walk_at "hp")
  | (apply same_sqt; assumption; walk_at "same"))
local macro_rules | `(tactic| walk_at "nw") => `(tactic| first
  | assumption
  | (apply News.mut; walk_at "nw"; (first | assumption | (refine News.notin (by assumption) ?_; assumption)))
  | (apply News.same; walk_at "nw"; walk_at "same"))
/-! one step -/
local macro_rules | `(tactic| walk_at "go1") => `(tactic| first
  | with_reducible refine r_seq ?_
  | with_reducible refine r_asgN ?_
  | with_reducible refine r_set ?_
  | with_reducible refine r_ret ?_
  | with_reducible refine r_drop ?_
  | with_reducible refine r_if ?_
  | with_reducible refine r_next ?_
  | with_reducible refine r_nx ?_
  | with_reducible refine r_rt ?_
  | with_reducible refine r_par ?_
  | with_reducible refine k_par ?_
  | with_reducible refine r_fld ?_
  | ((with_reducible apply r_aug); exact rfl)
  | with_reducible refine i_ip ?_
  | ((with_reducible apply e_var); exact rfl)
  | with_reducible refine e_c ?_
  | with_reducible refine e_op ?_
  | with_reducible refine e_un ?_
  | with_reducible refine o_I0 ?_
  | with_reducible refine o_neg ?_
  | with_reducible refine o_eqI ?_
  | with_reducible refine o_neI ?_
  | with_reducible refine o_eqB ?_
  | with_reducible refine o_neB ?_
  | with_reducible refine o_eqS ?_
  | with_reducible refine o_neS ?_
  | with_reducible refine a_nil ?_
  | with_reducible refine a_cons ?_
  | with_reducible refine e_cb ?_
  | with_reducible refine e_call ?_
  | with_reducible refine e_make ?_
  | with_reducible refine e_meth ?_
  | with_reducible refine e_fld ?_
  | with_reducible refine e_lst ?_
  | with_reducible refine e_tup ?_
  | with_reducible refine e_bm ?_
  | with_reducible refine e_bm0 ?_
  | with_reducible refine e_rev ?_
  | with_reducible refine e_sl ?_
  | with_reducible refine e_nopart ?_
  | with_reducible refine e_part ?_
  | with_reducible refine i_ok ?_
  | with_reducible refine e_lenset ?_
  | with_reducible refine e_listRg1 ?_
  | with_reducible refine t_test ?_
  | with_reducible refine t_B ?_
  | with_reducible refine b_ok ?_
  | with_reducible refine t_and ?_
  | with_reducible refine t_or ?_
  | with_reducible refine t_not ?_
  | with_reducible refine v_and ?_
  | with_reducible refine v_or ?_
  | with_reducible refine v_not ?_
  | with_reducible refine e_if ?_
  | with_reducible refine e_chain ?_
  | with_reducible refine e_chain3 ?_
  | with_reducible refine iteT ?_
  | with_reducible refine iteF ?_
  | with_reducible refine ite_nT ?_
  | with_reducible refine ite_nF ?_
  | with_reducible refine r_forL ?_
  | with_reducible refine r_forT ?_
  | with_reducible refine r_forE ?_
  | with_reducible refine r_forR1 ?_
  | with_reducible refine r_forR2 ?_
  | with_reducible refine e_lcL ?_
  | with_reducible refine e_lcR1 ?_
  | with_reducible refine e_lcR2 ?_
  | with_reducible refine r_dput ?_
  | with_reducible refine e_dget ?_
  | with_reducible refine e_dnin ?_
  | with_reducible refine c_max2 ?_
  | with_reducible refine c_min2 ?_
  | ((with_reducible apply c_isiI); (first | exact (show kitB "int" _ = some true by decide +kernel) | exact (show kitB "int" _ = some false by decide +kernel)))
  | ((with_reducible apply m_ty); walk_at "sq"))
local macro_rules | `(tactic| walk_at "go2") => `(tactic| first
  | ((with_reducible apply o_ixI); walk_at "sq"; omega)
  | ((with_reducible refine o_mod ?_ ?_); omega)
  | ((with_reducible refine o_fdiv ?_ ?_); omega)
  | ((with_reducible refine o_mulR ?_ ?_); omega)
  | ((with_reducible refine o_mulL ?_ ?_); omega)
  | ((with_reducible apply c_lenM); walk_at "sq")
  | ((with_reducible apply c_all); walk_at "sq")
  | ((with_reducible apply c_any); walk_at "sq")
  | ((with_reducible apply o_in); walk_at "sq")
  | ((with_reducible apply o_nin); walk_at "sq")
  | ((with_reducible apply o_ixB); walk_at "sq"; omega)
  | ((with_reducible apply m_setB); walk_at "hp"; omega)
  | ((with_reducible apply m_appR); walk_at "hp"; omega)
  | ((with_reducible apply m_ins); walk_at "hp"; omega; omega)
  | ((with_reducible apply m_appM); walk_at "hp"; exact rfl; omega)
  | ((with_reducible apply m_setI); walk_at "hp"; omega))
local macro_rules | `(tactic| walk_at "d") => `(tactic| try dsimp only)
local macro_rules | `(tactic| walk_at "k") => `(tactic| try dsimp only [cxOf, Cx.nox, Cx.blk])
local macro_rules | `(tactic| walk_at "go") => `(tactic| repeat (first | walk_at "go1" | walk_at "go2"))

section
variable {P : Program} {w : World} {K : PySem.W.Frag} {mg : Str → Option Value} {base : Heap} {C_Exchanged C_Fronted C_Ended C_Put C_Answer : Addr} (T : Top K mg C_Exchanged C_Fronted C_Ended C_Put C_Answer)
include T

def sp_places_of (K : PySem.W.Frag) : Sp := fun vs H Q _ => ∃ (a : Addr) (ns : List Int), vs = [.ref a] ∧ SqL K H a (ns.map V.int) ∧ IsRow ns ∧ ∀ p H', Same H H' → H p = none → H' p = some (.lst ((placesOf ns).map V.int)) → Q (.ref p) H'
theorem ok_places_of : Cc P w K mg base 1 "places_of" (sp_places_of K) := by
  skip
  refine Cc.mk' T.d_places_of sc_places_of ?_ ?_
  · rintro vs H Q E ⟨a, ns, rfl, _⟩; rfl
  · rintro f cdv A outer s H vs Q E hr ⟨a, ns, rfl, hS, R, q⟩
    have hl := R.len
    refine ⟨_, (pss_cons (ps_setLc (i := 1) (own := [("thing", 3)]) (g := gName 3) (tt := tYes) rfl sc_places_of.nd rfl rfl (sw_true rfl rfl rfl (by decide +kernel)) (pi_list (pv 0)) (blkOk_by (own := [("thing", 3)]) (N := N_places_of) (sc := defScope s_places_of) (by decide +kernel)) (fun _ _ _ _ _ => (pg_name (i := 3) sc_places_of.nd rfl (Or.inl rfl))) (fun _ _ _ _ _ => pts_nil) (fun _ _ _ _ _ => pe_int))
      (pss_cons (ps_for PassesOwn.never rfl (pi_enum (by rfl) T.b_enumerate (pa_cons (pv 0) pa_nil)) (pg_tup rfl (pgs_cons (pg_name (i := 2) sc_places_of.nd rfl (by first | exact Or.inl rfl | exact Or.inr rfl)) (pgs_cons (pg_name (i := 3) sc_places_of.nd rfl (by first | exact Or.inl rfl | exact Or.inr rfl)) pgs_nil))) (pss_one (ps_asg (pv 2) (pg_sub (pv 1) (pv 3) set_list))))
      (pss_one (ps_ret (pv 1))))), ?_⟩
    walk_at "k"
    walk_at "go"
    refine k_lcV (xs := ns) (f := V.int) (h := V.int) (fun _ => 0) (by walk_at "sq") (by omega) (fun _ => rfl) (fun i x H2 R' hx s2 k2 => k2 H2 (Same.refl _)) ?_
    intro p H1 np s1 hp
    walk_at "go"
    refine k_enum (f := V.int) ns (fun i σ H' => ∃ v2 v3, σ = [some (.ref a), some (.ref p), v2, v3] ∧ Same H H' ∧ H' p = some (.lst ((plAux ns i).map V.int)))
      (by walk_at "sq") ⟨_, _, rfl, by walk_at "same", by walk_at "hp"⟩ (fun i σ H' _ ⟨_, _, _, s2, _⟩ => s2.seq hS) ?_ ?_
    · rintro i x σ H' T' hx ⟨v2, v3, rfl, s2, h2⟩ nT
      walk_at "d"
      have hi : i < ns.length := (List.getElem?_eq_some_iff.mp hx).1
      have e := gt_get hx
      have b := R.bd x (List.mem_of_getElem? hx)
      have l := plAux_length ns i
      have pT : p ≠ T' := by walk_at "ne"
      walk_at "go"
      refine ⟨_, _, rfl, by walk_at "same", ?_⟩
      show _ = some (HO.lst ((st (plAux ns i) (gt ns (i : Int)) (i : Int)).map V.int))
      rw [e]; exact upd_same
    · rintro σ H' ⟨v2, v3, rfl, s2, h2⟩
      walk_at "go"
      exact q p H' s2 np h2
end
end Bo

namespace Bo
open PySem PySem.Spec PyProof.Rows L2
/-! ### steps of a reading: each a row of its own -/
local macro_rules | `(tactic| walk_at "ne") => `(tactic| first
  | assumption
  | (apply Ne.symm; assumption)
  | (apply neo; assumption; walk_at "hp")
  | (apply Ne.symm; apply neo; assumption; walk_at "hp"))
local macro_rules | `(tactic| walk_at "hp") => `(tactic| first
  | assumption
  | exact upd_same
  | (apply lift_ne; walk_at "hp"; walk_at "ne")
  | (apply Same.up; assumption; walk_at "hp"))
local macro_rules | `(tactic| walk_at "same") => `(tactic| first
  | assumption
  | exact Same.refl _
  | (apply Same.new; walk_at "same"; walk_at "fr")
  | (apply same_trans; assumption; walk_at "same"))
local macro_rules | `(tactic| walk_at "fr") => `(tactic| first
  | assumption
  | (apply same_free; assumption; walk_at "same"))
local macro_rules | `(tactic| walk_at "sq") => `(tactic| first
  | assumption
  | (apply SqL.of; walk_at "hp")
  | (apply same_seq; assumption; walk_at "same"))
local macro_rules | `(tactic| walk_at "sqt") => `(tactic| first
  | assumption
  | (apply SqT.of; walk_at "hp")
  | (apply same_sqt; assumption; walk_at "same"))
local macro_rules | `(tactic| walk_at "nw") => `(tactic| first
  | assumption
  | (apply News.mut; walk_at "nw"; (first | assumption | (refine News.notin (by assumption) ?_; assumption)))
  | (apply News.same; walk_at "nw"; walk_at "same"))
/-! one step -/
local macro_rules | `(tactic| walk_at "go1") => `(tactic| first
  | with_reducible refine r_seq ?_
  | with_reducible refine r_asgN ?_
  | with_reducible refine r_set ?_
  | with_reducible refine r_ret ?_
  | with_reducible refine r_drop ?_
  | with_reducible refine r_if ?_
  | with_reducible refine r_next ?_
  | with_reducible refine r_nx ?_
  | with_reducible refine r_rt ?_
  | with_reducible refine r_par ?_
  | with_reducible refine k_par ?_
  | with_reducible refine r_fld ?_
  | ((with_reducible apply r_aug); exact rfl)
  | with_reducible refine i_ip ?_
  | ((with_reducible apply e_var); exact rfl)
  | with_reducible refine e_c ?_
  | with_reducible refine e_op ?_
  | with_reducible refine e_un ?_
  | with_reducible refine o_I0 ?_
  | with_reducible refine o_neg ?_
  | with_reducible refine o_eqI ?_
  | with_reducible refine o_neI ?_
  | with_reducible refine o_eqB ?_
  | with_reducible refine o_neB ?_
  | with_reducible refine o_eqS ?_
  | with_reducible refine o_neS ?_
  | with_reducible refine a_nil ?_
  | with_reducible refine a_cons ?_
  | with_reducible refine e_cb ?_
  | with_reducible refine e_call ?_
  | with_reducible refine e_make ?_
  | with_reducible refine e_meth ?_
  | with_reducible refine e_fld ?_
  | with_reducible refine e_lst ?_
  | with_reducible refine e_tup ?_
  | with_reducible refine e_bm ?_
  | with_reducible refine e_bm0 ?_
  | with_reducible refine e_rev ?_
  | with_reducible refine e_sl ?_
  | with_reducible refine e_nopart ?_
  | with_reducible refine e_part ?_
  | with_reducible refine i_ok ?_
  | with_reducible refine e_lenset ?_
  | with_reducible refine e_listRg1 ?_
  | with_reducible refine t_test ?_
  | with_reducible refine t_B ?_
  | with_reducible refine b_ok ?_
  | with_reducible refine t_and ?_
  | with_reducible refine t_or ?_
  | with_reducible refine t_not ?_
  | with_reducible refine v_and ?_
  | with_reducible refine v_or ?_
  | with_reducible refine v_not ?_
  | with_reducible refine e_if ?_
  | with_reducible refine e_chain ?_
  | with_reducible refine e_chain3 ?_
  | with_reducible refine iteT ?_
  | with_reducible refine iteF ?_
  | with_reducible refine ite_nT ?_
  | with_reducible refine ite_nF ?_
  | with_reducible refine r_forL ?_
  | with_reducible refine r_forT ?_
  | with_reducible refine r_forE ?_
  | with_reducible refine r_forR1 ?_
  | with_reducible refine r_forR2 ?_
  | with_reducible refine e_lcL ?_
  | with_reducible refine e_lcR1 ?_
  | with_reducible refine e_lcR2 ?_
  | with_reducible refine r_dput ?_
  | with_reducible refine e_dget ?_
  | with_reducible refine e_dnin ?_
  | with_reducible refine c_max2 ?_
  | with_reducible refine c_min2 ?_
  | ((with_reducible apply c_isiI); (first | exact (show kitB "int" _ = some true by decide +kernel) | exact (show kitB "int" _ = some false by decide +kernel)))
  | ((with_reducible apply m_ty); walk_at "sq"))
local macro_rules | `(tactic| walk_at "go2") => `(tactic| first
  | ((with_reducible apply o_ixI); walk_at "sq"; omega)
  | ((with_reducible refine o_mod ?_ ?_); omega)
  | ((with_reducible refine o_fdiv ?_ ?_); omega)
  | ((with_reducible refine o_mulR ?_ ?_); omega)
  | ((with_reducible refine o_mulL ?_ ?_); omega)
  | ((with_reducible apply c_lenM); walk_at "sq")
  | ((with_reducible apply c_all); walk_at "sq")
  | ((with_reducible apply c_any); walk_at "sq")
  | ((with_reducible apply o_in); walk_at "sq")
  | ((with_reducible apply o_nin); walk_at "sq")
  | ((with_reducible apply o_ixB); walk_at "sq"; omega)
  | ((with_reducible apply m_setB); walk_at "hp"; omega)
  | ((with_reducible apply m_appR); walk_at "hp"; omega)
  | ((with_reducible apply m_ins); walk_at "hp"; omega; omega)
  | ((with_reducible apply m_appM); walk_at "hp"; exact rfl; omega)
  | ((with_reducible apply m_setI); walk_at "hp"; omega))
local macro_rules | `(tactic| walk_at "d") => `(tactic| try dsimp only)
local macro_rules | `(tactic| walk_at "k") => `(tactic| try dsimp only [cxOf, Cx.nox, Cx.blk])
local macro_rules | `(tactic| walk_at "go") => `(tactic| repeat (first | walk_at "go1" | walk_at "go2"))

section
variable {P : Program} {w : World} {K : PySem.W.Frag} {mg : Str → Option Value} {base : Heap} {C_Exchanged C_Fronted C_Ended C_Put C_Answer : Addr} (T : Top K mg C_Exchanged C_Fronted C_Ended C_Put C_Answer)
include T

def sp_behind (K : PySem.W.Frag) : Sp := fun vs H Q _ => ∃ (a b : Addr) (ns ms : List Int), vs = [.ref a, .ref b] ∧ SqL K H a (ns.map V.int) ∧ SqL K H b (ms.map V.int) ∧ IsRow ns ∧ IsRow ms ∧ ms.length = ns.length ∧
  ∀ p H', Same H H' → H p = none → H' p = some (.lst ((ms.map (gt ns)).map V.int)) → Q (.ref p) H'
theorem ok_behind : Cc P w K mg base 3 "behind" (sp_behind K) := by
  have c_check_row := ok_check_row (P := P) (w := w) (base := base) T
  refine Cc.mk' T.d_behind sc_behind ?_ ?_
  · rintro vs H Q E ⟨a, b, ns, ms, rfl, _⟩; rfl
  · rintro f cdv A outer s H vs Q E hr ⟨a, b, ns, ms, rfl, hA, hB, R, R2, hl, q⟩
    have hn := R.len
    refine ⟨_, (pss_cons (ps_expr (pe_cc c_check_row (hr.mono (by decide)) (by rfl) (pa_cons (pv 0) pa_nil)))
      (pss_cons (ps_expr (pe_cc c_check_row (hr.mono (by decide)) (by rfl) (pa_cons (pv 1) pa_nil)))
      (pss_cons (ps_if (pt_cmpR op_ne (pe_callB (r := rLen2 K) call_len_seq (by rfl) T.b_len PySem.boot_len (pa_cons (pv 0) pa_nil)) (pe_callB (r := rLen2 K) call_len_seq (by rfl) T.b_len PySem.boot_len (pa_cons (pv 1) pa_nil)) (nomark _)) pss_never pss_nil)
      (pss_one (ps_ret (pe_lc (own := [("place", 2)]) (g := gName 2) (tt := tYes) rfl sc_behind.nd (pi_list (pv 1)) (blkOk_by (own := [("place", 2)]) (N := N_behind) (sc := defScope s_behind) (by decide +kernel)) (fun _ _ _ _ _ => (pg_name (i := 2) sc_behind.nd rfl (Or.inl rfl))) (fun _ _ _ _ _ => pts_nil) (fun _ _ _ _ _ => (pe_ix (r := rIxL K) ix_list (pv 0) (pv 2) (fun _ _ => rfl))))))))), ?_⟩
    walk_at "k"
    walk_at "go"
    refine ⟨a, ns, rfl, hA, R, fun H1 s1 => ?_⟩
    walk_at "go"
    refine ⟨b, ms, rfl, s1.seq hB, R2, fun H2 s2 => ?_⟩
    have s12 := s1.trans s2
    walk_at "go"
    rw [hl]
    refine ite_ndecN rfl ?_
    walk_at "go"
    refine k_lcV (xs := ms) (f := V.int) (h := V.int) (gt ns) (s12.seq hB) (by omega) (fun _ => rfl) ?_ ?_
    · intro i x H3 R' hx s3 k3
      have hb := R2.bd x (List.mem_of_getElem? hx)
      walk_at "go"
      exact k3 H3 (Same.refl _)
    · intro D H3 nD s3 hD
      exact q D H3 (s12.trans s3) (s12.free nD) hD
def sp_back (K : PySem.W.Frag) : Sp := fun vs H Q _ => ∃ (a : Addr) (ns : List Int), vs = [.ref a] ∧ SqL K H a (ns.map V.int) ∧ IsRow ns ∧ ∀ p H', Same H H' → H p = none → H' p = some (.lst ((placesOf ns).map V.int)) → Q (.ref p) H'
theorem ok_back : Cc P w K mg base 3 "back" (sp_back K) := by
  have c_check_row := ok_check_row (P := P) (w := w) (base := base) T
  have c_places_of := ok_places_of (P := P) (w := w) (base := base) T
  refine Cc.mk' T.d_back sc_back ?_ ?_
  · rintro vs H Q E ⟨a, ns, rfl, _⟩; rfl
  · rintro f cdv A outer s H vs Q E hr ⟨a, ns, rfl, hA, R, q⟩
    refine ⟨_, (pss_cons (ps_expr (pe_cc c_check_row (hr.mono (by decide)) (by rfl) (pa_cons (pv 0) pa_nil)))
      (pss_one (ps_ret (pe_cc c_places_of (hr.mono (by decide)) (by rfl) (pa_cons (pv 0) pa_nil))))), ?_⟩
    walk_at "k"
    walk_at "go"
    refine ⟨a, ns, rfl, hA, R, fun H1 s1 => ?_⟩
    walk_at "go"
    exact ⟨a, ns, rfl, s1.seq hA, R, fun p H2 s2 np hp => q p H2 (s1.trans s2) (s1.free np) hp⟩
def sp_common (K : PySem.W.Frag) : Sp := fun vs H Q _ => ∃ (a b : Nat), vs = [.int (a : Nat), .int (b : Nat)] ∧ ∀ H', Same H H' → Q (.int (Nat.gcd a b : Nat)) H'
theorem ok_common : Cc P w K mg base 1 "common" (sp_common K) := by
  refine Cc.mk' T.d_common sc_common ?_ ?_
  · rintro vs H Q E ⟨a, b, rfl, _⟩; rfl
  · rintro f cdv A outer s H vs Q E hr ⟨a, b, rfl, q⟩
    refine ⟨_, (pss_cons (ps_while PassesOwn.never (pt_cmpR op_gt (pv 1) pe_int (nomark _)) (pss_one (ps_par (i := 0) (j := 1) rfl sc_common.nd rfl rfl (by decide) rfl rfl (pa_cons (pv 1) (pa_cons (pe_op op_mod (pv 0) (pv 1)) pa_nil)) (by rfl))))
      (pss_one (ps_ret (pv 0)))), ?_⟩
    walk_at "k"
    walk_at "go"
    refine r_while (fun m σ H' => H' = H ∧ ∃ one : Nat, σ = [some (.int (one : Nat)), some (.int (m : Nat))] ∧ Nat.gcd one m = Nat.gcd a b) b ⟨rfl, a, rfl, rfl⟩ ?_
    rintro m σ' H' ⟨rfl, one, rfl, g⟩
    walk_at "go"
    refine ite_dec (fun c => ?_) (fun c => ?_)
    · walk_at "go"
      refine ⟨fun σ2 H2 => ∃ m' < m, H2 = H' ∧ ∃ one : Nat, σ2 = [some (.int (one : Nat)), some (.int (m' : Nat))] ∧ Nat.gcd one m' = Nat.gcd a b, fun σ2 H2 h => h, ?_⟩
      walk_at "go"
      refine ⟨one % m, Nat.mod_lt _ (by omega), rfl, m, rfl, ?_⟩
      rw [← g, Nat.gcd_comm m, ← Nat.gcd_rec, Nat.gcd_comm]
    · have : m = 0 := by omega
      subst this
      rw [Nat.gcd_zero_right] at g
      walk_at "go"
      rw [g]
      exact q H' (Same.refl _)
def sp_joined (K : PySem.W.Frag) : Sp := fun vs H Q _ => ∃ (a b : Addr) (L R : List Int), vs = [.ref a, .ref b] ∧ SqL K H a (L.map V.int) ∧ SqL K H b (R.map V.int) ∧ L.Pairwise (· ≤ ·) ∧ R.Pairwise (· ≤ ·) ∧ L.length ≤ 1000 ∧ R.length ≤ 1000 ∧
  ∀ tp pf M H', Same H H' → H tp = none → H pf = none → H' tp = some (.tup [.ref pf, .int (cross L R : Nat)]) → H' pf = some (oL M) → M.Perm (L ++ R) → M.Pairwise (· ≤ ·) → Q (.ref tp) H'
theorem ok_joined : Cc P w K mg base 1 "joined" (sp_joined K) := by
  refine Cc.mk' T.d_joined sc_joined ?_ ?_
  · rintro vs H Q E ⟨a, b, L, R, rfl, _⟩; rfl
  · rintro f cdv A outer s H vs Q E hr ⟨a, b, L, R, rfl, hA, hB, sL, sR, ll, lr', q⟩
    refine ⟨_, (pss_cons (ps_set (i := 2) sc_joined.nd rfl (by first | exact Or.inl rfl | exact Or.inr rfl) (pe_lst pa_nil))
      (pss_cons (ps_set (i := 3) sc_joined.nd rfl (by first | exact Or.inl rfl | exact Or.inr rfl) pe_int)
      (pss_cons (ps_set (i := 4) sc_joined.nd rfl (by first | exact Or.inl rfl | exact Or.inr rfl) pe_int)
      (pss_cons (ps_for PassesOwn.never rfl (pi_list (pv 0)) (pg_name (i := 5) sc_joined.nd rfl (by first | exact Or.inl rfl | exact Or.inr rfl)) (pss_cons (ps_while PassesOwn.never (PW.pt (pw_and (pt_cmpR op_lt (pv 4) (pe_callB (r := rLen2 K) call_len_seq (by rfl) T.b_len PySem.boot_len (pa_cons (pv 1) pa_nil)) (nomark _)) (pw_and1 (pt_cmpR op_lt (pe_ix (r := rIxL K) ix_list (pv 1) (pv 4) (fun _ _ => rfl)) (pv 5) (nomark _))))) (pss_cons (ps_expr (pe_bm PySem.F.plainAttrs_list PySem.F.slot_list_append PySem.F.type_list_append mt_append (pv 2) (pa_cons (pe_ix (r := rIxL K) ix_list (pv 1) (pv 4) (fun _ _ => rfl)) pa_nil)))
      (pss_one (ps_aug (i := 4) sc_joined.nd rfl (by first | exact Or.inl rfl | exact Or.inr rfl) pe_int ip_add))))
      (pss_cons (ps_aug (i := 3) sc_joined.nd rfl (by first | exact Or.inl rfl | exact Or.inr rfl) (pv 4) ip_add)
      (pss_one (ps_expr (pe_bm PySem.F.plainAttrs_list PySem.F.slot_list_append PySem.F.type_list_append mt_append (pv 2) (pa_cons (pv 5) pa_nil)))))))
      (pss_one (ps_ret (pe_tup (pa_cons (pe_op op_cat (pv 2) (pe_slice (r := rSlL K) sl_list (pv 1) (po_some (pv 4)) po_none)) (pa_cons (pv 3) pa_nil))))))))), ?_⟩
    walk_at "k"
    walk_at "go"
    refine ⟨Nat.zero_le _, fun pf npf => ?_⟩
    walk_at "go"
    refine k_lstN (f := V.int) L (fun i σ H' => ∃ (at_ : Nat) (found : List Int) (v5 : Option V), σ = [some (.ref a), some (.ref b), some (.ref pf), some (.int (cross (L.take i) R : Nat)), some (.int (at_ : Nat)), v5] ∧ Same H H' ∧ H' pf = some (.lst (found.map V.int)) ∧ JI L R i at_ found)
      (by walk_at "sq") ⟨0, [], _, rfl, by walk_at "same", upd_same, JI.zero L R⟩ (fun i σ H' _ ⟨_, _, _, _, s2, _⟩ => s2.seq hA) ?_ ?_
    · rintro i t σ H' hi ⟨at_, found, v5, rfl, s2, h2, J⟩
      walk_at "d"
      have hil := (List.getElem?_eq_some_iff.mp hi).1
      walk_at "go"
      refine r_while (fun m σ H' => ∃ (at_ : Nat) (found : List Int), m = R.length - at_ ∧ σ = [some (.ref a), some (.ref b), some (.ref pf), some (.int (cross (L.take i) R : Nat)), some (.int (at_ : Nat)), some (.int t)] ∧ Same H H' ∧ H' pf = some (.lst (found.map V.int)) ∧ JI L R i at_ found)
        (R.length - at_) ⟨at_, found, rfl, rfl, s2, h2, J⟩ ?_
      rintro m σ' H3 ⟨at_, found, rfl, rfl, s3, h3, J⟩
      have fl := J.perm.length_eq
      rw [List.length_append, List.length_take, List.length_take] at fl
      have stop : (∀ y, R[at_]? = some y → ¬ y < t) → JI L R (i + 1) at_ (found ++ [t]) ∧ cross (L.take (i + 1)) R = cross (L.take i) R + at_ := fun h => J.left sL sR hi h
      walk_at "go"
      refine ite_dec (fun c1 => ?_) (fun c1 => ?_)
      · walk_at "go"
        refine ite_dec (fun c2 => ?_) (fun c2 => ?_)
        · walk_at "go"
          refine ⟨fun σ2 H2 => ∃ m' < R.length - at_, ∃ (at_ : Nat) (found : List Int), m' = R.length - at_ ∧ σ2 = [some (.ref a), some (.ref b), some (.ref pf), some (.int (cross (L.take i) R : Nat)), some (.int (at_ : Nat)), some (.int t)] ∧ Same H H2 ∧ H2 pf = some (.lst (found.map V.int)) ∧ JI L R i at_ found, fun σ2 H2 h => h, ?_⟩
          walk_at "go"
          refine ⟨R.length - (at_ + 1), by omega, at_ + 1, found ++ [gt R (at_ : Int)], rfl, rfl, by walk_at "same", upd_same, J.right sL sR hi (gt_some (by omega)) c2⟩
        · obtain ⟨J2, e2⟩ := stop fun y hy => by
            rw [gt_some (ns := R) (i := at_) (by omega)] at hy
            rw [← Option.some.inj hy]; exact c2
          walk_at "go"
          refine ⟨at_, found ++ [t], some (.int t), ?_, by walk_at "same", upd_same, J2⟩
          rw [e2]; rfl
      · obtain ⟨J2, e2⟩ := stop fun y hy => by
          have := (List.getElem?_eq_some_iff.mp hy).1; omega
        walk_at "go"
        refine ⟨at_, found ++ [t], some (.int t), ?_, by walk_at "same", upd_same, J2⟩
        rw [e2]; rfl
    · rintro σ H' ⟨at_, found, v5, rfl, s2, h2, J⟩
      walk_at "d"
      have fl := J.perm.length_eq
      rw [List.length_append, List.length_take, List.length_take] at fl
      obtain ⟨pM, sM⟩ := J.done sR
      walk_at "go"
      refine o_slFrom (f := V.int) (xs := R) (s2.seq hB) (by omega) fun l nl => ?_
      have e1 : pf ≠ l := neo nl h2
      rw [Int.toNat_natCast]
      refine o_cat (f := V.int) (xs := found) (zs := R.drop at_) (lift_ne h2 e1) upd_same (by rw [List.length_drop]; omega) fun l2 nl2 => ?_
      walk_at "go"
      refine ⟨by show 2 ≤ sizeLine; decide, fun tp ntp => ?_⟩
      have e2 : l2 ≠ tp := neo ntp upd_same
      have sz : Same H (upd (upd (upd H' l (.lst ((R.drop at_).map V.int))) l2 (.lst ((found ++ R.drop at_).map V.int))) tp (.tup [.ref l2, .int (cross (L.take L.length) R : Nat)])) := by walk_at "same"
      have n2 : H l2 = none := (show Same H (upd H' l (.lst ((R.drop at_).map V.int))) by walk_at "same").free nl2
      have n3 : H tp = none := (show Same H (upd (upd H' l (.lst ((R.drop at_).map V.int))) l2 (.lst ((found ++ R.drop at_).map V.int))) by walk_at "same").free ntp
      walk_at "go"
      refine q tp l2 (found ++ R.drop at_) _ sz n3 n2 ?_ (lift_ne upd_same e2) pM sM
      rw [List.take_length]; exact upd_same
def sp_times (K : PySem.W.Frag) : Sp := fun vs H Q _ => ∃ (a : Addr) (ns : List Int) (number : Int), vs = [.ref a, .int number] ∧ SqL K H a (ns.map V.int) ∧ IsRow ns ∧ ∀ p H', Same H H' → H p = none → H' p = some (.lst ((timesOf ns number).map V.int)) → Q (.ref p) H'
theorem ok_times : Cc P w K mg base 3 "times" (sp_times K) := by
  have c_check_row := ok_check_row (P := P) (w := w) (base := base) T
  have c_rings_of := ok_rings_of (P := P) (w := w) (base := base) T
  refine Cc.mk' T.d_times sc_times ?_ ?_
  · rintro vs H Q E ⟨a, ns, number, rfl, _⟩; rfl
  · rintro f cdv A outer s H vs Q E hr ⟨a, ns, number, rfl, hA, R, q⟩
    have hn := R.len
    refine ⟨_, (pss_cons (ps_expr (pe_cc c_check_row (hr.mono (by decide)) (by rfl) (pa_cons (pv 0) pa_nil)))
      (pss_cons (ps_if (PW.pt (pw_or (pt_not (pt_val (pe_callB (r := rIsi K) call_isi (by rfl) T.b_isinstance PyProof.Rows.boot_isinstance (pa_cons (pv 1) (pa_cons (pe_bltn (v := .ty "int") (by rfl) T.b_int PyProof.Rows.boot_int rfl) pa_nil))))) (pw_or1 (pt_val (pe_callB (r := rIsi K) call_isi (by rfl) T.b_isinstance PyProof.Rows.boot_isinstance (pa_cons (pv 1) (pa_cons (pe_bltn (v := .ty "bool") (by rfl) T.b_bool PyProof.Rows.boot_bool rfl) pa_nil))))))) pss_never pss_nil)
      (pss_cons (ps_set (i := 2) sc_times.nd rfl (by first | exact Or.inl rfl | exact Or.inr rfl) (pe_callTy (r := rList2 K) call_list_of (by rfl) T.b_list PyProof.Rows.boot_list (pa_cons (pv 0) pa_nil)))
      (pss_cons (ps_for PassesOwn.never rfl (pi_list (pe_cc c_rings_of (hr.mono (by decide)) (by rfl) (pa_cons (pv 0) pa_nil))) (pg_name (i := 3) sc_times.nd rfl (by first | exact Or.inl rfl | exact Or.inr rfl)) (pss_cons (ps_set (i := 4) sc_times.nd rfl (by first | exact Or.inl rfl | exact Or.inr rfl) (pe_op op_mod (pv 1) (pe_callB (r := rLen2 K) call_len_seq (by rfl) T.b_len PySem.boot_len (pa_cons (pv 3) pa_nil))))
      (pss_one (ps_for PassesOwn.never rfl (pi_range1 (by rfl) T.b_range (pa_cons (pe_callB (r := rLen2 K) call_len_seq (by rfl) T.b_len PySem.boot_len (pa_cons (pv 3) pa_nil)) pa_nil)) (pg_name (i := 5) sc_times.nd rfl (by first | exact Or.inl rfl | exact Or.inr rfl)) (pss_one (ps_asg (pe_ix (r := rIxL K) ix_list (pv 3) (pe_op op_sub (pe_op op_add (pv 5) (pv 4)) (pe_callB (r := rLen2 K) call_len_seq (by rfl) T.b_len PySem.boot_len (pa_cons (pv 3) pa_nil))) (fun _ _ => rfl)) (pg_sub (pv 2) (pe_ix (r := rIxL K) ix_list (pv 3) (pv 5) (fun _ _ => rfl)) set_list)))))))
      (pss_one (ps_ret (pv 2))))))), ?_⟩
    walk_at "k"
    walk_at "go"
    refine ⟨a, ns, rfl, hA, R, fun H1 s1 => ?_⟩
    walk_at "go"
    refine c_list (s1.seq hA) fun pf npf => ?_
    have s2 : Same H (upd H1 pf (.lst (ns.map V.int))) := by walk_at "same"
    have h2 : (upd H1 pf (.lst (ns.map V.int))) pf = some (.lst (ns.map V.int)) := upd_same
    have npf0 := s1.free npf
    generalize upd H1 pf (.lst (ns.map V.int)) = H2 at s2 h2
    walk_at "go"
    refine ⟨a, ns, rfl, s2.seq hA, R, fun pr as H3 s3 npr n3 m3 h3 => ?_⟩
    have s03 := s2.trans s3
    have hf3 := s3 _ _ h2
    have L3 : Lf H3 as (ringsOf ns) := Lf.of n3
    have la := n3.len
    have npa : pf ∉ as := fun hm => by
      obtain ⟨_, _, z, _⟩ := n3.mem hm
      rw [h2] at z; cases z
    have dfr : pf ≠ pr := neo npr h2
    have cnt : (ringsOf ns).length ≤ ns.length := ringsAux_count ns ns.length
    refine k_lstN (f := V.ref) as (fun i σ H' => ∃ v3 v4 v5, σ = [some (.ref a), some (.int number), some (.ref pf), v3, v4, v5] ∧ Same H H' ∧ H' pr = some (.lst (as.map V.ref)) ∧ Lf H' as (ringsOf ns) ∧ H' pf = some (.lst ((timesAux number ((ringsOf ns).take i) ns).map V.int)))
      (SqL.of h3) ⟨_, _, _, rfl, s03, h3, L3, hf3⟩ (fun i σ H' _ ⟨_, _, _, _, _, h, _⟩ => SqL.of h) ?_ ?_
    · rintro i pi σ H4 hi ⟨v3, v4, v5, rfl, s4, hr4, L4, hf4⟩
      walk_at "d"
      obtain ⟨r, hr1, hr2⟩ : ∃ r, (ringsOf ns)[i]? = some r ∧ H4 pi = some (oL r) := by
        have hlt : i < (ringsOf ns).length := by rw [← la]; exact (List.getElem?_eq_some_iff.mp hi).1
        exact ⟨_, List.getElem?_eq_getElem hlt, L4.2 i pi _ hi (List.getElem?_eq_getElem hlt)⟩
      have hrm := List.mem_of_getElem? hr1
      have ok := ringsOf_okR R hrm
      have rl := ringsOf_len R hrm
      have r0 := rings_pos R r hrm
      have dpi : pi ≠ pf := fun e => npa (by rw [← e]; exact List.mem_of_getElem? hi)
      have b1 := Int.emod_nonneg number (show (r.length : Int) ≠ 0 by omega)
      have b2 := Int.emod_lt_of_pos number (show (0 : Int) < r.length by omega)
      have fl : (timesAux number ((ringsOf ns).take i) ns).length = ns.length := timesAux_length _ _ _
      have et : timesAux number ((ringsOf ns).take (i + 1)) ns = tRing r (number % r.length) r.length (timesAux number ((ringsOf ns).take i) ns) := foldl_take hr1
      generalize timesAux number ((ringsOf ns).take i) ns = F at *
      generalize hby : number % (r.length : Int) = by_ at *
      walk_at "go"
      rw [hby]
      refine k_rng1 (fun k σ H' => ∃ v5, σ = [some (.ref a), some (.int number), some (.ref pf), some (.ref pi), some (.int by_), v5] ∧ Same H H' ∧ H' pr = some (.lst (as.map V.ref)) ∧ Lf H' as (ringsOf ns) ∧ H' pi = some (oL r) ∧ H' pf = some (.lst ((tRing r by_ k F).map V.int)))
        (by omega) ⟨_, rfl, s4, hr4, L4, hr2, hf4⟩ ?_ ?_
      · rintro k σ H5 hk ⟨v5, rfl, s5, hr5, L5, hi5, hf5⟩
        walk_at "d"
        have tl : (tRing r by_ k F).length = ns.length := by rw [tRing_length]; exact fl
        have hb := okRing_bd ok (gt r (k : Int)) (gt_mem (by omega) (by omega))
        walk_at "go"
        refine ⟨_, rfl, by walk_at "same", lift_ne hr5 (Ne.symm dfr), L5.mut npa, lift_ne hi5 dpi, upd_same⟩
      · rintro σ H5 ⟨v5, rfl, s5, hr5, L5, hi5, hf5⟩
        walk_at "d"
        rw [Int.toNat_natCast, ← et] at hf5
        walk_at "go"
        exact ⟨_, _, _, rfl, s5, hr5, L5, hf5⟩
    · rintro σ H4 ⟨v3, v4, v5, rfl, s4, hr4, L4, hf4⟩
      walk_at "d"
      rw [la, List.take_length] at hf4
      walk_at "go"
      exact q pf H4 s4 npf0 hf4
def sp_turns (K : PySem.W.Frag) : Sp := fun vs H Q _ => ∃ (a : Addr) (ns : List Int), vs = [.ref a] ∧ SqL K H a (ns.map V.int) ∧ IsRow ns ∧ ∀ H', Same H H' → Q (.int (turnsOf ns : Nat)) H'
theorem ok_turns : Cc P w K mg base 3 "turns" (sp_turns K) := by
  have c_check_row := ok_check_row (P := P) (w := w) (base := base) T
  have c_rings_of := ok_rings_of (P := P) (w := w) (base := base) T
  have c_common := ok_common (P := P) (w := w) (base := base) T
  refine Cc.mk' T.d_turns sc_turns ?_ ?_
  · rintro vs H Q E ⟨a, ns, rfl, _⟩; rfl
  · rintro f cdv A outer s H vs Q E hr ⟨a, ns, rfl, hA, R, q⟩
    have hn := R.len
    refine ⟨_, (pss_cons (ps_expr (pe_cc c_check_row (hr.mono (by decide)) (by rfl) (pa_cons (pv 0) pa_nil)))
      (pss_cons (ps_set (i := 1) sc_turns.nd rfl (by first | exact Or.inl rfl | exact Or.inr rfl) pe_int)
      (pss_cons (ps_for PassesOwn.never rfl (pi_list (pe_cc c_rings_of (hr.mono (by decide)) (by rfl) (pa_cons (pv 0) pa_nil))) (pg_name (i := 2) sc_turns.nd rfl (by first | exact Or.inl rfl | exact Or.inr rfl)) (pss_one (ps_set (i := 1) sc_turns.nd rfl (by first | exact Or.inl rfl | exact Or.inr rfl) (pe_op op_mul (pe_op op_fdiv (pv 1) (pe_cc c_common (hr.mono (by decide)) (by rfl) (pa_cons (pv 1) (pa_cons (pe_callB (r := rLen2 K) call_len_seq (by rfl) T.b_len PySem.boot_len (pa_cons (pv 2) pa_nil)) pa_nil)))) (pe_callB (r := rLen2 K) call_len_seq (by rfl) T.b_len PySem.boot_len (pa_cons (pv 2) pa_nil))))))
      (pss_one (ps_ret (pv 1)))))), ?_⟩
    walk_at "k"
    walk_at "go"
    refine ⟨a, ns, rfl, hA, R, fun H1 s1 => ?_⟩
    walk_at "go"
    refine ⟨a, ns, rfl, s1.seq hA, R, fun pr as H3 s3 npr n3 m3 h3 => ?_⟩
    have la := n3.len
    have L3 : Lf H3 as (ringsOf ns) := Lf.of n3
    refine k_lstN (f := V.ref) as (fun i σ H' => ∃ v2, σ = [some (.ref a), some (.int (turnsAux ((ringsOf ns).take i) 1 : Nat)), v2] ∧ Same H3 H')
      (SqL.of h3) ⟨_, rfl, Same.refl _⟩ (fun i σ H' _ ⟨_, _, s⟩ => s.seq (SqL.of h3)) ?_ ?_
    · rintro i pi σ H4 hi ⟨v2, rfl, s4⟩
      walk_at "d"
      obtain ⟨r, hr1, hr2⟩ : ∃ r, (ringsOf ns)[i]? = some r ∧ H4 pi = some (oL r) := by
        have hlt : i < (ringsOf ns).length := by rw [← la]; exact (List.getElem?_eq_some_iff.mp hi).1
        exact ⟨_, List.getElem?_eq_getElem hlt, s4 _ _ (L3.2 i pi _ hi (List.getElem?_eq_getElem hlt))⟩
      have hrm := List.mem_of_getElem? hr1
      have rl := ringsOf_len R hrm
      have r0 := rings_pos R r hrm
      have et : turnsAux ((ringsOf ns).take (i + 1)) 1 = turnsAux ((ringsOf ns).take i) 1 / Nat.gcd (turnsAux ((ringsOf ns).take i) 1) r.length * r.length := foldl_take hr1
      generalize turnsAux ((ringsOf ns).take i) 1 = F at *
      have g0 : 0 < Nat.gcd F r.length := Nat.gcd_pos_of_pos_right _ r0
      have g1 : Nat.gcd F r.length ≤ r.length := Nat.le_of_dvd r0 (Nat.gcd_dvd_right _ _)
      walk_at "go"
      refine ⟨F, r.length, rfl, fun H5 s5 => ?_⟩
      walk_at "go"
      refine ⟨some (.ref pi), ?_, s4.trans s5⟩
      rw [et]; rfl
    · rintro σ H4 ⟨v2, rfl, s4⟩
      walk_at "d"
      rw [la, List.take_length]
      walk_at "go"
      exact q H4 ((s1.trans s3).trans s4)
end
end Bo

namespace Bo
open PySem PySem.Spec PyProof.Rows L2
/-! ### steps of a reading: each a row of its own -/
local macro_rules | `(tactic| walk_at "ne") => `(tactic| first
  | assumption
  | (apply Ne.symm; assumption)
  | (apply neo; assumption; walk_at "hp")
  | (apply Ne.symm; apply neo; assumption; walk_at "hp"))
local macro_rules | `(tactic| walk_at "hp") => `(tactic| first
  | assumption
  | exact upd_same
  | (apply lift_ne; walk_at "hp"; walk_at "ne")
  | (apply Same.up; assumption; walk_at "hp"))
local macro_rules | `(tactic| walk_at "same") => `(tactic| first
  | assumption
  | exact Same.refl _
  | (apply Same.new; walk_at "same"; walk_at "fr")
  | (apply same_trans; assumption; walk_at "same"))
local macro_rules | `(tactic| walk_at "fr") => `(tactic| first
  | assumption
  | (apply same_free; assumption; walk_at "same"))
local macro_rules | `(tactic| walk_at "sq") => `(tactic| first
  | assumption
  | (apply SqL.of; walk_at "hp")
  | (apply same_seq; assumption; walk_at "same"))
local macro_rules | `(tactic| walk_at "sqt") => `(tactic| first
  | assumption
  | (apply SqT.of; walk_at "hp")
  | (apply same_sqt; assumption; walk_at "same"))
local macro_rules | `(tactic| walk_at "nw") => `(tactic| first
  | assumption
  | (apply News.mut; walk_at "nw"; (first | assumption | (refine News.notin (by assumption) ?_; assumption)))
  | (apply News.same; walk_at "nw"; walk_at "same"))
/-! one step -/
local macro_rules | `(tactic| walk_at "go1") => `(tactic| first
  | with_reducible refine r_seq ?_
  | with_reducible refine r_asgN ?_
  | with_reducible refine r_set ?_
  | with_reducible refine r_ret ?_
  | with_reducible refine r_drop ?_
  | with_reducible refine r_if ?_
  | with_reducible refine r_next ?_
  | with_reducible refine r_nx ?_
  | with_reducible refine r_rt ?_
  | with_reducible refine r_par ?_
  | with_reducible refine k_par ?_
  | with_reducible refine r_fld ?_
  | ((with_reducible apply r_aug); exact rfl)
  | with_reducible refine i_ip ?_
  | ((with_reducible apply e_var); exact rfl)
  | with_reducible refine e_c ?_
  | with_reducible refine e_op ?_
  | with_reducible refine e_un ?_
  | with_reducible refine o_I0 ?_
  | with_reducible refine o_neg ?_
  | with_reducible refine o_eqI ?_
  | with_reducible refine o_neI ?_
  | with_reducible refine o_eqB ?_
  | with_reducible refine o_neB ?_
  | with_reducible refine o_eqS ?_
  | with_reducible refine o_neS ?_
  | with_reducible refine a_nil ?_
  | with_reducible refine a_cons ?_
  | with_reducible refine e_cb ?_
  | with_reducible refine e_call ?_
  | with_reducible refine e_make ?_
  | with_reducible refine e_meth ?_
  | with_reducible refine e_fld ?_
  | with_reducible refine e_lst ?_
  | with_reducible refine e_tup ?_
  | with_reducible refine e_bm ?_
  | with_reducible refine e_bm0 ?_
  | with_reducible refine e_rev ?_
  | with_reducible refine e_sl ?_
  | with_reducible refine e_nopart ?_
  | with_reducible refine e_part ?_
  | with_reducible refine i_ok ?_
  | with_reducible refine e_lenset ?_
  | with_reducible refine e_listRg1 ?_
  | with_reducible refine t_test ?_
  | with_reducible refine t_B ?_
  | with_reducible refine b_ok ?_
  | with_reducible refine t_and ?_
  | with_reducible refine t_or ?_
  | with_reducible refine t_not ?_
  | with_reducible refine v_and ?_
  | with_reducible refine v_or ?_
  | with_reducible refine v_not ?_
  | with_reducible refine e_if ?_
  | with_reducible refine e_chain ?_
  | with_reducible refine e_chain3 ?_
  | with_reducible refine iteT ?_
  | with_reducible refine iteF ?_
  | with_reducible refine ite_nT ?_
  | with_reducible refine ite_nF ?_
  | with_reducible refine r_forL ?_
  | with_reducible refine r_forT ?_
  | with_reducible refine r_forE ?_
  | with_reducible refine r_forR1 ?_
  | with_reducible refine r_forR2 ?_
  | with_reducible refine e_lcL ?_
  | with_reducible refine e_lcR1 ?_
  | with_reducible refine e_lcR2 ?_
  | with_reducible refine r_dput ?_
  | with_reducible refine e_dget ?_
  | with_reducible refine e_dnin ?_
  | with_reducible refine c_max2 ?_
  | with_reducible refine c_min2 ?_
  | ((with_reducible apply c_isiI); (first | exact (show kitB "int" _ = some true by decide +kernel) | exact (show kitB "int" _ = some false by decide +kernel)))
  | ((with_reducible apply m_ty); walk_at "sq"))
local macro_rules | `(tactic| walk_at "go2") => `(tactic| first
  | ((with_reducible apply o_ixI); walk_at "sq"; omega)
  | ((with_reducible refine o_mod ?_ ?_); omega)
  | ((with_reducible refine o_fdiv ?_ ?_); omega)
  | ((with_reducible refine o_mulR ?_ ?_); omega)
  | ((with_reducible refine o_mulL ?_ ?_); omega)
  | ((with_reducible apply c_lenM); walk_at "sq")
  | ((with_reducible apply c_all); walk_at "sq")
  | ((with_reducible apply c_any); walk_at "sq")
  | ((with_reducible apply o_in); walk_at "sq")
  | ((with_reducible apply o_nin); walk_at "sq")
  | ((with_reducible apply o_ixB); walk_at "sq"; omega)
  | ((with_reducible apply m_setB); walk_at "hp"; omega)
  | ((with_reducible apply m_appR); walk_at "hp"; omega)
  | ((with_reducible apply m_ins); walk_at "hp"; omega; omega)
  | ((with_reducible apply m_appM); walk_at "hp"; exact rfl; omega)
  | ((with_reducible apply m_setI); walk_at "hp"; omega))
local macro_rules | `(tactic| walk_at "d") => `(tactic| try dsimp only)
local macro_rules | `(tactic| walk_at "k") => `(tactic| try dsimp only [cxOf, Cx.nox, Cx.blk])
local macro_rules | `(tactic| walk_at "go") => `(tactic| repeat (first | walk_at "go1" | walk_at "go2"))

section
variable {P : Program} {w : World} {K : PySem.W.Frag} {mg : Str → Option Value} {base : Heap} {C_Exchanged C_Fronted C_Ended C_Put C_Answer : Addr} (T : Top K mg C_Exchanged C_Fronted C_Ended C_Put C_Answer)
include T

def sp_wrong (K : PySem.W.Frag) : Sp := fun vs H Q _ => ∃ (a : Addr) (ns : List Int), vs = [.ref a] ∧ SqL K H a (ns.map V.int) ∧ IsRow ns ∧ ∀ H', Same H H' → Q (.int (inv ns : Nat)) H'
theorem ok_wrong : Cc P w K mg base 3 "wrong" (sp_wrong K) := by
  have c_check_row := ok_check_row (P := P) (w := w) (base := base) T
  have c_joined := ok_joined (P := P) (w := w) (base := base) T
  refine Cc.mk' T.d_wrong sc_wrong ?_ ?_
  · rintro vs H Q E ⟨a, ns, rfl, _⟩; rfl
  · rintro f cdv A outer s H vs Q E hr ⟨a, ns, rfl, hA, R, q⟩
    have hn := R.len
    refine ⟨_, (pss_cons (ps_expr (pe_cc c_check_row (hr.mono (by decide)) (by rfl) (pa_cons (pv 0) pa_nil)))
      (pss_cons (ps_setLc (i := 1) (own := [("thing", 7)]) (g := gName 7) (tt := tYes) rfl sc_wrong.nd rfl rfl (sw_true rfl rfl rfl (by decide +kernel)) (pi_list (pv 0)) (blkOk_by (own := [("thing", 7)]) (N := N_wrong) (sc := defScope s_wrong) (by decide +kernel)) (fun _ _ _ _ _ => (pg_name (i := 7) sc_wrong.nd rfl (Or.inl rfl))) (fun _ _ _ _ _ => pts_nil) (fun _ _ _ _ _ => (pe_lst (pa_cons (pv 7) pa_nil))))
      (pss_cons (ps_set (i := 2) sc_wrong.nd rfl (by first | exact Or.inl rfl | exact Or.inr rfl) pe_int)
      (pss_cons (ps_while PassesOwn.never (pt_cmpR op_gt (pe_callB (r := rLen2 K) call_len_seq (by rfl) T.b_len PySem.boot_len (pa_cons (pv 1) pa_nil)) pe_int (nomark _)) (pss_cons (ps_set (i := 3) sc_wrong.nd rfl (by first | exact Or.inl rfl | exact Or.inr rfl) (pe_lst pa_nil))
      (pss_cons (ps_for PassesOwn.never rfl (pi_range3 (by rfl) T.b_range (pa_cons pe_int (pa_cons (pe_op op_sub (pe_callB (r := rLen2 K) call_len_seq (by rfl) T.b_len PySem.boot_len (pa_cons (pv 1) pa_nil)) pe_int) (pa_cons pe_int pa_nil)))) (pg_name (i := 4) sc_wrong.nd rfl (by first | exact Or.inl rfl | exact Or.inr rfl)) (pss_cons (ps_asg (pe_cc c_joined (hr.mono (by decide)) (by rfl) (pa_cons (pe_ix (r := rIxL K) ix_list (pv 1) (pv 4) (fun _ _ => rfl)) (pa_cons (pe_ix (r := rIxL K) ix_list (pv 1) (pe_op op_add (pv 4) pe_int) (fun _ _ => rfl)) pa_nil))) (pg_tup rfl (pgs_cons (pg_name (i := 5) sc_wrong.nd rfl (by first | exact Or.inl rfl | exact Or.inr rfl)) (pgs_cons (pg_name (i := 6) sc_wrong.nd rfl (by first | exact Or.inl rfl | exact Or.inr rfl)) pgs_nil))))
      (pss_cons (ps_expr (pe_bm PySem.F.plainAttrs_list PySem.F.slot_list_append PySem.F.type_list_append mt_append (pv 3) (pa_cons (pv 5) pa_nil)))
      (pss_one (ps_aug (i := 2) sc_wrong.nd rfl (by first | exact Or.inl rfl | exact Or.inr rfl) (pv 6) ip_add)))))
      (Bo.pss_cut (ps_if (pt_cmpR op_eq (pe_op op_mod (pe_callB (r := rLen2 K) call_len_seq (by rfl) T.b_len PySem.boot_len (pa_cons (pv 1) pa_nil)) pe_int) pe_int (nomark _)) (pss_one (ps_expr (pe_bm PySem.F.plainAttrs_list PySem.F.slot_list_append PySem.F.type_list_append mt_append (pv 3) (pa_cons (pe_ix (r := rIxL K) ix_list (pv 1) (pe_un un_neg pe_int) (fun _ _ => rfl)) pa_nil)))) pss_nil)
      (pss_one (ps_set (i := 1) sc_wrong.nd rfl (by first | exact Or.inl rfl | exact Or.inr rfl) (pv 3)))))))
      (pss_one (ps_ret (pv 2))))))), ?_⟩
    walk_at "k"
    walk_at "go"
    refine ⟨a, ns, rfl, hA, R, fun H1 s1 => ?_⟩
    walk_at "go"
    refine k_lcN (xs := ns) (f := V.int) (fun x => oL [x]) (s1.seq hA) (by omega) (fun _ => rfl) ?_ ?_
    · intro i x H2 R' hx s2 k2
      walk_at "go"
      exact ⟨by show 1 ≤ sizeLine; decide, fun p np => k2 p _ np (Same.one np) upd_same⟩
    intro pp as H2 npp s2 n2 m2 h2
    have s02 := s1.trans s2
    have L2' : Lf H2 as (ns.map fun x => [x]) := Lf.of (n2.map (g := fun x => [x]) (obj := oL))
    walk_at "go"
    refine r_while (fun m σ H' => ∃ (pp : Addr) (as : List Addr) (parts : List (List Int)) (total : Nat) (v3 v4 v5 v6 : Option V), m = parts.length ∧ parts.length ≤ 1000 ∧ σ = [some (.ref a), some (.ref pp), some (.int (total : Nat)), v3, v4, v5, v6, none] ∧ Same H H' ∧ H' pp = some (.lst (as.map V.ref)) ∧ Lf H' as parts ∧ WP (inv ns) ns.length parts total)
      (ns.map fun x => [x]).length ⟨pp, as, _, 0, _, _, _, _, rfl, by rw [List.length_map]; omega, rfl, s02, h2, L2', WP.first ns⟩ ?_
    rintro m σ' H3 ⟨pp, as, parts, total, v3, v4, v5, v6, rfl, pl, rfl, s3, h3, L3, I⟩
    have la := L3.1
    have lenb : ∀ p ∈ parts, p.length ≤ 1000 := fun p hp => by have := mem_le_flatten hp; have := I.fl; omega
    walk_at "go"
    refine ite_dec (fun c => ?_) (fun c => ?_)
    · walk_at "go"
      refine ⟨fun σ2 H2 => ∃ m' < parts.length, ∃ (pp : Addr) (as : List Addr) (parts : List (List Int)) (total : Nat) (v3 v4 v5 v6 : Option V), m' = parts.length ∧ parts.length ≤ 1000 ∧ σ2 = [some (.ref a), some (.ref pp), some (.int (total : Nat)), v3, v4, v5, v6, none] ∧ Same H H2 ∧ H2 pp = some (.lst (as.map V.ref)) ∧ Lf H2 as parts ∧ WP (inv ns) ns.length parts total, fun σ2 H2 h => h, ?_⟩
      walk_at "go"
      refine ⟨Nat.zero_le _, fun pf npf => ?_⟩
      walk_at "go"
      refine r_forR3 ?_
      walk_at "go"
      rw [la]
      refine k_rng3 (m := parts.length) (by omega) (fun t σ H' => ∃ (bs : List Addr) (fewer : List (List Int)) (total : Nat) (v4 v5 v6 : Option V), σ = [some (.ref a), some (.ref pp), some (.int (total : Nat)), some (.ref pf), v4, v5, v6, none] ∧ Same H3 H' ∧ H' pf = some (.lst (bs.map V.ref)) ∧ Lf H' bs fewer ∧ pf ∉ bs ∧ WI (inv ns) ns.length parts t fewer total)
        ⟨[], [], total, _, _, _, rfl, by walk_at "same", upd_same, ⟨rfl, fun i p x h => by simp at h⟩, by simp, I.start⟩ ?_ ?_
      · rintro t σ H4 ht ⟨bs, fewer, total, v4, v5, v6, rfl, s4, h4, L4, m4, J⟩
        walk_at "d"
        obtain ⟨A, hAp⟩ : ∃ A, parts[2 * t]? = some A := ⟨_, List.getElem?_eq_getElem (by omega)⟩
        obtain ⟨B, hBp⟩ : ∃ B, parts[2 * t + 1]? = some B := ⟨_, List.getElem?_eq_getElem (by omega)⟩
        obtain ⟨qa, hqa⟩ : ∃ A, as[2 * t]? = some A := ⟨_, List.getElem?_eq_getElem (by omega)⟩
        obtain ⟨qb, hqb⟩ : ∃ B, as[2 * t + 1]? = some B := ⟨_, List.getElem?_eq_getElem (by omega)⟩
        have ha := s4 _ _ (L3.2 _ _ _ hqa hAp)
        have hb := s4 _ _ (L3.2 _ _ _ hqb hBp)
        have hpp4 := s4 _ _ h3
        have sA := I.so A (List.mem_of_getElem? hAp)
        have sB := I.so B (List.mem_of_getElem? hBp)
        have bl := L4.1
        have fl := J.len
        walk_at "go"
        refine r_asg ?_
        walk_at "go"
        refine o_ixM (f := V.ref) (xs := as) (j := 2 * t) (x := qa) (SqL.of hpp4) hqa (by omega) ?_
        walk_at "go"
        refine o_ixM (f := V.ref) (xs := as) (j := 2 * t + 1) (x := qb) (SqL.of hpp4) hqb (by omega) ?_
        walk_at "go"
        refine ⟨qa, qb, A, B, rfl, SqL.of ha, SqL.of hb, sA, sB, lenb A (List.mem_of_getElem? hAp), lenb B (List.mem_of_getElem? hBp), fun tp pM M H5 s5 ntp npM htp hM pM' sM => ?_⟩
        have d1 : pf ≠ pM := neo npM h4
        have h5 := s5 _ _ h4
        refine k_tup2 (SqT.of htp) ?_
        walk_at "go"
        refine ⟨bs ++ [pM], fewer ++ [M], total + cross A B, _, _, _, rfl, ?_, upd_same, ((L4.same s5).snoc hM).mut (nm_snoc m4 d1), nm_snoc m4 d1, J.step hAp hBp sA sB sM pM'⟩
        exact Same.new (s4.trans s5) npf
      · rintro σ H4 ⟨bs, fewer, total, v4, v5, v6, rfl, s4, h4, L4, m4, J⟩
        walk_at "d"
        have hpp4 := s4 _ _ h3
        have bl := L4.1
        have fl := J.len
        walk_at "go"
        refine c_cut (fun σ' H5 => ∃ (bs : List Addr) (fewer : List (List Int)), σ' = [some (.ref a), some (.ref pp), some (.int (total : Nat)), some (.ref pf), v4, v5, v6, none] ∧ Same H3 H5 ∧ H5 pf = some (.lst (bs.map V.ref)) ∧ Lf H5 bs fewer ∧ fewer.length < parts.length ∧ WP (inv ns) ns.length fewer total) ?_ ?_
        · walk_at "go"
          rw [la]
          refine ite_dec (fun c2 => ?_) (fun c2 => ?_)
          · have hodd : parts.length = 2 * (parts.length / 2) + 1 := by omega
            obtain ⟨p, hp⟩ : ∃ p, parts[2 * (parts.length / 2)]? = some p := ⟨_, List.getElem?_eq_getElem (by omega)⟩
            obtain ⟨qp, hqp⟩ : ∃ p, as[2 * (parts.length / 2)]? = some p := ⟨_, List.getElem?_eq_getElem (by omega)⟩
            have hpq := s4 _ _ (L3.2 _ _ _ hqp hp)
            have d1 : pf ≠ qp := fun e => by
              have := L3.2 _ _ _ hqp hp
              rw [← e, npf] at this; cases this
            walk_at "go"
            refine o_ixLast (f := V.ref) (xs := as) (x := qp) (SqL.of hpp4) (by rw [la, show parts.length - 1 = 2 * (parts.length / 2) by omega]; exact hqp) ?_
            walk_at "go"
            exact ⟨bs ++ [qp], fewer ++ [p], rfl, by walk_at "same", upd_same, (L4.snoc hpq).mut (nm_snoc m4 d1), by simp; omega, J.odd hodd hp (I.so p (List.mem_of_getElem? hp))⟩
          · walk_at "go"
            exact ⟨bs, fewer, rfl, s4, h4, L4, by omega, J.even (by omega)⟩
        rintro σ' H5 ⟨bs, fewer, rfl, s5, h5, L5, flt, I5⟩
        walk_at "go"
        exact ⟨fewer.length, flt, pf, bs, fewer, total, _, _, _, _, rfl, by omega, rfl, s3.trans s5, h5, L5, I5⟩
    · walk_at "go"
      rw [I.done (by omega)]
      exact q H3 s3
def sp_law_wrong (K : PySem.W.Frag) : Sp := fun vs H Q _ => ∃ (a : Addr) (ns : List Int), vs = [.ref a] ∧ SqL K H a (ns.map V.int) ∧ ns.length ≤ 1000 ∧ ∀ H', Same H H' → Q (.int (inv ns : Nat)) H'
theorem ok__law_wrong : Cc P w K mg base 1 "_law_wrong" (sp_law_wrong K) := by
  refine Cc.mk' T.d__law_wrong sc__law_wrong ?_ ?_
  · rintro vs H Q E ⟨a, ns, rfl, _⟩; rfl
  · rintro f cdv A outer s H vs Q E hr ⟨a, ns, rfl, hA, hn, q⟩
    refine ⟨_, (pss_cons (ps_set (i := 1) sc__law_wrong.nd rfl (by first | exact Or.inl rfl | exact Or.inr rfl) pe_int)
      (pss_cons (ps_for PassesOwn.never rfl (pi_range1 (by rfl) T.b_range (pa_cons (pe_callB (r := rLen2 K) call_len_seq (by rfl) T.b_len PySem.boot_len (pa_cons (pv 0) pa_nil)) pa_nil)) (pg_name (i := 2) sc__law_wrong.nd rfl (by first | exact Or.inl rfl | exact Or.inr rfl)) (pss_one (ps_set (i := 1) sc__law_wrong.nd rfl (by first | exact Or.inl rfl | exact Or.inr rfl) (pe_op op_add (pv 1) (pe_callB (r := rLen2 K) call_len_seq (by rfl) T.b_len PySem.boot_len (pa_cons (pe_lc (own := [("_law_thing", 3)]) (g := gName 3) rfl sc__law_wrong.nd (pi_list (pe_slice (r := rSlL K) sl_list (pv 0) po_none (po_some (pv 2)))) (blkOk_by (own := [("_law_thing", 3)]) (N := N__law_wrong) (sc := defScope s__law_wrong) (by decide +kernel)) (fun _ _ _ _ _ => (pg_name (i := 3) sc__law_wrong.nd rfl (Or.inl rfl))) (fun _ _ _ _ _ => (pts_one (pt_cmpR op_gt (pv 3) (pe_ix (r := rIxL K) ix_list (pv 0) (pv 2) (fun _ _ => rfl)) (nomark _)))) (fun _ _ _ _ _ => (pv 3))) pa_nil))))))
      (pss_one (ps_ret (pv 1))))), ?_⟩
    walk_at "k"
    walk_at "go"
    refine k_rng1 (fun i σ H' => ∃ v2, σ = [some (.ref a), some (.int (inv (ns.take i) : Nat)), v2, none] ∧ Same H H') (by omega) ⟨_, rfl, Same.refl _⟩ ?_ ?_
    · rintro i σ H1 hi ⟨v2, rfl, s1⟩
      walk_at "d"
      walk_at "go"
      refine o_slTo (f := V.int) (xs := ns) (s1.seq hA) (by omega) fun l nl => ?_
      rw [Int.toNat_natCast]
      have s2 : Same H (upd H1 l (.lst ((ns.take i).map V.int))) := by walk_at "same"
      have h2 : (upd H1 l (.lst ((ns.take i).map V.int))) l = some (.lst ((ns.take i).map V.int)) := upd_same
      generalize upd H1 l (.lst ((ns.take i).map V.int)) = H2 at s2 h2
      walk_at "go"
      refine k_lcF (xs := ns.take i) (fun x => decide (gt ns (i : Int) < x)) (SqL.of h2) (by rw [List.length_take]; omega) (fun _ => rfl) ?_ ?_ ?_
      · intro j x H3 R' hx s3 k3
        have s23 := s2.trans s3
        walk_at "go"
        exact k3
      · intro j x H3 R' hx s3 k3
        walk_at "go"
        exact k3
      intro D H3 nD s3 hD
      walk_at "go"
      refine ⟨some (.int (i : Nat)), ?_, s2.trans s3⟩
      rw [List.take_add_one, gt_some (ns := ns) (i := i) (by omega)]
      show _ = [_, some (V.int (inv (ns.take i ++ [gt ns (i : Int)]) : Nat)), _, _]
      rw [inv_snoc, List.countP_eq_length_filter]; rfl
    · rintro σ H1 ⟨v2, rfl, s1⟩
      walk_at "d"
      rw [Int.toNat_natCast, List.take_length]
      walk_at "go"
      exact q H1 s1
end
end Bo

namespace Bo
open PySem PySem.Spec PyProof.Rows L2
/-! ### steps of a reading: each a row of its own -/
local macro_rules | `(tactic| walk_at "ne") => `(tactic| first
  | assumption
  | (apply Ne.symm; assumption)
  | (apply neo; assumption; walk_at "hp")
  | (apply Ne.symm; apply neo; assumption; walk_at "hp"))
local macro_rules | `(tactic| walk_at "hp") => `(tactic| first
  | assumption
  | exact upd_same
  | (apply lift_ne; walk_at "hp"; walk_at "ne")
  | (apply Same.up; assumption; walk_at "hp"))
local macro_rules | `(tactic| walk_at "same") => `(tactic| first
  | assumption
  | exact Same.refl _
  | (apply Same.new; walk_at "same"; walk_at "fr")
  | (apply same_trans; assumption; walk_at "same"))
local macro_rules | `(tactic| walk_at "fr") => `(tactic| first
  | assumption
  | (apply same_free; assumption; walk_at "same"))
local macro_rules | `(tactic| walk_at "sq") => `(tactic| first
  | assumption
  | (apply SqL.of; walk_at "hp")
  | (apply same_seq; assumption; walk_at "same"))
local macro_rules | `(tactic| walk_at "sqt") => `(tactic| first
  | assumption
  | (apply SqT.of; walk_at "hp")
  | (apply same_sqt; assumption; walk_at "same"))
local macro_rules | `(tactic| walk_at "nw") => `(tactic| first
  | assumption
  | (apply News.mut; walk_at "nw"; (first | assumption | (refine News.notin (by assumption) ?_; assumption)))
  | (apply News.same; walk_at "nw"; walk_at "same"))
/-! one step -/
local macro_rules | `(tactic| walk_at "go1") => `(tactic| first
  | with_reducible refine r_seq ?_
  | with_reducible refine r_asgN ?_
  | with_reducible refine r_set ?_
  | with_reducible refine r_ret ?_
  | with_reducible refine r_drop ?_
  | with_reducible refine r_if ?_
  | with_reducible refine r_next ?_
  | with_reducible refine r_nx ?_
  | with_reducible refine r_rt ?_
  | with_reducible refine r_par ?_
  | with_reducible refine k_par ?_
  | with_reducible refine r_fld ?_
  | ((with_reducible apply r_aug); exact rfl)
  | with_reducible refine i_ip ?_
  | ((with_reducible apply e_var); exact rfl)
  | with_reducible refine e_c ?_
  | with_reducible refine e_op ?_
  | with_reducible refine e_un ?_
  | with_reducible refine o_I0 ?_
  | with_reducible refine o_neg ?_
  | with_reducible refine o_eqI ?_
  | with_reducible refine o_neI ?_
  | with_reducible refine o_eqB ?_
  | with_reducible refine o_neB ?_
  | with_reducible refine o_eqS ?_
  | with_reducible refine o_neS ?_
  | with_reducible refine a_nil ?_
  | with_reducible refine a_cons ?_
  | with_reducible refine e_cb ?_
  | with_reducible refine e_call ?_
  | with_reducible refine e_make ?_
  | with_reducible refine e_meth ?_
  | with_reducible refine e_fld ?_
  | with_reducible refine e_lst ?_
  | with_reducible refine e_tup ?_
  | with_reducible refine e_bm ?_
  | with_reducible refine e_bm0 ?_
  | with_reducible refine e_rev ?_
  | with_reducible refine e_sl ?_
  | with_reducible refine e_nopart ?_
  | with_reducible refine e_part ?_
  | with_reducible refine i_ok ?_
  | with_reducible refine e_lenset ?_
  | with_reducible refine e_listRg1 ?_
  | with_reducible refine t_test ?_
  | with_reducible refine t_B ?_
  | with_reducible refine b_ok ?_
  | with_reducible refine t_and ?_
  | with_reducible refine t_or ?_
  | with_reducible refine t_not ?_
  | with_reducible refine v_and ?_
  | with_reducible refine v_or ?_
  | with_reducible refine v_not ?_
  | with_reducible refine e_if ?_
  | with_reducible refine e_chain ?_
  | with_reducible refine e_chain3 ?_
  | with_reducible refine iteT ?_
  | with_reducible refine iteF ?_
  | with_reducible refine ite_nT ?_
  | with_reducible refine ite_nF ?_
  | with_reducible refine r_forL ?_
  | with_reducible refine r_forT ?_
  | with_reducible refine r_forE ?_
  | with_reducible refine r_forR1 ?_
  | with_reducible refine r_forR2 ?_
  | with_reducible refine e_lcL ?_
  | with_reducible refine e_lcR1 ?_
  | with_reducible refine e_lcR2 ?_
  | with_reducible refine r_dput ?_
  | with_reducible refine e_dget ?_
  | with_reducible refine e_dnin ?_
  | with_reducible refine c_max2 ?_
  | with_reducible refine c_min2 ?_
  | ((with_reducible apply c_isiI); (first | exact (show kitB "int" _ = some true by decide +kernel) | exact (show kitB "int" _ = some false by decide +kernel)))
  | ((with_reducible apply m_ty); walk_at "sq"))
local macro_rules | `(tactic| walk_at "go2") => `(tactic| first
  | ((with_reducible apply o_ixI); walk_at "sq"; omega)
  | ((with_reducible refine o_mod ?_ ?_); omega)
  | ((with_reducible refine o_fdiv ?_ ?_); omega)
  | ((with_reducible refine o_mulR ?_ ?_); omega)
  | ((with_reducible refine o_mulL ?_ ?_); omega)
  | ((with_reducible apply c_lenM); walk_at "sq")
  | ((with_reducible apply c_all); walk_at "sq")
  | ((with_reducible apply c_any); walk_at "sq")
  | ((with_reducible apply o_in); walk_at "sq")
  | ((with_reducible apply o_nin); walk_at "sq")
  | ((with_reducible apply o_ixB); walk_at "sq"; omega)
  | ((with_reducible apply m_setB); walk_at "hp"; omega)
  | ((with_reducible apply m_appR); walk_at "hp"; omega)
  | ((with_reducible apply m_ins); walk_at "hp"; omega; omega)
  | ((with_reducible apply m_appM); walk_at "hp"; exact rfl; omega)
  | ((with_reducible apply m_setI); walk_at "hp"; omega))
local macro_rules | `(tactic| walk_at "d") => `(tactic| try dsimp only)
local macro_rules | `(tactic| walk_at "k") => `(tactic| try dsimp only [cxOf, Cx.nox, Cx.blk])
local macro_rules | `(tactic| walk_at "go") => `(tactic| repeat (first | walk_at "go1" | walk_at "go2"))

section
variable {P : Program} {w : World} {K : PySem.W.Frag} {mg : Str → Option Value} {base : Heap} {C_Exchanged C_Fronted C_Ended C_Put C_Answer : Addr} (T : Top K mg C_Exchanged C_Fronted C_Ended C_Put C_Answer)
include T

def sp_primes (K : PySem.W.Frag) : Sp := fun vs H Q _ => ∃ (ns : List Int), vs = [.int (turnsOf ns : Nat)] ∧ IsRow ns ∧ ∀ (p : Addr) (ps : List Int) (H' : Hp), Same H H' → H p = none → H' p = some (.lst (ps.map V.int)) → ps.length ≤ 1000 → (∀ x ∈ ps, ∃ k : Nat, x = (k : Int) ∧ 2 ≤ k ∧ k ≤ 1000 ∧ k ∣ turnsOf ns) → Q (.ref p) H'
theorem ok__law_primes : Cc P w K mg base 1 "_law_primes" (sp_primes K) := by
  refine Cc.mk' T.d__law_primes sc__law_primes ?_ ?_
  · rintro vs H Q E ⟨ns, rfl, _⟩; rfl
  · rintro f cdv A outer s H vs Q E hr ⟨ns, rfl, R, q⟩
    have hn := R.len
    have tp := turns_pos R
    refine ⟨_, (pss_cons (ps_par (i := 1) (j := 2) rfl sc__law_primes.nd rfl rfl (by decide) rfl rfl (pa_cons (pe_lst pa_nil) (pa_cons pe_int pa_nil)) (by rfl))
      (pss_cons (ps_while PassesOwn.never (pt_cmpR op_gt (pv 0) pe_int (nomark _)) (Bo.pss_cut (ps_if (pt_cmpR op_eq (pe_op op_mod (pv 0) (pv 2)) pe_int (nomark _)) (pss_cons (ps_expr (pe_bm PySem.F.plainAttrs_list PySem.F.slot_list_append PySem.F.type_list_append mt_append (pv 1) (pa_cons (pv 2) pa_nil)))
      (pss_one (ps_while PassesOwn.never (pt_cmpR op_eq (pe_op op_mod (pv 0) (pv 2)) pe_int (nomark _)) (pss_one (ps_set (i := 0) sc__law_primes.nd rfl (by first | exact Or.inl rfl | exact Or.inr rfl) (pe_op op_fdiv (pv 0) (pv 2))))))) pss_nil)
      (pss_one (ps_set (i := 2) sc__law_primes.nd rfl (by first | exact Or.inl rfl | exact Or.inr rfl) (pe_op op_add (pv 2) pe_int)))))
      (pss_one (ps_ret (pv 1))))), ?_⟩
    walk_at "k"
    walk_at "go"
    refine ⟨Nat.zero_le _, fun pf npf => ?_⟩
    walk_at "go"
    refine r_while (fun m σ H' => ∃ (number prime : Nat) (ps : List Int), m = 2000 - prime ∧ σ = [some (.int (number : Nat)), some (.ref pf), some (.int (prime : Nat))] ∧ Same H H' ∧ H' pf = some (.lst (ps.map V.int)) ∧ number ∣ turnsOf ns ∧ 0 < number ∧ 2 ≤ prime ∧ prime ≤ 1001 ∧ ps.length < prime ∧ (∀ d, 1 < d → d ∣ number → prime ≤ d) ∧
        ∀ x ∈ ps, ∃ k : Nat, x = (k : Int) ∧ 2 ≤ k ∧ k ≤ 1000 ∧ k ∣ turnsOf ns)
      (2000 - 2) ⟨turnsOf ns, 2, [], rfl, rfl, by walk_at "same", upd_same, Nat.dvd_refl _, tp, by omega, by omega, by simp, fun d h _ => h, by simp⟩ ?_
    rintro m σ' H3 ⟨number, prime, ps, rfl, rfl, s3, h3, nd, n0, p2, p1001, pl, least, psk⟩
    walk_at "go"
    refine ite_dec (fun c => ?_) (fun c => ?_)
    · obtain ⟨d, d1, dd, dl⟩ := turns_part R nd (show 1 < number by omega)
      have hp := least d d1 dd
      walk_at "go"
      refine ⟨fun σ2 H2 => ∃ m' < 2000 - prime, ∃ (number prime : Nat) (ps : List Int), m' = 2000 - prime ∧ σ2 = [some (.int (number : Nat)), some (.ref pf), some (.int (prime : Nat))] ∧ Same H H2 ∧ H2 pf = some (.lst (ps.map V.int)) ∧ number ∣ turnsOf ns ∧ 0 < number ∧ 2 ≤ prime ∧ prime ≤ 1001 ∧ ps.length < prime ∧ (∀ d, 1 < d → d ∣ number → prime ≤ d) ∧
        ∀ x ∈ ps, ∃ k : Nat, x = (k : Int) ∧ 2 ≤ k ∧ k ≤ 1000 ∧ k ∣ turnsOf ns, fun σ2 H2 h => h, ?_⟩
      refine c_cut (fun σ' H5 => ∃ (number : Nat) (ps : List Int), σ' = [some (.int (number : Nat)), some (.ref pf), some (.int (prime : Nat))] ∧ Same H H5 ∧ H5 pf = some (.lst (ps.map V.int)) ∧ number ∣ turnsOf ns ∧ 0 < number ∧ ps.length < prime + 1 ∧ (∀ d, 1 < d → d ∣ number → prime + 1 ≤ d) ∧
        ∀ x ∈ ps, ∃ k : Nat, x = (k : Int) ∧ 2 ≤ k ∧ k ≤ 1000 ∧ k ∣ turnsOf ns) ?_ ?_
      · walk_at "go"
        refine ite_dec (fun c2 => ?_) (fun c2 => ?_)
        · have hm : number % prime = 0 := by
            have e : ((number % prime : Nat) : Int) = (number : Int) % (prime : Int) := rfl
            omega
          walk_at "go"
          have psk2 : ∀ x ∈ ps ++ [(prime : Int)], ∃ k : Nat, x = (k : Int) ∧ 2 ≤ k ∧ k ≤ 1000 ∧ k ∣ turnsOf ns := fun x hx => by
            rcases List.mem_append.mp hx with hx | hx
            · exact psk x hx
            · exact ⟨prime, by simpa using hx, p2, by omega, Nat.dvd_trans (Nat.dvd_of_mod_eq_zero hm) nd⟩
          have s4 : Same H (upd H3 pf (.lst ((ps ++ [(prime : Int)]).map V.int))) := by walk_at "same"
          have h4 : (upd H3 pf (.lst ((ps ++ [(prime : Int)]).map V.int))) pf = some (.lst ((ps ++ [(prime : Int)]).map V.int)) := upd_same
          generalize upd H3 pf (.lst ((ps ++ [(prime : Int)]).map V.int)) = H4 at s4 h4
          refine r_while (fun m σ H' => H' = H4 ∧ σ = [some (.int (m : Nat)), some (.ref pf), some (.int (prime : Nat))] ∧ m ∣ turnsOf ns ∧ 0 < m ∧ ∀ d, 1 < d → d ∣ m → prime ≤ d)
            number ⟨rfl, rfl, nd, n0, least⟩ ?_
          rintro number σ' H5 ⟨rfl, rfl, nd, n0, least⟩
          walk_at "go"
          refine ite_dec (fun c3 => ?_) (fun c3 => ?_)
          · have hm : number % prime = 0 := by
              have e : ((number % prime : Nat) : Int) = (number : Int) % (prime : Int) := rfl
              omega
            have hd := Nat.dvd_of_mod_eq_zero hm
            walk_at "go"
            refine ⟨fun σ2 H2 => ∃ m' < number, H2 = H5 ∧ σ2 = [some (.int (m' : Nat)), some (.ref pf), some (.int (prime : Nat))] ∧ m' ∣ turnsOf ns ∧ 0 < m' ∧ ∀ d, 1 < d → d ∣ m' → prime ≤ d, fun σ2 H2 h => h, ?_⟩
            walk_at "go"
            exact ⟨number / prime, Nat.div_lt_self n0 (by omega), rfl, rfl, Nat.dvd_trans (Nat.div_dvd_of_dvd hd) nd, Nat.div_pos (Nat.le_of_dvd n0 hd) (by omega), fun d h1 h2 => least d h1 (Nat.dvd_trans h2 (Nat.div_dvd_of_dvd hd))⟩
          · have hm : number % prime ≠ 0 := by
              have e : ((number % prime : Nat) : Int) = (number : Int) % (prime : Int) := rfl
              omega
            walk_at "go"
            refine ⟨number, _, rfl, s4, h4, nd, n0, by simp; omega, fun d h1 h2 => ?_, psk2⟩
            have := least d h1 h2
            have : d ≠ prime := fun e => hm (Nat.mod_eq_zero_of_dvd (by rw [← e]; exact h2))
            omega
        · have hm : number % prime ≠ 0 := by
            have e : ((number % prime : Nat) : Int) = (number : Int) % (prime : Int) := rfl
            omega
          walk_at "go"
          refine ⟨number, ps, rfl, s3, h3, nd, n0, by omega, fun d h1 h2 => ?_, psk⟩
          have := least d h1 h2
          have : d ≠ prime := fun e => hm (Nat.mod_eq_zero_of_dvd (by rw [← e]; exact h2))
          omega
      rintro σ' H5 ⟨number, ps, rfl, s5, h5, nd, n0, pl, least, psk⟩
      walk_at "go"
      exact ⟨2000 - (prime + 1), by omega, number, prime + 1, ps, rfl, rfl, s5, h5, nd, n0, by omega, by omega, pl, least, psk⟩
    · walk_at "go"
      exact q pf ps H3 s3 npf h3 (by omega) psk
end
end Bo

namespace Bo
open PySem PySem.Spec PyProof.Rows L2
/-! ### steps of a reading: each a row of its own -/
local macro_rules | `(tactic| walk_at "ne") => `(tactic| first
  | assumption
  | (apply Ne.symm; assumption)
  | (apply neo; assumption; walk_at "hp")
  | (apply Ne.symm; apply neo; assumption; walk_at "hp"))
local macro_rules | `(tactic| walk_at "hp") => `(tactic| first
  | assumption
  | exact upd_same
  | (apply lift_ne; walk_at "hp"; walk_at "ne")
  | (apply Same.up; assumption; walk_at "hp"))
local macro_rules | `(tactic| walk_at "same") => `(tactic| first
  | assumption
  | exact Same.refl _
  | (apply Same.new; walk_at "same"; walk_at "fr")
  | (apply same_trans; assumption; walk_at "same"))
local macro_rules | `(tactic| walk_at "fr") => `(tactic| first
  | assumption
  | (apply same_free; assumption; walk_at "same"))
local macro_rules | `(tactic| walk_at "sq") => `(tactic| first
  | assumption
  | (apply SqL.of; walk_at "hp")
  | (apply same_seq; assumption; walk_at "same"))
local macro_rules | `(tactic| walk_at "sqt") => `(tactic| first
  | assumption
  | (apply SqT.of; walk_at "hp")
  | (apply same_sqt; assumption; walk_at "same"))
local macro_rules | `(tactic| walk_at "nw") => `(tactic| first
  | assumption
  | (apply News.mut; walk_at "nw"; (first | assumption | (refine News.notin (by assumption) ?_; assumption)))
  | (apply News.same; walk_at "nw"; walk_at "same"))
/-! one step -/
local macro_rules | `(tactic| walk_at "go1") => `(tactic| first
  | with_reducible refine r_seq ?_
  | with_reducible refine r_asgN ?_
  | with_reducible refine r_set ?_
  | with_reducible refine r_ret ?_
  | with_reducible refine r_drop ?_
  | with_reducible refine r_if ?_
  | with_reducible refine r_next ?_
  | with_reducible refine r_nx ?_
  | with_reducible refine r_rt ?_
  | with_reducible refine r_par ?_
  | with_reducible refine k_par ?_
  | with_reducible refine r_fld ?_
  | ((with_reducible apply r_aug); exact rfl)
  | with_reducible refine i_ip ?_
  | ((with_reducible apply e_var); exact rfl)
  | with_reducible refine e_c ?_
  | with_reducible refine e_op ?_
  | with_reducible refine e_un ?_
  | with_reducible refine o_I0 ?_
  | with_reducible refine o_neg ?_
  | with_reducible refine o_eqI ?_
  | with_reducible refine o_neI ?_
  | with_reducible refine o_eqB ?_
  | with_reducible refine o_neB ?_
  | with_reducible refine o_eqS ?_
  | with_reducible refine o_neS ?_
  | with_reducible refine a_nil ?_
  | with_reducible refine a_cons ?_
  | with_reducible refine e_cb ?_
  | with_reducible refine e_call ?_
  | with_reducible refine e_make ?_
  | with_reducible refine e_meth ?_
  | with_reducible refine e_fld ?_
  | with_reducible refine e_lst ?_
  | with_reducible refine e_tup ?_
  | with_reducible refine e_bm ?_
  | with_reducible refine e_bm0 ?_
  | with_reducible refine e_rev ?_
  | with_reducible refine e_sl ?_
  | with_reducible refine e_nopart ?_
  | with_reducible refine e_part ?_
  | with_reducible refine i_ok ?_
  | with_reducible refine e_lenset ?_
  | with_reducible refine e_listRg1 ?_
  | with_reducible refine t_test ?_
  | with_reducible refine t_B ?_
  | with_reducible refine b_ok ?_
  | with_reducible refine t_and ?_
  | with_reducible refine t_or ?_
  | with_reducible refine t_not ?_
  | with_reducible refine v_and ?_
  | with_reducible refine v_or ?_
  | with_reducible refine v_not ?_
  | with_reducible refine e_if ?_
  | with_reducible refine e_chain ?_
  | with_reducible refine e_chain3 ?_
  | with_reducible refine iteT ?_
  | with_reducible refine iteF ?_
  | with_reducible refine ite_nT ?_
  | with_reducible refine ite_nF ?_
  | with_reducible refine r_forL ?_
  | with_reducible refine r_forT ?_
  | with_reducible refine r_forE ?_
  | with_reducible refine r_forR1 ?_
  | with_reducible refine r_forR2 ?_
  | with_reducible refine e_lcL ?_
  | with_reducible refine e_lcR1 ?_
  | with_reducible refine e_lcR2 ?_
  | with_reducible refine r_dput ?_
  | with_reducible refine e_dget ?_
  | with_reducible refine e_dnin ?_
  | with_reducible refine c_max2 ?_
  | with_reducible refine c_min2 ?_
  | ((with_reducible apply c_isiI); (first | exact (show kitB "int" _ = some true by decide +kernel) | exact (show kitB "int" _ = some false by decide +kernel)))
  | ((with_reducible apply m_ty); walk_at "sq"))
local macro_rules | `(tactic| walk_at "go2") => `(tactic| first
  | ((with_reducible apply o_ixI); walk_at "sq"; omega)
  | ((with_reducible refine o_mod ?_ ?_); omega)
  | ((with_reducible refine o_fdiv ?_ ?_); omega)
  | ((with_reducible refine o_mulR ?_ ?_); omega)
  | ((with_reducible refine o_mulL ?_ ?_); omega)
  | ((with_reducible apply c_lenM); walk_at "sq")
  | ((with_reducible apply c_all); walk_at "sq")
  | ((with_reducible apply c_any); walk_at "sq")
  | ((with_reducible apply o_in); walk_at "sq")
  | ((with_reducible apply o_nin); walk_at "sq")
  | ((with_reducible apply o_ixB); walk_at "sq"; omega)
  | ((with_reducible apply m_setB); walk_at "hp"; omega)
  | ((with_reducible apply m_appR); walk_at "hp"; omega)
  | ((with_reducible apply m_ins); walk_at "hp"; omega; omega)
  | ((with_reducible apply m_appM); walk_at "hp"; exact rfl; omega)
  | ((with_reducible apply m_setI); walk_at "hp"; omega))
local macro_rules | `(tactic| walk_at "d") => `(tactic| try dsimp only)
local macro_rules | `(tactic| walk_at "k") => `(tactic| try dsimp only [cxOf, Cx.nox, Cx.blk])
local macro_rules | `(tactic| walk_at "go") => `(tactic| repeat (first | walk_at "go1" | walk_at "go2"))

section
variable {P : Program} {w : World} {K : PySem.W.Frag} {mg : Str → Option Value} {base : Heap} {C_Exchanged C_Fronted C_Ended C_Put C_Answer : Addr} (T : Top K mg C_Exchanged C_Fronted C_Ended C_Put C_Answer)
include T

def sp_times_right (K : PySem.W.Frag) : Sp := fun vs H Q _ => ∃ (a b : Addr) (ns : List Int) (far : Int), vs = [.ref a, .ref b, .int far] ∧ SqL K H a (ns.map V.int) ∧ SqL K H b ((placesOf ns).map V.int) ∧ IsRow ns ∧ ∀ H', Same H H' → Q (.bl true) H'
theorem ok__law_times_right : Cc P w K mg base 4 "_law_times_right" (sp_times_right K) := by
  have c_times := ok_times (P := P) (w := w) (base := base) T
  have c_turns := ok_turns (P := P) (w := w) (base := base) T
  have c__law_primes := ok__law_primes (P := P) (w := w) (base := base) T
  have c__law_numbers := ok__law_numbers (P := P) (w := w) (base := base) T
  refine Cc.mk' T.d__law_times_right sc__law_times_right ?_ ?_
  · rintro vs H Q E ⟨a, b, ns, far, rfl, _⟩; rfl
  · rintro f cdv A outer s H vs Q E hr ⟨a, b, ns, far, rfl, hA, hB, R, q⟩
    have hn := R.len
    have lpl := placesOf_length ns
    have tp := turns_pos R
    have dv := turns_dvd R
    refine ⟨_, (pss_cons (ps_set (i := 3) sc__law_times_right.nd rfl (by first | exact Or.inl rfl | exact Or.inr rfl) (pe_listRg rfl (by rfl) T.b_list (prg_1 (by rfl) T.b_range (pe_callB (r := rLen2 K) call_len_seq (by rfl) T.b_len PySem.boot_len (pa_cons (pv 0) pa_nil)))))
      (pss_cons (ps_asg (pe_tup (pa_cons (pv 3) (pa_cons (pv 3) pa_nil))) (pg_tup rfl (pgs_cons (pg_name (i := 4) sc__law_times_right.nd rfl (by first | exact Or.inl rfl | exact Or.inr rfl)) (pgs_cons (pg_name (i := 5) sc__law_times_right.nd rfl (by first | exact Or.inl rfl | exact Or.inr rfl)) pgs_nil))))
      (pss_cons (ps_for PassesOwn.never rfl (pi_range1 (by rfl) T.b_range (pa_cons pe_int pa_nil)) (pg_name (i := 6) sc__law_times_right.nd rfl (by first | exact Or.inl rfl | exact Or.inr rfl)) (pss_cons (ps_if (PW.pt (pw_or (pt_cmpR (r := rNeD K) (op_neD hr.units) (pe_cc c_times (hr.mono (by decide)) (by rfl) (pa_cons (pv 0) (pa_cons (pv 6) pa_nil))) (pv 4) (nomark _)) (pw_or1 (pt_cmpR (r := rNeD K) (op_neD hr.units) (pe_cc c_times (hr.mono (by decide)) (by rfl) (pa_cons (pv 0) (pa_cons (pe_un un_neg (pv 6)) pa_nil))) (pv 5) (nomark _))))) (pss_one (ps_ret pe_bl)) pss_nil)
      (pss_one (ps_asg (pe_tup (pa_cons (pe_lc (own := [("_law_place", 8)]) (g := gName 8) (tt := tYes) rfl sc__law_times_right.nd (pi_list (pv 0)) (blkOk_by (own := [("_law_place", 8)]) (N := N__law_times_right) (sc := defScope s__law_times_right) (by decide +kernel)) (fun _ _ _ _ _ => (pg_name (i := 8) sc__law_times_right.nd rfl (Or.inl rfl))) (fun _ _ _ _ _ => pts_nil) (fun _ _ _ _ _ => (pe_ix (r := rIxL K) ix_list (pv 4) (pv 8) (fun _ _ => rfl)))) (pa_cons (pe_lc (own := [("_law_place", 8)]) (g := gName 8) (tt := tYes) rfl sc__law_times_right.nd (pi_list (pv 1)) (blkOk_by (own := [("_law_place", 8)]) (N := N__law_times_right) (sc := defScope s__law_times_right) (by decide +kernel)) (fun _ _ _ _ _ => (pg_name (i := 8) sc__law_times_right.nd rfl (Or.inl rfl))) (fun _ _ _ _ _ => pts_nil) (fun _ _ _ _ _ => (pe_ix (r := rIxL K) ix_list (pv 5) (pv 8) (fun _ _ => rfl)))) pa_nil))) (pg_tup rfl (pgs_cons (pg_name (i := 4) sc__law_times_right.nd rfl (by first | exact Or.inl rfl | exact Or.inr rfl)) (pgs_cons (pg_name (i := 5) sc__law_times_right.nd rfl (by first | exact Or.inl rfl | exact Or.inr rfl)) pgs_nil)))))))
      (pss_cons (ps_set (i := 7) sc__law_times_right.nd rfl (by first | exact Or.inl rfl | exact Or.inr rfl) (pe_cc c_turns (hr.mono (by decide)) (by rfl) (pa_cons (pv 0) pa_nil)))
      (pss_cons (ps_if (PW.pt (pw_or (pt_val (pe_callB (r := rIsi K) call_isi (by rfl) T.b_isinstance PyProof.Rows.boot_isinstance (pa_cons (pv 7) (pa_cons (pe_bltn (v := .ty "bool") (by rfl) T.b_bool PyProof.Rows.boot_bool rfl) pa_nil)))) (pw_or (pt_not (pt_val (pe_callB (r := rIsi K) call_isi (by rfl) T.b_isinstance PyProof.Rows.boot_isinstance (pa_cons (pv 7) (pa_cons (pe_bltn (v := .ty "int") (by rfl) T.b_int PyProof.Rows.boot_int rfl) pa_nil))))) (pw_or (pt_cmpR op_lt (pv 7) pe_int (nomark _)) (pw_or1 (pt_cmpR (r := rNeD K) (op_neD hr.units) (pe_cc c_times (hr.mono (by decide)) (by rfl) (pa_cons (pv 0) (pa_cons (pv 7) pa_nil))) (pv 3) (nomark _))))))) (pss_one (ps_ret pe_bl)) pss_nil)
      (pss_cons (ps_if (pt_val (pe_callB (r := rAny K) (cr_any rfl) (by rfl) T.b_any PyProof.Rows.boot_any (pa_cons (pe_lc (own := [("_law_prime", 9)]) (g := gName 9) (tt := tYes) rfl sc__law_times_right.nd (pi_list (pe_cc c__law_primes (hr.mono (by decide)) (by rfl) (pa_cons (pv 7) pa_nil))) (blkOk_by (own := [("_law_prime", 9)]) (N := N__law_times_right) (sc := defScope s__law_times_right) (by decide +kernel)) (fun _ _ _ _ _ => (pg_name (i := 9) sc__law_times_right.nd rfl (Or.inl rfl))) (fun _ _ _ _ _ => pts_nil) (fun _ _ _ _ _ => (pe_cmpR (r := rEqD K) (op_eqD hr.units) (pe_cc c_times (hr.mono (by decide)) (by rfl) (pa_cons (pv 0) (pa_cons (pe_op op_fdiv (pv 7) (pv 9)) pa_nil))) (pv 3) (nomark _)))) pa_nil))) (pss_one (ps_ret pe_bl)) pss_nil)
      (pss_cons (ps_if (PW.pt (pw_or (pt_cmpR (r := rNeD K) (op_neD hr.units) (pe_cc c_times (hr.mono (by decide)) (by rfl) (pa_cons (pv 0) (pa_cons (pv 2) pa_nil))) (pe_cc c_times (hr.mono (by decide)) (by rfl) (pa_cons (pv 0) (pa_cons (pe_op op_mod (pv 2) (pv 7)) pa_nil))) (nomark _)) (pw_or1 (pt_cmpR (r := rNeD K) (op_neD hr.units) (pe_cc c_times (hr.mono (by decide)) (by rfl) (pa_cons (pv 0) (pa_cons (pe_un un_neg (pv 2)) pa_nil))) (pe_cc c_times (hr.mono (by decide)) (by rfl) (pa_cons (pv 0) (pa_cons (pe_op op_mod (pe_un un_neg (pv 2)) (pv 7)) pa_nil))) (nomark _))))) (pss_one (ps_ret pe_bl)) pss_nil)
      (pss_one (ps_ret (pe_and (pe_cc c__law_numbers (hr.mono (by decide)) (by rfl) (pa_cons (pe_cc c_times (hr.mono (by decide)) (by rfl) (pa_cons (pv 0) (pa_cons pe_int pa_nil))) pa_nil)) (pe_one (pe_cmpR (r := rEqD K) (op_eqD hr.units) (pe_cc c_times (hr.mono (by decide)) (by rfl) (pa_cons (pv 0) (pa_cons (pe_op op_add (pv 7) pe_int) pa_nil))) (pv 0) (nomark _))))))))))))), ?_⟩
    walk_at "k"
    walk_at "go"
    refine k_listRg (by omega) fun po npo => ?_
    have s1 : Same H (upd H po (.lst ((upTo ns.length).map V.int))) := by walk_at "same"
    have h1 : (upd H po (.lst ((upTo ns.length).map V.int))) po = some (.lst ((upTo ns.length).map V.int)) := upd_same
    generalize upd H po (.lst ((upTo ns.length).map V.int)) = H1 at s1 h1
    walk_at "go"
    refine r_asg ?_
    walk_at "go"
    refine ⟨by show 2 ≤ sizeLine; decide, fun tq ntq => ?_⟩
    have s2 : Same H1 (upd H1 tq (.tup [.ref po, .ref po])) := by walk_at "same"
    refine k_tup2 (SqT.of upd_same) ?_
    generalize upd H1 tq (.tup [.ref po, .ref po]) = H2 at s2
    have h2 := s2 _ _ h1
    have s02 := s1.trans s2
    walk_at "go"
    -- the row done k times, and back
    refine k_rng1 (fun i σ H' => ∃ (pn pb : Addr) (now before : List Int) (v6 : Option V), σ = [some (.ref a), some (.ref b), some (.int far), some (.ref po), some (.ref pn), some (.ref pb), v6, none, none, none] ∧ Same H2 H' ∧ H' pn = some (.lst (now.map V.int)) ∧ H' pb = some (.lst (before.map V.int)) ∧
        now.length = ns.length ∧ before.length = ns.length ∧ (∀ x : Int, 0 ≤ x ∧ x < ns.length → gt now x = it ns i x) ∧ ∀ x : Int, 0 ≤ x ∧ x < ns.length → gt before x = it (placesOf ns) i x)
      (by omega) ⟨po, po, upTo ns.length, upTo ns.length, _, rfl, Same.refl _, h2, h2, upTo_length _, upTo_length _, fun x hx => gt_upTo hx, fun x hx => gt_upTo hx⟩ ?_ ?_
    · rintro i σ H3 hi ⟨pn, pb, now, before, v6, rfl, s3, hn3, hb3, ln, lb, kn, kb⟩
      walk_at "d"
      have s03 := s02.trans s3
      walk_at "go"
      refine ⟨a, ns, (i : Int), rfl, s03.seq hA, R, fun p H4 s4 np hp => ?_⟩
      have e4 : timesOf ns (i : Int) = now := ext_gt (by rw [timesOf_length, ln]) fun y hy => by
        rw [ln] at hy
        rw [pow_nat R (timesOf_pow R (i : Int)) hy, kn y hy]
      have hn4 := s4 _ _ hn3
      walk_at "go"
      refine o_neL (ns := timesOf ns (i : Int)) (ms := now) (SqL.of hp) (SqL.of hn4) ?_
      walk_at "go"
      refine ite_ndecN e4 ?_
      walk_at "go"
      refine ⟨a, ns, -(i : Int), rfl, (s03.trans s4).seq hA, R, fun p5 H5 s5 np5 hp5 => ?_⟩
      have e5 : timesOf ns (-(i : Int)) = before := ext_gt (by rw [timesOf_length, lb]) fun y hy => by
        rw [lb] at hy
        rw [pow_neg R (timesOf_pow R (-(i : Int))) hy, kb y hy]
      have hb5 := s5 _ _ (s4 _ _ hb3)
      have hn5 := s5 _ _ hn4
      walk_at "go"
      refine o_neL (ns := timesOf ns (-(i : Int))) (ms := before) (SqL.of hp5) (SqL.of hb5) ?_
      walk_at "go"
      refine ite_ndecN e5 ?_
      walk_at "go"
      have s05 := (s03.trans s4).trans s5
      refine r_asg ?_
      walk_at "go"
      refine k_lcV (xs := ns) (f := V.int) (h := V.int) (gt now) (s05.seq hA) (by omega) (fun _ => rfl) ?_ ?_
      · intro j x H6 R' hx s6 k6
        have hb := R.bd x (List.mem_of_getElem? hx)
        have := s6 _ _ hn5
        walk_at "go"
        exact k6 H6 (Same.refl _)
      intro D6 H6 nD6 s6 hD6
      walk_at "go"
      refine k_lcV (xs := placesOf ns) (f := V.int) (h := V.int) (gt before) ((s05.trans s6).seq hB) (by omega) (fun _ => rfl) ?_ ?_
      · intro j x H7 R' hx s7 k7
        have hb : 0 ≤ x ∧ x < ns.length := by
          have hj := (List.getElem?_eq_some_iff.mp hx).1
          have := (gt_placesOf R (y := (j : Int)) (by omega)).1
          rwa [gt_get hx] at this
        have := s7 _ _ (s6 _ _ hb5)
        walk_at "go"
        exact k7 H7 (Same.refl _)
      intro D7 H7 nD7 s7 hD7
      walk_at "go"
      refine ⟨by show 2 ≤ sizeLine; decide, fun t8 nt8 => ?_⟩
      have s68 : Same H6 (upd H7 t8 (.tup [.ref D6, .ref D7])) := by walk_at "same"
      have hD7' := lift_ne (u := .tup [.ref D6, .ref D7]) hD7 (neo nt8 hD7)
      refine k_tup2 (SqT.of upd_same) ?_
      generalize upd H7 t8 (.tup [.ref D6, .ref D7]) = H8 at s68 hD7'
      walk_at "go"
      refine ⟨D6, D7, ns.map (gt now), (placesOf ns).map (gt before), _, rfl, ((s3.trans s4).trans (s5.trans s6)).trans s68, s68 _ _ hD6, hD7', by rw [List.length_map], by rw [List.length_map]; exact lpl, fun x hx => ?_, fun x hx => ?_⟩
      · have hb := gt_bd R hx
        have e : gt (ns.map (gt now)) x = gt now (gt ns x) := by
          have h1 := gt_some (ns := ns) (i := x.toNat) (by omega)
          rw [show ((x.toNat : Nat) : Int) = x by omega] at h1
          have h2 : (ns.map (gt now))[x.toNat]? = some (gt now (gt ns x)) := by rw [List.getElem?_map, h1]; rfl
          have := gt_get h2
          rwa [show ((x.toNat : Nat) : Int) = x by omega] at this
        rw [e, kn _ hb, it_add ns i 1]; rfl
      · have hb := (gt_placesOf R hx).1
        have e : gt ((placesOf ns).map (gt before)) x = gt before (gt (placesOf ns) x) := by
          have h1 := gt_some (ns := placesOf ns) (i := x.toNat) (by omega)
          rw [show ((x.toNat : Nat) : Int) = x by omega] at h1
          have h2 : ((placesOf ns).map (gt before))[x.toNat]? = some (gt before (gt (placesOf ns) x)) := by rw [List.getElem?_map, h1]; rfl
          have := gt_get h2
          rwa [show ((x.toNat : Nat) : Int) = x by omega] at this
        rw [e, kb _ hb, it_add (placesOf ns) i 1]; rfl
    · rintro σ H3 ⟨pn, pb, now, before, v6, rfl, s3, hn3, hb3, ln, lb, kn, kb⟩
      walk_at "d"
      have s03 := s02.trans s3
      have h3 := s3 _ _ h2
      walk_at "go"
      refine ⟨a, ns, rfl, s03.seq hA, R, fun H4 s4 => ?_⟩
      have s04 := s03.trans s4
      have h4 := s4 _ _ h3
      walk_at "go"
      refine ite_decN (by omega) ?_
      walk_at "go"
      refine ⟨a, ns, ((turnsOf ns : Nat) : Int), rfl, s04.seq hA, R, fun p5 H5 s5 np5 hp5 => ?_⟩
      have s05 := s04.trans s5
      have h5 := s5 _ _ h4
      walk_at "go"
      refine o_neL (ns := timesOf ns ((turnsOf ns : Nat) : Int)) (ms := upTo ns.length) (SqL.of hp5) (SqL.of h5) ?_
      walk_at "go"
      refine ite_ndecN (pow_order R (timesOf_pow R _) dv) ?_
      walk_at "go"
      refine ⟨ns, rfl, R, fun pp ps H6 s6 npp hpp pl psk => ?_⟩
      have s06 := s05.trans s6
      have h6 := s6 _ _ h5
      refine k_lcV (xs := ps) (f := V.int) (h := V.bl) (fun _ => false) (SqL.of hpp) (by omega) (fun _ => rfl) ?_ ?_
      · intro j x H7 R' hx s7 k7
        obtain ⟨k, rfl, k2, k1000, kd⟩ := psk x (List.mem_of_getElem? hx)
        have s07 := s06.trans s7
        have h7 := s7 _ _ h6
        walk_at "go"
        refine ⟨a, ns, ((turnsOf ns / k : Nat) : Int), rfl, s07.seq hA, R, fun p8 H8 s8 np8 hp8 => ?_⟩
        have h8 := s8 _ _ h7
        walk_at "go"
        refine o_eqL (ns := timesOf ns ((turnsOf ns / k : Nat) : Int)) (ms := upTo ns.length) (SqL.of hp8) (SqL.of h8) ?_
        rw [decide_eq_false (turns_part_not R k2 kd)]
        exact k7 H8 s8
      intro D7 H7 nD7 s7 hD7
      have e7 : (ps.map fun _ => false).any id = false := by rw [List.any_map, List.any_eq_false]; intro _ _; simp
      have s07 := s06.trans s7
      walk_at "go"
      rw [e7]
      have md : ∀ z : Int, timesOf ns z = timesOf ns (z % ((turnsOf ns : Nat) : Int)) := fun z => pow_same R (timesOf_pow R z) (timesOf_pow R _) fun r hr => (Int.emod_emod_of_dvd z (Int.natCast_dvd_natCast.mpr (dv r hr))).symm
      walk_at "go"
      refine ⟨a, ns, far, rfl, s07.seq hA, R, fun p8 H8 s8 np8 hp8 => ?_⟩
      have s08 := s07.trans s8
      walk_at "go"
      refine ⟨a, ns, far % ((turnsOf ns : Nat) : Int), rfl, s08.seq hA, R, fun p9 H9 s9 np9 hp9 => ?_⟩
      have s09 := s08.trans s9
      refine o_neL (ns := timesOf ns far) (ms := timesOf ns (far % ((turnsOf ns : Nat) : Int))) (SqL.of (s9 _ _ hp8)) (SqL.of hp9) ?_
      walk_at "go"
      refine ite_ndecN (md far) ?_
      walk_at "go"
      refine ⟨a, ns, -far, rfl, s09.seq hA, R, fun p10 H10 s10 np10 hp10 => ?_⟩
      have s010 := s09.trans s10
      walk_at "go"
      refine ⟨a, ns, -far % ((turnsOf ns : Nat) : Int), rfl, s010.seq hA, R, fun p11 H11 s11 np11 hp11 => ?_⟩
      have s011 := s010.trans s11
      refine o_neL (ns := timesOf ns (-far)) (ms := timesOf ns (-far % ((turnsOf ns : Nat) : Int))) (SqL.of (s11 _ _ hp10)) (SqL.of hp11) ?_
      walk_at "go"
      refine ite_ndecN (md (-far)) ?_
      walk_at "go"
      refine ⟨a, ns, 1, rfl, s011.seq hA, R, fun p12 H12 s12 np12 hp12 => ?_⟩
      have s012 := s011.trans s12
      have l12 : (timesOf ns 1).length ≤ 1000 := by rw [timesOf_length]; omega
      walk_at "go"
      refine ⟨p12, timesOf ns 1, rfl, SqL.of hp12, by omega, fun H13 s13 => ?_⟩
      have s013 := s012.trans s13
      walk_at "go"
      refine ⟨a, ns, ((turnsOf ns : Nat) : Int) + 1, rfl, s013.seq hA, R, fun p14 H14 s14 np14 hp14 => ?_⟩
      have s014 := s013.trans s14
      walk_at "go"
      refine o_eqL (ns := timesOf ns (((turnsOf ns : Nat) : Int) + 1)) (ms := ns) (SqL.of hp14) (s014.seq hA) ?_
      have e14 : timesOf ns (((turnsOf ns : Nat) : Int) + 1) = ns := ext_gt (timesOf_length _ _) fun y hy => by
        have hp := timesOf_pow R (((turnsOf ns : Nat) : Int) + 1)
        obtain ⟨r, hr, hm⟩ := in_ring R hy
        obtain ⟨h0, e⟩ := ring_turn (ringsOf_okR R hr) hm
        have h1 := pow_nat R (k := turnsOf ns + 1) hp hy
        rw [h1, it_add ns (turnsOf ns) 1]
        have hb := gt_bd R hy
        obtain ⟨r', hr', hm'⟩ := in_ring R hb
        obtain ⟨h0', e'⟩ := ring_turn (ringsOf_okR R hr') hm'
        show it ns (turnsOf ns) (gt ns y) = gt ns y
        rw [it_mod ns h0' e', Nat.mod_eq_zero_of_dvd (dv r' hr')]; rfl
      rw [decide_eq_true e14]
      exact q H14 s014
end
end Bo

namespace Bo
open PySem PySem.Spec PyProof.Rows L2
/-! ### steps of a reading: each a row of its own -/
local macro_rules | `(tactic| walk_at "ne") => `(tactic| first
  | assumption
  | (apply Ne.symm; assumption)
  | (apply neo; assumption; walk_at "hp")
  | (apply Ne.symm; apply neo; assumption; walk_at "hp"))
local macro_rules | `(tactic| walk_at "hp") => `(tactic| first
  | assumption
  | exact upd_same
  | (apply lift_ne; walk_at "hp"; walk_at "ne")
  | (apply Same.up; assumption; walk_at "hp"))
local macro_rules | `(tactic| walk_at "same") => `(tactic| first
  | assumption
  | exact Same.refl _
  | (apply Same.new; walk_at "same"; walk_at "fr")
  | (apply same_trans; assumption; walk_at "same"))
local macro_rules | `(tactic| walk_at "fr") => `(tactic| first
  | assumption
  | (apply same_free; assumption; walk_at "same"))
local macro_rules | `(tactic| walk_at "sq") => `(tactic| first
  | assumption
  | (apply SqL.of; walk_at "hp")
  | (apply same_seq; assumption; walk_at "same"))
local macro_rules | `(tactic| walk_at "sqt") => `(tactic| first
  | assumption
  | (apply SqT.of; walk_at "hp")
  | (apply same_sqt; assumption; walk_at "same"))
local macro_rules | `(tactic| walk_at "nw") => `(tactic| first
  | assumption
  | (apply News.mut; walk_at "nw"; (first | assumption | (refine News.notin (by assumption) ?_; assumption)))
  | (apply News.same; walk_at "nw"; walk_at "same"))
/-! one step -/
local macro_rules | `(tactic| walk_at "go1") => `(tactic| first
  | with_reducible refine r_seq ?_
  | with_reducible refine r_asgN ?_
  | with_reducible refine r_set ?_
  | with_reducible refine r_ret ?_
  | with_reducible refine r_drop ?_
  | with_reducible refine r_if ?_
  | with_reducible refine r_next ?_
  | with_reducible refine r_nx ?_
  | with_reducible refine r_rt ?_
  | with_reducible refine r_par ?_
  | with_reducible refine k_par ?_
  | with_reducible refine r_fld ?_
  | ((with_reducible apply r_aug); exact rfl)
  | with_reducible refine i_ip ?_
  | ((with_reducible apply e_var); exact rfl)
  | with_reducible refine e_c ?_
  | with_reducible refine e_op ?_
  | with_reducible refine e_un ?_
  | with_reducible refine o_I0 ?_
  | with_reducible refine o_neg ?_
  | with_reducible refine o_eqI ?_
  | with_reducible refine o_neI ?_
  | with_reducible refine o_eqB ?_
  | with_reducible refine o_neB ?_
  | with_reducible refine o_eqS ?_
  | with_reducible refine o_neS ?_
  | with_reducible refine a_nil ?_
  | with_reducible refine a_cons ?_
  | with_reducible refine e_cb ?_
  | with_reducible refine e_call ?_
  | with_reducible refine e_make ?_
  | with_reducible refine e_meth ?_
  | with_reducible refine e_fld ?_
  | with_reducible refine e_lst ?_
  | with_reducible refine e_tup ?_
  | with_reducible refine e_bm ?_
  | with_reducible refine e_bm0 ?_
  | with_reducible refine e_rev ?_
  | with_reducible refine e_sl ?_
  | with_reducible refine e_nopart ?_
  | with_reducible refine e_part ?_
  | with_reducible refine i_ok ?_
  | with_reducible refine e_lenset ?_
  | with_reducible refine e_listRg1 ?_
  | with_reducible refine t_test ?_
  | with_reducible refine t_B ?_
  | with_reducible refine b_ok ?_
  | with_reducible refine t_and ?_
  | with_reducible refine t_or ?_
  | with_reducible refine t_not ?_
  | with_reducible refine v_and ?_
  | with_reducible refine v_or ?_
  | with_reducible refine v_not ?_
  | with_reducible refine e_if ?_
  | with_reducible refine e_chain ?_
  | with_reducible refine e_chain3 ?_
  | with_reducible refine iteT ?_
  | with_reducible refine iteF ?_
  | with_reducible refine ite_nT ?_
  | with_reducible refine ite_nF ?_
  | with_reducible refine r_forL ?_
  | with_reducible refine r_forT ?_
  | with_reducible refine r_forE ?_
  | with_reducible refine r_forR1 ?_
  | with_reducible refine r_forR2 ?_
  | with_reducible refine e_lcL ?_
  | with_reducible refine e_lcR1 ?_
  | with_reducible refine e_lcR2 ?_
  | with_reducible refine r_dput ?_
  | with_reducible refine e_dget ?_
  | with_reducible refine e_dnin ?_
  | with_reducible refine c_max2 ?_
  | with_reducible refine c_min2 ?_
  | ((with_reducible apply c_isiI); (first | exact (show kitB "int" _ = some true by decide +kernel) | exact (show kitB "int" _ = some false by decide +kernel)))
  | ((with_reducible apply m_ty); walk_at "sq"))
local macro_rules | `(tactic| walk_at "go2") => `(tactic| first
  | ((with_reducible apply o_ixI); walk_at "sq"; omega)
  | ((with_reducible refine o_mod ?_ ?_); omega)
  | ((with_reducible refine o_fdiv ?_ ?_); omega)
  | ((with_reducible refine o_mulR ?_ ?_); omega)
  | ((with_reducible refine o_mulL ?_ ?_); omega)
  | ((with_reducible apply c_lenM); walk_at "sq")
  | ((with_reducible apply c_all); walk_at "sq")
  | ((with_reducible apply c_any); walk_at "sq")
  | ((with_reducible apply o_in); walk_at "sq")
  | ((with_reducible apply o_nin); walk_at "sq")
  | ((with_reducible apply o_ixB); walk_at "sq"; omega)
  | ((with_reducible apply m_setB); walk_at "hp"; omega)
  | ((with_reducible apply m_appR); walk_at "hp"; omega)
  | ((with_reducible apply m_ins); walk_at "hp"; omega; omega)
  | ((with_reducible apply m_appM); walk_at "hp"; exact rfl; omega)
  | ((with_reducible apply m_setI); walk_at "hp"; omega))
local macro_rules | `(tactic| walk_at "d") => `(tactic| try dsimp only)
local macro_rules | `(tactic| walk_at "k") => `(tactic| try dsimp only [cxOf, Cx.nox, Cx.blk])
local macro_rules | `(tactic| walk_at "go") => `(tactic| repeat (first | walk_at "go1" | walk_at "go2"))

section
variable {P : Program} {w : World} {K : PySem.W.Frag} {mg : Str → Option Value} {base : Heap} {C_Exchanged C_Fronted C_Ended C_Put C_Answer : Addr} (T : Top K mg C_Exchanged C_Fronted C_Ended C_Put C_Answer)
include T

def sp_law (K : PySem.W.Frag) : Sp := fun vs H Q _ => ∃ (a : Addr) (ns : List Int), vs = [.ref a] ∧ SqL K H a (ns.map V.int) ∧ ns.length ≤ 63 ∧ ∀ H', Q (.bl true) H'
theorem ok_law {f : Addr} {fd : FuncData} (F : L2.Fun K "law" "law" s_law f fd) : FnOk P w K mg base L2.CX0 5 f fd ["_law_script"] (sp_law K) := by
  have c__law_row := ok__law_row (P := P) (w := w) (base := base) T
  have c_behind := ok_behind (P := P) (w := w) (base := base) T
  have c__law_numbers := ok__law_numbers (P := P) (w := w) (base := base) T
  have c_back := ok_back (P := P) (w := w) (base := base) T
  have c__law_times_right := ok__law_times_right (P := P) (w := w) (base := base) T
  have c__law_cell_at := ok__law_cell_at (P := P) (w := w) (base := base) T
  have c_wrong := ok_wrong (P := P) (w := w) (base := base) T
  have c__law_wrong := ok__law_wrong (P := P) (w := w) (base := base) T
  have c_times := ok_times (P := P) (w := w) (base := base) T
  refine F.ok sc_law ?_ ?_
  · rintro vs H Q E ⟨a, ns, rfl, _⟩; rfl
  · rintro cdv A outer s H vs Q E hr ⟨a, ns, rfl, hS, hl, q⟩
    refine ⟨_, (pss_cons (ps_set (i := 1) sc_law.nd rfl (by first | exact Or.inl rfl | exact Or.inr rfl) (pe_cc c__law_row (hr.mono (by decide)) (by rfl) (pa_cons (pv 0) pa_nil)))
      (pss_cons (ps_set (i := 2) sc_law.nd rfl (by first | exact Or.inl rfl | exact Or.inr rfl) (pe_cc c__law_row (hr.mono (by decide)) (by rfl) (pa_cons (pe_revL (pv 0)) pa_nil)))
      (pss_cons (ps_par (i := 3) (j := 4) rfl sc_law.nd rfl rfl (by decide) rfl rfl (pa_cons (pe_listRg rfl (by rfl) T.b_list (prg_1 (by rfl) T.b_range (pe_callB (r := rLen2 K) call_len_seq (by rfl) T.b_len PySem.boot_len (pa_cons (pv 1) pa_nil)))) (pa_cons (pe_lst (pa_cons (pe_callTy (r := rList2 K) call_list_of (by rfl) T.b_list PyProof.Rows.boot_list (pa_cons (pv 1) pa_nil)) (pa_cons (pe_callTy (r := rList2 K) call_list_of (by rfl) T.b_list PyProof.Rows.boot_list (pa_cons (pv 2) pa_nil)) pa_nil))) pa_nil)) (by rfl))
      (pss_cons (ps_set (i := 5) sc_law.nd rfl (by first | exact Or.inl rfl | exact Or.inr rfl) (pe_cc c_behind (hr.mono (by decide)) (by rfl) (pa_cons (pv 1) (pa_cons (pv 2) pa_nil))))
      (pss_cons (ps_if (PW.pt (pw_or (pt_not (pt_val (pe_cc c__law_numbers (hr.mono (by decide)) (by rfl) (pa_cons (pv 5) pa_nil)))) (pw_or1 (pt_cmpR (r := rNeD K) (op_neD hr.units) (pv 5) (pe_lc (own := [("_law_place", 7)]) (g := gName 7) (tt := tYes) rfl sc_law.nd (pi_list (pv 2)) (blkOk_by (own := [("_law_place", 7)]) (N := N_law) (sc := defScope s_law) (by decide +kernel)) (fun _ _ _ _ _ => (pg_name (i := 7) sc_law.nd rfl (Or.inl rfl))) (fun _ _ _ _ _ => pts_nil) (fun _ _ _ _ _ => (pe_ix (r := rIxL K) ix_list (pv 1) (pv 7) (fun _ _ => rfl)))) (nomark _))))) (pss_one (ps_ret pe_bl)) pss_nil)
      (pss_cons (ps_expr (pe_bm PySem.F.plainAttrs_list PySem.F.slot_list_append PySem.F.type_list_append mt_append (pv 5) (pa_cons pe_int pa_nil)))
      (pss_cons (ps_set (i := 6) sc_law.nd rfl (by first | exact Or.inl rfl | exact Or.inr rfl) (pe_cc c_back (hr.mono (by decide)) (by rfl) (pa_cons (pv 1) pa_nil)))
      (pss_cons (ps_if (PW.pt (pw_or (pt_not (pt_val (pe_cc c__law_numbers (hr.mono (by decide)) (by rfl) (pa_cons (pv 6) pa_nil)))) (pw_or1 (pt_cmpR (r := rNeD K) (op_neD hr.units) (pe_lc (own := [("_law_place", 7)]) (g := gName 7) (tt := tYes) rfl sc_law.nd (pi_list (pv 6)) (blkOk_by (own := [("_law_place", 7)]) (N := N_law) (sc := defScope s_law) (by decide +kernel)) (fun _ _ _ _ _ => (pg_name (i := 7) sc_law.nd rfl (Or.inl rfl))) (fun _ _ _ _ _ => pts_nil) (fun _ _ _ _ _ => (pe_ix (r := rIxL K) ix_list (pv 1) (pv 7) (fun _ _ => rfl)))) (pv 3) (nomark _))))) (pss_one (ps_ret pe_bl)) pss_nil)
      (pss_cons (ps_if (PW.pt (pw_or (pt_cmpR (r := rNeD K) (op_neD hr.units) (pe_cc c_behind (hr.mono (by decide)) (by rfl) (pa_cons (pv 6) (pa_cons (pv 1) pa_nil))) (pv 3) (nomark _)) (pw_or1 (pt_cmpR (r := rNeD K) (op_neD hr.units) (pe_cc c_back (hr.mono (by decide)) (by rfl) (pa_cons (pe_cc c_behind (hr.mono (by decide)) (by rfl) (pa_cons (pv 1) (pa_cons (pv 2) pa_nil))) pa_nil)) (pe_cc c_behind (hr.mono (by decide)) (by rfl) (pa_cons (pe_cc c_back (hr.mono (by decide)) (by rfl) (pa_cons (pv 2) pa_nil)) (pa_cons (pv 6) pa_nil))) (nomark _))))) (pss_one (ps_ret pe_bl)) pss_nil)
      (pss_cons (ps_if (pt_not (pt_val (pe_cc c__law_times_right (hr.mono (by decide)) (by rfl) (pa_cons (pv 1) (pa_cons (pv 6) (pa_cons (pe_cc c__law_cell_at (hr.mono (by decide)) (by rfl) (pa_cons (pv 0) (pa_cons pe_int pa_nil))) pa_nil)))))) (pss_one (ps_ret pe_bl)) pss_nil)
      (pss_cons (ps_if (PW.pt (pw_or (pt_cmpR op_ne (pe_cc c_wrong (hr.mono (by decide)) (by rfl) (pa_cons (pv 1) pa_nil)) (pe_cc c__law_wrong (hr.mono (by decide)) (by rfl) (pa_cons (pv 1) pa_nil)) (nomark _)) (pw_or1 (pt_cmpR op_ne (pe_op op_add (pe_cc c_wrong (hr.mono (by decide)) (by rfl) (pa_cons (pv 1) pa_nil)) (pe_cc c_wrong (hr.mono (by decide)) (by rfl) (pa_cons (pe_revL (pv 1)) pa_nil))) (pe_op op_fdiv (pe_op op_mul (pe_callB (r := rLen2 K) call_len_seq (by rfl) T.b_len PySem.boot_len (pa_cons (pv 1) pa_nil)) (pe_op op_sub (pe_callB (r := rLen2 K) call_len_seq (by rfl) T.b_len PySem.boot_len (pa_cons (pv 1) pa_nil)) pe_int)) pe_int) (nomark _))))) (pss_one (ps_ret pe_bl)) pss_nil)
      (pss_cons (ps_if (PW.pt (pw_or (pt_val (pe_callB (r := rIsi K) call_isi (by rfl) T.b_isinstance PyProof.Rows.boot_isinstance (pa_cons (pe_cc c_wrong (hr.mono (by decide)) (by rfl) (pa_cons (pv 1) pa_nil)) (pa_cons (pe_bltn (v := .ty "bool") (by rfl) T.b_bool PyProof.Rows.boot_bool rfl) pa_nil)))) (pw_or1 (pt_cmpR op_ne (pe_cc c_wrong (hr.mono (by decide)) (by rfl) (pa_cons (pv 6) pa_nil)) (pe_cc c_wrong (hr.mono (by decide)) (by rfl) (pa_cons (pv 1) pa_nil)) (nomark _))))) (pss_one (ps_ret pe_bl)) pss_nil)
      (pss_cons (ps_expr (pe_bm PySem.F.plainAttrs_list PySem.F.slot_list_append PySem.F.type_list_append mt_append (pv 6) (pa_cons pe_int pa_nil)))
      (pss_cons (ps_expr (pe_bm PySem.F.plainAttrs_list PySem.F.slot_list_append PySem.F.type_list_append mt_append (pe_cc c_times (hr.mono (by decide)) (by rfl) (pa_cons (pv 1) (pa_cons pe_int pa_nil))) (pa_cons pe_int pa_nil)))
      (pss_one (ps_ret (pe_and (pe_cmpR (r := rEqD K) (op_eqD hr.units) (pe_lst (pa_cons (pv 1) (pa_cons (pv 2) pa_nil))) (pv 4) (nomark _)) (pe_and (pe_cmpR (r := rEqD K) (op_eqD hr.units) (pe_cc c_back (hr.mono (by decide)) (by rfl) (pa_cons (pe_cc c_back (hr.mono (by decide)) (by rfl) (pa_cons (pv 1) pa_nil)) pa_nil)) (pv 1) (nomark _)) (pe_one (pe_cmpR (r := rEqD K) (op_eqD hr.units) (pe_cc c_times (hr.mono (by decide)) (by rfl) (pa_cons (pv 1) (pa_cons pe_int pa_nil))) (pv 1) (nomark _))))))))))))))))))))), ?_⟩
    walk_at "k"
    walk_at "go"
    refine ⟨a, ns, rfl, hS, hl, fun p r H1 s1 np R lr' hp => ?_⟩
    have hrl : r.length ≤ 63 := by omega
    walk_at "go"
    refine c_rev (f := V.int) (xs := ns) (s1.seq hS) fun pv npv => ?_
    have c1 : Same H1 (upd H1 pv (.lst (ns.reverse.map V.int))) := Same.one npv
    have hv : (upd H1 pv (.lst (ns.reverse.map V.int))) pv = some (.lst (ns.reverse.map V.int)) := upd_same
    generalize upd H1 pv (.lst (ns.reverse.map V.int)) = H1b at c1 hv
    walk_at "go"
    refine ⟨pv, ns.reverse, rfl, SqL.of hv, by rw [List.length_reverse]; omega, fun po o H2 s2 npo O lo ho => ?_⟩
    have hol : o.length = r.length := by rw [lo, List.length_reverse, lr']
    have hp2 := s2 _ _ (c1 _ _ hp)
    have sS2 : Same H H2 := (s1.trans c1).trans s2
    walk_at "go"
    refine k_listRg (by omega) fun pr npr => ?_
    have c2 : Same H2 (upd H2 pr (.lst ((upTo r.length).map V.int))) := Same.one npr
    have hr3 : (upd H2 pr (.lst ((upTo r.length).map V.int))) pr = some (.lst ((upTo r.length).map V.int)) := upd_same
    generalize upd H2 pr (.lst ((upTo r.length).map V.int)) = H3 at c2 hr3
    have hp3 := c2 _ _ hp2
    have ho3 := c2 _ _ ho
    walk_at "go"
    refine c_list (SqL.of hp3) fun k1 nk1 => ?_
    have d1 : Same H3 (upd H3 k1 (.lst (r.map V.int))) := Same.one nk1
    have hk1 : (upd H3 k1 (.lst (r.map V.int))) k1 = some (oL r) := upd_same
    generalize upd H3 k1 (.lst (r.map V.int)) = H3a at d1 hk1
    walk_at "go"
    refine c_list (SqL.of (d1 _ _ ho3)) fun k2 nk2 => ?_
    have d2 : Same H3a (upd H3a k2 (.lst (o.map V.int))) := Same.one nk2
    have hk2 : (upd H3a k2 (.lst (o.map V.int))) k2 = some (oL o) := upd_same
    have hk1b := d2 _ _ hk1
    generalize upd H3a k2 (.lst (o.map V.int)) = H3b at d2 hk2 hk1b
    walk_at "go"
    refine ⟨by show 2 ≤ sizeLine; decide, fun kk nkk => ?_⟩
    have d3 : Same H3b (upd H3b kk (.lst ([k1, k2].map V.ref))) := Same.one nkk
    have hkk : (upd H3b kk (.lst [.ref k1, .ref k2])) kk = some (.lst ([k1, k2].map V.ref)) := upd_same
    have s34 : Same H3 (upd H3b kk (.lst [.ref k1, .ref k2])) := (d1.trans d2).trans d3
    have hk1' : (upd H3b kk (.lst [.ref k1, .ref k2])) k1 = some (oL r) := d3 _ _ hk1b
    have hk2' : (upd H3b kk (.lst [.ref k1, .ref k2])) k2 = some (oL o) := d3 _ _ hk2
    generalize upd H3b kk (.lst [.ref k1, .ref k2]) = H4 at hkk s34 hk1' hk2'
    have hp4 := s34 _ _ hp3
    have ho4 := s34 _ _ ho3
    have hr4 := s34 _ _ hr3
    have sS4 : Same H H4 := (sS2.trans c2).trans s34
    walk_at "go"
    have Rp := R.places
    have lpr := placesOf_length r
    have RO := R.comp O hol
    refine ⟨p, po, r, o, rfl, SqL.of hp4, SqL.of ho4, R, O, hol, fun pf H5 s5 npf hf => ?_⟩
    have hp5 := s5 _ _ hp4
    have ho5 := s5 _ _ ho4
    walk_at "go"
    refine ⟨pf, o.map (gt r), rfl, SqL.of hf, by rw [List.length_map]; omega, fun H6 s6 => ?_⟩
    have s46 := s5.trans s6
    have hp6 := s46 _ _ hp4
    have hf6 := s6 _ _ hf
    walk_at "go"
    refine k_lcV (xs := o) (f := V.int) (h := V.int) (gt r) (SqL.of (s46 _ _ ho4)) (by omega) (fun _ => rfl) ?_ ?_
    · intro i x H7 R' hx s7 k7
      have hb := O.bd x (List.mem_of_getElem? hx)
      have := s7 _ _ hp6
      walk_at "go"
      exact k7 H7 (Same.refl _)
    intro D7 H7 nD7 s7 hD7
    have hf7 := s7 _ _ hf6
    have s47 := s46.trans s7
    refine o_neL (ns := o.map (gt r)) (ms := o.map (gt r)) (SqL.of hf7) (SqL.of hD7) ?_
    walk_at "go"
    refine ite_ndecN rfl ?_
    have lof : (o.map (gt r)).length ≤ 1000 := by rw [List.length_map]; omega
    walk_at "go"
    have s48 : Same H4 (upd H7 pf (.lst ((o.map (gt r) ++ [0]).map V.int))) := by walk_at "same"
    generalize upd H7 pf (.lst ((o.map (gt r) ++ [0]).map V.int)) = H8 at s48
    walk_at "go"
    refine ⟨p, r, rfl, SqL.of (s48 _ _ hp4), R, fun pu H9 s9 npu hu => ?_⟩
    have s49 := s48.trans s9
    have npu4 := s48.free npu
    have hp9 := s49 _ _ hp4
    walk_at "go"
    refine ⟨pu, placesOf r, rfl, SqL.of hu, by omega, fun H10 s10 => ?_⟩
    have s410 := s49.trans s10
    have hp10 := s410 _ _ hp4
    have hu10 := s10 _ _ hu
    walk_at "go"
    refine k_lcV (xs := placesOf r) (f := V.int) (h := V.int) (gt r) (SqL.of hu10) (by omega) (fun _ => rfl) ?_ ?_
    · intro i x H7 R' hx s7 k7
      have hb := Rp.bd x (List.mem_of_getElem? hx)
      have := s7 _ _ hp10
      walk_at "go"
      exact k7 H7 (Same.refl _)
    intro D11 H11 nD11 s11 hD11
    have s411 := s410.trans s11
    have hu11 := s11 _ _ hu10
    walk_at "go"
    refine o_neL (ns := (placesOf r).map (gt r)) (ms := upTo r.length) (SqL.of hD11) (SqL.of (s411 _ _ hr4)) ?_
    walk_at "go"
    refine ite_ndecN (back_order R) ?_
    walk_at "go"
    refine ⟨pu, p, placesOf r, r, rfl, SqL.of hu11, SqL.of (s411 _ _ hp4), Rp, R, lpr.symm, fun p12 H12 s12 np12 h12 => ?_⟩
    have s412 := s411.trans s12
    have hu12 := s12 _ _ hu11
    walk_at "go"
    refine o_neL (ns := r.map (gt (placesOf r))) (ms := upTo r.length) (SqL.of h12) (SqL.of (s412 _ _ hr4)) ?_
    walk_at "go"
    refine ite_ndecN (order_back R) ?_
    walk_at "go"
    refine ⟨p, po, r, o, rfl, SqL.of (s412 _ _ hp4), SqL.of (s412 _ _ ho4), R, O, hol, fun p13 H13 s13 np13 h13 => ?_⟩
    have s413 := s412.trans s13
    walk_at "go"
    refine ⟨p13, o.map (gt r), rfl, SqL.of h13, RO, fun p14 H14 s14 np14 h14 => ?_⟩
    have s414 := s413.trans s14
    walk_at "go"
    refine ⟨po, o, rfl, SqL.of (s414 _ _ ho4), O, fun p15 H15 s15 np15 h15 => ?_⟩
    have s415 := s414.trans s15
    have hu15 := s15 _ _ (s14 _ _ (s13 _ _ hu12))
    walk_at "go"
    refine ⟨p15, pu, placesOf o, placesOf r, rfl, SqL.of h15, SqL.of hu15, O.places, Rp, by rw [placesOf_length, placesOf_length]; omega, fun p16 H16 s16 np16 h16 => ?_⟩
    have s416 := s415.trans s16
    have h14' := s16 _ _ (s15 _ _ h14)
    have hu16 := s16 _ _ hu15
    refine o_neL (ns := placesOf (o.map (gt r))) (ms := (placesOf r).map (gt (placesOf o))) (SqL.of h14') (SqL.of h16) ?_
    walk_at "go"
    refine ite_ndecN (back_comp R O hol) ?_
    walk_at "go"
    have sS16 := sS4.trans s416
    have hp16 := s416 _ _ hp4
    refine ⟨a, ns, 2, rfl, sS16.seq hS, by decide, fun far => ?_⟩
    walk_at "go"
    refine ⟨p, pu, r, far, rfl, SqL.of hp16, SqL.of hu16, R, fun H17 s17 => ?_⟩
    have s417 := s416.trans s17
    walk_at "go"
    refine ⟨p, r, rfl, SqL.of (s417 _ _ hp4), R, fun H18 s18 => ?_⟩
    have s418 := s417.trans s18
    walk_at "go"
    refine ⟨p, r, rfl, SqL.of (s418 _ _ hp4), by omega, fun H19 s19 => ?_⟩
    have s419 := s418.trans s19
    walk_at "go"
    refine ite_ndecN rfl ?_
    walk_at "go"
    refine ⟨p, r, rfl, SqL.of (s419 _ _ hp4), R, fun H20 s20 => ?_⟩
    have s420 := s419.trans s20
    walk_at "go"
    refine c_rev (f := V.int) (xs := r) (SqL.of (s420 _ _ hp4)) fun pw npw => ?_
    have hw : (upd H20 pw (.lst (r.reverse.map V.int))) pw = some (.lst (r.reverse.map V.int)) := upd_same
    have sK : Same H20 (upd H20 pw (.lst (r.reverse.map V.int))) := Same.one npw
    have s421 := s420.trans sK
    generalize upd H20 pw (.lst (r.reverse.map V.int)) = H21 at hw sK s421
    walk_at "go"
    refine ⟨pw, r.reverse, rfl, SqL.of hw, R.rev, fun H22 s22 => ?_⟩
    have s422 := s421.trans s22
    have hp22 := s422 _ _ hp4
    walk_at "go"
    refine ite_ndecN (inv_both R) ?_
    walk_at "go"
    refine ⟨p, r, rfl, SqL.of hp22, R, fun H23 s23 => ?_⟩
    have s423 := s422.trans s23
    walk_at "go"
    have s1620 : Same H16 H20 := (s17.trans s18).trans (s19.trans s20)
    have hu20 := s1620 _ _ hu16
    have hu21 := sK _ _ hu20
    have hu23 := s23 _ _ (s22 _ _ hu21)
    refine ⟨pu, placesOf r, rfl, SqL.of hu23, Rp, fun H24 s24 => ?_⟩
    have s424 := s423.trans s24
    walk_at "go"
    refine ⟨p, r, rfl, SqL.of (s424 _ _ hp4), R, fun H25 s25 => ?_⟩
    have s425 := s424.trans s25
    have hu25 := s25 _ _ (s24 _ _ hu23)
    walk_at "go"
    rw [inv_places R]
    refine ite_ndecN rfl ?_
    walk_at "go"
    have s426 : Same H4 (upd H25 pu (.lst ((placesOf r ++ [0]).map V.int))) := Same.new s425 npu4
    generalize upd H25 pu (.lst ((placesOf r ++ [0]).map V.int)) = H26 at s426
    walk_at "go"
    refine ⟨p, r, 1, rfl, SqL.of (s426 _ _ hp4), R, fun pt H27 s27 npt ht => ?_⟩
    have npt4 := s426.free npt
    have s427 := s426.trans s27
    have lt1 : (timesOf r 1).length ≤ 1000 := by rw [timesOf_length]; omega
    walk_at "go"
    have s428 : Same H4 (upd H27 pt (.lst ((timesOf r 1 ++ [0]).map V.int))) := Same.new s427 npt4
    generalize upd H27 pt (.lst ((timesOf r 1 ++ [0]).map V.int)) = H28 at s428
    walk_at "go"
    refine ⟨by show 2 ≤ sizeLine; decide, fun pz npz => ?_⟩
    have s429 : Same H4 (upd H28 pz (.lst ([p, po].map V.ref))) := s428.trans (Same.one npz)
    have hz : (upd H28 pz (.lst ([p, po].map V.ref))) pz = some (.lst ([p, po].map V.ref)) := upd_same
    walk_at "go"
    refine o_eqLf (as := [p, po]) (bs := [k1, k2]) (xs := [r, o]) (ys := [r, o]) (SqL.of hz) (SqL.of (s429 _ _ hkk)) (Lf.two (s429 _ _ hp4) (s429 _ _ ho4)) (Lf.two (s429 _ _ hk1') (s429 _ _ hk2')) ?_
    rw [decide_eq_true rfl]
    have s429' : Same H4 (upd H28 pz (.lst [.ref p, .ref po])) := s429
    generalize upd H28 pz (.lst [.ref p, .ref po]) = H29 at s429'
    walk_at "go"
    refine ⟨p, r, rfl, SqL.of (s429' _ _ hp4), R, fun p30 H30 s30 np30 h30 => ?_⟩
    have s430 := s429'.trans s30
    walk_at "go"
    refine ⟨p30, placesOf r, rfl, SqL.of h30, Rp, fun p31 H31 s31 np31 h31 => ?_⟩
    have s431 := s430.trans s31
    walk_at "go"
    refine o_eqL (ns := placesOf (placesOf r)) (ms := r) (SqL.of h31) (SqL.of (s431 _ _ hp4)) ?_
    rw [decide_eq_true (back_back R)]
    walk_at "go"
    refine ⟨p, r, 1, rfl, SqL.of (s431 _ _ hp4), R, fun p32 H32 s32 np32 h32 => ?_⟩
    have s432 := s431.trans s32
    walk_at "go"
    refine o_eqL (ns := timesOf r 1) (ms := r) (SqL.of h32) (SqL.of (s432 _ _ hp4)) ?_
    rw [decide_eq_true (times_one R)]
    exact q _
end
end Bo

namespace Bo
open PySem PySem.Spec PyProof.Rows L2
theorem all_mk {l : PySem.W.OpenLaw} {w : World} {K : PySem.W.Frag} {h : Heap} {mg : Str → Option Value} {fa : Addr}  (X : K.In h) (G : h.Ns mainGlobals mg) (hfa : mg "law" = some (.ref fa))
    {f1 : Addr} {od1 an1 : Option Addr} {sl1 : Array (Option Value)} {oc1 kV1 dc1 pm1 cd1 ct1 : Value}
    {f2 : Addr} {od2 an2 : Option Addr} {sl2 : Array (Option Value)} {oc2 kV2 dc2 pm2 cd2 ct2 : Value}
    {f3 : Addr} {od3 an3 : Option Addr} {sl3 : Array (Option Value)} {oc3 kV3 dc3 pm3 cd3 ct3 : Value}
    {f4 : Addr} {od4 an4 : Option Addr} {sl4 : Array (Option Value)} {oc4 kV4 dc4 pm4 cd4 ct4 : Value}
    {f5 : Addr} {od5 an5 : Option Addr} {sl5 : Array (Option Value)} {oc5 kV5 dc5 pm5 cd5 ct5 : Value}
    {f6 : Addr} {od6 an6 : Option Addr} {sl6 : Array (Option Value)} {oc6 kV6 dc6 pm6 cd6 ct6 : Value}
    {f7 : Addr} {od7 an7 : Option Addr} {sl7 : Array (Option Value)} {oc7 kV7 dc7 pm7 cd7 ct7 : Value}
    {f8 : Addr} {od8 an8 : Option Addr} {sl8 : Array (Option Value)} {oc8 kV8 dc8 pm8 cd8 ct8 : Value}
    {f9 : Addr} {od9 an9 : Option Addr} {sl9 : Array (Option Value)} {oc9 kV9 dc9 pm9 cd9 ct9 : Value}
    {f10 : Addr} {od10 an10 : Option Addr} {sl10 : Array (Option Value)} {oc10 kV10 dc10 pm10 cd10 ct10 : Value}
    {f11 : Addr} {od11 an11 : Option Addr} {sl11 : Array (Option Value)} {oc11 kV11 dc11 pm11 cd11 ct11 : Value}
    {f12 : Addr} {od12 an12 : Option Addr} {sl12 : Array (Option Value)} {oc12 kV12 dc12 pm12 cd12 ct12 : Value}
    {f13 : Addr} {od13 an13 : Option Addr} {sl13 : Array (Option Value)} {oc13 kV13 dc13 pm13 cd13 ct13 : Value}
    {f14 : Addr} {od14 an14 : Option Addr} {sl14 : Array (Option Value)} {oc14 kV14 dc14 pm14 cd14 ct14 : Value}
    {f15 : Addr} {od15 an15 : Option Addr} {sl15 : Array (Option Value)} {oc15 kV15 dc15 pm15 cd15 ct15 : Value}
    {f16 : Addr} {od16 an16 : Option Addr} {sl16 : Array (Option Value)} {oc16 kV16 dc16 pm16 cd16 ct16 : Value}
    {f17 : Addr} {od17 an17 : Option Addr} {sl17 : Array (Option Value)} {oc17 kV17 dc17 pm17 cd17 ct17 : Value}
    {f18 : Addr} {od18 an18 : Option Addr} {sl18 : Array (Option Value)} {oc18 kV18 dc18 pm18 cd18 ct18 : Value}
    {f19 : Addr} {od19 an19 : Option Addr} {sl19 : Array (Option Value)} {oc19 kV19 dc19 pm19 cd19 ct19 : Value}
    {t_MOST : Tok}
    (a1 : PySem.W.nsIn K mainGlobals "is_number" = some (some (.ref f1)))
    (l1 : K.lookup f1 = some ⟨oc1, od1, .func (PySem.W.fnOf "is_number" "is_number" (defArgs s_is_number) (defBody s_is_number) (defScope s_is_number) .none kV1 dc1 pm1 an1 cd1 ct1), sl1⟩)
    (c1 : PySem.W.codeIn K cd1 "is_number" = true)
    (k1 : PySem.W.keepIn K (.ref f1) = true)
    (a2 : PySem.W.nsIn K mainGlobals "check_row" = some (some (.ref f2)))
    (l2 : K.lookup f2 = some ⟨oc2, od2, .func (PySem.W.fnOf "check_row" "check_row" (defArgs s_check_row) (defBody s_check_row) (defScope s_check_row) .none kV2 dc2 pm2 an2 cd2 ct2), sl2⟩)
    (c2 : PySem.W.codeIn K cd2 "check_row" = true)
    (k2 : PySem.W.keepIn K (.ref f2) = true)
    (a3 : PySem.W.nsIn K mainGlobals "behind" = some (some (.ref f3)))
    (l3 : K.lookup f3 = some ⟨oc3, od3, .func (PySem.W.fnOf "behind" "behind" (defArgs s_behind) (defBody s_behind) (defScope s_behind) .none kV3 dc3 pm3 an3 cd3 ct3), sl3⟩)
    (c3 : PySem.W.codeIn K cd3 "behind" = true)
    (k3 : PySem.W.keepIn K (.ref f3) = true)
    (a4 : PySem.W.nsIn K mainGlobals "places_of" = some (some (.ref f4)))
    (l4 : K.lookup f4 = some ⟨oc4, od4, .func (PySem.W.fnOf "places_of" "places_of" (defArgs s_places_of) (defBody s_places_of) (defScope s_places_of) .none kV4 dc4 pm4 an4 cd4 ct4), sl4⟩)
    (c4 : PySem.W.codeIn K cd4 "places_of" = true)
    (k4 : PySem.W.keepIn K (.ref f4) = true)
    (a5 : PySem.W.nsIn K mainGlobals "back" = some (some (.ref f5)))
    (l5 : K.lookup f5 = some ⟨oc5, od5, .func (PySem.W.fnOf "back" "back" (defArgs s_back) (defBody s_back) (defScope s_back) .none kV5 dc5 pm5 an5 cd5 ct5), sl5⟩)
    (c5 : PySem.W.codeIn K cd5 "back" = true)
    (k5 : PySem.W.keepIn K (.ref f5) = true)
    (a6 : PySem.W.nsIn K mainGlobals "joined" = some (some (.ref f6)))
    (l6 : K.lookup f6 = some ⟨oc6, od6, .func (PySem.W.fnOf "joined" "joined" (defArgs s_joined) (defBody s_joined) (defScope s_joined) .none kV6 dc6 pm6 an6 cd6 ct6), sl6⟩)
    (c6 : PySem.W.codeIn K cd6 "joined" = true)
    (k6 : PySem.W.keepIn K (.ref f6) = true)
    (a7 : PySem.W.nsIn K mainGlobals "wrong" = some (some (.ref f7)))
    (l7 : K.lookup f7 = some ⟨oc7, od7, .func (PySem.W.fnOf "wrong" "wrong" (defArgs s_wrong) (defBody s_wrong) (defScope s_wrong) .none kV7 dc7 pm7 an7 cd7 ct7), sl7⟩)
    (c7 : PySem.W.codeIn K cd7 "wrong" = true)
    (k7 : PySem.W.keepIn K (.ref f7) = true)
    (a8 : PySem.W.nsIn K mainGlobals "rings_of" = some (some (.ref f8)))
    (l8 : K.lookup f8 = some ⟨oc8, od8, .func (PySem.W.fnOf "rings_of" "rings_of" (defArgs s_rings_of) (defBody s_rings_of) (defScope s_rings_of) .none kV8 dc8 pm8 an8 cd8 ct8), sl8⟩)
    (c8 : PySem.W.codeIn K cd8 "rings_of" = true)
    (k8 : PySem.W.keepIn K (.ref f8) = true)
    (a9 : PySem.W.nsIn K mainGlobals "times" = some (some (.ref f9)))
    (l9 : K.lookup f9 = some ⟨oc9, od9, .func (PySem.W.fnOf "times" "times" (defArgs s_times) (defBody s_times) (defScope s_times) .none kV9 dc9 pm9 an9 cd9 ct9), sl9⟩)
    (c9 : PySem.W.codeIn K cd9 "times" = true)
    (k9 : PySem.W.keepIn K (.ref f9) = true)
    (a10 : PySem.W.nsIn K mainGlobals "common" = some (some (.ref f10)))
    (l10 : K.lookup f10 = some ⟨oc10, od10, .func (PySem.W.fnOf "common" "common" (defArgs s_common) (defBody s_common) (defScope s_common) .none kV10 dc10 pm10 an10 cd10 ct10), sl10⟩)
    (c10 : PySem.W.codeIn K cd10 "common" = true)
    (k10 : PySem.W.keepIn K (.ref f10) = true)
    (a11 : PySem.W.nsIn K mainGlobals "turns" = some (some (.ref f11)))
    (l11 : K.lookup f11 = some ⟨oc11, od11, .func (PySem.W.fnOf "turns" "turns" (defArgs s_turns) (defBody s_turns) (defScope s_turns) .none kV11 dc11 pm11 an11 cd11 ct11), sl11⟩)
    (c11 : PySem.W.codeIn K cd11 "turns" = true)
    (k11 : PySem.W.keepIn K (.ref f11) = true)
    (a12 : PySem.W.nsIn K mainGlobals "_law_cell_at" = some (some (.ref f12)))
    (l12 : K.lookup f12 = some ⟨oc12, od12, .func (PySem.W.fnOf "_law_cell_at" "_law_cell_at" (defArgs s__law_cell_at) (defBody s__law_cell_at) (defScope s__law_cell_at) .none kV12 dc12 pm12 an12 cd12 ct12), sl12⟩)
    (c12 : PySem.W.codeIn K cd12 "_law_cell_at" = true)
    (k12 : PySem.W.keepIn K (.ref f12) = true)
    (a13 : PySem.W.nsIn K mainGlobals "_law_draw" = some (some (.ref f13)))
    (l13 : K.lookup f13 = some ⟨oc13, od13, .func (PySem.W.fnOf "_law_draw" "_law_draw" (defArgs s__law_draw) (defBody s__law_draw) (defScope s__law_draw) .none kV13 dc13 pm13 an13 cd13 ct13), sl13⟩)
    (c13 : PySem.W.codeIn K cd13 "_law_draw" = true)
    (k13 : PySem.W.keepIn K (.ref f13) = true)
    (a14 : PySem.W.nsIn K mainGlobals "_law_row" = some (some (.ref f14)))
    (l14 : K.lookup f14 = some ⟨oc14, od14, .func (PySem.W.fnOf "_law_row" "_law_row" (defArgs s__law_row) (defBody s__law_row) (defScope s__law_row) .none kV14 dc14 pm14 an14 cd14 ct14), sl14⟩)
    (c14 : PySem.W.codeIn K cd14 "_law_row" = true)
    (k14 : PySem.W.keepIn K (.ref f14) = true)
    (a15 : PySem.W.nsIn K mainGlobals "_law_numbers" = some (some (.ref f15)))
    (l15 : K.lookup f15 = some ⟨oc15, od15, .func (PySem.W.fnOf "_law_numbers" "_law_numbers" (defArgs s__law_numbers) (defBody s__law_numbers) (defScope s__law_numbers) .none kV15 dc15 pm15 an15 cd15 ct15), sl15⟩)
    (c15 : PySem.W.codeIn K cd15 "_law_numbers" = true)
    (k15 : PySem.W.keepIn K (.ref f15) = true)
    (a16 : PySem.W.nsIn K mainGlobals "_law_wrong" = some (some (.ref f16)))
    (l16 : K.lookup f16 = some ⟨oc16, od16, .func (PySem.W.fnOf "_law_wrong" "_law_wrong" (defArgs s__law_wrong) (defBody s__law_wrong) (defScope s__law_wrong) .none kV16 dc16 pm16 an16 cd16 ct16), sl16⟩)
    (c16 : PySem.W.codeIn K cd16 "_law_wrong" = true)
    (k16 : PySem.W.keepIn K (.ref f16) = true)
    (a17 : PySem.W.nsIn K mainGlobals "_law_primes" = some (some (.ref f17)))
    (l17 : K.lookup f17 = some ⟨oc17, od17, .func (PySem.W.fnOf "_law_primes" "_law_primes" (defArgs s__law_primes) (defBody s__law_primes) (defScope s__law_primes) .none kV17 dc17 pm17 an17 cd17 ct17), sl17⟩)
    (c17 : PySem.W.codeIn K cd17 "_law_primes" = true)
    (k17 : PySem.W.keepIn K (.ref f17) = true)
    (a18 : PySem.W.nsIn K mainGlobals "_law_times_right" = some (some (.ref f18)))
    (l18 : K.lookup f18 = some ⟨oc18, od18, .func (PySem.W.fnOf "_law_times_right" "_law_times_right" (defArgs s__law_times_right) (defBody s__law_times_right) (defScope s__law_times_right) .none kV18 dc18 pm18 an18 cd18 ct18), sl18⟩)
    (c18 : PySem.W.codeIn K cd18 "_law_times_right" = true)
    (k18 : PySem.W.keepIn K (.ref f18) = true)
    (a19 : PySem.W.nsIn K mainGlobals "law" = some (some (.ref f19)))
    (l19 : K.lookup f19 = some ⟨oc19, od19, .func (PySem.W.fnOf "law" "law" (defArgs s_law) (defBody s_law) (defScope s_law) .none kV19 dc19 pm19 an19 cd19 ct19), sl19⟩)
    (c19 : PySem.W.codeIn K cd19 "law" = true)
    (k19 : PySem.W.keepIn K (.ref f19) = true)
    (z_all : PySem.W.nsIn K mainGlobals "all" = some none)
    (z_any : PySem.W.nsIn K mainGlobals "any" = some none)
    (z_bool : PySem.W.nsIn K mainGlobals "bool" = some none)
    (z_enumerate : PySem.W.nsIn K mainGlobals "enumerate" = some none)
    (z_int : PySem.W.nsIn K mainGlobals "int" = some none)
    (z_isinstance : PySem.W.nsIn K mainGlobals "isinstance" = some none)
    (z_len : PySem.W.nsIn K mainGlobals "len" = some none)
    (z_list : PySem.W.nsIn K mainGlobals "list" = some none)
    (z_max : PySem.W.nsIn K mainGlobals "max" = some none)
    (z_min : PySem.W.nsIn K mainGlobals "min" = some none)
    (z_range : PySem.W.nsIn K mainGlobals "range" = some none)
    (z_set : PySem.W.nsIn K mainGlobals "set" = some none)
    (g_MOST : PySem.W.nsIn K mainGlobals "MOST" = some (some (.int 1000000 t_MOST))) :
    ∃ fd : FuncData, (∀ (s : Shared) (v : Value), BindsTo s fd ⟨[v], []⟩ [("_law_script", v)]) ∧ ∀ base : Heap, K.In base → base.Ns mainGlobals mg → FnOk l.prog w K mg base L2.CX0 5 fa fd ["_law_script"] (sp_law K) := by
  have e := hfa.symm.trans (PySem.W.mg_of X G a19)
  cases e
  have T : Top K mg 0 0 0 0 0 := { d_is_number := ⟨_, _, PySem.W.mg_of X G a1, fun_mk (st := s_is_number) l1 c1 k1, (fun_mk (st := s_is_number) l1 c1 k1).binds (ps := ["thing", "low", "high"]) fun _ _ _ _ _ _ us hl => match us, hl with | [_, _, _], _ => rfl⟩, d_check_row := ⟨_, _, PySem.W.mg_of X G a2, fun_mk (st := s_check_row) l2 c2 k2, (fun_mk (st := s_check_row) l2 c2 k2).binds (ps := ["row"]) fun _ _ _ _ _ _ us hl => match us, hl with | [_], _ => rfl⟩, d_behind := ⟨_, _, PySem.W.mg_of X G a3, fun_mk (st := s_behind) l3 c3 k3, (fun_mk (st := s_behind) l3 c3 k3).binds (ps := ["one", "other"]) fun _ _ _ _ _ _ us hl => match us, hl with | [_, _], _ => rfl⟩, d_places_of := ⟨_, _, PySem.W.mg_of X G a4, fun_mk (st := s_places_of) l4 c4 k4, (fun_mk (st := s_places_of) l4 c4 k4).binds (ps := ["row"]) fun _ _ _ _ _ _ us hl => match us, hl with | [_], _ => rfl⟩, d_back := ⟨_, _, PySem.W.mg_of X G a5, fun_mk (st := s_back) l5 c5 k5, (fun_mk (st := s_back) l5 c5 k5).binds (ps := ["row"]) fun _ _ _ _ _ _ us hl => match us, hl with | [_], _ => rfl⟩, d_joined := ⟨_, _, PySem.W.mg_of X G a6, fun_mk (st := s_joined) l6 c6 k6, (fun_mk (st := s_joined) l6 c6 k6).binds (ps := ["left", "right"]) fun _ _ _ _ _ _ us hl => match us, hl with | [_, _], _ => rfl⟩, d_wrong := ⟨_, _, PySem.W.mg_of X G a7, fun_mk (st := s_wrong) l7 c7 k7, (fun_mk (st := s_wrong) l7 c7 k7).binds (ps := ["row"]) fun _ _ _ _ _ _ us hl => match us, hl with | [_], _ => rfl⟩, d_rings_of := ⟨_, _, PySem.W.mg_of X G a8, fun_mk (st := s_rings_of) l8 c8 k8, (fun_mk (st := s_rings_of) l8 c8 k8).binds (ps := ["row"]) fun _ _ _ _ _ _ us hl => match us, hl with | [_], _ => rfl⟩, d_times := ⟨_, _, PySem.W.mg_of X G a9, fun_mk (st := s_times) l9 c9 k9, (fun_mk (st := s_times) l9 c9 k9).binds (ps := ["row", "number"]) fun _ _ _ _ _ _ us hl => match us, hl with | [_, _], _ => rfl⟩, d_common := ⟨_, _, PySem.W.mg_of X G a10, fun_mk (st := s_common) l10 c10 k10, (fun_mk (st := s_common) l10 c10 k10).binds (ps := ["one", "other"]) fun _ _ _ _ _ _ us hl => match us, hl with | [_, _], _ => rfl⟩, d_turns := ⟨_, _, PySem.W.mg_of X G a11, fun_mk (st := s_turns) l11 c11 k11, (fun_mk (st := s_turns) l11 c11 k11).binds (ps := ["row"]) fun _ _ _ _ _ _ us hl => match us, hl with | [_], _ => rfl⟩, d__law_cell_at := ⟨_, _, PySem.W.mg_of X G a12, fun_mk (st := s__law_cell_at) l12 c12 k12, (fun_mk (st := s__law_cell_at) l12 c12 k12).binds (ps := ["_law_script", "_law_k"]) fun _ _ _ _ _ _ us hl => match us, hl with | [_, _], _ => rfl⟩, d__law_draw := ⟨_, _, PySem.W.mg_of X G a13, fun_mk (st := s__law_draw) l13 c13 k13, (fun_mk (st := s__law_draw) l13 c13 k13).binds (ps := ["_law_cell", "_law_k", "_law_many"]) fun _ _ _ _ _ _ us hl => match us, hl with | [_, _, _], _ => rfl⟩, d__law_row := ⟨_, _, PySem.W.mg_of X G a14, fun_mk (st := s__law_row) l14 c14 k14, (fun_mk (st := s__law_row) l14 c14 k14).binds (ps := ["_law_script"]) fun _ _ _ _ _ _ us hl => match us, hl with | [_], _ => rfl⟩, d__law_numbers := ⟨_, _, PySem.W.mg_of X G a15, fun_mk (st := s__law_numbers) l15 c15 k15, (fun_mk (st := s__law_numbers) l15 c15 k15).binds (ps := ["_law_found"]) fun _ _ _ _ _ _ us hl => match us, hl with | [_], _ => rfl⟩, d__law_wrong := ⟨_, _, PySem.W.mg_of X G a16, fun_mk (st := s__law_wrong) l16 c16 k16, (fun_mk (st := s__law_wrong) l16 c16 k16).binds (ps := ["_law_row_here"]) fun _ _ _ _ _ _ us hl => match us, hl with | [_], _ => rfl⟩, d__law_primes := ⟨_, _, PySem.W.mg_of X G a17, fun_mk (st := s__law_primes) l17 c17 k17, (fun_mk (st := s__law_primes) l17 c17 k17).binds (ps := ["_law_number"]) fun _ _ _ _ _ _ us hl => match us, hl with | [_], _ => rfl⟩, d__law_times_right := ⟨_, _, PySem.W.mg_of X G a18, fun_mk (st := s__law_times_right) l18 c18 k18, (fun_mk (st := s__law_times_right) l18 c18 k18).binds (ps := ["_law_row_here", "_law_undone", "_law_far"]) fun _ _ _ _ _ _ us hl => match us, hl with | [_, _, _], _ => rfl⟩, d_law := ⟨_, _, PySem.W.mg_of X G a19, fun_mk (st := s_law) l19 c19 k19, (fun_mk (st := s_law) l19 c19 k19).binds (ps := ["_law_script"]) fun _ _ _ _ _ _ us hl => match us, hl with | [_], _ => rfl⟩, b_all := PySem.W.mg_none_of X G z_all, b_any := PySem.W.mg_none_of X G z_any, b_bool := PySem.W.mg_none_of X G z_bool, b_enumerate := PySem.W.mg_none_of X G z_enumerate, b_int := PySem.W.mg_none_of X G z_int, b_isinstance := PySem.W.mg_none_of X G z_isinstance, b_len := PySem.W.mg_none_of X G z_len, b_list := PySem.W.mg_none_of X G z_list, b_max := PySem.W.mg_none_of X G z_max, b_min := PySem.W.mg_none_of X G z_min, b_range := PySem.W.mg_none_of X G z_range, b_set := PySem.W.mg_none_of X G z_set, g_MOST := ⟨_, PySem.W.mg_of X G g_MOST⟩ }
  exact ⟨_, fun s v => .of_eq rfl, fun base _ _ => ok_law T (fun_mk (st := s_law) l19 c19 k19)⟩
end Bo
open PySem PySem.W PyProof.Rows
set_option maxRecDepth 100000 in
set_option maxHeartbeats 0 in
theorem PySem.Challenge.cw_backorder_k04_doings_holds : PySem.Challenge.rw_backorder_k04_doings.Holds := by
  w_on; o_law; k_head; (case hw => w_witness2)
  k_fill
  refine L2.walk_of (l := PySem.Challenge.rw_backorder_k04_doings) (n := 63) (k := 5) (x := "_law_script") (CX := fun _ => L2.CX0) (sp := fun w => Bo.sp_law _) rfl (by decide) rfl ⟨rfl, by decide, by decide⟩ (fun w h Y => PySem.W.kIn_of Y) ?F (fun _ _ a ns hl _ hS => ⟨a, ns, rfl, hS, hl, fun _ => rfl⟩) (fun _ _ _ _ _ h => h)
  case F =>
    intro w mg fa h KX G hmg
    refine' Bo.all_mk KX G hmg ?a1 ?l1 ?c1 ?k1 ?a2 ?l2 ?c2 ?k2 ?a3 ?l3 ?c3 ?k3 ?a4 ?l4 ?c4 ?k4 ?a5 ?l5 ?c5 ?k5 ?a6 ?l6 ?c6 ?k6 ?a7 ?l7 ?c7 ?k7 ?a8 ?l8 ?c8 ?k8 ?a9 ?l9 ?c9 ?k9 ?a10 ?l10 ?c10 ?k10 ?a11 ?l11 ?c11 ?k11 ?a12 ?l12 ?c12 ?k12 ?a13 ?l13 ?c13 ?k13 ?a14 ?l14 ?c14 ?k14 ?a15 ?l15 ?c15 ?k15 ?a16 ?l16 ?c16 ?k16 ?a17 ?l17 ?c17 ?k17 ?a18 ?l18 ?c18 ?k18 ?a19 ?l19 ?c19 ?k19 ?z_all ?z_any ?z_bool ?z_enumerate ?z_int ?z_isinstance ?z_len ?z_list ?z_max ?z_min ?z_range ?z_set ?g_MOST
    (case a1 => first | k_is | kit_is)
    (case l1 => first | k_is | kit_is)
    (case c1 => first | k_is | kit_is)
    (case k1 => first | k_is | kit_is)
    (case a2 => first | k_is | kit_is)
    (case l2 => first | k_is | kit_is)
    (case c2 => first | k_is | kit_is)
    (case k2 => first | k_is | kit_is)
    (case a3 => first | k_is | kit_is)
    (case l3 => first | k_is | kit_is)
    (case c3 => first | k_is | kit_is)
    (case k3 => first | k_is | kit_is)
    (case a4 => first | k_is | kit_is)
    (case l4 => first | k_is | kit_is)
    (case c4 => first | k_is | kit_is)
    (case k4 => first | k_is | kit_is)
    (case a5 => first | k_is | kit_is)
    (case l5 => first | k_is | kit_is)
    (case c5 => first | k_is | kit_is)
    (case k5 => first | k_is | kit_is)
    (case a6 => first | k_is | kit_is)
    (case l6 => first | k_is | kit_is)
    (case c6 => first | k_is | kit_is)
    (case k6 => first | k_is | kit_is)
    (case a7 => first | k_is | kit_is)
    (case l7 => first | k_is | kit_is)
    (case c7 => first | k_is | kit_is)
    (case k7 => first | k_is | kit_is)
    (case a8 => first | k_is | kit_is)
    (case l8 => first | k_is | kit_is)
    (case c8 => first | k_is | kit_is)
    (case k8 => first | k_is | kit_is)
    (case a9 => first | k_is | kit_is)
    (case l9 => first | k_is | kit_is)
    (case c9 => first | k_is | kit_is)
    (case k9 => first | k_is | kit_is)
    (case a10 => first | k_is | kit_is)
    (case l10 => first | k_is | kit_is)
    (case c10 => first | k_is | kit_is)
    (case k10 => first | k_is | kit_is)
    (case a11 => first | k_is | kit_is)
    (case l11 => first | k_is | kit_is)
    (case c11 => first | k_is | kit_is)
    (case k11 => first | k_is | kit_is)
    (case a12 => first | k_is | kit_is)
    (case l12 => first | k_is | kit_is)
    (case c12 => first | k_is | kit_is)
    (case k12 => first | k_is | kit_is)
    (case a13 => first | k_is | kit_is)
    (case l13 => first | k_is | kit_is)
    (case c13 => first | k_is | kit_is)
    (case k13 => first | k_is | kit_is)
    (case a14 => first | k_is | kit_is)
    (case l14 => first | k_is | kit_is)
    (case c14 => first | k_is | kit_is)
    (case k14 => first | k_is | kit_is)
    (case a15 => first | k_is | kit_is)
    (case l15 => first | k_is | kit_is)
    (case c15 => first | k_is | kit_is)
    (case k15 => first | k_is | kit_is)
    (case a16 => first | k_is | kit_is)
    (case l16 => first | k_is | kit_is)
    (case c16 => first | k_is | kit_is)
    (case k16 => first | k_is | kit_is)
    (case a17 => first | k_is | kit_is)
    (case l17 => first | k_is | kit_is)
    (case c17 => first | k_is | kit_is)
    (case k17 => first | k_is | kit_is)
    (case a18 => first | k_is | kit_is)
    (case l18 => first | k_is | kit_is)
    (case c18 => first | k_is | kit_is)
    (case k18 => first | k_is | kit_is)
    (case a19 => first | k_is | kit_is)
    (case l19 => first | k_is | kit_is)
    (case c19 => first | k_is | kit_is)
    (case k19 => first | k_is | kit_is)
    (case z_all => first | k_is | kit_is)
    (case z_any => first | k_is | kit_is)
    (case z_bool => first | k_is | kit_is)
    (case z_enumerate => first | k_is | kit_is)
    (case z_int => first | k_is | kit_is)
    (case z_isinstance => first | k_is | kit_is)
    (case z_len => first | k_is | kit_is)
    (case z_list => first | k_is | kit_is)
    (case z_max => first | k_is | kit_is)
    (case z_min => first | k_is | kit_is)
    (case z_range => first | k_is | kit_is)
    (case z_set => first | k_is | kit_is)
    (case g_MOST => first | k_is | kit_is)

