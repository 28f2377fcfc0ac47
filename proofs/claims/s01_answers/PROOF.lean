import PyProof.Rows.All
import Wide.All
import OpenK.AllK
import Wide.FinOn
import Open.SpecLaws
import KE.OsGo
import HandS.ForSpec
import HandS.Comp
import HandS.Iter
import HandS.Walk
import HandS.Text
import PyFlatLaws
import PySem.Challenge.RW_toldshares_s01_answers
set_option Elab.async false
set_option maxRecDepth 100000
set_option maxHeartbeats 2000000
set_option linter.all false
namespace Tl
open PySem PySem.Spec PyProof.Rows L2
open PySem.W (Codec)
/-! ### the layer's own words -/
def topS (i : Nat) : Stmt := PySem.Challenge.pw_toldshares_s01_answers.main.body.getD i (.Pass ⟨0, 0, 0, 0⟩)
section
variable {X : Cx} {a b c d : Expr} {ta tb tc td : TE} {pos : Pos}
/-- a op1 b op2 c op3 d -/
def tChain3 (r r' r'' : R2) (ta tb tc td : TE) : TE := fun σ H Q => ta σ H fun x H1 => tb σ H1 fun y H2 => r x y H2 fun z H3 => ∃ k, z = .bl k ∧
  (if k = true then tc σ H3 fun w' H4 => r' y w' H4 fun z' H5 => ∃ k', z' = .bl k' ∧ (if k' = true then td σ H5 fun u' H6 => r'' w' u' H6 Q else Q (.bl false) H5) else Q (.bl false) H3)
theorem pe_chain3 {op op' op'' : CmpOp} {r r' r'' : R2} (ho : OpR X (compareOp op) r) (ho' : OpR X (compareOp op') r') (ho'' : OpR X (compareOp op'') r'') (ha : PE X a ta) (hb : PE X b tb) (hc : PE X c tc) (hd : PE X d td)
    (hm : lastMarks [op, op', op''] [b, c, d] = false) : PE X (.Compare a [op, op', op''] [b, c, d] pos) (tChain3 r r' r'' ta tb tc td) := by
  constructor
  intro pins st sl hp Q inv hread
  refine Compare_chain ?_ hm
  refine thn (ha.run pins st sl hp _ inv hread) ?_
  rintro va sa ⟨xa, ha1, ia, ra, k1⟩
  refine chain_link (thn (hb.run pins sa sl ha1 _ ia k1) ?_)
  rintro vb sb ⟨xb, hb1, ib, rb, k2⟩
  refine thn (ho pins sb sl hb1 xa xb va vb _ ib ra rb k2) ?_
  rintro vt st2 ⟨xt, ht1, it, rt, t1, rfl, k3⟩
  cases rt
  refine wpAny_truthy_bool ?_
  cases t1 with
  | false => exact ite_ff ⟨.bl false, ht1, it, rfl, k3⟩
  | true =>
    refine ite_tt (chain_link (thn (hc.run pins st2 sl ht1 _ it k3) ?_))
    rintro vc sc ⟨xc, hc1, ic, rc, k4⟩
    refine thn (ho' pins sc sl hc1 xb xc vb vc _ ic rb rc k4) ?_
    rintro vt sd ⟨xt, hd1, id1, rt, t2, rfl, k5⟩
    cases rt
    refine wpAny_truthy_bool ?_
    cases t2 with
    | false => exact ite_ff ⟨.bl false, hd1, id1, rfl, k5⟩
    | true =>
      refine ite_tt (chain_last (thn (hd.run pins sd sl hd1 _ id1 k5) ?_))
      rintro ve se ⟨xe, he1, ie, re, k6⟩
      exact ho'' pins se sl he1 xc xe vc ve Q ie rc re k6
end
/-- a def that keeps its promise, by its name -/
structure FnG (P : Program) (w : World) (K : PySem.W.Frag) (mg : Str → Option Value) (base : Heap) (k : Nat) (x : Str) (ps : List Str) (sp : Sp) : Prop where
  ex : ∃ f fd, mg x = some (.ref f) ∧ PySem.W.keepIn K (.ref f) = true ∧ Binds K fd ps [] ∧ FnOk P w K mg base CX0 k f fd ps sp
/-- a method that keeps its promise -/
structure MtG (P : Program) (w : World) (K : PySem.W.Frag) (mg : Str → Option Value) (base : Heap) (C : Addr) (k : Nat) (m : Str) (ps : List Str) (sp : Sp) : Prop where
  ex : ∃ f fd, Meth K C m f ∧ Binds K fd ps [] ∧ FnOk P w K mg base CX0 k f fd ps sp
/-- the def as the top left it -/
structure DefAt (K : PySem.W.Frag) (mg : Str → Option Value) (x : Str) (st : Stmt) : Prop where
  ex : ∃ f fd, mg x = some (.ref f) ∧ Fun K x x st f fd
structure MethAt (K : PySem.W.Frag) (C : Addr) (x qual : Str) (st : Stmt) : Prop where
  ex : ∃ f fd, Meth K C x f ∧ Fun K x qual st f fd
/-- a constant of the module -/
structure GInt (mg : Str → Option Value) (x : Str) (i : Int) : Prop where
  ex : ∃ t, mg x = some (.int i t)
/-- a tuple of ints of the module -/
structure GTup (K : PySem.W.Frag) (mg : Str → Option Value) (x : Str) (a : Addr) (ns : List Int) : Prop where
  g : mg x = some (.ref a)
  t : ∀ H, SqT K H a (ns.map V.int)
section
variable {X : Cx} {k : Nat} {C : Addr} {ps : List Str} {sp : Sp} {x m : Str} {p pos apos : Pos} {e o : Expr} {es : List Expr} {ta : TE} {t : TA}
theorem pe_gint {i : Int} (h : GInt X.mg x i) (hg : Gl X x) (hd : (x == ("__debug__" : Str)) = false := by decide) : PE X (.Name x pos) (tC (.int i)) := by
  obtain ⟨t, h⟩ := h.ex
  exact pe_glob hg h ⟨t, rfl⟩ hd
theorem pe_gref {a : Addr} {ns : List Int} (h : GTup X.K X.mg x a ns) (hg : Gl X x) (hd : (x == ("__debug__" : Str)) = false := by decide) : PE X (.Name x pos) (tC (.ref a)) :=
  pe_glob hg h.g rfl hd
end
section
variable {P : Program} {w : World} {K : PySem.W.Frag} {mg : Str → Option Value} {base : Heap}
theorem FnG.of {x : Str} {st : Stmt} {N ps : List Str} {k : Nat} {sp : Sp} (D : DefAt K mg x st) (S : FnScope N ps (defScope st))
    (bnd : ∀ (kV doc pm : Value) (an : Option Addr) (cdv ct : Value) (us : List Value), us.length = ps.length → bindArgs (PySem.W.fnOf x x (defArgs st) (defBody st) (defScope st) .none kV doc pm an cdv ct) ⟨us, []⟩ = pure (ps.zip us))
    (len : ∀ vs H Q E, sp vs H Q E → vs.length = ps.length) (hbody : ∀ (f : Addr) (cdv : Value) (A : Around) (outer : List Env) (s : Shared) (H : Hp) (vs : List V) (Q : VK) (E : XK), Room k (A.deeper (envOfC x (defScope st) s.heap.objs.size f cdv)) → sp vs H Q E →
      ∃ t, PSs (cxOf CX0 P w K mg base N x (defScope st) f cdv A outer s H E).nox (defBody st) t ∧ t { nx := fun _ H' => Q .non H', rt := Q } (start N vs) H) : FnG P w K mg base (k + 1) x ps sp := by
  obtain ⟨f, fd, h1, F⟩ := D.ex
  exact ⟨f, fd, h1, F.kp, F.binds bnd, F.ok S len (hbody f)⟩
theorem MtG.of {C : Addr} {x qual : Str} {st : Stmt} {N ps : List Str} {k : Nat} {sp : Sp} (D : MethAt K C x qual st) (S : FnScope N ps (defScope st))
    (bnd : ∀ (kV doc pm : Value) (an : Option Addr) (cdv ct : Value) (us : List Value), us.length = ps.length → bindArgs (PySem.W.fnOf x qual (defArgs st) (defBody st) (defScope st) .none kV doc pm an cdv ct) ⟨us, []⟩ = pure (ps.zip us))
    (len : ∀ vs H Q E, sp vs H Q E → vs.length = ps.length) (hbody : ∀ (f : Addr) (cdv : Value) (A : Around) (outer : List Env) (s : Shared) (H : Hp) (vs : List V) (Q : VK) (E : XK), Room k (A.deeper (envOfC qual (defScope st) s.heap.objs.size f cdv)) → sp vs H Q E →
      ∃ t, PSs (cxOf CX0 P w K mg base N qual (defScope st) f cdv A outer s H E).nox (defBody st) t ∧ t { nx := fun _ H' => Q .non H', rt := Q } (start N vs) H) : MtG P w K mg base C (k + 1) x ps sp := by
  obtain ⟨f, fd, h1, F⟩ := D.ex
  exact ⟨f, fd, h1, F.binds bnd, F.ok S len (hbody f)⟩
end
theorem ix_listK {X : Cx} {K : PySem.W.Frag} (h : X.K = K) : IxR X (rIxL K) := by
  subst h
  exact ix_list
theorem ix_tupK {X : Cx} {K : PySem.W.Frag} (h : X.K = K) : IxR X (rIxT K) := by
  subst h
  exact ix_tup
theorem pg_K {X : Cx} {K : PySem.W.Frag} {e : Expr} {n : Nat} {t : TGs} (h : PG X e (gTup X.K n t)) (hK : X.K = K) : PG X e (gTup K n t) := by
  subst hK
  exact h
abbrev s_is_amount : Stmt := topS 16
abbrev n_is_amount : List Str := ["number"]
abbrev p_is_amount : List Str := ["number"]
theorem sc_is_amount : FnScope n_is_amount p_is_amount (defScope s_is_amount) := ⟨rfl, rfl, rfl, by decide +kernel, rfl, by decide +kernel, by decide +kernel⟩
abbrev s_is_hearers : Stmt := topS 17
abbrev n_is_hearers : List Str := ["m"]
abbrev p_is_hearers : List Str := ["m"]
theorem sc_is_hearers : FnScope n_is_hearers p_is_hearers (defScope s_is_hearers) := ⟨rfl, rfl, rfl, by decide +kernel, rfl, by decide +kernel, by decide +kernel⟩
abbrev s_is_run : Stmt := topS 18
abbrev n_is_run : List Str := ["i", "j"]
abbrev p_is_run : List Str := ["i", "j"]
theorem sc_is_run : FnScope n_is_run p_is_run (defScope s_is_run) := ⟨rfl, rfl, rfl, by decide +kernel, rfl, by decide +kernel, by decide +kernel⟩
abbrev s_is_bounds : Stmt := topS 19
abbrev n_is_bounds : List Str := ["a", "b"]
abbrev p_is_bounds : List Str := ["a", "b"]
theorem sc_is_bounds : FnScope n_is_bounds p_is_bounds (defScope s_is_bounds) := ⟨rfl, rfl, rfl, by decide +kernel, rfl, by decide +kernel, by decide +kernel⟩
abbrev s_is_side : Stmt := topS 20
abbrev n_is_side : List Str := ["side"]
abbrev p_is_side : List Str := ["side"]
theorem sc_is_side : FnScope n_is_side p_is_side (defScope s_is_side) := ⟨rfl, rfl, rfl, by decide +kernel, rfl, by decide +kernel, by decide +kernel⟩
abbrev s_are_parts : Stmt := topS 22
abbrev n_are_parts : List Str := ["many"]
abbrev p_are_parts : List Str := ["many"]
theorem sc_are_parts : FnScope n_are_parts p_are_parts (defScope s_are_parts) := ⟨rfl, rfl, rfl, by decide +kernel, rfl, by decide +kernel, by decide +kernel⟩
abbrev s_are_shares : Stmt := topS 23
abbrev n_are_shares : List Str := ["row", "share"]
abbrev p_are_shares : List Str := ["row"]
theorem sc_are_shares : FnScope n_are_shares p_are_shares (defScope s_are_shares) := ⟨rfl, rfl, rfl, by decide +kernel, rfl, by decide +kernel, by decide +kernel⟩
abbrev s_is_whole : Stmt := topS 24
abbrev n_is_whole : List Str := ["row"]
abbrev p_is_whole : List Str := ["row"]
theorem sc_is_whole : FnScope n_is_whole p_is_whole (defScope s_is_whole) := ⟨rfl, rfl, rfl, by decide +kernel, rfl, by decide +kernel, by decide +kernel⟩
abbrev s_run_sum : Stmt := topS 25
abbrev n_run_sum : List Str := ["shares", "i", "j", "together", "part"]
abbrev p_run_sum : List Str := ["shares", "i", "j"]
theorem sc_run_sum : FnScope n_run_sum p_run_sum (defScope s_run_sum) := ⟨rfl, rfl, rfl, by decide +kernel, rfl, by decide +kernel, by decide +kernel⟩
abbrev s_is_known : Stmt := topS 27
abbrev n_is_known : List Str := ["fact", "m"]
abbrev p_is_known : List Str := ["fact", "m"]
theorem sc_is_known : FnScope n_is_known p_is_known (defScope s_is_known) := ⟨rfl, rfl, rfl, by decide +kernel, rfl, by decide +kernel, by decide +kernel⟩
abbrev s_known : Stmt := topS 28
abbrev n_known : List Str := ["facts", "m", "fact"]
abbrev p_known : List Str := ["facts", "m"]
theorem sc_known : FnScope n_known p_known (defScope s_known) := ⟨rfl, rfl, rfl, by decide +kernel, rfl, by decide +kernel, by decide +kernel⟩
abbrev s_holds : Stmt := topS 29
abbrev n_holds : List Str := ["fact", "shares", "told", "i", "j", "a", "b"]
abbrev p_holds : List Str := ["fact", "shares"]
theorem sc_holds : FnScope n_holds p_holds (defScope s_holds) := ⟨rfl, rfl, rfl, by decide +kernel, rfl, by decide +kernel, by decide +kernel⟩
abbrev s_fits : Stmt := topS 30
abbrev n_fits : List Str := ["shares", "facts", "fact"]
abbrev p_fits : List Str := ["shares", "facts"]
theorem sc_fits : FnScope n_fits p_fits (defScope s_fits) := ⟨rfl, rfl, rfl, by decide +kernel, rfl, by decide +kernel, by decide +kernel⟩
abbrev s_told_on : Stmt := topS 31
abbrev n_told_on : List Str := ["fact", "m", "told", "i", "j", "a", "b"]
abbrev p_told_on : List Str := ["fact", "m"]
theorem sc_told_on : FnScope n_told_on p_told_on (defScope s_told_on) := ⟨rfl, rfl, rfl, by decide +kernel, rfl, by decide +kernel, by decide +kernel⟩
abbrev s_after_meeting : Stmt := topS 32
abbrev n_after_meeting : List Str := ["facts", "m", "fact"]
abbrev p_after_meeting : List Str := ["facts", "m"]
theorem sc_after_meeting : FnScope n_after_meeting p_after_meeting (defScope s_after_meeting) := ⟨rfl, rfl, rfl, by decide +kernel, rfl, by decide +kernel, by decide +kernel⟩
abbrev s_fact_refusal : Stmt := topS 33
abbrev n_fact_refusal : List Str := ["fact", "shares", "m", "i", "j", "a", "b"]
abbrev p_fact_refusal : List Str := ["fact", "shares"]
theorem sc_fact_refusal : FnScope n_fact_refusal p_fact_refusal (defScope s_fact_refusal) := ⟨rfl, rfl, rfl, by decide +kernel, rfl, by decide +kernel, by decide +kernel⟩
abbrev s_rule_limit : Stmt := topS 35
abbrev n_rule_limit : List Str := ["n", "u", "v"]
abbrev p_rule_limit : List Str := ["n", "u", "v"]
theorem sc_rule_limit : FnScope n_rule_limit p_rule_limit (defScope s_rule_limit) := ⟨rfl, rfl, rfl, by decide +kernel, rfl, by decide +kernel, by decide +kernel⟩
abbrev s_direct_limit : Stmt := topS 36
abbrev n_direct_limit : List Str := ["n", "facts", "u", "v", "limit", "told", "i", "j", "a", "b"]
abbrev p_direct_limit : List Str := ["n", "facts", "u", "v"]
theorem sc_direct_limit : FnScope n_direct_limit p_direct_limit (defScope s_direct_limit) := ⟨rfl, rfl, rfl, by decide +kernel, rfl, by decide +kernel, by decide +kernel⟩
abbrev s_direct_row : Stmt := topS 37
abbrev n_direct_row : List Str := ["n", "facts", "u", "v"]
abbrev p_direct_row : List Str := ["n", "facts", "u"]
theorem sc_direct_row : FnScope n_direct_row p_direct_row (defScope s_direct_row) := ⟨rfl, rfl, rfl, by decide +kernel, rfl, by decide +kernel, by decide +kernel⟩
abbrev s_direct_table : Stmt := topS 38
abbrev n_direct_table : List Str := ["n", "facts", "u"]
abbrev p_direct_table : List Str := ["n", "facts"]
theorem sc_direct_table : FnScope n_direct_table p_direct_table (defScope s_direct_table) := ⟨rfl, rfl, rfl, by decide +kernel, rfl, by decide +kernel, by decide +kernel⟩
abbrev s_lowered : Stmt := topS 39
abbrev n_lowered : List Str := ["row", "step", "further", "limit", "more"]
abbrev p_lowered : List Str := ["row", "step", "further"]
theorem sc_lowered : FnScope n_lowered p_lowered (defScope s_lowered) := ⟨rfl, rfl, rfl, by decide +kernel, rfl, by decide +kernel, by decide +kernel⟩
abbrev s_through : Stmt := topS 40
abbrev n_through : List Str := ["table", "r", "row"]
abbrev p_through : List Str := ["table", "r"]
theorem sc_through : FnScope n_through p_through (defScope s_through) := ⟨rfl, rfl, rfl, by decide +kernel, rfl, by decide +kernel, by decide +kernel⟩
abbrev s_closed : Stmt := topS 41
abbrev n_closed : List Str := ["table", "lowest", "r"]
abbrev p_closed : List Str := ["table"]
theorem sc_closed : FnScope n_closed p_closed (defScope s_closed) := ⟨rfl, rfl, rfl, by decide +kernel, rfl, by decide +kernel, by decide +kernel⟩
abbrev s_found_out : Stmt := topS 42
abbrev n_found_out : List Str := ["n", "facts", "k"]
abbrev p_found_out : List Str := ["n", "facts", "k"]
theorem sc_found_out : FnScope n_found_out p_found_out (defScope s_found_out) := ⟨rfl, rfl, rfl, by decide +kernel, rfl, by decide +kernel, by decide +kernel⟩
abbrev s_least_sum : Stmt := topS 43
abbrev n_least_sum : List Str := ["table", "i", "j"]
abbrev p_least_sum : List Str := ["table", "i", "j"]
theorem sc_least_sum : FnScope n_least_sum p_least_sum (defScope s_least_sum) := ⟨rfl, rfl, rfl, by decide +kernel, rfl, by decide +kernel, by decide +kernel⟩
abbrev s_greatest_sum : Stmt := topS 44
abbrev n_greatest_sum : List Str := ["table", "i", "j"]
abbrev p_greatest_sum : List Str := ["table", "i", "j"]
theorem sc_greatest_sum : FnScope n_greatest_sum p_greatest_sum (defScope s_greatest_sum) := ⟨rfl, rfl, rfl, by decide +kernel, rfl, by decide +kernel, by decide +kernel⟩
abbrev s_width : Stmt := topS 45
abbrev n_width : List Str := ["table", "i", "j"]
abbrev p_width : List Str := ["table", "i", "j"]
theorem sc_width : FnScope n_width p_width (defScope s_width) := ⟨rfl, rfl, rfl, by decide +kernel, rfl, by decide +kernel, by decide +kernel⟩
abbrev s_part_bands : Stmt := topS 46
abbrev n_part_bands : List Str := ["table", "numbers", "part"]
abbrev p_part_bands : List Str := ["table"]
theorem sc_part_bands : FnScope n_part_bands p_part_bands (defScope s_part_bands) := ⟨rfl, rfl, rfl, by decide +kernel, rfl, by decide +kernel, by decide +kernel⟩
abbrev s_shown : Stmt := topS 47
abbrev n_shown : List Str := ["table", "s", "part"]
abbrev p_shown : List Str := ["table", "s"]
theorem sc_shown : FnScope n_shown p_shown (defScope s_shown) := ⟨rfl, rfl, rfl, by decide +kernel, rfl, by decide +kernel, by decide +kernel⟩
abbrev s_to_spare : Stmt := topS 49
abbrev n_to_spare : List Str := ["n", "promise", "facts", "m", "i", "j", "w"]
abbrev p_to_spare : List Str := ["n", "promise", "facts"]
theorem sc_to_spare : FnScope n_to_spare p_to_spare (defScope s_to_spare) := ⟨rfl, rfl, rfl, by decide +kernel, rfl, by decide +kernel, by decide +kernel⟩
abbrev s_is_kept : Stmt := topS 50
abbrev n_is_kept : List Str := ["n", "promise", "facts"]
abbrev p_is_kept : List Str := ["n", "promise", "facts"]
theorem sc_is_kept : FnScope n_is_kept p_is_kept (defScope s_is_kept) := ⟨rfl, rfl, rfl, by decide +kernel, rfl, by decide +kernel, by decide +kernel⟩
abbrev s_all_kept : Stmt := topS 51
abbrev n_all_kept : List Str := ["n", "promises", "facts", "promise"]
abbrev p_all_kept : List Str := ["n", "promises", "facts"]
theorem sc_all_kept : FnScope n_all_kept p_all_kept (defScope s_all_kept) := ⟨rfl, rfl, rfl, by decide +kernel, rfl, by decide +kernel, by decide +kernel⟩
abbrev s_is_promised : Stmt := topS 52
abbrev n_is_promised : List Str := ["promises", "m", "i", "j", "promise"]
abbrev p_is_promised : List Str := ["promises", "m", "i", "j"]
theorem sc_is_promised : FnScope n_is_promised p_is_promised (defScope s_is_promised) := ⟨rfl, rfl, rfl, by decide +kernel, rfl, by decide +kernel, by decide +kernel⟩
abbrev s_nearest : Stmt := topS 53
abbrev n_nearest : List Str := ["n", "promises", "facts", "spare", "least", "m", "i", "j", "w", "promise"]
abbrev p_nearest : List Str := ["n", "promises", "facts"]
theorem sc_nearest : FnScope n_nearest p_nearest (defScope s_nearest) := ⟨rfl, rfl, rfl, by decide +kernel, rfl, by decide +kernel, by decide +kernel⟩
abbrev s_Book___init__ : Stmt := inClass (topS 55) 0
abbrev n_Book___init__ : List Str := ["self"]
abbrev p_Book___init__ : List Str := ["self"]
theorem sc_Book___init__ : FnScope n_Book___init__ p_Book___init__ (defScope s_Book___init__) := ⟨rfl, rfl, rfl, by decide +kernel, rfl, by decide +kernel, by decide +kernel⟩
abbrev s_Book_parts : Stmt := inClass (topS 55) 1
abbrev n_Book_parts : List Str := ["self"]
abbrev p_Book_parts : List Str := ["self"]
theorem sc_Book_parts : FnScope n_Book_parts p_Book_parts (defScope s_Book_parts) := ⟨rfl, rfl, rfl, by decide +kernel, rfl, by decide +kernel, by decide +kernel⟩
abbrev s_Book_keeps : Stmt := inClass (topS 55) 2
abbrev n_Book_keeps : List Str := ["self", "facts"]
abbrev p_Book_keeps : List Str := ["self", "facts"]
theorem sc_Book_keeps : FnScope n_Book_keeps p_Book_keeps (defScope s_Book_keeps) := ⟨rfl, rfl, rfl, by decide +kernel, rfl, by decide +kernel, by decide +kernel⟩
abbrev s_Book_begin : Stmt := inClass (topS 55) 3
abbrev n_Book_begin : List Str := ["self", "shares"]
abbrev p_Book_begin : List Str := ["self", "shares"]
theorem sc_Book_begin : FnScope n_Book_begin p_Book_begin (defScope s_Book_begin) := ⟨rfl, rfl, rfl, by decide +kernel, rfl, by decide +kernel, by decide +kernel⟩
abbrev s_Book_add_promise : Stmt := inClass (topS 55) 4
abbrev n_Book_add_promise : List Str := ["self", "promise"]
abbrev p_Book_add_promise : List Str := ["self", "promise"]
theorem sc_Book_add_promise : FnScope n_Book_add_promise p_Book_add_promise (defScope s_Book_add_promise) := ⟨rfl, rfl, rfl, by decide +kernel, rfl, by decide +kernel, by decide +kernel⟩
abbrev s_Book_put_facts : Stmt := inClass (topS 55) 5
abbrev n_Book_put_facts : List Str := ["self", "facts"]
abbrev p_Book_put_facts : List Str := ["self", "facts"]
theorem sc_Book_put_facts : FnScope n_Book_put_facts p_Book_put_facts (defScope s_Book_put_facts) := ⟨rfl, rfl, rfl, by decide +kernel, rfl, by decide +kernel, by decide +kernel⟩
abbrev s_answer_formula : Stmt := topS 57
abbrev n_answer_formula : List Str := ["book", "row"]
abbrev p_answer_formula : List Str := ["book", "row"]
theorem sc_answer_formula : FnScope n_answer_formula p_answer_formula (defScope s_answer_formula) := ⟨rfl, rfl, rfl, by decide +kernel, rfl, by decide +kernel, by decide +kernel⟩
abbrev s_answer_promise : Stmt := topS 58
abbrev n_answer_promise : List Str := ["book", "m", "i", "j", "w", "promise"]
abbrev p_answer_promise : List Str := ["book", "m", "i", "j", "w"]
theorem sc_answer_promise : FnScope n_answer_promise p_answer_promise (defScope s_answer_promise) := ⟨rfl, rfl, rfl, by decide +kernel, rfl, by decide +kernel, by decide +kernel⟩
abbrev s_answer_tell : Stmt := topS 59
abbrev n_answer_tell : List Str := ["book", "m", "i", "j", "a", "b", "fact", "refusal", "after"]
abbrev p_answer_tell : List Str := ["book", "m", "i", "j", "a", "b"]
theorem sc_answer_tell : FnScope n_answer_tell p_answer_tell (defScope s_answer_tell) := ⟨rfl, rfl, rfl, by decide +kernel, rfl, by decide +kernel, by decide +kernel⟩
abbrev s_answer_meet : Stmt := topS 60
abbrev n_answer_meet : List Str := ["book", "m", "after"]
abbrev p_answer_meet : List Str := ["book", "m"]
theorem sc_answer_meet : FnScope n_answer_meet p_answer_meet (defScope s_answer_meet) := ⟨rfl, rfl, rfl, by decide +kernel, rfl, by decide +kernel, by decide +kernel⟩
abbrev s_answer_may : Stmt := topS 62
abbrev n_answer_may : List Str := ["book", "m", "i", "j", "a", "b", "fact", "refusal"]
abbrev p_answer_may : List Str := ["book", "m", "i", "j", "a", "b"]
theorem sc_answer_may : FnScope n_answer_may p_answer_may (defScope s_answer_may) := ⟨rfl, rfl, rfl, by decide +kernel, rfl, by decide +kernel, by decide +kernel⟩
abbrev s_answer_would : Stmt := topS 63
abbrev n_answer_would : List Str := ["book", "m", "i", "j", "a", "b", "k", "fact", "refusal"]
abbrev p_answer_would : List Str := ["book", "m", "i", "j", "a", "b", "k"]
theorem sc_answer_would : FnScope n_answer_would p_answer_would (defScope s_answer_would) := ⟨rfl, rfl, rfl, by decide +kernel, rfl, by decide +kernel, by decide +kernel⟩
abbrev s_multiple_below : Stmt := topS 64
abbrev n_multiple_below : List Str := ["t", "q"]
abbrev p_multiple_below : List Str := ["t", "q"]
theorem sc_multiple_below : FnScope n_multiple_below p_multiple_below (defScope s_multiple_below) := ⟨rfl, rfl, rfl, by decide +kernel, rfl, by decide +kernel, by decide +kernel⟩
abbrev s_multiple_above : Stmt := topS 65
abbrev n_multiple_above : List Str := ["t", "q"]
abbrev p_multiple_above : List Str := ["t", "q"]
theorem sc_multiple_above : FnScope n_multiple_above p_multiple_above (defScope s_multiple_above) := ⟨rfl, rfl, rfl, by decide +kernel, rfl, by decide +kernel, by decide +kernel⟩
abbrev s_answer_finest : Stmt := topS 66
abbrev n_answer_finest : List Str := ["book", "m", "i", "j", "t", "q", "a", "b"]
abbrev p_answer_finest : List Str := ["book", "m", "i", "j"]
theorem sc_answer_finest : FnScope n_answer_finest p_answer_finest (defScope s_answer_finest) := ⟨rfl, rfl, rfl, by decide +kernel, rfl, by decide +kernel, by decide +kernel⟩
abbrev s_answer_inferred : Stmt := topS 67
abbrev n_answer_inferred : List Str := ["book", "k", "i", "j", "table"]
abbrev p_answer_inferred : List Str := ["book", "k", "i", "j"]
theorem sc_answer_inferred : FnScope n_answer_inferred p_answer_inferred (defScope s_answer_inferred) := ⟨rfl, rfl, rfl, by decide +kernel, rfl, by decide +kernel, by decide +kernel⟩
abbrev s_answer_all : Stmt := topS 68
abbrev n_answer_all : List Str := ["book", "k"]
abbrev p_answer_all : List Str := ["book", "k"]
theorem sc_answer_all : FnScope n_answer_all p_answer_all (defScope s_answer_all) := ⟨rfl, rfl, rfl, by decide +kernel, rfl, by decide +kernel, by decide +kernel⟩
abbrev s_answer_fits : Stmt := topS 69
abbrev n_answer_fits : List Str := ["book", "k", "row"]
abbrev p_answer_fits : List Str := ["book", "k", "row"]
theorem sc_answer_fits : FnScope n_answer_fits p_answer_fits (defScope s_answer_fits) := ⟨rfl, rfl, rfl, by decide +kernel, rfl, by decide +kernel, by decide +kernel⟩
abbrev s_answer_shows : Stmt := topS 70
abbrev n_answer_shows : List Str := ["book", "k", "i", "j", "side", "table"]
abbrev p_answer_shows : List Str := ["book", "k", "i", "j", "side"]
theorem sc_answer_shows : FnScope n_answer_shows p_answer_shows (defScope s_answer_shows) := ⟨rfl, rfl, rfl, by decide +kernel, rfl, by decide +kernel, by decide +kernel⟩
abbrev s_answer_leak : Stmt := topS 71
abbrev n_answer_leak : List Str := ["book"]
abbrev p_answer_leak : List Str := ["book"]
theorem sc_answer_leak : FnScope n_answer_leak p_answer_leak (defScope s_answer_leak) := ⟨rfl, rfl, rfl, by decide +kernel, rfl, by decide +kernel, by decide +kernel⟩
abbrev s_answer_promises : Stmt := topS 72
abbrev n_answer_promises : List Str := ["book", "answer", "m", "i", "j", "w"]
abbrev p_answer_promises : List Str := ["book"]
theorem sc_answer_promises : FnScope n_answer_promises p_answer_promises (defScope s_answer_promises) := ⟨rfl, rfl, rfl, by decide +kernel, rfl, by decide +kernel, by decide +kernel⟩
abbrev s_answer_told : Stmt := topS 73
abbrev n_answer_told : List Str := ["book", "k", "answer", "told", "i", "j", "a", "b"]
abbrev p_answer_told : List Str := ["book", "k"]
theorem sc_answer_told : FnScope n_answer_told p_answer_told (defScope s_answer_told) := ⟨rfl, rfl, rfl, by decide +kernel, rfl, by decide +kernel, by decide +kernel⟩
abbrev s_answer_sum : Stmt := topS 74
abbrev n_answer_sum : List Str := ["book", "i", "j"]
abbrev p_answer_sum : List Str := ["book", "i", "j"]
theorem sc_answer_sum : FnScope n_answer_sum p_answer_sum (defScope s_answer_sum) := ⟨rfl, rfl, rfl, by decide +kernel, rfl, by decide +kernel, by decide +kernel⟩
abbrev s_has_row : Stmt := topS 91
abbrev n_has_row : List Str := ["number"]
abbrev p_has_row : List Str := ["number"]
theorem sc_has_row : FnScope n_has_row p_has_row (defScope s_has_row) := ⟨rfl, rfl, rfl, by decide +kernel, rfl, by decide +kernel, by decide +kernel⟩
abbrev s_plain_end : Stmt := topS 92
abbrev n_plain_end : List Str := ["calls", "at"]
abbrev p_plain_end : List Str := ["calls", "at"]
theorem sc_plain_end : FnScope n_plain_end p_plain_end (defScope s_plain_end) := ⟨rfl, rfl, rfl, by decide +kernel, rfl, by decide +kernel, by decide +kernel⟩
abbrev s_call_end : Stmt := topS 93
abbrev n_call_end : List Str := ["calls", "at", "end"]
abbrev p_call_end : List Str := ["calls", "at"]
theorem sc_call_end : FnScope n_call_end p_call_end (defScope s_call_end) := ⟨rfl, rfl, rfl, by decide +kernel, rfl, by decide +kernel, by decide +kernel⟩
abbrev s_plain_of : Stmt := topS 94
abbrev n_plain_of : List Str := ["calls", "at"]
abbrev p_plain_of : List Str := ["calls", "at"]
theorem sc_plain_of : FnScope n_plain_of p_plain_of (defScope s_plain_of) := ⟨rfl, rfl, rfl, by decide +kernel, rfl, by decide +kernel, by decide +kernel⟩
abbrev s_row_of : Stmt := topS 95
abbrev n_row_of : List Str := ["calls", "at"]
abbrev p_row_of : List Str := ["calls", "at"]
theorem sc_row_of : FnScope n_row_of p_row_of (defScope s_row_of) := ⟨rfl, rfl, rfl, by decide +kernel, rfl, by decide +kernel, by decide +kernel⟩
abbrev s_answer_change : Stmt := topS 96
abbrev n_answer_change : List Str := ["book", "number", "plain", "row"]
abbrev p_answer_change : List Str := ["book", "number", "plain", "row"]
theorem sc_answer_change : FnScope n_answer_change p_answer_change (defScope s_answer_change) := ⟨rfl, rfl, rfl, by decide +kernel, rfl, by decide +kernel, by decide +kernel⟩
abbrev s_answer_question : Stmt := topS 97
abbrev n_answer_question : List Str := ["book", "number", "plain", "row"]
abbrev p_answer_question : List Str := ["book", "number", "plain", "row"]
theorem sc_answer_question : FnScope n_answer_question p_answer_question (defScope s_answer_question) := ⟨rfl, rfl, rfl, by decide +kernel, rfl, by decide +kernel, by decide +kernel⟩
abbrev s_answer_call : Stmt := topS 98
abbrev n_answer_call : List Str := ["book", "number", "plain", "row"]
abbrev p_answer_call : List Str := ["book", "number", "plain", "row"]
theorem sc_answer_call : FnScope n_answer_call p_answer_call (defScope s_answer_call) := ⟨rfl, rfl, rfl, by decide +kernel, rfl, by decide +kernel, by decide +kernel⟩
abbrev s_answers : Stmt := topS 99
abbrev n_answers : List Str := ["calls", "line", "book", "given", "at", "answer"]
abbrev p_answers : List Str := ["calls"]
theorem sc_answers : FnScope n_answers p_answers (defScope s_answers) := ⟨rfl, rfl, rfl, by decide +kernel, rfl, by decide +kernel, by decide +kernel⟩
/-- what the top has written -/
structure Txt (K : PySem.W.Frag) (mg : Str → Option Value) (C : Addr) (aS aW : Addr) : Prop where
  d_is_amount : DefAt K mg "is_amount" s_is_amount
  d_is_hearers : DefAt K mg "is_hearers" s_is_hearers
  d_is_run : DefAt K mg "is_run" s_is_run
  d_is_bounds : DefAt K mg "is_bounds" s_is_bounds
  d_is_side : DefAt K mg "is_side" s_is_side
  d_are_parts : DefAt K mg "are_parts" s_are_parts
  d_are_shares : DefAt K mg "are_shares" s_are_shares
  d_is_whole : DefAt K mg "is_whole" s_is_whole
  d_run_sum : DefAt K mg "run_sum" s_run_sum
  d_is_known : DefAt K mg "is_known" s_is_known
  d_known : DefAt K mg "known" s_known
  d_holds : DefAt K mg "holds" s_holds
  d_fits : DefAt K mg "fits" s_fits
  d_told_on : DefAt K mg "told_on" s_told_on
  d_after_meeting : DefAt K mg "after_meeting" s_after_meeting
  d_fact_refusal : DefAt K mg "fact_refusal" s_fact_refusal
  d_rule_limit : DefAt K mg "rule_limit" s_rule_limit
  d_direct_limit : DefAt K mg "direct_limit" s_direct_limit
  d_direct_row : DefAt K mg "direct_row" s_direct_row
  d_direct_table : DefAt K mg "direct_table" s_direct_table
  d_lowered : DefAt K mg "lowered" s_lowered
  d_through : DefAt K mg "through" s_through
  d_closed : DefAt K mg "closed" s_closed
  d_found_out : DefAt K mg "found_out" s_found_out
  d_least_sum : DefAt K mg "least_sum" s_least_sum
  d_greatest_sum : DefAt K mg "greatest_sum" s_greatest_sum
  d_width : DefAt K mg "width" s_width
  d_part_bands : DefAt K mg "part_bands" s_part_bands
  d_shown : DefAt K mg "shown" s_shown
  d_to_spare : DefAt K mg "to_spare" s_to_spare
  d_is_kept : DefAt K mg "is_kept" s_is_kept
  d_all_kept : DefAt K mg "all_kept" s_all_kept
  d_is_promised : DefAt K mg "is_promised" s_is_promised
  d_nearest : DefAt K mg "nearest" s_nearest
  d_Book___init__ : MethAt K C "__init__" "Book.__init__" s_Book___init__
  d_Book_parts : MethAt K C "parts" "Book.parts" s_Book_parts
  d_Book_keeps : MethAt K C "keeps" "Book.keeps" s_Book_keeps
  d_Book_begin : MethAt K C "begin" "Book.begin" s_Book_begin
  d_Book_add_promise : MethAt K C "add_promise" "Book.add_promise" s_Book_add_promise
  d_Book_put_facts : MethAt K C "put_facts" "Book.put_facts" s_Book_put_facts
  d_answer_formula : DefAt K mg "answer_formula" s_answer_formula
  d_answer_promise : DefAt K mg "answer_promise" s_answer_promise
  d_answer_tell : DefAt K mg "answer_tell" s_answer_tell
  d_answer_meet : DefAt K mg "answer_meet" s_answer_meet
  d_answer_may : DefAt K mg "answer_may" s_answer_may
  d_answer_would : DefAt K mg "answer_would" s_answer_would
  d_multiple_below : DefAt K mg "multiple_below" s_multiple_below
  d_multiple_above : DefAt K mg "multiple_above" s_multiple_above
  d_answer_finest : DefAt K mg "answer_finest" s_answer_finest
  d_answer_inferred : DefAt K mg "answer_inferred" s_answer_inferred
  d_answer_all : DefAt K mg "answer_all" s_answer_all
  d_answer_fits : DefAt K mg "answer_fits" s_answer_fits
  d_answer_shows : DefAt K mg "answer_shows" s_answer_shows
  d_answer_leak : DefAt K mg "answer_leak" s_answer_leak
  d_answer_promises : DefAt K mg "answer_promises" s_answer_promises
  d_answer_told : DefAt K mg "answer_told" s_answer_told
  d_answer_sum : DefAt K mg "answer_sum" s_answer_sum
  d_has_row : DefAt K mg "has_row" s_has_row
  d_plain_end : DefAt K mg "plain_end" s_plain_end
  d_call_end : DefAt K mg "call_end" s_call_end
  d_plain_of : DefAt K mg "plain_of" s_plain_of
  d_row_of : DefAt K mg "row_of" s_row_of
  d_answer_change : DefAt K mg "answer_change" s_answer_change
  d_answer_question : DefAt K mg "answer_question" s_answer_question
  d_answer_call : DefAt K mg "answer_call" s_answer_call
  d_answers : DefAt K mg "answers" s_answers
  c_WHOLE : GInt mg "WHOLE" 1000000
  c_MOST_PARTS : GInt mg "MOST_PARTS" 10
  c_ALL_HEARERS : GInt mg "ALL_HEARERS" 15
  c_MOST_PROMISES : GInt mg "MOST_PROMISES" 12
  c_MOST_FACTS : GInt mg "MOST_FACTS" 40
  c_DONE : GInt mg "DONE" 0
  c_OUT_OF_RANGE : GInt mg "OUT_OF_RANGE" (-1)
  c_NO_SUCH_RUN : GInt mg "NO_SUCH_RUN" (-3)
  c_THERE_ALREADY : GInt mg "THERE_ALREADY" (-8)
  c_CANT_BE_SO : GInt mg "CANT_BE_SO" (-4)
  c_NOT_KEPT : GInt mg "NOT_KEPT" (-7)
  c_TOO_MUCH : GInt mg "TOO_MUCH" (-9)
  c_LEAST_SIDE : GInt mg "LEAST_SIDE" 0
  c_GREATEST_SIDE : GInt mg "GREATEST_SIDE" 1
  c_FORMULA : GInt mg "FORMULA" 1
  c_PROMISE : GInt mg "PROMISE" 2
  c_TELL : GInt mg "TELL" 3
  c_MAY : GInt mg "MAY" 4
  c_WOULD : GInt mg "WOULD" 5
  c_FINEST : GInt mg "FINEST" 6
  c_MEET : GInt mg "MEET" 7
  c_INFERRED : GInt mg "INFERRED" 8
  c_ALL : GInt mg "ALL" 9
  c_FITS : GInt mg "FITS" 10
  c_SHOWS : GInt mg "SHOWS" 11
  c_LEAK : GInt mg "LEAK" 12
  c_PROMISES : GInt mg "PROMISES" 13
  c_TOLD : GInt mg "TOLD" 14
  g_STEPS : GTup K mg "STEPS" aS [1, 2, 5, 10, 20, 50, 100, 200, 500, 1000, 2000, 5000, 10000, 20000, 50000, 100000, 200000, 500000, 1000000]
  g_WHOLE_NUMBERS : GTup K mg "WHOLE_NUMBERS" aW [0, 0, 4, 5, 5, 6, 3, 1, 3, 1, 1, 4, 0, 0, 1, 2]
  b_len : mg "len" = none
  b_sum : mg "sum" = none
  b_list : mg "list" = none
  b_min : mg "min" = none
  b_range : mg "range" = none
  b_zip : mg "zip" = none
  cl : Cls K C
  a_shares : NoAttr K C "shares"
  a_promises : NoAttr K C "promises"
  a_facts : NoAttr K C "facts"
  g_Book : mg "Book" = some (.ref C)
  kC : PySem.W.keepIn K (.ref C) = true
  mC : PySem.W.makesIn K C = true
end Tl

namespace Tl
open SctSecret SctBase
/-! ### the mathematics: plain Lean -/
def ruleL (n u v : Nat) : Int := if u = v then 0 else if u < v then 1000000 else if u = n ∧ v = 0 then -1000000 else 0
def limStep (u v : Nat) (m : Int) (x : Fact) : Int := if x.first = u ∧ x.last + 1 = v then min m (x.high : Int) else if x.first = v ∧ x.last + 1 = u then min m (-(x.low : Int)) else m
def limM (n : Nat) (l : List Fact) (u v : Nat) : Int := l.foldl (limStep u v) (ruleL n u v)
def boundsM (n : Nat) (l : List Fact) : List (List Int) := (List.range (n + 1)).map fun (u : Nat) => (List.range (n + 1)).map fun (v : Nat) => limM n l u v
def apartM (n : Nat) (l : List Fact) : List (List Int) := (List.range (n + 1)).foldl (through n) (boundsM n l)
theorem limM_eq {n : Nat} (hn : 1 ≤ n) (l : List Fact) (u v : Nat) : limM n l u v = boundOf n l u v := by
  unfold limM boundOf
  have e : ruleL n u v = (if u < v then (WHOLE : Int) else if v = 0 ∧ u = n then -(WHOLE : Int) else 0) := by
    unfold ruleL WHOLE
    by_cases h1 : u = v
    · rw [if_pos h1, if_neg (by omega), if_neg (by omega)]
    · rw [if_neg h1]
      by_cases h2 : u < v
      · rw [if_pos h2, if_pos h2]; rfl
      · rw [if_neg h2, if_neg h2]
        by_cases h3 : u = n ∧ v = 0
        · rw [if_pos h3, if_pos ⟨h3.2, h3.1⟩]; rfl
        · rw [if_neg h3, if_neg (fun h => h3 ⟨h.2, h.1⟩)]
  rw [e]
  rfl
theorem apartM_eq {n : Nat} (hn : 1 ≤ n) (l : List Fact) : apartM n l = apart n l := by
  unfold apartM apart
  have e : boundsM n l = bounds n l := by
    unfold boundsM bounds
    refine List.map_congr_left fun u _ => List.map_congr_left fun v _ => limM_eq hn l u v
  rw [e]
/-- a table of n + 1 rows of n + 1 numbers -/
def Sq (n : Nat) (t : List (List Int)) : Prop := t.length = n + 1 ∧ ∀ (i : Nat) r, t[i]? = some r → r.length = n + 1
theorem sq_range {n : Nat} (f : Nat → Nat → Int) : Sq n ((List.range (n + 1)).map fun (u : Nat) => (List.range (n + 1)).map fun (v : Nat) => f u v) := by
  refine ⟨by rw [List.length_map, List.length_range], fun i r h => ?_⟩
  rw [List.getElem?_map] at h
  cases e : (List.range (n + 1))[i]? with
  | none => rw [e] at h; cases h
  | some u =>
    rw [e] at h
    have h2 := Option.some.inj h
    subst h2
    rw [List.length_map, List.length_range]
theorem sq_bounds (n : Nat) (l : List Fact) : Sq n (boundsM n l) := sq_range _
theorem sq_through (n : Nat) (t : List (List Int)) (w : Nat) : Sq n (through n t w) := sq_range _
/-- the table behind so many marks -/
def closedM (n : Nat) (t : List (List Int)) (k : Nat) : List (List Int) := (List.range k).foldl (through n) t
theorem closedM_succ (n : Nat) (t : List (List Int)) (k : Nat) : closedM n t (k + 1) = through n (closedM n t k) k := by
  unfold closedM
  rw [List.range_succ, List.foldl_append]
  rfl
theorem sq_closed {n : Nat} {t : List (List Int)} (h : Sq n t) : ∀ k, Sq n (closedM n t k)
  | 0 => h
  | k + 1 => by rw [closedM_succ]; exact sq_through n _ k
theorem sq_apart (n : Nat) (l : List Fact) : Sq n (apartM n l) := sq_closed (sq_bounds n l) (n + 1)
theorem Sq.row {n : Nat} {t : List (List Int)} (h : Sq n t) {u : Nat} (hu : u ≤ n) : t[u]? = some (t.getD u []) := by
  rw [List.getD_eq_getElem?_getD, List.getElem?_eq_getElem (by rw [h.1]; omega)]
  rfl
theorem Sq.item {n : Nat} {t : List (List Int)} (h : Sq n t) {u v : Nat} (hu : u ≤ n) (hv : v ≤ n) : (t.getD u [])[v]? = some (at_ t u v) := by
  have l := h.2 u _ (h.row hu)
  unfold at_
  rw [List.getD_eq_getElem?_getD (l := t.getD u []), List.getElem?_eq_getElem (by rw [l]; omega)]
  rfl
/-- what a set of hearers find out -/
def wideM (n : Nat) (l : List Fact) (i j : Nat) : Int := at_ (apartM n l) i (j + 1) - -(at_ (apartM n l) (j + 1) i)
theorem wideM_eq {n : Nat} (hn : 1 ≤ n) (l : List Fact) (i j : Nat) : wideM n l i j = wide n l i j := by
  unfold wideM wide band
  rw [apartM_eq hn]
/-! sums -/
theorem sumN_append : ∀ a b : List Nat, sumN (a ++ b) = sumN a + sumN b
  | [], b => by show sumN b = 0 + sumN b; omega
  | x :: a, b => by
    have ih := sumN_append a b
    show x + sumN (a ++ b) = x + sumN a + sumN b
    omega
theorem sumN_take_succ {l : List Nat} {k x : Nat} (h : l[k]? = some x) : sumN (l.take (k + 1)) = sumN (l.take k) + x := by
  rw [List.take_add_one, h, sumN_append]
  rfl
theorem sumOf_take (l : List Nat) (i j : Nat) : sumOf l i j = sumN ((l.drop i).take (j + 1 - i)) := by
  unfold sumOf
  rw [List.drop_take]
theorem sumN_take_le : ∀ (l : List Nat) (k : Nat), sumN (l.take k) ≤ sumN l
  | [], k => by rw [List.take_nil]; exact Nat.le_refl _
  | x :: l, 0 => Nat.zero_le _
  | x :: l, k + 1 => by
    have ih := sumN_take_le l k
    show x + sumN (l.take k) ≤ x + sumN l
    omega
theorem sumN_drop_le : ∀ (l : List Nat) (k : Nat), sumN (l.drop k) ≤ sumN l
  | [], k => by rw [List.drop_nil]; exact Nat.le_refl _
  | x :: l, 0 => Nat.le_refl _
  | x :: l, k + 1 => by
    have ih := sumN_drop_le l k
    show sumN (l.drop k) ≤ x + sumN l
    omega
theorem sumOf_le (l : List Nat) (i j : Nat) : sumOf l i j ≤ sumN l := by
  unfold sumOf
  exact Nat.le_trans (sumN_drop_le _ _) (sumN_take_le _ _)
theorem sumN_cast : ∀ l : List Nat, (l.map fun (n : Nat) => (n : Int)).sum = ((sumN l : Nat) : Int)
  | [] => rfl
  | x :: l => by
    have ih := sumN_cast l
    show ((x : Int) :: l.map fun (n : Nat) => (n : Int)).sum = ((x + sumN l : Nat) : Int)
    rw [List.sum_cons, ih]
    omega
end Tl

namespace Tl
open PySem PySem.Spec PyProof.Rows L2
/-! ### heaps -/
theorem same_new {H : Hp} {p : Addr} {o : HO} (h : H p = none) : Same H (upd H p o) := fun b x e => by
  rw [upd_ne (ne_of_none e h)]
  exact e
theorem same_mut {H H' : Hp} {p : Addr} {o : HO} (e : Same H H') (h : H p = none) : Same H (upd H' p o) := fun b x q => by
  rw [upd_ne (ne_of_none q h)]
  exact e b x q
/-- the list at a holds new (or old) objects, each c of a row -/
def Rows (H : Hp) (c : List V → HO) (a : Addr) (rows : List (List V)) : Prop :=
  ∃ xs : List V, H a = some (.lst xs) ∧ xs.length = rows.length ∧ ∀ (i : Nat) (f : List V), rows[i]? = some f → ∃ p, xs[i]? = some (.ref p) ∧ p ≠ a ∧ H p = some (c f)
section
variable {H H' : Hp} {c : List V → HO} {a : Addr} {rows : List (List V)}
theorem Rows.same (s : Same H H') (h : Rows H c a rows) : Rows H' c a rows := by
  obtain ⟨xs, h1, h2, h3⟩ := h
  refine ⟨xs, s _ _ h1, h2, fun i f e => ?_⟩
  obtain ⟨p, e1, e2, e3⟩ := h3 i f e
  exact ⟨p, e1, e2, s _ _ e3⟩
theorem Rows.list (h : Rows H c a rows) : ∃ xs : List V, H a = some (.lst xs) ∧ xs.length = rows.length ∧ ∀ (i : Nat) (f : List V), rows[i]? = some f → ∃ p, xs[i]? = some (.ref p) ∧ p ≠ a ∧ H p = some (c f) := h
theorem Rows.nil (h : H a = some (.lst [])) : Rows H c a [] := ⟨[], h, rfl, fun i f e => by simp at e⟩
/-- one more in the list of xs -/
theorem getElem?_snoc {α : Type} {l : List α} {x y : α} {i : Nat} (e : (l ++ [x])[i]? = some y) : (i < l.length ∧ l[i]? = some y) ∨ (i = l.length ∧ x = y) := by
  rcases Nat.lt_or_ge i l.length with hi | hi
  · rw [List.getElem?_append_left hi] at e
    exact .inl ⟨hi, e⟩
  · rw [List.getElem?_append_right hi] at e
    cases hk : i - l.length with
    | zero =>
      rw [hk] at e
      exact .inr ⟨by omega, Option.some.inj e⟩
    | succ k =>
      rw [hk] at e
      simp at e
theorem Rows.snoc {H' : Hp} {b p : Addr} {f : List V} {acc : List V} (h : Rows H c a rows) (ha : H a = some (.lst acc)) (hb : H' b = some (.lst (acc ++ [.ref p]))) (ho : ∀ q o, H q = some o → q ≠ b → H' q = some o) (hq : ∀ q f, q ≠ a → H q = some (c f) → q ≠ b) (hne : p ≠ b) (hp : H p = some (c f)) : Rows H' c b (rows ++ [f]) := by
  obtain ⟨xs, h1, h2, h3⟩ := h
  rw [h1] at ha
  obtain rfl : xs = acc := by
    injection ha with ha
    injection ha with ha
  refine ⟨_, hb, by rw [List.length_append, List.length_append, h2]; rfl, fun i g e => ?_⟩
  rcases getElem?_snoc e with ⟨hi, e⟩ | ⟨rfl, rfl⟩
  · obtain ⟨q, e1, e2, e3⟩ := h3 i g e
    exact ⟨q, by rw [List.getElem?_append_left (by omega)]; exact e1, hq q g e2 e3, ho _ _ e3 (hq q g e2 e3)⟩
  · refine ⟨p, ?_, hne, ho _ _ hp hne⟩
    rw [List.getElem?_append_right (by omega), h2, Nat.sub_self]
    rfl
/-- one more -/
theorem Rows.push {f : List V} {p : Addr} {acc : List V} (h : Rows H c a rows) (ha : H a = some (.lst acc)) (hp : H p = some (c f)) (hne : p ≠ a) : Rows (upd H a (.lst (acc ++ [.ref p]))) c a (rows ++ [f]) :=
  h.snoc ha upd_same (fun q o e n => by rw [upd_ne n]; exact e) (fun q _ n _ => n) hne hp
/-- a new list with one more -/
theorem Rows.cat {f : List V} {p b : Addr} {acc : List V} (h : Rows H c a rows) (ha : H a = some (.lst acc)) (hb : H b = none) (hp : H p = some (c f)) : Rows (upd H b (.lst (acc ++ [.ref p]))) c b (rows ++ [f]) :=
  h.snoc ha upd_same (fun q o e n => by rw [upd_ne n]; exact e) (fun q f _ e => ne_of_none e hb) (ne_of_none hp hb) hp
/-- a copy -/
theorem Rows.copy {b : Addr} {acc : List V} (h : Rows H c a rows) (ha : H a = some (.lst acc)) (hb : H b = none) : Rows (upd H b (.lst acc)) c b rows := by
  obtain ⟨xs, h1, h2, h3⟩ := h
  rw [h1] at ha
  obtain rfl : xs = acc := by
    injection ha with ha
    injection ha with ha
  refine ⟨_, upd_same, h2, fun i g e => ?_⟩
  obtain ⟨q, e1, e2, e3⟩ := h3 i g e
  have n := ne_of_none e3 hb
  exact ⟨q, e1, n, by rw [upd_ne n]; exact e3⟩
end
/-! ### loops and comprehensions in the forms that are wanted here -/
section
variable {K : PySem.W.Frag} {c : List V → HO} {a : Addr} {rows : List (List V)} {g : TG} {tb : TS} {D : Ends} {σ : L2.St} {H : Hp}
/-- a for over such a list, nothing else is changed -/
theorem forR {H0 : Hp} (hR : Rows H0 c a rows) (Pv : Nat → L2.St → Hp → Prop) (h0 : Pv 0 σ H) (hl : ∀ i σ H', Pv i σ H' → Same H0 H')
    (hs : ∀ i f p σ H', rows[i]? = some f → H' p = some (c f) → Pv i σ H' → g (.ref p) σ H' fun σ2 H2 => tb { D with nx := Pv (i + 1), ct := Pv (i + 1), bk := D.nx } σ2 H2) (hd : ∀ σ H', Pv rows.length σ H' → D.nx σ H') :
    ∃ b, V.ref a = .ref b ∧ (∃ xs, SqL K H b xs) ∧ ∃ W : Nat → Nat → L2.St → Hp → Prop, (∃ m, W 0 m σ H) ∧ ∀ i m σ H, W i m σ H →
      ((Itl K b).stop i H ∧ D.nx σ H) ∨ ((Itl K b).go i H ∧ ∃ N : L2.St → Hp → Prop, (∀ σ' H', N σ' H' → ∃ m', m' < m ∧ W (i + 1) m' σ' H') ∧ ∀ x H', (Itl K b).yld i H x H' → g x σ H' fun σ2 H2 => tb { D with nx := N, ct := N, bk := D.nx } σ2 H2) := by
  obtain ⟨xs, h1, h2, h3⟩ := hR.list
  refine ⟨a, rfl, ⟨xs, SqL.of (hl 0 σ H h0 _ _ h1)⟩, for_list (K := K) (a := a) (xs := xs) Pv h0 (fun i σ H' _ z => SqL.of (hl i σ H' z _ _ h1)) (fun i x σ H' e z => ?_) (fun σ H' z => hd σ H' (by rw [h2] at z; exact z))⟩
  have hi : i < rows.length := by
    have := (List.getElem?_eq_some_iff.mp e).1
    omega
  obtain ⟨p, e1, _, e3⟩ := h3 i rows[i] (List.getElem?_eq_getElem hi)
  have ex : x = .ref p := Option.some.inj (e.symm.trans e1)
  subst ex
  exact hs i _ p σ H' (List.getElem?_eq_getElem hi) (hl i σ H' z _ _ e3) z
/-- .. over a list of ints -/
theorem forI {ns : List Int} (hS : SqL K H a (ns.map V.int)) (Pv : Nat → L2.St → Hp → Prop) (h0 : Pv 0 σ H) (hl : ∀ i σ H', Pv i σ H' → Same H H')
    (hs : ∀ i n σ H', ns[i]? = some n → Pv i σ H' → g (.int n) σ H' fun σ2 H2 => tb { D with nx := Pv (i + 1), ct := Pv (i + 1), bk := D.nx } σ2 H2) (hd : ∀ σ H', Pv ns.length σ H' → D.nx σ H') :
    ∃ b, V.ref a = .ref b ∧ (∃ xs, SqL K H b xs) ∧ ∃ W : Nat → Nat → L2.St → Hp → Prop, (∃ m, W 0 m σ H) ∧ ∀ i m σ H, W i m σ H →
      ((Itl K b).stop i H ∧ D.nx σ H) ∨ ((Itl K b).go i H ∧ ∃ N : L2.St → Hp → Prop, (∀ σ' H', N σ' H' → ∃ m', m' < m ∧ W (i + 1) m' σ' H') ∧ ∀ x H', (Itl K b).yld i H x H' → g x σ H' fun σ2 H2 => tb { D with nx := N, ct := N, bk := D.nx } σ2 H2) := by
  refine ⟨a, rfl, ⟨_, hS⟩, for_list (K := K) (a := a) (xs := ns.map V.int) Pv h0 (fun i σ H' _ z => (hl i σ H' z).seq hS) (fun i x σ H' e z => ?_) (fun σ H' z => hd σ H' (by rw [List.length_map] at z; exact z))⟩
  rw [List.getElem?_map] at e
  cases e2 : ns[i]? with
  | none => rw [e2] at e; cases e
  | some n =>
    rw [e2] at e
    have ex := (Option.some.inj e).symm
    subst ex
    exact hs i n σ H' e2 z
end
section
variable {J : It} {n : Nat} {G : Hp → Prop} {Y : Nat → Hp → V → Hp → Prop} {g : TG} {te : TE} {vs : List Nat} {σ : L2.St} {H : Hp} {Qd : VK}
/-- a comprehension that makes values -/
theorem lcV (wk : Walk J n G Y) (f : Nat → V) (hn : n ≤ 100000) (hG : ∀ H', Same H H' → G H') (hY : ∀ i H1 x H2, Y i H1 x H2 → Same H1 H2)
    (hs : ∀ i x H1 H2, i < n → Same H H1 → Y i H1 x H2 → ∀ Q : VK, (∀ H4, Same H2 H4 → Q (f i) H4) → g x (wipe σ vs) H2 fun σ2 H3 => wipe σ2 vs = wipe σ vs ∧ te σ2 H3 Q)
    (mono : ∀ v σ H0 (Q Q' : L2.St → Hp → Prop), (∀ σ2 H2, Q σ2 H2 → Q' σ2 H2) → g v σ H0 Q → g v σ H0 Q')
    (hd : ∀ D H', H D = none → Same H H' → H' D = some (.lst ((List.range n).map f)) → Qd (.ref D) H') : tLc (fun _ H R => R J H) g tYes te vs σ H Qd := fun D hD => by
  refine lc_it wk (fun i H' => i ≤ n ∧ Same H H' ∧ H' D = some (.lst ((List.range i).map f))) ⟨Nat.zero_le _, same_new hD, upd_same⟩ (fun i H' _ z => hG H' z.2.1) (fun i x H1 H2 hi z hy => ?_) (fun H' z => hd D H' hD z.2.1 z.2.2)
  have s12 := hY i H1 x H2 hy
  refine mono _ _ _ _ _ ?_ (hs i x H1 H2 hi z.2.1 hy (fun y H4 => ∃ acc, H4 D = some (.lst acc) ∧ acc.length < sizeLine ∧ (i + 1 ≤ n ∧ Same H (upd H4 D (.lst (acc ++ [y]))) ∧ (upd H4 D (.lst (acc ++ [y]))) D = some (.lst ((List.range (i + 1)).map f)))) fun H4 s4 => ⟨_, s4 _ _ (s12 _ _ z.2.2), ?_, ?_⟩)
  · rintro σ2 H3 ⟨q1, q2⟩
    exact ⟨q1, q2⟩
  · rw [List.length_map, List.length_range]; exact Nat.lt_of_lt_of_le (Nat.lt_of_lt_of_le hi hn) (by decide)
  · refine ⟨hi, same_mut (z.2.1.trans (s12.trans s4)) hD, ?_⟩
    rw [upd_same, List.range_succ, List.map_append]
    rfl
/-- a comprehension that makes objects (or takes up old ones): rows -/
theorem lcO (wk : Walk J n G Y) (c : List V → HO) (f : Nat → List V) (hn : n ≤ 100000) (hG : ∀ H', Same H H' → G H') (hY : ∀ i H1 x H2, Y i H1 x H2 → Same H1 H2)
    (hs : ∀ D i x H1 H2, i < n → Same H H1 → (∃ acc, H2 D = some (.lst acc)) → Y i H1 x H2 → ∀ Q : VK, (∀ p H4, Same H2 H4 → p ≠ D → H4 p = some (c (f i)) → Q (.ref p) H4) → g x (wipe σ vs) H2 fun σ2 H3 => wipe σ2 vs = wipe σ vs ∧ te σ2 H3 Q)
    (mono : ∀ v σ H0 (Q Q' : L2.St → Hp → Prop), (∀ σ2 H2, Q σ2 H2 → Q' σ2 H2) → g v σ H0 Q → g v σ H0 Q')
    (hd : ∀ D H', H D = none → Same H H' → Rows H' c D ((List.range n).map f) → Qd (.ref D) H') : tLc (fun _ H R => R J H) g tYes te vs σ H Qd := fun D hD => by
  refine lc_it wk (fun i H' => i ≤ n ∧ Same H H' ∧ Rows H' c D ((List.range i).map f)) ⟨Nat.zero_le _, same_new hD, Rows.nil upd_same⟩ (fun i H' _ z => hG H' z.2.1) (fun i x H1 H2 hi z hy => ?_) (fun H' z => hd D H' hD z.2.1 z.2.2)
  have s12 := hY i H1 x H2 hy
  obtain ⟨acc, a1, a2, _⟩ := (z.2.2.same s12).list
  refine mono _ _ _ _ _ ?_ (hs D i x H1 H2 hi z.2.1 ⟨acc, a1⟩ hy (fun y H4 => ∃ acc, H4 D = some (.lst acc) ∧ acc.length < sizeLine ∧ (i + 1 ≤ n ∧ Same H (upd H4 D (.lst (acc ++ [y]))) ∧ Rows (upd H4 D (.lst (acc ++ [y]))) c D ((List.range (i + 1)).map f))) fun p H4 s4 hne hp => ⟨acc, s4 _ _ a1, ?_, ?_⟩)
  · rintro σ2 H3 ⟨q1, q2⟩
    exact ⟨q1, q2⟩
  · rw [a2, List.length_map, List.length_range]
    exact Nat.lt_of_lt_of_le (Nat.lt_of_lt_of_le hi hn) (by decide)
  · refine ⟨hi, same_mut (z.2.1.trans (s12.trans s4)) hD, ?_⟩
    rw [List.range_succ, List.map_append]
    exact Rows.push (z.2.2.same (s12.trans s4)) (s4 _ _ a1) hp hne
theorem gName_mono (j : Nat) : ∀ v σ H0 (Q Q' : L2.St → Hp → Prop), (∀ σ2 H2, Q σ2 H2 → Q' σ2 H2) → gName j v σ H0 Q → gName j v σ H0 Q' := fun _ _ _ _ _ h q => h _ _ q
theorem gPair_mono {K : PySem.W.Frag} (j k : Nat) : ∀ v σ H0 (Q Q' : L2.St → Hp → Prop), (∀ σ2 H2, Q σ2 H2 → Q' σ2 H2) → gTup K 2 (gCons (gName j) (gCons (gName k) gNil)) v σ H0 Q → gTup K 2 (gCons (gName j) (gCons (gName k) gNil)) v σ H0 Q' := by
  rintro v σ H0 Q Q' h ⟨a, xs, e, s, l, v1, r1, e1, v2, r2, e2, e3, q⟩
  exact ⟨a, xs, e, s, l, v1, r1, e1, v2, r2, e2, e3, h _ _ q⟩
end
/-! ### what the data are -/
def fV (x : SctSecret.Fact) : List V := [.int x.to_, .int x.first, .int x.last, .int x.low, .int x.high]
def prV (p : SctSecret.Promise) : List V := [.int p.to_, .int p.first, .int p.last, .int p.wide]
def sV (l : List Nat) : List V := l.map fun (n : Nat) => V.int n
def rV (r : List Int) : List V := r.map V.int
/-- facts in form -/
def FOk (n : Nat) (l : List SctSecret.Fact) : Prop := ∀ x ∈ l, x.first ≤ x.last ∧ x.last < n
end Tl

namespace Tl
open PySem PySem.Spec PyProof.Rows L2 SctSecret SctBase
section
variable {P : Program} {w : World} {K : PySem.W.Frag} {mg : Str → Option Value} {base : Heap} {C aS aW : Addr}
local macro_rules | `(tactic| walk_at "rd") => `(tactic| simp only [L2.start, wipe, List.replicate_succ, List.replicate_zero, Nat.reduceSub, Nat.reduceAdd, Nat.zero_add, List.map_cons, List.map_nil, List.length_cons, List.length_nil, tSeq, tRet, tAsg, gName, gTup, gCons, gNil, tVar, tC, tOp, tUn, rI0, rI, rU, rEq, rNe, tChain, tChain3, tCons, tNil, tOrV, tAndV, tIfS, tNext, tTest, tB, tNot, tAnd, tOr, tAug, ipI, tCall, tCB, tDrop, tBM, tBM0, tFld, tMeth, rAppend, rExtend, rCat, tTup, tLst, rIxL, rIxT, scal, V.bl.injEq, V.int.injEq, V.ref.injEq, List.cons.injEq, and_true, List.getElem?_cons_succ, List.getElem?_cons_zero, List.cons_append, List.nil_append, List.append_nil, Option.some.injEq, exists_eq_left', exists_and_left, and_assoc, Int.natCast_inj, Int.zero_add, true_and, List.set_cons_succ, List.set_cons_zero])
def spIsAmount : Sp := fun vs H Q _ => ∃ i : Int, vs = [.int i] ∧ Q (.bl (decide (0 ≤ i) && decide (i ≤ 1000000))) H
local macro_rules | `(tactic| walk_at "rd") => `(tactic| simp only [L2.start, wipe, List.replicate_succ, List.replicate_zero, Nat.reduceSub, Nat.reduceAdd, Nat.zero_add, List.map_cons, List.map_nil, List.length_cons, List.length_nil, tSeq, tRet, tAsg, gName, gTup, gCons, gNil, tVar, tC, tOp, tUn, rI0, rI, rU, rEq, rNe, tChain, tChain3, tCons, tNil, tOrV, tAndV, tIfS, tNext, tTest, tB, tNot, tAnd, tOr, tAug, ipI, tCall, tCB, tDrop, tBM, tBM0, tFld, tMeth, rAppend, rExtend, rCat, tTup, tLst, rIxL, rIxT, scal, V.bl.injEq, V.int.injEq, V.ref.injEq, List.cons.injEq, and_true, List.getElem?_cons_succ, List.getElem?_cons_zero, List.cons_append, List.nil_append, List.append_nil, Option.some.injEq, exists_eq_left', exists_and_left, and_assoc, Int.natCast_inj, Int.zero_add, true_and, List.set_cons_succ, List.set_cons_zero])
theorem ok_is_amount (T : Txt K mg C aS aW) : FnG P w K mg base 1 "is_amount" p_is_amount spIsAmount := by
  refine FnG.of T.d_is_amount sc_is_amount (fun _ _ _ _ _ _ us hl => match us, hl with | [_], _ => rfl) (by rintro vs H Q E ⟨i, rfl, q⟩; rfl) (fun f cdv A outer s H vs Q E hr h => ?_)
  obtain ⟨i, rfl, q⟩ := h
  refine ⟨_, (pss_one (ps_ret (pe_chain op_le op_le pe_int (pv 0) (pe_gint T.c_WHOLE rfl) (by rfl)))), ?_⟩
  walk_at "rd"
  by_cases h : 0 ≤ i
  · rw [decide_eq_true h] at q ⊢
    exact q
  · rw [decide_eq_false h] at q ⊢
    exact q
def spIsHearers : Sp := fun vs H Q _ => ∃ m : Int, vs = [.int m] ∧ Q (.bl (isSet m)) H
local macro_rules | `(tactic| walk_at "rd") => `(tactic| simp only [L2.start, wipe, List.replicate_succ, List.replicate_zero, Nat.reduceSub, Nat.reduceAdd, Nat.zero_add, List.map_cons, List.map_nil, List.length_cons, List.length_nil, tSeq, tRet, tAsg, gName, gTup, gCons, gNil, tVar, tC, tOp, tUn, rI0, rI, rU, rEq, rNe, tChain, tChain3, tCons, tNil, tOrV, tAndV, tIfS, tNext, tTest, tB, tNot, tAnd, tOr, tAug, ipI, tCall, tCB, tDrop, tBM, tBM0, tFld, tMeth, rAppend, rExtend, rCat, tTup, tLst, rIxL, rIxT, scal, V.bl.injEq, V.int.injEq, V.ref.injEq, List.cons.injEq, and_true, List.getElem?_cons_succ, List.getElem?_cons_zero, List.cons_append, List.nil_append, List.append_nil, Option.some.injEq, exists_eq_left', exists_and_left, and_assoc, Int.natCast_inj, Int.zero_add, true_and, List.set_cons_succ, List.set_cons_zero])
theorem ok_is_hearers (T : Txt K mg C aS aW) : FnG P w K mg base 1 "is_hearers" p_is_hearers spIsHearers := by
  refine FnG.of T.d_is_hearers sc_is_hearers (fun _ _ _ _ _ _ us hl => match us, hl with | [_], _ => rfl) (by rintro vs H Q E ⟨m, rfl, q⟩; rfl) (fun f cdv A outer s H vs Q E hr h => ?_)
  obtain ⟨m, rfl, q⟩ := h
  refine ⟨_, (pss_one (ps_ret (pe_chain op_le op_le pe_int (pv 0) (pe_gint T.c_ALL_HEARERS rfl) (by rfl)))), ?_⟩
  walk_at "rd"
  unfold isSet SETS at q
  have e : decide (m ≤ 15) = decide (m < ((16 : Nat) : Int)) := by rw [decide_eq_decide]; omega
  rw [e]
  by_cases h : 1 ≤ m
  · rw [decide_eq_true h] at q ⊢
    exact q
  · rw [decide_eq_false h] at q ⊢
    exact q
def spIsRun : Sp := fun vs H Q _ => ∃ i j : Int, vs = [.int i, .int j] ∧ Q (.bl (isRun i j)) H
local macro_rules | `(tactic| walk_at "rd") => `(tactic| simp only [L2.start, wipe, List.replicate_succ, List.replicate_zero, Nat.reduceSub, Nat.reduceAdd, Nat.zero_add, List.map_cons, List.map_nil, List.length_cons, List.length_nil, tSeq, tRet, tAsg, gName, gTup, gCons, gNil, tVar, tC, tOp, tUn, rI0, rI, rU, rEq, rNe, tChain, tChain3, tCons, tNil, tOrV, tAndV, tIfS, tNext, tTest, tB, tNot, tAnd, tOr, tAug, ipI, tCall, tCB, tDrop, tBM, tBM0, tFld, tMeth, rAppend, rExtend, rCat, tTup, tLst, rIxL, rIxT, scal, V.bl.injEq, V.int.injEq, V.ref.injEq, List.cons.injEq, and_true, List.getElem?_cons_succ, List.getElem?_cons_zero, List.cons_append, List.nil_append, List.append_nil, Option.some.injEq, exists_eq_left', exists_and_left, and_assoc, Int.natCast_inj, Int.zero_add, true_and, List.set_cons_succ, List.set_cons_zero])
theorem ok_is_run (T : Txt K mg C aS aW) : FnG P w K mg base 1 "is_run" p_is_run spIsRun := by
  refine FnG.of T.d_is_run sc_is_run (fun _ _ _ _ _ _ us hl => match us, hl with | [_, _], _ => rfl) (by rintro vs H Q E ⟨i, j, rfl, q⟩; rfl) (fun f cdv A outer s H vs Q E hr h => ?_)
  obtain ⟨i, j, rfl, q⟩ := h
  refine ⟨_, (pss_one (ps_ret (pe_chain op_le op_le pe_int (pv 0) (pv 1) (by rfl)))), ?_⟩
  walk_at "rd"
  unfold isRun at q
  by_cases h : 0 ≤ i
  · rw [decide_eq_true h] at q ⊢
    exact q
  · rw [decide_eq_false h] at q ⊢
    exact q
def spIsBounds : Sp := fun vs H Q _ => ∃ a b : Int, vs = [.int a, .int b] ∧ Q (.bl (isBand a b)) H
local macro_rules | `(tactic| walk_at "rd") => `(tactic| simp only [L2.start, wipe, List.replicate_succ, List.replicate_zero, Nat.reduceSub, Nat.reduceAdd, Nat.zero_add, List.map_cons, List.map_nil, List.length_cons, List.length_nil, tSeq, tRet, tAsg, gName, gTup, gCons, gNil, tVar, tC, tOp, tUn, rI0, rI, rU, rEq, rNe, tChain, tChain3, tCons, tNil, tOrV, tAndV, tIfS, tNext, tTest, tB, tNot, tAnd, tOr, tAug, ipI, tCall, tCB, tDrop, tBM, tBM0, tFld, tMeth, rAppend, rExtend, rCat, tTup, tLst, rIxL, rIxT, scal, V.bl.injEq, V.int.injEq, V.ref.injEq, List.cons.injEq, and_true, List.getElem?_cons_succ, List.getElem?_cons_zero, List.cons_append, List.nil_append, List.append_nil, Option.some.injEq, exists_eq_left', exists_and_left, and_assoc, Int.natCast_inj, Int.zero_add, true_and, List.set_cons_succ, List.set_cons_zero])
theorem ok_is_bounds (T : Txt K mg C aS aW) : FnG P w K mg base 1 "is_bounds" p_is_bounds spIsBounds := by
  refine FnG.of T.d_is_bounds sc_is_bounds (fun _ _ _ _ _ _ us hl => match us, hl with | [_, _], _ => rfl) (by rintro vs H Q E ⟨a, b, rfl, q⟩; rfl) (fun f cdv A outer s H vs Q E hr h => ?_)
  obtain ⟨a, b, rfl, q⟩ := h
  refine ⟨_, (pss_one (ps_ret (pe_chain3 op_le op_le op_le pe_int (pv 0) (pv 1) (pe_gint T.c_WHOLE rfl) (by rfl)))), ?_⟩
  walk_at "rd"
  unfold isBand WHOLE at q
  by_cases h : 0 ≤ a
  · rw [decide_eq_true h] at q ⊢
    by_cases h2 : a ≤ b
    · rw [decide_eq_true h2] at q ⊢
      exact q
    · rw [decide_eq_false h2] at q ⊢
      exact q
  · rw [decide_eq_false h] at q ⊢
    exact q
def spIsSide : Sp := fun vs H Q _ => ∃ e : Int, vs = [.int e] ∧ Q (.bl (decide (e = 0) || decide (e = 1))) H
local macro_rules | `(tactic| walk_at "rd") => `(tactic| simp only [L2.start, wipe, List.replicate_succ, List.replicate_zero, Nat.reduceSub, Nat.reduceAdd, Nat.zero_add, List.map_cons, List.map_nil, List.length_cons, List.length_nil, tSeq, tRet, tAsg, gName, gTup, gCons, gNil, tVar, tC, tOp, tUn, rI0, rI, rU, rEq, rNe, tChain, tChain3, tCons, tNil, tOrV, tAndV, tIfS, tNext, tTest, tB, tNot, tAnd, tOr, tAug, ipI, tCall, tCB, tDrop, tBM, tBM0, tFld, tMeth, rAppend, rExtend, rCat, tTup, tLst, rIxL, rIxT, scal, V.bl.injEq, V.int.injEq, V.ref.injEq, List.cons.injEq, and_true, List.getElem?_cons_succ, List.getElem?_cons_zero, List.cons_append, List.nil_append, List.append_nil, Option.some.injEq, exists_eq_left', exists_and_left, and_assoc, Int.natCast_inj, Int.zero_add, true_and, List.set_cons_succ, List.set_cons_zero])
theorem ok_is_side (T : Txt K mg C aS aW) : FnG P w K mg base 1 "is_side" p_is_side spIsSide := by
  refine FnG.of T.d_is_side sc_is_side (fun _ _ _ _ _ _ us hl => match us, hl with | [_], _ => rfl) (by rintro vs H Q E ⟨e, rfl, q⟩; rfl) (fun f cdv A outer s H vs Q E hr h => ?_)
  obtain ⟨e, rfl, q⟩ := h
  refine ⟨_, (pss_one (ps_ret (pe_or (pe_cmpR op_eq (pv 0) (pe_gint T.c_LEAST_SIDE rfl) (nomark _)) (pe_one (pe_cmpR op_eq (pv 0) (pe_gint T.c_GREATEST_SIDE rfl) (nomark _)))))), ?_⟩
  walk_at "rd"
  by_cases h : e = 0
  · rw [decide_eq_true h] at q ⊢
    exact q
  · rw [decide_eq_false h] at q ⊢
    exact q
def spAreParts : Sp := fun vs H Q _ => ∃ n : Int, vs = [.int n] ∧ Q (.bl (decide (1 ≤ n) && decide (n ≤ 10))) H
local macro_rules | `(tactic| walk_at "rd") => `(tactic| simp only [L2.start, wipe, List.replicate_succ, List.replicate_zero, Nat.reduceSub, Nat.reduceAdd, Nat.zero_add, List.map_cons, List.map_nil, List.length_cons, List.length_nil, tSeq, tRet, tAsg, gName, gTup, gCons, gNil, tVar, tC, tOp, tUn, rI0, rI, rU, rEq, rNe, tChain, tChain3, tCons, tNil, tOrV, tAndV, tIfS, tNext, tTest, tB, tNot, tAnd, tOr, tAug, ipI, tCall, tCB, tDrop, tBM, tBM0, tFld, tMeth, rAppend, rExtend, rCat, tTup, tLst, rIxL, rIxT, scal, V.bl.injEq, V.int.injEq, V.ref.injEq, List.cons.injEq, and_true, List.getElem?_cons_succ, List.getElem?_cons_zero, List.cons_append, List.nil_append, List.append_nil, Option.some.injEq, exists_eq_left', exists_and_left, and_assoc, Int.natCast_inj, Int.zero_add, true_and, List.set_cons_succ, List.set_cons_zero])
theorem ok_are_parts (T : Txt K mg C aS aW) : FnG P w K mg base 1 "are_parts" p_are_parts spAreParts := by
  refine FnG.of T.d_are_parts sc_are_parts (fun _ _ _ _ _ _ us hl => match us, hl with | [_], _ => rfl) (by rintro vs H Q E ⟨n, rfl, q⟩; rfl) (fun f cdv A outer s H vs Q E hr h => ?_)
  obtain ⟨n, rfl, q⟩ := h
  refine ⟨_, (pss_one (ps_ret (pe_chain op_le op_le pe_int (pv 0) (pe_gint T.c_MOST_PARTS rfl) (by rfl)))), ?_⟩
  walk_at "rd"
  by_cases h : 1 ≤ n
  · rw [decide_eq_true h] at q ⊢
    exact q
  · rw [decide_eq_false h] at q ⊢
    exact q
theorem bitAnd_nat (a b : Nat) : Builtin.bitAnd (a : Int) (b : Int) = ((a &&& b : Nat) : Int) := by
  rw [bitAnd_pp (by omega) (by omega), Int.toNat_natCast, Int.toNat_natCast]
theorem bitOr_nat (a b : Nat) : Builtin.bitOr (a : Int) (b : Int) = ((a ||| b : Nat) : Int) := by
  rw [Bits.bitOr_pp (by omega) (by omega), Int.toNat_natCast, Int.toNat_natCast]
def spRuleLimit : Sp := fun vs H Q _ => ∃ n u v : Nat, vs = [.int n, .int u, .int v] ∧ Q (.int (ruleL n u v)) H
local macro_rules | `(tactic| walk_at "rd") => `(tactic| simp only [L2.start, wipe, List.replicate_succ, List.replicate_zero, Nat.reduceSub, Nat.reduceAdd, Nat.zero_add, List.map_cons, List.map_nil, List.length_cons, List.length_nil, tSeq, tRet, tAsg, gName, gTup, gCons, gNil, tVar, tC, tOp, tUn, rI0, rI, rU, rEq, rNe, tChain, tChain3, tCons, tNil, tOrV, tAndV, tIfS, tNext, tTest, tB, tNot, tAnd, tOr, tAug, ipI, tCall, tCB, tDrop, tBM, tBM0, tFld, tMeth, rAppend, rExtend, rCat, tTup, tLst, rIxL, rIxT, scal, V.bl.injEq, V.int.injEq, V.ref.injEq, List.cons.injEq, and_true, List.getElem?_cons_succ, List.getElem?_cons_zero, List.cons_append, List.nil_append, List.append_nil, Option.some.injEq, exists_eq_left', exists_and_left, and_assoc, Int.natCast_inj, Int.zero_add, true_and, List.set_cons_succ, List.set_cons_zero])
theorem ok_rule_limit (T : Txt K mg C aS aW) : FnG P w K mg base 1 "rule_limit" p_rule_limit spRuleLimit := by
  refine FnG.of T.d_rule_limit sc_rule_limit (fun _ _ _ _ _ _ us hl => match us, hl with | [_, _, _], _ => rfl) (by rintro vs H Q E ⟨n, u, v, rfl, q⟩; rfl) (fun f cdv A outer s H vs Q E hr h => ?_)
  obtain ⟨n, u, v, rfl, q⟩ := h
  refine ⟨_, (pss_cons (ps_if (pt_cmpR op_eq (pv 1) (pv 2) (nomark _)) (pss_one (ps_ret pe_int)) pss_nil)
      (pss_cons (ps_if (pt_cmpR op_lt (pv 1) (pv 2) (nomark _)) (pss_one (ps_ret (pe_gint T.c_WHOLE rfl))) pss_nil)
      (pss_cons (ps_if (PW.pt (pw_and (pt_cmpR op_eq (pv 1) (pv 0) (nomark _)) (pw_and1 (pt_cmpR op_eq (pv 2) pe_int (nomark _))))) (pss_one (ps_ret (pe_un un_neg (pe_gint T.c_WHOLE rfl)))) pss_nil)
      (pss_one (ps_ret pe_int))))), ?_⟩
  walk_at "rd"
  simp only [decide_eq_true_eq, Bool.false_eq_true, if_false]
  repeat' split
  all_goals (refine cast (congrArg (fun z => Q (V.int z) H) ?_) q; unfold ruleL; repeat' split)
  all_goals omega
def spAreShares (K : PySem.W.Frag) : Sp := fun vs H Q _ => ∃ (a : Addr) (ns : List Int), vs = [.ref a] ∧ SqL K H a (ns.map V.int) ∧ Q (.bl (isShares ns)) H
local macro_rules | `(tactic| walk_at "rd") => `(tactic| simp only [L2.start, wipe, List.replicate_succ, List.replicate_zero, Nat.reduceSub, Nat.reduceAdd, Nat.zero_add, List.map_cons, List.map_nil, List.length_cons, List.length_nil, tSeq, tRet, tAsg, gName, gTup, gCons, gNil, tVar, tC, tOp, tUn, rI0, rI, rU, rEq, rNe, tChain, tChain3, tCons, tNil, tOrV, tAndV, tIfS, tNext, tTest, tB, tNot, tAnd, tOr, tAug, ipI, tCall, tCB, tDrop, tBM, tBM0, tFld, tMeth, rAppend, rExtend, rCat, tTup, tLst, rIxL, rIxT, scal, V.bl.injEq, V.int.injEq, V.ref.injEq, List.cons.injEq, and_true, List.getElem?_cons_succ, List.getElem?_cons_zero, List.cons_append, List.nil_append, List.append_nil, Option.some.injEq, exists_eq_left', exists_and_left, and_assoc, Int.natCast_inj, Int.zero_add, true_and, List.set_cons_succ, List.set_cons_zero, spIsAmount])
theorem ok_are_shares (T : Txt K mg C aS aW) : FnG P w K mg base 2 "are_shares" p_are_shares (spAreShares K) := by
  obtain ⟨_, _, g_is_amount, k_is_amount, b_is_amount, o_is_amount⟩ := (ok_is_amount (P := P) (w := w) (base := base) T).ex
  refine FnG.of T.d_are_shares sc_are_shares (fun _ _ _ _ _ _ us hl => match us, hl with | [_], _ => rfl) (by rintro vs H Q E ⟨a, ns, rfl, hS, q⟩; rfl) (fun f cdv A outer s H vs Q E hr h => ?_)
  obtain ⟨a, ns, rfl, hS, q⟩ := h
  refine ⟨_, (pss_cons (ps_for PassesOwn.never rfl (pi_list (pv 0)) (pg_name (i := 1) sc_are_shares.nd rfl (Or.inl rfl)) (pss_one (ps_if (pt_not (pt_val (pe_call o_is_amount (hr.mono (by decide)) rfl g_is_amount k_is_amount b_is_amount .nil pass0 (pa_cons (pv 1) pa_nil)))) (pss_one (ps_ret pe_bl)) pss_nil)))
      (pss_one (ps_ret pe_bl))), ?_⟩
  refine ⟨_, rfl, forI hS (fun i σ H' => ∃ v, σ = [some (.ref a), v] ∧ H' = H ∧ isShares (ns.take i) = true) ⟨_, rfl, rfl, rfl⟩ (by rintro i σ H' ⟨_, _, rfl, _⟩; exact Same.refl _) ?_ ?_⟩
  · rintro i n σ H' hn ⟨v, rfl, rfl, hi⟩
    have e : isShares (ns.take (i + 1)) = (isShares (ns.take i) && (decide (0 ≤ n) && decide (n ≤ 1000000))) := by
      unfold isShares WHOLE
      rw [List.take_add_one, hn, List.all_append]
      simp
    walk_at "rd"
    refine ite2 (fun h => ?_) (fun h => ?_)
    · have e2 : isShares ns = false := by
        rw [Bool.not_eq_true'] at h
        rw [hi, h, Bool.and_false] at e
        cases e3 : isShares ns with
        | false => rfl
        | true =>
          unfold isShares at e e3
          rw [List.all_eq_true] at e3
          rw [List.all_eq_false] at e
          obtain ⟨x, hx, hx2⟩ := e
          exact absurd (e3 x (List.mem_of_mem_take hx)) hx2
      rw [e2] at q
      exact q
    · rw [e, hi, Bool.true_and]
      simpa using h
  · rintro σ H' ⟨v, rfl, rfl, hi⟩
    rw [List.take_length] at hi
    rw [hi] at q
    exact q
def spIsWhole (K : PySem.W.Frag) : Sp := fun vs H Q _ => ∃ (a : Addr) (ns : List Int), vs = [.ref a] ∧ SqL K H a (ns.map V.int) ∧ Q (.bl (decide (ns.sum = 1000000))) H
local macro_rules | `(tactic| walk_at "rd") => `(tactic| simp only [L2.start, wipe, List.replicate_succ, List.replicate_zero, Nat.reduceSub, Nat.reduceAdd, Nat.zero_add, List.map_cons, List.map_nil, List.length_cons, List.length_nil, tSeq, tRet, tAsg, gName, gTup, gCons, gNil, tVar, tC, tOp, tUn, rI0, rI, rU, rEq, rNe, tChain, tChain3, tCons, tNil, tOrV, tAndV, tIfS, tNext, tTest, tB, tNot, tAnd, tOr, tAug, ipI, tCall, tCB, tDrop, tBM, tBM0, tFld, tMeth, rAppend, rExtend, rCat, tTup, tLst, rIxL, rIxT, scal, V.bl.injEq, V.int.injEq, V.ref.injEq, List.cons.injEq, and_true, List.getElem?_cons_succ, List.getElem?_cons_zero, List.cons_append, List.nil_append, List.append_nil, Option.some.injEq, exists_eq_left', exists_and_left, and_assoc, Int.natCast_inj, Int.zero_add, true_and, List.set_cons_succ, List.set_cons_zero])
theorem ok_is_whole (T : Txt K mg C aS aW) : FnG P w K mg base 1 "is_whole" p_is_whole (spIsWhole K) := by
  refine FnG.of T.d_is_whole sc_is_whole (fun _ _ _ _ _ _ us hl => match us, hl with | [_], _ => rfl) (by rintro vs H Q E ⟨a, ns, rfl, hS, q⟩; rfl) (fun f cdv A outer s H vs Q E hr h => ?_)
  obtain ⟨a, ns, rfl, hS, q⟩ := h
  refine ⟨_, (pss_one (ps_ret (pe_cmpR op_eq (pe_callB (cr_sum rfl) rfl T.b_sum (by decide +kernel) (pa_cons (pv 0) pa_nil)) (pe_gint T.c_WHOLE rfl) (nomark _)))), ?_⟩
  exact ⟨_, rfl, a, ns, rfl, hS, rfl, cast (congrArg (fun z => Q (V.bl z) H) (by rw [decide_eq_decide]; exact ⟨fun h => congrArg V.int h, fun h => V.int.inj h⟩)) q⟩
def spRunSum (K : PySem.W.Frag) : Sp := fun vs H Q _ => ∃ (a : Addr) (l : List Nat) (i j : Nat), vs = [.ref a, .int i, .int j] ∧ SqL K H a (sV l) ∧ i ≤ j ∧ j < l.length ∧ l.length ≤ 1000 ∧ Q (.int (sumOf l i j)) H
local macro_rules | `(tactic| walk_at "rd") => `(tactic| simp only [L2.start, wipe, List.replicate_succ, List.replicate_zero, Nat.reduceSub, Nat.reduceAdd, Nat.zero_add, List.map_cons, List.map_nil, List.length_cons, List.length_nil, tSeq, tRet, tAsg, gName, gTup, gCons, gNil, tVar, tC, tOp, tUn, rI0, rI, rU, rEq, rNe, tChain, tChain3, tCons, tNil, tOrV, tAndV, tIfS, tNext, tTest, tB, tNot, tAnd, tOr, tAug, ipI, tCall, tCB, tDrop, tBM, tBM0, tFld, tMeth, rAppend, rExtend, rCat, tTup, tLst, rIxL, rIxT, scal, V.bl.injEq, V.int.injEq, V.ref.injEq, List.cons.injEq, and_true, List.getElem?_cons_succ, List.getElem?_cons_zero, List.cons_append, List.nil_append, List.append_nil, Option.some.injEq, exists_eq_left', exists_and_left, and_assoc, Int.natCast_inj, Int.zero_add, true_and, List.set_cons_succ, List.set_cons_zero])
theorem ok_run_sum (T : Txt K mg C aS aW) : FnG P w K mg base 1 "run_sum" p_run_sum (spRunSum K) := by
  refine FnG.of T.d_run_sum sc_run_sum (fun _ _ _ _ _ _ us hl => match us, hl with | [_, _, _], _ => rfl) (by rintro vs H Q E ⟨a, l, i, j, rfl, hS, hij, hj, hl, q⟩; rfl) (fun f cdv A outer s H vs Q E hr h => ?_)
  obtain ⟨a, l, i, j, rfl, hS, hij, hj, hl, q⟩ := h
  refine ⟨_, (pss_cons (ps_set (i := 3) sc_run_sum.nd rfl (Or.inl rfl) pe_int)
      (pss_cons (ps_for PassesOwn.never rfl (pi_range2 rfl T.b_range (pa_cons (pv 1) (pa_cons (pe_op op_add (pv 2) pe_int) pa_nil))) (pg_name (i := 4) sc_run_sum.nd rfl (Or.inl rfl)) (pss_one (ps_aug (i := 3) sc_run_sum.nd rfl (Or.inl rfl) (pe_ix (ix_listK (K := K) rfl) (pv 0) (pv 4) (fun _ _ => rfl)) ip_add)))
      (pss_one (ps_ret (pv 3))))), ?_⟩
  refine ⟨_, rfl, _, rfl, _, 1, rfl, rfl, (i : Int), ((j : Int) + 1), rfl, ⟨by omega, by omega, by omega, by omega⟩, ?_⟩
  have en : ((j : Int) + 1 - (i : Int)).toNat = j + 1 - i := by omega
  rw [en]
  refine for_range (fun k σ H' => ∃ v, σ = [some (.ref a), some (.int i), some (.int j), some (.int (sumN ((l.drop i).take k))), v] ∧ H' = H) ⟨none, rfl, rfl⟩ ?_ ?_
  · rintro k σ H' hk ⟨v, rfl, rfl⟩
    have e : (l.drop i)[k]? = some (l[i + k]'(by omega)) := by
      rw [List.getElem?_drop, List.getElem?_eq_getElem (by omega)]
    walk_at "rd"
    have ea : atI (sV l) ((i : Int) + (k : Int)) = some (.int (l[i + k]'(by omega) : Nat)) := by
      have e2 : (sV l)[i + k]? = some (.int (l[i + k]'(by omega) : Nat)) := by
        unfold sV
        rw [List.getElem?_map, List.getElem?_eq_getElem (by omega)]
        rfl
      have := atI_nat e2
      rw [show (((i + k : Nat)) : Int) = (i : Int) + (k : Int) by omega] at this
      exact this
    refine ⟨_, hS, _, ea, _, rfl, ?_, _, rfl⟩
    rw [sumN_take_succ e]
    omega
  · rintro σ H' ⟨v, rfl, rfl⟩
    walk_at "rd"
    rw [sumOf_take] at q
    exact q
end
end Tl

namespace Tl
open PySem PySem.Spec PyProof.Rows L2 SctSecret SctBase
section
variable {P : Program} {w : World} {K : PySem.W.Frag} {mg : Str → Option Value} {base : Heap} {C aS aW : Addr}
local macro_rules | `(tactic| walk_at "rd") => `(tactic| simp only [L2.start, wipe, List.replicate_succ, List.replicate_zero, Nat.reduceSub, Nat.reduceAdd, Nat.zero_add, List.map_cons, List.map_nil, List.length_cons, List.length_nil, tSeq, tRet, tAsg, gName, gTup, gCons, gNil, tVar, tC, tOp, tUn, rI0, rI, rU, rEq, rNe, tChain, tChain3, tCons, tNil, tOrV, tAndV, tIfS, tNext, tTest, tB, tNot, tAnd, tOr, tAug, ipI, tCall, tCB, tDrop, tBM, tBM0, tFld, tMeth, rAppend, rExtend, rCat, tTup, tLst, rIxL, rIxT, scal, V.bl.injEq, V.int.injEq, V.ref.injEq, List.cons.injEq, and_true, List.getElem?_cons_succ, List.getElem?_cons_zero, List.cons_append, List.nil_append, List.append_nil, Option.some.injEq, exists_eq_left', exists_and_left, and_assoc, Int.natCast_inj, Int.zero_add, true_and, List.set_cons_succ, List.set_cons_zero])
theorem at0 {a : V} {r : List V} : atI (a :: r) 0 = some a := atI_nat (j := 0) rfl
theorem at1 {a b : V} {r : List V} : atI (a :: b :: r) 1 = some b := atI_nat (j := 1) rfl
theorem at2 {a b c : V} {r : List V} : atI (a :: b :: c :: r) 2 = some c := atI_nat (j := 2) rfl
theorem iteTt {b : Bool} {A B : Prop} (h : b = true) (a : A) : if b = true then A else B := by
  rw [if_pos h]
  exact a
theorem iteFf {b : Bool} {A B : Prop} (h : b = false) (a : B) : if b = true then A else B := by
  rw [h]
  exact a
theorem decide_natCast_le (a b : Nat) : decide ((a : Int) ≤ (b : Int)) = decide (a ≤ b) := by rw [decide_eq_decide]; omega
def toldOn (m : Nat) (x : Fact) : Fact := if x.to_ &&& m != 0 then { x with to_ := x.to_ ||| m } else x
def holdsN (l : List Nat) (x : Fact) : Bool := decide (x.low ≤ sumOf l x.first x.last) && decide (sumOf l x.first x.last ≤ x.high)
def spIsKnown (K : PySem.W.Frag) : Sp := fun vs H Q _ => ∃ (p : Addr) (x : Fact) (m : Nat), vs = [.ref p, .int m] ∧ SqT K H p (fV x) ∧ Q (.bl (x.to_ &&& m != 0)) H
local macro_rules | `(tactic| walk_at "rd") => `(tactic| simp only [L2.start, wipe, List.replicate_succ, List.replicate_zero, Nat.reduceSub, Nat.reduceAdd, Nat.zero_add, List.map_cons, List.map_nil, List.length_cons, List.length_nil, tSeq, tRet, tAsg, gName, gTup, gCons, gNil, tVar, tC, tOp, tUn, rI0, rI, rU, rEq, rNe, tChain, tChain3, tCons, tNil, tOrV, tAndV, tIfS, tNext, tTest, tB, tNot, tAnd, tOr, tAug, ipI, tCall, tCB, tDrop, tBM, tBM0, tFld, tMeth, rAppend, rExtend, rCat, tTup, tLst, rIxL, rIxT, scal, V.bl.injEq, V.int.injEq, V.ref.injEq, List.cons.injEq, and_true, List.getElem?_cons_succ, List.getElem?_cons_zero, List.cons_append, List.nil_append, List.append_nil, Option.some.injEq, exists_eq_left', exists_and_left, and_assoc, Int.natCast_inj, Int.zero_add, true_and, List.set_cons_succ, List.set_cons_zero])
theorem ok_is_known (T : Txt K mg C aS aW) : FnG P w K mg base 1 "is_known" p_is_known (spIsKnown K) := by
  refine FnG.of T.d_is_known sc_is_known (fun _ _ _ _ _ _ us hl => match us, hl with | [_, _], _ => rfl) (by rintro vs H Q E ⟨p, x, m, rfl, hS, q⟩; rfl) (fun f cdv A outer s H vs Q E hr h => ?_)
  obtain ⟨p, x, m, rfl, hS, q⟩ := h
  refine ⟨_, (pss_one (ps_ret (pe_cmpR op_ne (pe_op op_and (pe_ix (ix_tupK (K := K) rfl) (pv 0) pe_int (fun _ _ => rfl)) (pv 1)) pe_int (nomark _)))), ?_⟩
  walk_at "rd"
  refine ⟨_, hS, _, at0, _, rfl, ?_⟩
  rw [bitAnd_nat]
  refine cast (congrArg (fun z => Q (V.bl z) H) ?_) q
  by_cases h : x.to_ &&& m = 0
  · rw [h]
    rfl
  · rw [bne_iff_ne.mpr h, decide_eq_false (by omega)]
    rfl
def spKnown : Sp := fun vs H Q _ => ∃ (a : Addr) (l : List Fact) (m : Nat), vs = [.ref a, .int m] ∧ Rows H .tup a (l.map fV) ∧ l.length ≤ 1000 ∧ ∀ D H', Same H H' → H D = none → Rows H' .tup D ((knownTo m l).map fV) → Q (.ref D) H'
local macro_rules | `(tactic| walk_at "rd") => `(tactic| simp only [L2.start, wipe, List.replicate_succ, List.replicate_zero, Nat.reduceSub, Nat.reduceAdd, Nat.zero_add, List.map_cons, List.map_nil, List.length_cons, List.length_nil, tSeq, tRet, tAsg, gName, gTup, gCons, gNil, tVar, tC, tOp, tUn, rI0, rI, rU, rEq, rNe, tChain, tChain3, tCons, tNil, tOrV, tAndV, tIfS, tNext, tTest, tB, tNot, tAnd, tOr, tAug, ipI, tCall, tCB, tDrop, tBM, tBM0, tFld, tMeth, rAppend, rExtend, rCat, tTup, tLst, rIxL, rIxT, scal, V.bl.injEq, V.int.injEq, V.ref.injEq, List.cons.injEq, and_true, List.getElem?_cons_succ, List.getElem?_cons_zero, List.cons_append, List.nil_append, List.append_nil, Option.some.injEq, exists_eq_left', exists_and_left, and_assoc, Int.natCast_inj, Int.zero_add, true_and, List.set_cons_succ, List.set_cons_zero, spIsKnown])
theorem ok_known (T : Txt K mg C aS aW) : FnG P w K mg base 2 "known" p_known spKnown := by
  obtain ⟨_, _, g_is_known, k_is_known, b_is_known, o_is_known⟩ := (ok_is_known (P := P) (w := w) (base := base) T).ex
  refine FnG.of T.d_known sc_known (fun _ _ _ _ _ _ us hl => match us, hl with | [_, _], _ => rfl) (by rintro vs H Q E ⟨a, l, m, rfl, hR, hl, q⟩; rfl) (fun f cdv A outer s H vs Q E hr h => ?_)
  obtain ⟨a, l, m, rfl, hR, hl, q⟩ := h
  refine ⟨_, (pss_one (ps_ret (pe_lc (own := [("fact", 2)]) rfl sc_known.nd (pi_list (pv 0)) (blkOk_by (own := [("fact", 2)]) (N := n_known) (sc := defScope s_known) (by decide +kernel)) (fun _ _ _ _ _ => (pg_name (i := 2) sc_known.nd rfl (Or.inl rfl))) (fun _ _ _ _ _ => pts_one (pt_val (pe_call o_is_known (hr.mono (by decide)) rfl g_is_known k_is_known b_is_known .nil pass0 (pa_cons (pv 2) (pa_cons (pv 1) pa_nil))))) (fun _ _ _ _ _ => (pv 2))))), ?_⟩
  obtain ⟨xs, h1, h2, h3⟩ := hR.list
  rw [List.length_map] at h2
  refine ⟨_, rfl, a, rfl, ⟨_, SqL.of h1⟩, fun D hD => lc_list (K := K) (a := a) (xs := xs) (fun i H' => Same H H' ∧ Rows H' .tup D ((knownTo m (l.take i)).map fV)) ⟨same_new hD, Rows.nil upd_same⟩ (fun i H' _ z => SqL.of (z.1 _ _ h1)) (fun i x H' hx z => ?_) (fun H' z => q D H' z.1 hD ?_)⟩
  · have hi : i < l.length := by
      have := (List.getElem?_eq_some_iff.mp hx).1
      omega
    obtain ⟨p, e1, e2, e3⟩ := h3 i (fV l[i]) (by rw [List.getElem?_map, List.getElem?_eq_getElem hi]; rfl)
    have ex : x = .ref p := Option.some.inj (hx.symm.trans e1)
    subst ex
    have e : knownTo m (l.take (i + 1)) = knownTo m (l.take i) ++ (if (l[i].to_ &&& m != 0) = true then [l[i]] else []) := by
      unfold knownTo
      rw [List.take_add_one, List.getElem?_eq_getElem hi, List.filter_append]
      congr 1
      show List.filter _ [l[i]] = _
      rw [List.filter_cons]
      rfl
    refine ⟨rfl, ?_⟩
    walk_at "rd"
    refine ⟨l[i], SqT.of (z.1 _ _ e3), ?_⟩
    rw [e]
    obtain ⟨acc, a1, a2, _⟩ := z.2.list
    refine ite2 (fun h => ⟨acc, a1, ?_, same_mut z.1 hD, ?_⟩) (fun h => ⟨z.1, ?_⟩)
    · rw [a2, List.length_map]
      refine Nat.lt_of_le_of_lt (List.length_filter_le _ _) (small1000 ?_)
      rw [List.length_take]
      omega
    · rw [if_pos h, List.map_append]
      refine Rows.push z.2 a1 (z.1 _ _ e3) fun hp => ?_
      subst hp
      rw [hD] at e3
      cases e3
    · rw [if_neg h, List.append_nil]
      exact z.2
  · have z2 := z.2
    rw [h2, List.take_length] at z2
    exact z2
def spHolds (K : PySem.W.Frag) : Sp := fun vs H Q _ => ∃ (p : Addr) (x : Fact) (b : Addr) (l : List Nat), vs = [.ref p, .ref b] ∧ SqT K H p (fV x) ∧ SqL K H b (sV l) ∧ x.first ≤ x.last ∧ x.last < l.length ∧ l.length ≤ 1000 ∧ Q (.bl (holdsN l x)) H
local macro_rules | `(tactic| walk_at "rd") => `(tactic| simp only [L2.start, wipe, List.replicate_succ, List.replicate_zero, Nat.reduceSub, Nat.reduceAdd, Nat.zero_add, List.map_cons, List.map_nil, List.length_cons, List.length_nil, tSeq, tRet, tAsg, gName, gTup, gCons, gNil, tVar, tC, tOp, tUn, rI0, rI, rU, rEq, rNe, tChain, tChain3, tCons, tNil, tOrV, tAndV, tIfS, tNext, tTest, tB, tNot, tAnd, tOr, tAug, ipI, tCall, tCB, tDrop, tBM, tBM0, tFld, tMeth, rAppend, rExtend, rCat, tTup, tLst, rIxL, rIxT, scal, V.bl.injEq, V.int.injEq, V.ref.injEq, List.cons.injEq, and_true, List.getElem?_cons_succ, List.getElem?_cons_zero, List.cons_append, List.nil_append, List.append_nil, Option.some.injEq, exists_eq_left', exists_and_left, and_assoc, Int.natCast_inj, Int.zero_add, true_and, List.set_cons_succ, List.set_cons_zero, spRunSum])
theorem ok_holds (T : Txt K mg C aS aW) : FnG P w K mg base 2 "holds" p_holds (spHolds K) := by
  obtain ⟨_, _, g_run_sum, k_run_sum, b_run_sum, o_run_sum⟩ := (ok_run_sum (P := P) (w := w) (base := base) T).ex
  refine FnG.of T.d_holds sc_holds (fun _ _ _ _ _ _ us hl => match us, hl with | [_, _], _ => rfl) (by rintro vs H Q E ⟨p, x, b, l, rfl, hS, hL, h1, h2, h3, q⟩; rfl) (fun f cdv A outer s H vs Q E hr h => ?_)
  obtain ⟨p, x, b, l, rfl, hS, hL, h1, h2, h3, q⟩ := h
  refine ⟨_, (pss_cons (ps_asg (pv 0) (pg_K (K := K) (n := 5) (pg_tup rfl (pgs_cons (pg_name (i := 2) sc_holds.nd rfl (Or.inl rfl)) (pgs_cons (pg_name (i := 3) sc_holds.nd rfl (Or.inl rfl)) (pgs_cons (pg_name (i := 4) sc_holds.nd rfl (Or.inl rfl)) (pgs_cons (pg_name (i := 5) sc_holds.nd rfl (Or.inl rfl)) (pgs_cons (pg_name (i := 6) sc_holds.nd rfl (Or.inl rfl)) pgs_nil)))))) rfl))
      (pss_one (ps_ret (pe_chain op_le op_le (pv 5) (pe_call o_run_sum (hr.mono (by decide)) rfl g_run_sum k_run_sum b_run_sum .nil pass0 (pa_cons (pv 1) (pa_cons (pv 3) (pa_cons (pv 4) pa_nil)))) (pv 6) (by rfl))))), ?_⟩
  refine ⟨_, rfl, _, _, rfl, hS, rfl, _, _, rfl, _, _, rfl, _, _, rfl, _, _, rfl, _, _, rfl, rfl, ?_⟩
  walk_at "rd"
  refine ⟨l, hL, h1, h2, h3, ?_⟩
  unfold holdsN at q
  by_cases c : x.low ≤ sumOf l x.first x.last
  · refine iteTt (decide_eq_true (by omega)) ?_
    rw [decide_eq_true c, Bool.true_and] at q
    rw [decide_natCast_le]
    exact q
  · refine iteFf (decide_eq_false (by omega)) ?_
    rw [decide_eq_false c, Bool.false_and] at q
    exact q
def spFits (K : PySem.W.Frag) : Sp := fun vs H Q _ => ∃ (b a : Addr) (l : List Nat) (fs : List Fact), vs = [.ref b, .ref a] ∧ SqL K H b (sV l) ∧ Rows H .tup a (fs.map fV) ∧ l.length ≤ 1000 ∧ FOk l.length fs ∧ Q (.bl (fs.all (holdsN l))) H
local macro_rules | `(tactic| walk_at "rd") => `(tactic| simp only [L2.start, wipe, List.replicate_succ, List.replicate_zero, Nat.reduceSub, Nat.reduceAdd, Nat.zero_add, List.map_cons, List.map_nil, List.length_cons, List.length_nil, tSeq, tRet, tAsg, gName, gTup, gCons, gNil, tVar, tC, tOp, tUn, rI0, rI, rU, rEq, rNe, tChain, tChain3, tCons, tNil, tOrV, tAndV, tIfS, tNext, tTest, tB, tNot, tAnd, tOr, tAug, ipI, tCall, tCB, tDrop, tBM, tBM0, tFld, tMeth, rAppend, rExtend, rCat, tTup, tLst, rIxL, rIxT, scal, V.bl.injEq, V.int.injEq, V.ref.injEq, List.cons.injEq, and_true, List.getElem?_cons_succ, List.getElem?_cons_zero, List.cons_append, List.nil_append, List.append_nil, Option.some.injEq, exists_eq_left', exists_and_left, and_assoc, Int.natCast_inj, Int.zero_add, true_and, List.set_cons_succ, List.set_cons_zero, spHolds])
theorem ok_fits (T : Txt K mg C aS aW) : FnG P w K mg base 3 "fits" p_fits (spFits K) := by
  obtain ⟨_, _, g_holds, k_holds, b_holds, o_holds⟩ := (ok_holds (P := P) (w := w) (base := base) T).ex
  refine FnG.of T.d_fits sc_fits (fun _ _ _ _ _ _ us hl => match us, hl with | [_, _], _ => rfl) (by rintro vs H Q E ⟨b, a, l, fs, rfl, hL, hR, h3, hF, q⟩; rfl) (fun f cdv A outer s H vs Q E hr h => ?_)
  obtain ⟨b, a, l, fs, rfl, hL, hR, h3, hF, q⟩ := h
  refine ⟨_, (pss_cons (ps_for PassesOwn.never rfl (pi_list (pv 1)) (pg_name (i := 2) sc_fits.nd rfl (Or.inl rfl)) (pss_one (ps_if (pt_not (pt_val (pe_call o_holds (hr.mono (by decide)) rfl g_holds k_holds b_holds .nil pass0 (pa_cons (pv 2) (pa_cons (pv 0) pa_nil))))) (pss_one (ps_ret pe_bl)) pss_nil)))
      (pss_one (ps_ret pe_bl))), ?_⟩
  refine ⟨_, rfl, forR hR (fun i σ H' => ∃ v, σ = [some (.ref b), some (.ref a), v] ∧ H' = H ∧ (fs.take i).all (holdsN l) = true) ⟨_, rfl, rfl, rfl⟩ (by rintro i σ H' ⟨_, _, rfl, _⟩; exact Same.refl _) ?_ ?_⟩
  · rintro i f p σ H' hf hp ⟨v, rfl, rfl, hi⟩
    rw [List.getElem?_map] at hf
    cases ef : fs[i]? with
    | none => rw [ef] at hf; cases hf
    | some x =>
      rw [ef] at hf
      obtain rfl := Option.some.inj hf
      have hx := hF x (List.mem_of_getElem? ef)
      walk_at "rd"
      refine ⟨x, SqT.of hp, l, hL, hx.1, hx.2, h3, ite2 (fun c => ?_) (fun c => ?_)⟩
      · have e : fs.all (holdsN l) = false := by
          rw [List.all_eq_false]
          exact ⟨x, List.mem_of_getElem? ef, by simpa using c⟩
        rw [e] at q
        exact q
      · rw [List.take_add_one, ef, List.all_append, hi]
        simpa using c
  · rintro σ H' ⟨v, rfl, rfl, hi⟩
    rw [List.length_map, List.take_length] at hi
    rw [hi] at q
    exact q
def spToldOn (K : PySem.W.Frag) : Sp := fun vs H Q _ => ∃ (p : Addr) (x : Fact) (m : Nat), vs = [.ref p, .int m] ∧ H p = some (.tup (fV x)) ∧ ∀ p' H', Same H H' → H' p' = some (.tup (fV (toldOn m x))) → Q (.ref p') H'
local macro_rules | `(tactic| walk_at "rd") => `(tactic| simp only [L2.start, wipe, List.replicate_succ, List.replicate_zero, Nat.reduceSub, Nat.reduceAdd, Nat.zero_add, List.map_cons, List.map_nil, List.length_cons, List.length_nil, tSeq, tRet, tAsg, gName, gTup, gCons, gNil, tVar, tC, tOp, tUn, rI0, rI, rU, rEq, rNe, tChain, tChain3, tCons, tNil, tOrV, tAndV, tIfS, tNext, tTest, tB, tNot, tAnd, tOr, tAug, ipI, tCall, tCB, tDrop, tBM, tBM0, tFld, tMeth, rAppend, rExtend, rCat, tTup, tLst, rIxL, rIxT, scal, V.bl.injEq, V.int.injEq, V.ref.injEq, List.cons.injEq, and_true, List.getElem?_cons_succ, List.getElem?_cons_zero, List.cons_append, List.nil_append, List.append_nil, Option.some.injEq, exists_eq_left', exists_and_left, and_assoc, Int.natCast_inj, Int.zero_add, true_and, List.set_cons_succ, List.set_cons_zero, spIsKnown])
theorem ok_told_on (T : Txt K mg C aS aW) : FnG P w K mg base 2 "told_on" p_told_on (spToldOn K) := by
  obtain ⟨_, _, g_is_known, k_is_known, b_is_known, o_is_known⟩ := (ok_is_known (P := P) (w := w) (base := base) T).ex
  refine FnG.of T.d_told_on sc_told_on (fun _ _ _ _ _ _ us hl => match us, hl with | [_, _], _ => rfl) (by rintro vs H Q E ⟨p, x, m, rfl, hS, q⟩; rfl) (fun f cdv A outer s H vs Q E hr h => ?_)
  obtain ⟨p, x, m, rfl, hS, q⟩ := h
  refine ⟨_, (pss_cons (ps_asg (pv 0) (pg_K (K := K) (n := 5) (pg_tup rfl (pgs_cons (pg_name (i := 2) sc_told_on.nd rfl (Or.inl rfl)) (pgs_cons (pg_name (i := 3) sc_told_on.nd rfl (Or.inl rfl)) (pgs_cons (pg_name (i := 4) sc_told_on.nd rfl (Or.inl rfl)) (pgs_cons (pg_name (i := 5) sc_told_on.nd rfl (Or.inl rfl)) (pgs_cons (pg_name (i := 6) sc_told_on.nd rfl (Or.inl rfl)) pgs_nil)))))) rfl))
      (pss_cons (ps_if (pt_not (pt_val (pe_call o_is_known (hr.mono (by decide)) rfl g_is_known k_is_known b_is_known .nil pass0 (pa_cons (pv 0) (pa_cons (pv 1) pa_nil))))) (pss_one (ps_ret (pv 0))) pss_nil)
      (pss_one (ps_ret (pe_tup (pa_cons (pe_op op_or (pv 2) (pv 1)) (pa_cons (pv 3) (pa_cons (pv 4) (pa_cons (pv 5) (pa_cons (pv 6) pa_nil)))))))))), ?_⟩
  refine ⟨_, rfl, _, _, rfl, SqT.of hS, rfl, _, _, rfl, _, _, rfl, _, _, rfl, _, _, rfl, _, _, rfl, rfl, ?_⟩
  walk_at "rd"
  refine ⟨x, SqT.of hS, ite2 (fun c => ?_) (fun c => ?_)⟩
  · have e : toldOn m x = x := by
      unfold toldOn
      rw [if_neg (by simpa using c)]
    rw [e] at q
    exact q p H (Same.refl _) hS
  · have e : toldOn m x = { x with to_ := x.to_ ||| m } := by
      unfold toldOn
      rw [if_pos (by simpa using c)]
    rw [e] at q
    refine ⟨by decide, fun p' hp' => q p' _ (same_new hp') ?_⟩
    rw [upd_same, bitOr_nat]
    rfl
theorem map_range_getD {α β : Type} (f : α → β) (d : α) : ∀ l : List α, (List.range l.length).map (fun i => f (l.getD i d)) = l.map f := fun l => by
  refine List.ext_getElem (by rw [List.length_map, List.length_map, List.length_range]) fun i h1 h2 => ?_
  rw [List.getElem_map, List.getElem_map, List.getElem_range]
  rw [List.length_map] at h2
  rw [List.getD_eq_getElem?_getD, List.getElem?_eq_getElem h2]
  rfl
theorem getD_at {α : Type} {l : List α} {i : Nat} {d x : α} (h : l[i]? = some x) : l.getD i d = x := by
  rw [List.getD_eq_getElem?_getD, h]
  rfl
def f0 : Fact := ⟨0, 0, 0, 0, 0⟩
def spAfterMeeting : Sp := fun vs H Q _ => ∃ (a : Addr) (l : List Fact) (m : Nat), vs = [.ref a, .int m] ∧ Rows H .tup a (l.map fV) ∧ l.length ≤ 1000 ∧ ∀ D H', Same H H' → H D = none → Rows H' .tup D ((l.map (toldOn m)).map fV) → Q (.ref D) H'
local macro_rules | `(tactic| walk_at "rd") => `(tactic| simp only [L2.start, wipe, List.replicate_succ, List.replicate_zero, Nat.reduceSub, Nat.reduceAdd, Nat.zero_add, List.map_cons, List.map_nil, List.length_cons, List.length_nil, tSeq, tRet, tAsg, gName, gTup, gCons, gNil, tVar, tC, tOp, tUn, rI0, rI, rU, rEq, rNe, tChain, tChain3, tCons, tNil, tOrV, tAndV, tIfS, tNext, tTest, tB, tNot, tAnd, tOr, tAug, ipI, tCall, tCB, tDrop, tBM, tBM0, tFld, tMeth, rAppend, rExtend, rCat, tTup, tLst, rIxL, rIxT, scal, V.bl.injEq, V.int.injEq, V.ref.injEq, List.cons.injEq, and_true, List.getElem?_cons_succ, List.getElem?_cons_zero, List.cons_append, List.nil_append, List.append_nil, Option.some.injEq, exists_eq_left', exists_and_left, and_assoc, Int.natCast_inj, Int.zero_add, true_and, List.set_cons_succ, List.set_cons_zero, spToldOn])
theorem ok_after_meeting (T : Txt K mg C aS aW) : FnG P w K mg base 3 "after_meeting" p_after_meeting spAfterMeeting := by
  obtain ⟨_, _, g_told_on, k_told_on, b_told_on, o_told_on⟩ := (ok_told_on (P := P) (w := w) (base := base) T).ex
  refine FnG.of T.d_after_meeting sc_after_meeting (fun _ _ _ _ _ _ us hl => match us, hl with | [_, _], _ => rfl) (by rintro vs H Q E ⟨a, l, m, rfl, hR, hl, q⟩; rfl) (fun f cdv A outer s H vs Q E hr h => ?_)
  obtain ⟨a, l, m, rfl, hR, hl, q⟩ := h
  refine ⟨_, (pss_one (ps_ret (pe_lc (own := [("fact", 2)]) rfl sc_after_meeting.nd (pi_list (pv 0)) (blkOk_by (own := [("fact", 2)]) (N := n_after_meeting) (sc := defScope s_after_meeting) (by decide +kernel)) (fun _ _ _ _ _ => (pg_name (i := 2) sc_after_meeting.nd rfl (Or.inl rfl))) (fun _ _ _ _ _ => pts_nil) (fun _ _ _ _ _ => (pe_call o_told_on (hr.mono (by decide)) rfl g_told_on k_told_on b_told_on .nil pass0 (pa_cons (pv 2) (pa_cons (pv 1) pa_nil))))))), ?_⟩
  obtain ⟨xs, h1, h2, h3⟩ := hR.list
  rw [List.length_map] at h2
  refine ⟨_, rfl, a, rfl, ⟨_, SqL.of h1⟩, lcO (n := xs.length) (Y := YAt xs) (G := fun H => SqL K H a xs) walk_list .tup (fun i => (fV (toldOn m (l.getD i f0)))) (by omega) (fun H' s => SqL.of (s _ _ h1)) (by rintro i H1 x H2 ⟨rfl, _⟩; exact Same.refl _) (fun D i x H1 H2 hi s1 hacc hy Q1 q1 => ?_) (gName_mono 2) (fun D H' hD s1 r1 => q D H' s1 hD ?_)⟩
  · obtain ⟨rfl, hx⟩ := hy
    obtain ⟨p, e1, e2, e3⟩ := h3 i (fV l[i]) (by rw [List.getElem?_map, List.getElem?_eq_getElem (by omega)]; rfl)
    have ex : x = .ref p := Option.some.inj (hx.symm.trans e1)
    subst ex
    obtain ⟨acc, hacc⟩ := hacc
    refine ⟨rfl, ?_⟩
    walk_at "rd"
    refine ⟨l[i], s1 _ _ e3, fun p' H' s2 h2 => q1 p' H' s2 (fun hd => ?_) ?_⟩
    · subst hd
      rw [s2 _ _ hacc] at h2
      cases h2
    · rw [getD_at (List.getElem?_eq_getElem (by omega))]
      exact h2
  · rw [h2, map_range_getD (fun x => fV (toldOn m x)) f0 l] at r1
    rw [List.map_map]
    exact r1
/-- what's wrong with a fact: it hangs on the shares alone -/
def wrongL (l : List Nat) (m i j a b : Int) : Nat := wrong ⟨l, [], []⟩ m i j a b
theorem wrongL_eq (s : State) (m i j a b : Int) : wrong s m i j a b = wrongL s.shares m i j a b := rfl
theorem nat_of_set {m : Int} (h : isSet m = true) : ((m.toNat : Nat) : Int) = m ∧ 1 ≤ m ∧ m ≤ 15 := by
  unfold isSet SETS at h
  rw [Bool.and_eq_true, decide_eq_true_eq, decide_eq_true_eq] at h
  omega
theorem nat_of_run {i j : Int} (h : isRun i j = true) : ((i.toNat : Nat) : Int) = i ∧ ((j.toNat : Nat) : Int) = j ∧ i.toNat ≤ j.toNat := by
  unfold isRun at h
  rw [Bool.and_eq_true, decide_eq_true_eq, decide_eq_true_eq] at h
  omega
theorem nat_of_band {a b : Int} (h : isBand a b = true) : ((a.toNat : Nat) : Int) = a ∧ ((b.toNat : Nat) : Int) = b := by
  unfold isBand at h
  rw [Bool.and_eq_true, Bool.and_eq_true, decide_eq_true_eq, decide_eq_true_eq] at h
  omega
theorem sV_len (l : List Nat) : (sV l).length = l.length := List.length_map ..
/-- the raw tuple of a fact that is handed over -/
def rawF (m i j a b : Int) : List V := [.int m, .int i, .int j, .int a, .int b]
theorem rawF_eq {m i j a b : Int} (h1 : isSet m = true) (h2 : isRun i j = true) (h3 : isBand a b = true) : rawF m i j a b = fV (factOf m i j a b) := by
  unfold rawF fV factOf
  rw [(nat_of_set h1).1, (nat_of_run h2).1, (nat_of_run h2).2.1, (nat_of_band h3).1, (nat_of_band h3).2]
def spFactRefusal (K : PySem.W.Frag) : Sp := fun vs H Q _ => ∃ (p c : Addr) (m i j a b : Int) (l : List Nat), vs = [.ref p, .ref c] ∧ SqT K H p (rawF m i j a b) ∧ SqL K H c (sV l) ∧ l.length ≤ 1000 ∧ Q (.int (-((wrongL l m i j a b : Nat) : Int))) H
local macro_rules | `(tactic| walk_at "rd") => `(tactic| simp only [L2.start, wipe, List.replicate_succ, List.replicate_zero, Nat.reduceSub, Nat.reduceAdd, Nat.zero_add, List.map_cons, List.map_nil, List.length_cons, List.length_nil, tSeq, tRet, tAsg, gName, gTup, gCons, gNil, tVar, tC, tOp, tUn, rI0, rI, rU, rEq, rNe, tChain, tChain3, tCons, tNil, tOrV, tAndV, tIfS, tNext, tTest, tB, tNot, tAnd, tOr, tAug, ipI, tCall, tCB, tDrop, tBM, tBM0, tFld, tMeth, rAppend, rExtend, rCat, tTup, tLst, rIxL, rIxT, scal, V.bl.injEq, V.int.injEq, V.ref.injEq, List.cons.injEq, and_true, List.getElem?_cons_succ, List.getElem?_cons_zero, List.cons_append, List.nil_append, List.append_nil, Option.some.injEq, exists_eq_left', exists_and_left, and_assoc, Int.natCast_inj, Int.zero_add, true_and, List.set_cons_succ, List.set_cons_zero, spHolds, spIsBounds, spIsHearers, spIsRun])
theorem ok_fact_refusal (T : Txt K mg C aS aW) : FnG P w K mg base 3 "fact_refusal" p_fact_refusal (spFactRefusal K) := by
  obtain ⟨_, _, g_holds, k_holds, b_holds, o_holds⟩ := (ok_holds (P := P) (w := w) (base := base) T).ex
  obtain ⟨_, _, g_is_bounds, k_is_bounds, b_is_bounds, o_is_bounds⟩ := (ok_is_bounds (P := P) (w := w) (base := base) T).ex
  obtain ⟨_, _, g_is_hearers, k_is_hearers, b_is_hearers, o_is_hearers⟩ := (ok_is_hearers (P := P) (w := w) (base := base) T).ex
  obtain ⟨_, _, g_is_run, k_is_run, b_is_run, o_is_run⟩ := (ok_is_run (P := P) (w := w) (base := base) T).ex
  refine FnG.of T.d_fact_refusal sc_fact_refusal (fun _ _ _ _ _ _ us hl => match us, hl with | [_, _], _ => rfl) (by rintro vs H Q E ⟨p, c, m, i, j, a, b, l, rfl, hS, hL, h3, q⟩; rfl) (fun f cdv A outer s H vs Q E hr h => ?_)
  obtain ⟨p, c, m, i, j, a, b, l, rfl, hS, hL, h3, q⟩ := h
  refine ⟨_, (pss_cons (ps_asg (pv 0) (pg_K (K := K) (n := 5) (pg_tup rfl (pgs_cons (pg_name (i := 2) sc_fact_refusal.nd rfl (Or.inl rfl)) (pgs_cons (pg_name (i := 3) sc_fact_refusal.nd rfl (Or.inl rfl)) (pgs_cons (pg_name (i := 4) sc_fact_refusal.nd rfl (Or.inl rfl)) (pgs_cons (pg_name (i := 5) sc_fact_refusal.nd rfl (Or.inl rfl)) (pgs_cons (pg_name (i := 6) sc_fact_refusal.nd rfl (Or.inl rfl)) pgs_nil)))))) rfl))
      (pss_cons (ps_if (pt_not (PW.pt (pw_and (pt_val (pe_call o_is_hearers (hr.mono (by decide)) rfl g_is_hearers k_is_hearers b_is_hearers .nil pass0 (pa_cons (pv 2) pa_nil))) (pw_and (pt_val (pe_call o_is_run (hr.mono (by decide)) rfl g_is_run k_is_run b_is_run .nil pass0 (pa_cons (pv 3) (pa_cons (pv 4) pa_nil)))) (pw_and1 (pt_val (pe_call o_is_bounds (hr.mono (by decide)) rfl g_is_bounds k_is_bounds b_is_bounds .nil pass0 (pa_cons (pv 5) (pa_cons (pv 6) pa_nil))))))))) (pss_one (ps_ret (pe_gint T.c_OUT_OF_RANGE rfl))) pss_nil)
      (pss_cons (ps_if (pt_cmpR op_ge (pv 4) (pe_callB call_len_seq rfl T.b_len PySem.boot_len (pa_cons (pv 1) pa_nil)) (nomark _)) (pss_one (ps_ret (pe_gint T.c_NO_SUCH_RUN rfl))) pss_nil)
      (pss_cons (ps_if (pt_not (pt_val (pe_call o_holds (hr.mono (by decide)) rfl g_holds k_holds b_holds .nil pass0 (pa_cons (pv 0) (pa_cons (pv 1) pa_nil))))) (pss_one (ps_ret (pe_gint T.c_CANT_BE_SO rfl))) pss_nil)
      (pss_one (ps_ret (pe_gint T.c_DONE rfl))))))), ?_⟩
  refine ⟨_, rfl, _, _, rfl, hS, rfl, _, _, rfl, _, _, rfl, _, _, rfl, _, _, rfl, _, _, rfl, rfl, ?_⟩
  walk_at "rd"
  have w1 : ∀ z, (isSet m = false ∨ isRun i j = false ∨ isBand a b = false) → wrongL l m i j a b = z → z = 1 := fun z h e => by
    unfold wrongL wrong at e
    rw [if_pos h] at e
    exact e.symm
  by_cases hs : isSet m = true
  · refine iteTt hs ?_
    by_cases hr2 : isRun i j = true
    · refine iteTt hr2 ?_
      by_cases hb : isBand a b = true
      · refine iteFf (by rw [hb]; rfl) ?_
        have hno : ¬ (isSet m = false ∨ isRun i j = false ∨ isBand a b = false) := by
          rw [hs, hr2, hb]
          simp
        refine ⟨sV l, .inl hL, ?_⟩
        rw [sV_len]
        have nj := (nat_of_run hr2).2.1
        have nij := (nat_of_run hr2).2.2
        by_cases hj : j < (l.length : Int)
        · refine iteFf (decide_eq_false (by omega)) ?_
          rw [rawF_eq hs hr2 hb] at hS
          refine ⟨_, hS, l, hL, nij, by show j.toNat < l.length; omega, h3, ?_⟩
          have ew : wrongL l m i j a b = if holdsN l (factOf m i j a b) = false then 4 else 0 := by
            unfold wrongL wrong
            rw [if_neg hno, if_neg (by unfold runThere; rw [decide_eq_true (show j < (((⟨l, [], []⟩ : State).shares.length : Nat) : Int) from hj)]; simp)]
            rfl
          refine ite2 (fun c => ?_) (fun c => ?_)
          · rw [ew, if_pos (by simpa using c)] at q
            exact q
          · rw [ew, if_neg (by simpa using c)] at q
            exact q
        · refine iteTt (decide_eq_true (by omega)) ?_
          have ew : wrongL l m i j a b = 3 := by
            unfold wrongL wrong
            rw [if_neg hno, if_pos (by unfold runThere; exact decide_eq_false (show ¬ j < (((⟨l, [], []⟩ : State).shares.length : Nat) : Int) from hj))]
          rw [ew] at q
          exact q
      · refine iteTt (by simpa using hb) ?_
        rw [w1 _ (.inr (.inr (by simpa using hb))) rfl] at q
        exact q
    · refine iteFf (by simpa using hr2) ?_
      rw [w1 _ (.inr (.inl (by simpa using hr2))) rfl] at q
      exact iteTt rfl q
  · refine iteFf (by simpa using hs) ?_
    rw [w1 _ (.inl (by simpa using hs)) rfl] at q
    exact iteTt rfl q
end
end Tl

namespace Tl
open PySem PySem.Spec PyProof.Rows L2 SctSecret SctBase
section
variable {P : Program} {w : World} {K : PySem.W.Frag} {mg : Str → Option Value} {base : Heap} {C aS aW : Addr}
local macro_rules | `(tactic| walk_at "rd") => `(tactic| simp only [L2.start, wipe, List.replicate_succ, List.replicate_zero, Nat.reduceSub, Nat.reduceAdd, Nat.zero_add, List.map_cons, List.map_nil, List.length_cons, List.length_nil, tSeq, tRet, tAsg, gName, gTup, gCons, gNil, tVar, tC, tOp, tUn, rI0, rI, rU, rEq, rNe, tChain, tChain3, tCons, tNil, tOrV, tAndV, tIfS, tNext, tTest, tB, tNot, tAnd, tOr, tAug, ipI, tCall, tCB, tDrop, tBM, tBM0, tFld, tMeth, rAppend, rExtend, rCat, tTup, tLst, rIxL, rIxT, scal, V.bl.injEq, V.int.injEq, V.ref.injEq, List.cons.injEq, and_true, List.getElem?_cons_succ, List.getElem?_cons_zero, List.cons_append, List.nil_append, List.append_nil, Option.some.injEq, exists_eq_left', exists_and_left, and_assoc, Int.natCast_inj, Int.zero_add, true_and, List.set_cons_succ, List.set_cons_zero])
def FO1 (l : List Fact) : Prop := ∀ x ∈ l, x.first ≤ x.last
theorem FOk.one {n : Nat} {l : List Fact} (h : FOk n l) : FO1 l := fun x hx => (h x hx).1
theorem min_eq (i j : Int) : (if j < i then j else i) = min i j := by
  rw [Int.min_def]
  by_cases h : j < i
  · rw [if_pos h, if_neg (by omega)]
  · rw [if_neg h, if_pos (by omega)]
def spDirectLimit : Sp := fun vs H Q _ => ∃ (a : Addr) (l : List Fact) (n u v : Nat), vs = [.int n, .ref a, .int u, .int v] ∧ Rows H .tup a (l.map fV) ∧ FO1 l ∧ Q (.int (limM n l u v)) H
local macro_rules | `(tactic| walk_at "rd") => `(tactic| simp only [L2.start, wipe, List.replicate_succ, List.replicate_zero, Nat.reduceSub, Nat.reduceAdd, Nat.zero_add, List.map_cons, List.map_nil, List.length_cons, List.length_nil, tSeq, tRet, tAsg, gName, gTup, gCons, gNil, tVar, tC, tOp, tUn, rI0, rI, rU, rEq, rNe, tChain, tChain3, tCons, tNil, tOrV, tAndV, tIfS, tNext, tTest, tB, tNot, tAnd, tOr, tAug, ipI, tCall, tCB, tDrop, tBM, tBM0, tFld, tMeth, rAppend, rExtend, rCat, tTup, tLst, rIxL, rIxT, scal, V.bl.injEq, V.int.injEq, V.ref.injEq, List.cons.injEq, and_true, List.getElem?_cons_succ, List.getElem?_cons_zero, List.cons_append, List.nil_append, List.append_nil, Option.some.injEq, exists_eq_left', exists_and_left, and_assoc, Int.natCast_inj, Int.zero_add, true_and, List.set_cons_succ, List.set_cons_zero, spRuleLimit])
theorem ok_direct_limit (T : Txt K mg C aS aW) : FnG P w K mg base 2 "direct_limit" p_direct_limit spDirectLimit := by
  obtain ⟨_, _, g_rule_limit, k_rule_limit, b_rule_limit, o_rule_limit⟩ := (ok_rule_limit (P := P) (w := w) (base := base) T).ex
  refine FnG.of T.d_direct_limit sc_direct_limit (fun _ _ _ _ _ _ us hl => match us, hl with | [_, _, _, _], _ => rfl) (by rintro vs H Q E ⟨a, l, n, u, v, rfl, hR, hF, q⟩; rfl) (fun f cdv A outer s H vs Q E hr h => ?_)
  obtain ⟨a, l, n, u, v, rfl, hR, hF, q⟩ := h
  refine ⟨_, (pss_cons (ps_set (i := 4) sc_direct_limit.nd rfl (Or.inl rfl) (pe_call o_rule_limit (hr.mono (by decide)) rfl g_rule_limit k_rule_limit b_rule_limit .nil pass0 (pa_cons (pv 0) (pa_cons (pv 2) (pa_cons (pv 3) pa_nil)))))
      (pss_cons (ps_for PassesOwn.never rfl (pi_list (pv 1)) (pg_K (K := K) (n := 5) (pg_tup rfl (pgs_cons (pg_name (i := 5) sc_direct_limit.nd rfl (Or.inl rfl)) (pgs_cons (pg_name (i := 6) sc_direct_limit.nd rfl (Or.inl rfl)) (pgs_cons (pg_name (i := 7) sc_direct_limit.nd rfl (Or.inl rfl)) (pgs_cons (pg_name (i := 8) sc_direct_limit.nd rfl (Or.inl rfl)) (pgs_cons (pg_name (i := 9) sc_direct_limit.nd rfl (Or.inl rfl)) pgs_nil)))))) rfl) (pss_cons (ps_if (PW.pt (pw_and (pt_cmpR op_eq (pv 2) (pv 6) (nomark _)) (pw_and1 (pt_cmpR op_eq (pv 3) (pe_op op_add (pv 7) pe_int) (nomark _))))) (pss_one (ps_set (i := 4) sc_direct_limit.nd rfl (Or.inl rfl) (pe_callB (call_min2 rfl) rfl T.b_min (by decide +kernel) (pa_cons (pv 4) (pa_cons (pv 9) pa_nil))))) pss_nil)
      (pss_one (ps_if (PW.pt (pw_and (pt_cmpR op_eq (pv 2) (pe_op op_add (pv 7) pe_int) (nomark _)) (pw_and1 (pt_cmpR op_eq (pv 3) (pv 6) (nomark _))))) (pss_one (ps_set (i := 4) sc_direct_limit.nd rfl (Or.inl rfl) (pe_callB (call_min2 rfl) rfl T.b_min (by decide +kernel) (pa_cons (pv 4) (pa_cons (pe_un un_neg (pv 8)) pa_nil))))) pss_nil))))
      (pss_one (ps_ret (pv 4))))), ?_⟩
  refine ⟨_, rfl, _, rfl, _, rfl, n, u, v, rfl, ?_⟩
  refine ⟨_, rfl, forR hR (fun i σ H' => ∃ w5 w6 w7 w8 w9, σ = [some (.int n), some (.ref a), some (.int u), some (.int v), some (.int ((l.take i).foldl (limStep u v) (ruleL n u v))), w5, w6, w7, w8, w9] ∧ H' = H) ⟨_, _, _, _, _, rfl, rfl⟩ (by rintro i σ H' ⟨_, _, _, _, _, _, rfl⟩; exact Same.refl _) ?_ ?_⟩
  · rintro i f p σ H' hf hp ⟨w5, w6, w7, w8, w9, rfl, rfl⟩
    rw [List.getElem?_map] at hf
    cases ef : l[i]? with
    | none => rw [ef] at hf; cases hf
    | some x =>
      rw [ef] at hf
      obtain rfl := Option.some.inj hf
      have hx := hF x (List.mem_of_getElem? ef)
      refine ⟨_, _, rfl, SqT.of hp, rfl, _, _, rfl, _, _, rfl, _, _, rfl, _, _, rfl, _, _, rfl, rfl, ?_⟩
      have el : (l.take (i + 1)).foldl (limStep u v) (ruleL n u v) = limStep u v ((l.take i).foldl (limStep u v) (ruleL n u v)) x := by
        rw [List.take_add_one, ef, List.foldl_append]
        rfl
      rw [el]
      generalize (l.take i).foldl (limStep u v) (ruleL n u v) = m
      walk_at "rd"
      simp only [decide_eq_true_eq, Bool.false_eq_true, if_false, min_eq]
      unfold limStep
      repeat' split
      all_goals first | exact ⟨rfl, _, rfl⟩ | (exfalso; omega)
  · rintro σ H' ⟨_, _, _, _, _, rfl, rfl⟩
    walk_at "rd"
    rw [List.length_map, List.take_length]
    exact q
def spDirectRow : Sp := fun vs H Q _ => ∃ (a : Addr) (l : List Fact) (n u : Nat), vs = [.int n, .ref a, .int u] ∧ Rows H .tup a (l.map fV) ∧ FO1 l ∧ n ≤ 1000 ∧ ∀ D H', Same H H' → H D = none → H' D = some (.lst ((List.range (n + 1)).map fun (v : Nat) => V.int (limM n l u v))) → Q (.ref D) H'
local macro_rules | `(tactic| walk_at "rd") => `(tactic| simp only [L2.start, wipe, List.replicate_succ, List.replicate_zero, Nat.reduceSub, Nat.reduceAdd, Nat.zero_add, List.map_cons, List.map_nil, List.length_cons, List.length_nil, tSeq, tRet, tAsg, gName, gTup, gCons, gNil, tVar, tC, tOp, tUn, rI0, rI, rU, rEq, rNe, tChain, tChain3, tCons, tNil, tOrV, tAndV, tIfS, tNext, tTest, tB, tNot, tAnd, tOr, tAug, ipI, tCall, tCB, tDrop, tBM, tBM0, tFld, tMeth, rAppend, rExtend, rCat, tTup, tLst, rIxL, rIxT, scal, V.bl.injEq, V.int.injEq, V.ref.injEq, List.cons.injEq, and_true, List.getElem?_cons_succ, List.getElem?_cons_zero, List.cons_append, List.nil_append, List.append_nil, Option.some.injEq, exists_eq_left', exists_and_left, and_assoc, Int.natCast_inj, Int.zero_add, true_and, List.set_cons_succ, List.set_cons_zero, spDirectLimit])
theorem ok_direct_row (T : Txt K mg C aS aW) : FnG P w K mg base 3 "direct_row" p_direct_row spDirectRow := by
  obtain ⟨_, _, g_direct_limit, k_direct_limit, b_direct_limit, o_direct_limit⟩ := (ok_direct_limit (P := P) (w := w) (base := base) T).ex
  refine FnG.of T.d_direct_row sc_direct_row (fun _ _ _ _ _ _ us hl => match us, hl with | [_, _, _], _ => rfl) (by rintro vs H Q E ⟨a, l, n, u, rfl, hR, hF, hn, q⟩; rfl) (fun f cdv A outer s H vs Q E hr h => ?_)
  obtain ⟨a, l, n, u, rfl, hR, hF, hn, q⟩ := h
  refine ⟨_, (pss_one (ps_ret (pe_lc (own := [("v", 3)]) rfl sc_direct_row.nd (pi_range1 rfl T.b_range (pa_cons (pe_op op_add (pv 0) pe_int) pa_nil)) (blkOk_by (own := [("v", 3)]) (N := n_direct_row) (sc := defScope s_direct_row) (by decide +kernel)) (fun _ _ _ _ _ => (pg_name (i := 3) sc_direct_row.nd rfl (Or.inl rfl))) (fun _ _ _ _ _ => pts_nil) (fun _ _ _ _ _ => (pe_call o_direct_limit (hr.mono (by decide)) rfl g_direct_limit k_direct_limit b_direct_limit .nil pass0 (pa_cons (pv 0) (pa_cons (pv 1) (pa_cons (pv 2) (pa_cons (pv 3) pa_nil))))))))), ?_⟩
  refine ⟨_, rfl, _, _, rfl, rfl, _, rfl, by omega, by omega, ?_⟩
  rw [show ((n : Int) + 1).toNat = n + 1 by omega]
  refine lcV walk_range (fun v => V.int (limM n l u v)) (by omega) (fun _ _ => trivial) (by rintro i H1 x H2 ⟨rfl, _⟩; exact Same.refl _) (fun i x H1 H2 hi s1 hy Q1 q1 => ?_) (gName_mono _) (fun D H' hD s1 h1 => q D H' s1 hD h1)
  obtain ⟨rfl, rfl⟩ := hy
  refine ⟨rfl, ?_⟩
  walk_at "rd"
  exact ⟨l, hR.same s1, hF, q1 _ (Same.refl _)⟩
def spDirectTable : Sp := fun vs H Q _ => ∃ (a : Addr) (l : List Fact) (n : Nat), vs = [.int n, .ref a] ∧ Rows H .tup a (l.map fV) ∧ FO1 l ∧ n ≤ 1000 ∧ ∀ D H', Same H H' → H D = none → Rows H' .lst D ((boundsM n l).map rV) → Q (.ref D) H'
local macro_rules | `(tactic| walk_at "rd") => `(tactic| simp only [L2.start, wipe, List.replicate_succ, List.replicate_zero, Nat.reduceSub, Nat.reduceAdd, Nat.zero_add, List.map_cons, List.map_nil, List.length_cons, List.length_nil, tSeq, tRet, tAsg, gName, gTup, gCons, gNil, tVar, tC, tOp, tUn, rI0, rI, rU, rEq, rNe, tChain, tChain3, tCons, tNil, tOrV, tAndV, tIfS, tNext, tTest, tB, tNot, tAnd, tOr, tAug, ipI, tCall, tCB, tDrop, tBM, tBM0, tFld, tMeth, rAppend, rExtend, rCat, tTup, tLst, rIxL, rIxT, scal, V.bl.injEq, V.int.injEq, V.ref.injEq, List.cons.injEq, and_true, List.getElem?_cons_succ, List.getElem?_cons_zero, List.cons_append, List.nil_append, List.append_nil, Option.some.injEq, exists_eq_left', exists_and_left, and_assoc, Int.natCast_inj, Int.zero_add, true_and, List.set_cons_succ, List.set_cons_zero, spDirectRow])
theorem ok_direct_table (T : Txt K mg C aS aW) : FnG P w K mg base 4 "direct_table" p_direct_table spDirectTable := by
  obtain ⟨_, _, g_direct_row, k_direct_row, b_direct_row, o_direct_row⟩ := (ok_direct_row (P := P) (w := w) (base := base) T).ex
  refine FnG.of T.d_direct_table sc_direct_table (fun _ _ _ _ _ _ us hl => match us, hl with | [_, _], _ => rfl) (by rintro vs H Q E ⟨a, l, n, rfl, hR, hF, hn, q⟩; rfl) (fun f cdv A outer s H vs Q E hr h => ?_)
  obtain ⟨a, l, n, rfl, hR, hF, hn, q⟩ := h
  refine ⟨_, (pss_one (ps_ret (pe_lc (own := [("u", 2)]) rfl sc_direct_table.nd (pi_range1 rfl T.b_range (pa_cons (pe_op op_add (pv 0) pe_int) pa_nil)) (blkOk_by (own := [("u", 2)]) (N := n_direct_table) (sc := defScope s_direct_table) (by decide +kernel)) (fun _ _ _ _ _ => (pg_name (i := 2) sc_direct_table.nd rfl (Or.inl rfl))) (fun _ _ _ _ _ => pts_nil) (fun _ _ _ _ _ => (pe_call o_direct_row (hr.mono (by decide)) rfl g_direct_row k_direct_row b_direct_row .nil pass0 (pa_cons (pv 0) (pa_cons (pv 1) (pa_cons (pv 2) pa_nil)))))))), ?_⟩
  refine ⟨_, rfl, _, _, rfl, rfl, _, rfl, by omega, by omega, ?_⟩
  rw [show ((n : Int) + 1).toNat = n + 1 by omega]
  refine lcO walk_range .lst (fun u => rV ((List.range (n + 1)).map fun (v : Nat) => limM n l u v)) (by omega) (fun _ _ => trivial) (by rintro i H1 x H2 ⟨rfl, _⟩; exact Same.refl _) (fun D i x H1 H2 hi s1 hacc hy Q1 q1 => ?_) (gName_mono _) (fun D H' hD s1 h1 => q D H' s1 hD ?_)
  · obtain ⟨rfl, rfl⟩ := hy
    obtain ⟨acc, hacc⟩ := hacc
    refine ⟨rfl, ?_⟩
    walk_at "rd"
    refine ⟨l, hR.same s1, hF, hn, fun D' H' s2 h2 h3 => q1 D' H' s2 (fun e => ?_) ?_⟩
    · rw [e, hacc] at h2
      cases h2
    · rw [h3]
      unfold rV
      rw [List.map_map]
      rfl
  · unfold boundsM
    rw [List.map_map]
    exact h1
def spLowered (K : PySem.W.Frag) : Sp := fun vs H Q _ => ∃ (a b : Addr) (s : Int) (r f : List Int) (n : Nat), vs = [.ref a, .int s, .ref b] ∧ SqL K H a (rV r) ∧ SqL K H b (rV f) ∧ r.length = n + 1 ∧ f.length = n + 1 ∧ n ≤ 1000 ∧
  ∀ D H', Same H H' → H D = none → H' D = some (.lst ((List.range (n + 1)).map fun (v : Nat) => V.int (min (r.getD v 0) (s + f.getD v 0)))) → Q (.ref D) H'
local macro_rules | `(tactic| walk_at "rd") => `(tactic| simp only [L2.start, wipe, List.replicate_succ, List.replicate_zero, Nat.reduceSub, Nat.reduceAdd, Nat.zero_add, List.map_cons, List.map_nil, List.length_cons, List.length_nil, tSeq, tRet, tAsg, gName, gTup, gCons, gNil, tVar, tC, tOp, tUn, rI0, rI, rU, rEq, rNe, tChain, tChain3, tCons, tNil, tOrV, tAndV, tIfS, tNext, tTest, tB, tNot, tAnd, tOr, tAug, ipI, tCall, tCB, tDrop, tBM, tBM0, tFld, tMeth, rAppend, rExtend, rCat, tTup, tLst, rIxL, rIxT, scal, V.bl.injEq, V.int.injEq, V.ref.injEq, List.cons.injEq, and_true, List.getElem?_cons_succ, List.getElem?_cons_zero, List.cons_append, List.nil_append, List.append_nil, Option.some.injEq, exists_eq_left', exists_and_left, and_assoc, Int.natCast_inj, Int.zero_add, true_and, List.set_cons_succ, List.set_cons_zero])
theorem ok_lowered (T : Txt K mg C aS aW) : FnG P w K mg base 1 "lowered" p_lowered (spLowered K) := by
  refine FnG.of T.d_lowered sc_lowered (fun _ _ _ _ _ _ us hl => match us, hl with | [_, _, _], _ => rfl) (by rintro vs H Q E ⟨a, b, s0, r, f0, n, rfl, hA, hB, hr0, hf0, hn, q⟩; rfl) (fun f cdv A outer s H vs Q E hr h => ?_)
  obtain ⟨a, b, s0, r, f0, n, rfl, hA, hB, hr0, hf0, hn, q⟩ := h
  refine ⟨_, (pss_one (ps_ret (pe_lc (own := [("limit", 3), ("more", 4)]) rfl sc_lowered.nd (pi_zip rfl T.b_zip (pa_cons (pv 0) (pa_cons (pv 2) pa_nil))) (blkOk_by (own := [("limit", 3), ("more", 4)]) (N := n_lowered) (sc := defScope s_lowered) (by decide +kernel)) (fun _ _ _ _ _ => (pg_K (K := K) (n := 2) (pg_tup rfl (pgs_cons (pg_name (i := 3) sc_lowered.nd rfl (Or.inl rfl)) (pgs_cons (pg_name (i := 4) sc_lowered.nd rfl (Or.inl rfl)) pgs_nil))) rfl)) (fun _ _ _ _ _ => pts_nil) (fun _ _ _ _ _ => (pe_callB (call_min2 rfl) rfl T.b_min (by decide +kernel) (pa_cons (pv 3) (pa_cons (pe_op op_add (pv 1) (pv 4)) pa_nil))))))), ?_⟩
  refine ⟨_, rfl, _, rfl, _, _, _, _, rfl, hA, hB, ?_⟩
  refine lcV (walk_zip (xs := rV r) (ys := rV f0) (n := n + 1) (by unfold rV; rw [List.length_map, List.length_map, hr0, hf0]; omega)) (fun v => V.int (min (r.getD v 0) (s0 + f0.getD v 0))) (by omega) (fun H' s1 => ⟨s1.seq hA, s1.seq hB⟩)
    (by rintro i H1 x H2 ⟨T, _, _, _, h, rfl, _⟩; exact same_new h) (fun i x H1 H2 hi s1 hy Q1 q1 => ?_) (gPair_mono 3 4) (fun D H' hD s1 h1 => q D H' s1 hD h1)
  obtain ⟨T0, x1, y1, rfl, hT, rfl, hx, hy⟩ := hy
  have ex : x1 = .int (r.getD i 0) := by
    have hx : (r.map V.int)[i]? = some x1 := hx
    rw [List.getElem?_map, List.getElem?_eq_getElem (by omega)] at hx
    rw [List.getD_eq_getElem?_getD, List.getElem?_eq_getElem (by omega)]
    exact (Option.some.inj hx).symm
  have ey : y1 = .int (f0.getD i 0) := by
    have hy : (f0.map V.int)[i]? = some y1 := hy
    rw [List.getElem?_map, List.getElem?_eq_getElem (by omega)] at hy
    rw [List.getD_eq_getElem?_getD, List.getElem?_eq_getElem (by omega)]
    exact (Option.some.inj hy).symm
  subst ex ey
  refine ⟨T0, _, rfl, SqT.of upd_same, rfl, _, _, rfl, _, _, rfl, rfl, rfl, ?_⟩
  walk_at "rd"
  rw [min_eq]
  exact q1 _ (Same.refl _)
theorem Rows.cell {H : Hp} {a : Addr} {t : List (List Int)} {n u v : Nat} (h : Rows H .lst a (t.map rV)) (hs : Sq n t) (hu : u ≤ n) (hv : v ≤ n) :
    ∃ xs p, H a = some (.lst xs) ∧ xs.length = n + 1 ∧ atI xs (u : Int) = some (.ref p) ∧ H p = some (.lst (rV (t.getD u []))) ∧ (t.getD u []).length = n + 1 ∧ atI (rV (t.getD u [])) (v : Int) = some (.int (at_ t u v)) := by
  obtain ⟨xs, h1, h2, h3⟩ := h.list
  obtain ⟨p, e1, _, e3⟩ := h3 u (rV (t.getD u [])) (by rw [List.getElem?_map, hs.row hu]; rfl)
  refine ⟨xs, p, h1, by rw [h2, List.length_map, hs.1], atI_nat e1, e3, hs.2 u _ (hs.row hu), atI_nat ?_⟩
  unfold rV
  rw [List.getElem?_map, hs.item hu hv]
  rfl
def spThrough : Sp := fun vs H Q _ => ∃ (a : Addr) (r : Nat) (t : List (List Int)) (n : Nat), vs = [.ref a, .int r] ∧ Rows H .lst a (t.map rV) ∧ Sq n t ∧ r ≤ n ∧ n ≤ 1000 ∧ ∀ D H', Same H H' → H D = none → Rows H' .lst D ((SctSecret.through n t r).map rV) → Q (.ref D) H'
local macro_rules | `(tactic| walk_at "rd") => `(tactic| simp only [L2.start, wipe, List.replicate_succ, List.replicate_zero, Nat.reduceSub, Nat.reduceAdd, Nat.zero_add, List.map_cons, List.map_nil, List.length_cons, List.length_nil, tSeq, tRet, tAsg, gName, gTup, gCons, gNil, tVar, tC, tOp, tUn, rI0, rI, rU, rEq, rNe, tChain, tChain3, tCons, tNil, tOrV, tAndV, tIfS, tNext, tTest, tB, tNot, tAnd, tOr, tAug, ipI, tCall, tCB, tDrop, tBM, tBM0, tFld, tMeth, rAppend, rExtend, rCat, tTup, tLst, rIxL, rIxT, scal, V.bl.injEq, V.int.injEq, V.ref.injEq, List.cons.injEq, and_true, List.getElem?_cons_succ, List.getElem?_cons_zero, List.cons_append, List.nil_append, List.append_nil, Option.some.injEq, exists_eq_left', exists_and_left, and_assoc, Int.natCast_inj, Int.zero_add, true_and, List.set_cons_succ, List.set_cons_zero, spLowered])
theorem ok_through (T : Txt K mg C aS aW) : FnG P w K mg base 2 "through" p_through spThrough := by
  obtain ⟨_, _, g_lowered, k_lowered, b_lowered, o_lowered⟩ := (ok_lowered (P := P) (w := w) (base := base) T).ex
  refine FnG.of T.d_through sc_through (fun _ _ _ _ _ _ us hl => match us, hl with | [_, _], _ => rfl) (by rintro vs H Q E ⟨a, r, t, n, rfl, hR, hSq, hrn, hn, q⟩; rfl) (fun f cdv A outer s H vs Q E hr h => ?_)
  obtain ⟨a, r, t, n, rfl, hR, hSq, hrn, hn, q⟩ := h
  refine ⟨_, (pss_one (ps_ret (pe_lc (own := [("row", 2)]) rfl sc_through.nd (pi_list (pv 0)) (blkOk_by (own := [("row", 2)]) (N := n_through) (sc := defScope s_through) (by decide +kernel)) (fun _ _ _ _ _ => (pg_name (i := 2) sc_through.nd rfl (Or.inl rfl))) (fun _ _ _ _ _ => pts_nil) (fun _ _ _ _ _ => (pe_call o_lowered (hr.mono (by decide)) rfl g_lowered k_lowered b_lowered .nil pass0 (pa_cons (pv 2) (pa_cons (pe_ix (ix_listK (K := K) rfl) (pv 2) (pv 1) (fun _ _ => rfl)) (pa_cons (pe_ix (ix_listK (K := K) rfl) (pv 0) (pv 1) (fun _ _ => rfl)) pa_nil)))))))), ?_⟩
  obtain ⟨xs, h1, h2, h3⟩ := hR.list
  rw [List.length_map, hSq.1] at h2
  refine ⟨_, rfl, a, rfl, ⟨_, SqL.of h1⟩, ?_⟩
  refine lcO (n := n + 1) (Y := YAt xs) (G := fun H => SqL K H a xs) (by rw [← h2]; exact walk_list) .lst (fun u => rV ((List.range (n + 1)).map fun (v : Nat) => min (at_ t u v) (at_ t u r + at_ t r v))) (by omega) (fun H' s => SqL.of (s _ _ h1)) (by rintro i H1 x H2 ⟨rfl, _⟩; exact Same.refl _) (fun D i x H1 H2 hi s1 hacc hy Q1 q1 => ?_) (gName_mono _) (fun D H' hD s1 h1 => q D H' s1 hD ?_)
  · obtain ⟨rfl, hx⟩ := hy
    obtain ⟨acc, hacc⟩ := hacc
    obtain ⟨xs1, p, c1, _, c3, c4, c5, c6⟩ := hR.cell hSq (show i ≤ n by omega) hrn
    obtain ⟨xs2, p2, d1, _, d3, d4, d5, _⟩ := hR.cell hSq hrn hrn
    obtain rfl : xs1 = xs := by
      rw [h1] at c1
      injection c1 with c1
      injection c1 with c1
      exact c1.symm
    have ex : x = .ref p := by
      have := atI_nat hx
      rw [c3] at this
      exact (Option.some.inj this).symm
    subst ex
    refine ⟨rfl, ?_⟩
    walk_at "rd"
    refine ⟨_, SqL.of (s1 _ _ c4), _, c6, _, SqL.of (s1 _ _ d1), _, d3, ?_⟩
    refine ⟨_, _, rfl, rfl, _, SqL.of (s1 _ _ c4), _, SqL.of (s1 _ _ d4), n, c5, d5, hn, fun D' H' s2 h2 h3 => q1 D' H' s2 (fun e => ?_) ?_⟩
    · rw [e, hacc] at h2
      cases h2
    · rw [h3]
      unfold rV
      rw [List.map_map]
      rfl
  · unfold SctSecret.through
    rw [List.map_map]
    exact h1
def spClosed : Sp := fun vs H Q _ => ∃ (a : Addr) (t : List (List Int)) (n : Nat), vs = [.ref a] ∧ Rows H .lst a (t.map rV) ∧ Sq n t ∧ n ≤ 1000 ∧ ∀ D H', Same H H' → Rows H' .lst D ((closedM n t (n + 1)).map rV) → Q (.ref D) H'
local macro_rules | `(tactic| walk_at "rd") => `(tactic| simp only [L2.start, wipe, List.replicate_succ, List.replicate_zero, Nat.reduceSub, Nat.reduceAdd, Nat.zero_add, List.map_cons, List.map_nil, List.length_cons, List.length_nil, tSeq, tRet, tAsg, gName, gTup, gCons, gNil, tVar, tC, tOp, tUn, rI0, rI, rU, rEq, rNe, tChain, tChain3, tCons, tNil, tOrV, tAndV, tIfS, tNext, tTest, tB, tNot, tAnd, tOr, tAug, ipI, tCall, tCB, tDrop, tBM, tBM0, tFld, tMeth, rAppend, rExtend, rCat, tTup, tLst, rIxL, rIxT, scal, V.bl.injEq, V.int.injEq, V.ref.injEq, List.cons.injEq, and_true, List.getElem?_cons_succ, List.getElem?_cons_zero, List.cons_append, List.nil_append, List.append_nil, Option.some.injEq, exists_eq_left', exists_and_left, and_assoc, Int.natCast_inj, Int.zero_add, true_and, List.set_cons_succ, List.set_cons_zero, spThrough])
theorem ok_closed (T : Txt K mg C aS aW) : FnG P w K mg base 3 "closed" p_closed spClosed := by
  obtain ⟨_, _, g_through, k_through, b_through, o_through⟩ := (ok_through (P := P) (w := w) (base := base) T).ex
  refine FnG.of T.d_closed sc_closed (fun _ _ _ _ _ _ us hl => match us, hl with | [_], _ => rfl) (by rintro vs H Q E ⟨a, t, n, rfl, hR, hSq, hn, q⟩; rfl) (fun f cdv A outer s H vs Q E hr h => ?_)
  obtain ⟨a, t, n, rfl, hR, hSq, hn, q⟩ := h
  refine ⟨_, (pss_cons (ps_set (i := 1) sc_closed.nd rfl (Or.inl rfl) (pv 0))
      (pss_cons (ps_for PassesOwn.never rfl (pi_range1 rfl T.b_range (pa_cons (pe_callB call_len_seq rfl T.b_len PySem.boot_len (pa_cons (pv 0) pa_nil)) pa_nil)) (pg_name (i := 2) sc_closed.nd rfl (Or.inl rfl)) (pss_one (ps_set (i := 1) sc_closed.nd rfl (Or.inl rfl) (pe_call o_through (hr.mono (by decide)) rfl g_through k_through b_through .nil pass0 (pa_cons (pv 1) (pa_cons (pv 2) pa_nil))))))
      (pss_one (ps_ret (pv 1))))), ?_⟩
  obtain ⟨xs, h1, h2, _⟩ := hR.list
  rw [List.length_map, hSq.1] at h2
  refine ⟨_, rfl, _, rfl, a, xs, rfl, .inl (SqL.of h1), _, rfl, by omega, by omega, ?_⟩
  rw [show ((xs.length : Nat) : Int).toNat = n + 1 by omega]
  refine for_range (fun i σ H' => ∃ b v, σ = [some (.ref a), some (.ref b), v] ∧ Same H H' ∧ Rows H' .lst b ((closedM n t i).map rV)) ⟨a, none, rfl, Same.refl _, hR⟩ ?_ ?_
  · rintro i σ H' hi ⟨b, v, rfl, s1, r1⟩
    walk_at "rd"
    refine ⟨_, r1, n, sq_closed hSq i, by omega, hn, fun D' H2 s2 _ r2 => ⟨s1.trans s2, ?_⟩⟩
    rw [closedM_succ]
    exact r2
  · rintro σ H' ⟨b, v, rfl, s1, r1⟩
    exact ⟨_, rfl, q b H' s1 r1⟩
def spFoundOut : Sp := fun vs H Q _ => ∃ (b : Addr) (n k : Nat) (l : List Fact), vs = [.int n, .ref b, .int k] ∧ Rows H .tup b (l.map fV) ∧ FO1 l ∧ l.length ≤ 1000 ∧ n ≤ 1000 ∧ ∀ D H', Same H H' → Rows H' .lst D ((apartM n (knownTo k l)).map rV) → Q (.ref D) H'
local macro_rules | `(tactic| walk_at "rd") => `(tactic| simp only [L2.start, wipe, List.replicate_succ, List.replicate_zero, Nat.reduceSub, Nat.reduceAdd, Nat.zero_add, List.map_cons, List.map_nil, List.length_cons, List.length_nil, tSeq, tRet, tAsg, gName, gTup, gCons, gNil, tVar, tC, tOp, tUn, rI0, rI, rU, rEq, rNe, tChain, tChain3, tCons, tNil, tOrV, tAndV, tIfS, tNext, tTest, tB, tNot, tAnd, tOr, tAug, ipI, tCall, tCB, tDrop, tBM, tBM0, tFld, tMeth, rAppend, rExtend, rCat, tTup, tLst, rIxL, rIxT, scal, V.bl.injEq, V.int.injEq, V.ref.injEq, List.cons.injEq, and_true, List.getElem?_cons_succ, List.getElem?_cons_zero, List.cons_append, List.nil_append, List.append_nil, Option.some.injEq, exists_eq_left', exists_and_left, and_assoc, Int.natCast_inj, Int.zero_add, true_and, List.set_cons_succ, List.set_cons_zero, spClosed, spDirectTable, spKnown])
theorem ok_found_out (T : Txt K mg C aS aW) : FnG P w K mg base 5 "found_out" p_found_out spFoundOut := by
  obtain ⟨_, _, g_closed, k_closed, b_closed, o_closed⟩ := (ok_closed (P := P) (w := w) (base := base) T).ex
  obtain ⟨_, _, g_direct_table, k_direct_table, b_direct_table, o_direct_table⟩ := (ok_direct_table (P := P) (w := w) (base := base) T).ex
  obtain ⟨_, _, g_known, k_known, b_known, o_known⟩ := (ok_known (P := P) (w := w) (base := base) T).ex
  refine FnG.of T.d_found_out sc_found_out (fun _ _ _ _ _ _ us hl => match us, hl with | [_, _, _], _ => rfl) (by rintro vs H Q E ⟨b, n, k, l, rfl, hR, hF, hl, hn, q⟩; rfl) (fun f cdv A outer s H vs Q E hr h => ?_)
  obtain ⟨b, n, k, l, rfl, hR, hF, hl, hn, q⟩ := h
  refine ⟨_, (pss_one (ps_ret (pe_call o_closed (hr.mono (by decide)) rfl g_closed k_closed b_closed .nil pass0 (pa_cons (pe_call o_direct_table (hr.mono (by decide)) rfl g_direct_table k_direct_table b_direct_table .nil pass0 (pa_cons (pv 0) (pa_cons (pe_call o_known (hr.mono (by decide)) rfl g_known k_known b_known .nil pass0 (pa_cons (pv 1) (pa_cons (pv 2) pa_nil))) pa_nil))) pa_nil)))), ?_⟩
  walk_at "rd"
  refine ⟨l, hR, hl, fun D1 H1 s1 _ r1 => ⟨_, r1, fun x hx => hF x ((List.mem_filter.mp hx).1), hn, fun D2 H2 s2 _ r2 => ⟨_, r2, n, sq_bounds n _, hn, fun D3 H3 s3 r3 => q D3 H3 (s1.trans (s2.trans s3)) r3⟩⟩⟩
def spLeast : Sp := fun vs H Q _ => ∃ (a : Addr) (i j : Nat) (t : List (List Int)) (n : Nat), vs = [.ref a, .int i, .int j] ∧ Rows H .lst a (t.map rV) ∧ Sq n t ∧ i ≤ n ∧ j < n ∧ Q (.int (-(at_ t (j + 1) i))) H
local macro_rules | `(tactic| walk_at "rd") => `(tactic| simp only [L2.start, wipe, List.replicate_succ, List.replicate_zero, Nat.reduceSub, Nat.reduceAdd, Nat.zero_add, List.map_cons, List.map_nil, List.length_cons, List.length_nil, tSeq, tRet, tAsg, gName, gTup, gCons, gNil, tVar, tC, tOp, tUn, rI0, rI, rU, rEq, rNe, tChain, tChain3, tCons, tNil, tOrV, tAndV, tIfS, tNext, tTest, tB, tNot, tAnd, tOr, tAug, ipI, tCall, tCB, tDrop, tBM, tBM0, tFld, tMeth, rAppend, rExtend, rCat, tTup, tLst, rIxL, rIxT, scal, V.bl.injEq, V.int.injEq, V.ref.injEq, List.cons.injEq, and_true, List.getElem?_cons_succ, List.getElem?_cons_zero, List.cons_append, List.nil_append, List.append_nil, Option.some.injEq, exists_eq_left', exists_and_left, and_assoc, Int.natCast_inj, Int.zero_add, true_and, List.set_cons_succ, List.set_cons_zero])
theorem ok_least_sum (T : Txt K mg C aS aW) : FnG P w K mg base 1 "least_sum" p_least_sum spLeast := by
  refine FnG.of T.d_least_sum sc_least_sum (fun _ _ _ _ _ _ us hl => match us, hl with | [_, _, _], _ => rfl) (by rintro vs H Q E ⟨a, i, j, t, n, rfl, hR, hSq, hi, hj, q⟩; rfl) (fun f cdv A outer s H vs Q E hr h => ?_)
  obtain ⟨a, i, j, t, n, rfl, hR, hSq, hi, hj, q⟩ := h
  refine ⟨_, (pss_one (ps_ret (pe_un un_neg (pe_ix (ix_listK (K := K) rfl) (pe_ix (ix_listK (K := K) rfl) (pv 0) (pe_op op_add (pv 2) pe_int) (fun _ _ => rfl)) (pv 1) (fun _ _ => rfl))))), ?_⟩
  obtain ⟨xs, p, h1, _, h3, h4, h5, h6⟩ := hR.cell hSq (show j + 1 ≤ n by omega) hi
  rw [show (((j + 1 : Nat)) : Int) = (j : Int) + 1 by omega] at h3
  walk_at "rd"
  exact ⟨_, SqL.of h1, _, h3, _, rfl, _, SqL.of h4, _, h6, _, rfl, q⟩
def spGreatest : Sp := fun vs H Q _ => ∃ (a : Addr) (i j : Nat) (t : List (List Int)) (n : Nat), vs = [.ref a, .int i, .int j] ∧ Rows H .lst a (t.map rV) ∧ Sq n t ∧ i ≤ n ∧ j < n ∧ Q (.int (at_ t i (j + 1))) H
local macro_rules | `(tactic| walk_at "rd") => `(tactic| simp only [L2.start, wipe, List.replicate_succ, List.replicate_zero, Nat.reduceSub, Nat.reduceAdd, Nat.zero_add, List.map_cons, List.map_nil, List.length_cons, List.length_nil, tSeq, tRet, tAsg, gName, gTup, gCons, gNil, tVar, tC, tOp, tUn, rI0, rI, rU, rEq, rNe, tChain, tChain3, tCons, tNil, tOrV, tAndV, tIfS, tNext, tTest, tB, tNot, tAnd, tOr, tAug, ipI, tCall, tCB, tDrop, tBM, tBM0, tFld, tMeth, rAppend, rExtend, rCat, tTup, tLst, rIxL, rIxT, scal, V.bl.injEq, V.int.injEq, V.ref.injEq, List.cons.injEq, and_true, List.getElem?_cons_succ, List.getElem?_cons_zero, List.cons_append, List.nil_append, List.append_nil, Option.some.injEq, exists_eq_left', exists_and_left, and_assoc, Int.natCast_inj, Int.zero_add, true_and, List.set_cons_succ, List.set_cons_zero])
theorem ok_greatest_sum (T : Txt K mg C aS aW) : FnG P w K mg base 1 "greatest_sum" p_greatest_sum spGreatest := by
  refine FnG.of T.d_greatest_sum sc_greatest_sum (fun _ _ _ _ _ _ us hl => match us, hl with | [_, _, _], _ => rfl) (by rintro vs H Q E ⟨a, i, j, t, n, rfl, hR, hSq, hi, hj, q⟩; rfl) (fun f cdv A outer s H vs Q E hr h => ?_)
  obtain ⟨a, i, j, t, n, rfl, hR, hSq, hi, hj, q⟩ := h
  refine ⟨_, (pss_one (ps_ret (pe_ix (ix_listK (K := K) rfl) (pe_ix (ix_listK (K := K) rfl) (pv 0) (pv 1) (fun _ _ => rfl)) (pe_op op_add (pv 2) pe_int) (fun _ _ => rfl)))), ?_⟩
  obtain ⟨xs, p, h1, _, h3, h4, h5, h6⟩ := hR.cell hSq hi (show j + 1 ≤ n by omega)
  rw [show (((j + 1 : Nat)) : Int) = (j : Int) + 1 by omega] at h6
  walk_at "rd"
  exact ⟨_, SqL.of h1, _, h3, _, rfl, _, SqL.of h4, _, h6, q⟩
def spWidth : Sp := fun vs H Q _ => ∃ (a : Addr) (i j : Nat) (t : List (List Int)) (n : Nat), vs = [.ref a, .int i, .int j] ∧ Rows H .lst a (t.map rV) ∧ Sq n t ∧ i ≤ n ∧ j < n ∧ Q (.int (at_ t i (j + 1) - -(at_ t (j + 1) i))) H
local macro_rules | `(tactic| walk_at "rd") => `(tactic| simp only [L2.start, wipe, List.replicate_succ, List.replicate_zero, Nat.reduceSub, Nat.reduceAdd, Nat.zero_add, List.map_cons, List.map_nil, List.length_cons, List.length_nil, tSeq, tRet, tAsg, gName, gTup, gCons, gNil, tVar, tC, tOp, tUn, rI0, rI, rU, rEq, rNe, tChain, tChain3, tCons, tNil, tOrV, tAndV, tIfS, tNext, tTest, tB, tNot, tAnd, tOr, tAug, ipI, tCall, tCB, tDrop, tBM, tBM0, tFld, tMeth, rAppend, rExtend, rCat, tTup, tLst, rIxL, rIxT, scal, V.bl.injEq, V.int.injEq, V.ref.injEq, List.cons.injEq, and_true, List.getElem?_cons_succ, List.getElem?_cons_zero, List.cons_append, List.nil_append, List.append_nil, Option.some.injEq, exists_eq_left', exists_and_left, and_assoc, Int.natCast_inj, Int.zero_add, true_and, List.set_cons_succ, List.set_cons_zero, spGreatest, spLeast])
theorem ok_width (T : Txt K mg C aS aW) : FnG P w K mg base 2 "width" p_width spWidth := by
  obtain ⟨_, _, g_greatest_sum, k_greatest_sum, b_greatest_sum, o_greatest_sum⟩ := (ok_greatest_sum (P := P) (w := w) (base := base) T).ex
  obtain ⟨_, _, g_least_sum, k_least_sum, b_least_sum, o_least_sum⟩ := (ok_least_sum (P := P) (w := w) (base := base) T).ex
  refine FnG.of T.d_width sc_width (fun _ _ _ _ _ _ us hl => match us, hl with | [_, _, _], _ => rfl) (by rintro vs H Q E ⟨a, i, j, t, n, rfl, hR, hSq, hi, hj, q⟩; rfl) (fun f cdv A outer s H vs Q E hr h => ?_)
  obtain ⟨a, i, j, t, n, rfl, hR, hSq, hi, hj, q⟩ := h
  refine ⟨_, (pss_one (ps_ret (pe_op op_sub (pe_call o_greatest_sum (hr.mono (by decide)) rfl g_greatest_sum k_greatest_sum b_greatest_sum .nil pass0 (pa_cons (pv 0) (pa_cons (pv 1) (pa_cons (pv 2) pa_nil)))) (pe_call o_least_sum (hr.mono (by decide)) rfl g_least_sum k_least_sum b_least_sum .nil pass0 (pa_cons (pv 0) (pa_cons (pv 1) (pa_cons (pv 2) pa_nil))))))), ?_⟩
  walk_at "rd"
  exact ⟨t, hR, n, hSq, hi, hj, t, hR, n, hSq, hi, hj, q⟩
theorem rV_len (l : List Int) : (rV l).length = l.length := List.length_map ..
theorem lt_line {n : Nat} (h : n ≤ 10000) : n < sizeLine := Nat.lt_of_le_of_lt h (by decide)
theorem le_line {n : Nat} (h : n ≤ 10000) : n ≤ sizeLine := Nat.le_of_lt (lt_line h)
def bandsM (t : List (List Int)) (n : Nat) : List Int := (List.range n).flatMap fun (i : Nat) => [-(at_ t (i + 1) i), at_ t i (i + 1)]
theorem bandsM_succ (t : List (List Int)) (n : Nat) : bandsM t (n + 1) = bandsM t n ++ [-(at_ t (n + 1) n), at_ t n (n + 1)] := by
  unfold bandsM
  rw [List.range_succ, List.flatMap_append]
  rfl
theorem bandsM_len (t : List (List Int)) : ∀ n, (bandsM t n).length = 2 * n
  | 0 => rfl
  | n + 1 => by
    rw [bandsM_succ, List.length_append, bandsM_len t n]
    show 2 * n + 2 = 2 * (n + 1)
    omega
def spPartBands : Sp := fun vs H Q _ => ∃ (a : Addr) (t : List (List Int)) (n : Nat), vs = [.ref a] ∧ Rows H .lst a (t.map rV) ∧ Sq n t ∧ n ≤ 1000 ∧ ∀ D H', Same H H' → H D = none → H' D = some (.lst (rV (bandsM t n))) → Q (.ref D) H'
local macro_rules | `(tactic| walk_at "rd") => `(tactic| simp only [L2.start, wipe, List.replicate_succ, List.replicate_zero, Nat.reduceSub, Nat.reduceAdd, Nat.zero_add, List.map_cons, List.map_nil, List.length_cons, List.length_nil, tSeq, tRet, tAsg, gName, gTup, gCons, gNil, tVar, tC, tOp, tUn, rI0, rI, rU, rEq, rNe, tChain, tChain3, tCons, tNil, tOrV, tAndV, tIfS, tNext, tTest, tB, tNot, tAnd, tOr, tAug, ipI, tCall, tCB, tDrop, tBM, tBM0, tFld, tMeth, rAppend, rExtend, rCat, tTup, tLst, rIxL, rIxT, scal, V.bl.injEq, V.int.injEq, V.ref.injEq, List.cons.injEq, and_true, List.getElem?_cons_succ, List.getElem?_cons_zero, List.cons_append, List.nil_append, List.append_nil, Option.some.injEq, exists_eq_left', exists_and_left, and_assoc, Int.natCast_inj, Int.zero_add, true_and, List.set_cons_succ, List.set_cons_zero, spGreatest, spLeast])
theorem ok_part_bands (T : Txt K mg C aS aW) : FnG P w K mg base 2 "part_bands" p_part_bands spPartBands := by
  obtain ⟨_, _, g_greatest_sum, k_greatest_sum, b_greatest_sum, o_greatest_sum⟩ := (ok_greatest_sum (P := P) (w := w) (base := base) T).ex
  obtain ⟨_, _, g_least_sum, k_least_sum, b_least_sum, o_least_sum⟩ := (ok_least_sum (P := P) (w := w) (base := base) T).ex
  refine FnG.of T.d_part_bands sc_part_bands (fun _ _ _ _ _ _ us hl => match us, hl with | [_], _ => rfl) (by rintro vs H Q E ⟨a, t, n, rfl, hR, hSq, hn, q⟩; rfl) (fun f cdv A outer s H vs Q E hr h => ?_)
  obtain ⟨a, t, n, rfl, hR, hSq, hn, q⟩ := h
  refine ⟨_, (pss_cons (ps_set (i := 1) sc_part_bands.nd rfl (Or.inl rfl) (pe_lst pa_nil))
      (pss_cons (ps_for PassesOwn.never rfl (pi_range1 rfl T.b_range (pa_cons (pe_op op_sub (pe_callB call_len_seq rfl T.b_len PySem.boot_len (pa_cons (pv 0) pa_nil)) pe_int) pa_nil)) (pg_name (i := 2) sc_part_bands.nd rfl (Or.inl rfl)) (pss_cons (ps_expr (pe_bm PySem.F.plainAttrs_list PySem.F.slot_list_append PySem.F.type_list_append mt_append (pv 1) (pa_cons (pe_call o_least_sum (hr.mono (by decide)) rfl g_least_sum k_least_sum b_least_sum .nil pass0 (pa_cons (pv 0) (pa_cons (pv 2) (pa_cons (pv 2) pa_nil)))) pa_nil)))
      (pss_one (ps_expr (pe_bm PySem.F.plainAttrs_list PySem.F.slot_list_append PySem.F.type_list_append mt_append (pv 1) (pa_cons (pe_call o_greatest_sum (hr.mono (by decide)) rfl g_greatest_sum k_greatest_sum b_greatest_sum .nil pass0 (pa_cons (pv 0) (pa_cons (pv 2) (pa_cons (pv 2) pa_nil)))) pa_nil))))))
      (pss_one (ps_ret (pv 1))))), ?_⟩
  obtain ⟨xs, h1, h2, _⟩ := hR.list
  rw [List.length_map, hSq.1] at h2
  refine ⟨by decide, fun D hD => ?_⟩
  have s0 : Same H (upd H D (.lst [])) := same_new hD
  refine ⟨_, rfl, a, xs, rfl, .inl (s0.seq (SqL.of h1)), _, _, rfl, rfl, _, rfl, by omega, by omega, ?_⟩
  rw [show (((xs.length : Nat) : Int) - 1).toNat = n by omega]
  refine for_range (fun i σ H' => ∃ v, σ = [some (.ref a), some (.ref D), v] ∧ Same H H' ∧ H' D = some (.lst (rV (bandsM t i)))) ⟨none, rfl, s0, upd_same⟩ ?_ ?_
  · rintro i σ H' hi ⟨v, rfl, s1, d1⟩
    have hlen := bandsM_len t i
    have hl1 : (rV (bandsM t i)).length < sizeLine := by
      rw [rV_len, hlen]
      exact lt_line (by omega)
    walk_at "rd"
    refine ⟨.inl ⟨rfl, _, SqL.of d1⟩, t, hR.same s1, n, hSq, by omega, hi, _, d1, hl1, .inl ⟨rfl, _, SqL.of upd_same⟩, t, hR.same (same_mut s1 hD), n, hSq, by omega, hi, _, upd_same, ?_, same_mut (same_mut s1 hD) hD, ?_⟩
    · rw [List.length_append, rV_len, hlen]
      exact lt_line (show 2 * i + 1 ≤ 10000 by omega)
    · rw [upd_same, bandsM_succ]
      unfold rV
      rw [List.map_append, List.append_assoc]
      rfl
  · rintro σ H' ⟨v, rfl, s1, d1⟩
    exact ⟨_, rfl, q D H' s1 hD d1⟩
def spShown : Sp := fun vs H Q _ => ∃ (a : Addr) (s : Nat) (t : List (List Int)) (n : Nat), vs = [.ref a, .int s] ∧ Rows H .lst a (t.map rV) ∧ Sq n t ∧ s ≤ n ∧ n ≤ 1000 ∧ ∀ D H', Same H H' → H D = none → H' D = some (.lst ((List.range n).map fun (i : Nat) => V.int (at_ t s (i + 1) - at_ t s i))) → Q (.ref D) H'
local macro_rules | `(tactic| walk_at "rd") => `(tactic| simp only [L2.start, wipe, List.replicate_succ, List.replicate_zero, Nat.reduceSub, Nat.reduceAdd, Nat.zero_add, List.map_cons, List.map_nil, List.length_cons, List.length_nil, tSeq, tRet, tAsg, gName, gTup, gCons, gNil, tVar, tC, tOp, tUn, rI0, rI, rU, rEq, rNe, tChain, tChain3, tCons, tNil, tOrV, tAndV, tIfS, tNext, tTest, tB, tNot, tAnd, tOr, tAug, ipI, tCall, tCB, tDrop, tBM, tBM0, tFld, tMeth, rAppend, rExtend, rCat, tTup, tLst, rIxL, rIxT, scal, V.bl.injEq, V.int.injEq, V.ref.injEq, List.cons.injEq, and_true, List.getElem?_cons_succ, List.getElem?_cons_zero, List.cons_append, List.nil_append, List.append_nil, Option.some.injEq, exists_eq_left', exists_and_left, and_assoc, Int.natCast_inj, Int.zero_add, true_and, List.set_cons_succ, List.set_cons_zero])
theorem ok_shown (T : Txt K mg C aS aW) : FnG P w K mg base 1 "shown" p_shown spShown := by
  refine FnG.of T.d_shown sc_shown (fun _ _ _ _ _ _ us hl => match us, hl with | [_, _], _ => rfl) (by rintro vs H Q E ⟨a, s0, t, n, rfl, hR, hSq, hs, hn, q⟩; rfl) (fun f cdv A outer s H vs Q E hr h => ?_)
  obtain ⟨a, s0, t, n, rfl, hR, hSq, hs, hn, q⟩ := h
  refine ⟨_, (pss_one (ps_ret (pe_lc (own := [("part", 2)]) rfl sc_shown.nd (pi_range1 rfl T.b_range (pa_cons (pe_op op_sub (pe_callB call_len_seq rfl T.b_len PySem.boot_len (pa_cons (pv 0) pa_nil)) pe_int) pa_nil)) (blkOk_by (own := [("part", 2)]) (N := n_shown) (sc := defScope s_shown) (by decide +kernel)) (fun _ _ _ _ _ => (pg_name (i := 2) sc_shown.nd rfl (Or.inl rfl))) (fun _ _ _ _ _ => pts_nil) (fun _ _ _ _ _ => (pe_op op_sub (pe_ix (ix_listK (K := K) rfl) (pe_ix (ix_listK (K := K) rfl) (pv 0) (pv 1) (fun _ _ => rfl)) (pe_op op_add (pv 2) pe_int) (fun _ _ => rfl)) (pe_ix (ix_listK (K := K) rfl) (pe_ix (ix_listK (K := K) rfl) (pv 0) (pv 1) (fun _ _ => rfl)) (pv 2) (fun _ _ => rfl))))))), ?_⟩
  obtain ⟨xs, h1, h2, _⟩ := hR.list
  rw [List.length_map, hSq.1] at h2
  refine ⟨_, rfl, a, xs, rfl, .inl (SqL.of h1), _, _, rfl, rfl, _, rfl, by omega, by omega, ?_⟩
  rw [show (((xs.length : Nat) : Int) - 1).toNat = n by omega]
  refine lcV walk_range (fun i => V.int (at_ t s0 (i + 1) - at_ t s0 i)) (by omega) (fun _ _ => trivial) (by rintro i H1 x H2 ⟨rfl, _⟩; exact Same.refl _) (fun i x H1 H2 hi s1 hy Q1 q1 => ?_) (gName_mono _) (fun D H' hD s1 h1 => q D H' s1 hD h1)
  obtain ⟨rfl, rfl⟩ := hy
  obtain ⟨xs1, p, c1, _, c3, c4, c5, c6⟩ := hR.cell hSq hs (show i + 1 ≤ n by omega)
  obtain ⟨xs2, p2, d1, _, d3, d4, d5, d6⟩ := hR.cell hSq hs (show i ≤ n by omega)
  rw [show (((i + 1 : Nat)) : Int) = (i : Int) + 1 by omega] at c6
  refine ⟨rfl, ?_⟩
  walk_at "rd"
  exact ⟨_, SqL.of (s1 _ _ c1), _, c3, _, rfl, _, SqL.of (s1 _ _ c4), _, c6, _, SqL.of (s1 _ _ d1), _, d3, _, rfl, _, SqL.of (s1 _ _ d4), _, d6, _, rfl, _, rfl, q1 _ (Same.refl _)⟩
end
end Tl

namespace Tl
open PySem PySem.Spec PyProof.Rows L2 SctSecret SctBase
section
variable {P : Program} {w : World} {K : PySem.W.Frag} {mg : Str → Option Value} {base : Heap} {C aS aW : Addr}
local macro_rules | `(tactic| walk_at "rd") => `(tactic| simp only [L2.start, wipe, List.replicate_succ, List.replicate_zero, Nat.reduceSub, Nat.reduceAdd, Nat.zero_add, List.map_cons, List.map_nil, List.length_cons, List.length_nil, tSeq, tRet, tAsg, gName, gTup, gCons, gNil, tVar, tC, tOp, tUn, rI0, rI, rU, rEq, rNe, tChain, tChain3, tCons, tNil, tOrV, tAndV, tIfS, tNext, tTest, tB, tNot, tAnd, tOr, tAug, ipI, tCall, tCB, tDrop, tBM, tBM0, tFld, tMeth, rAppend, rExtend, rCat, tTup, tLst, rIxL, rIxT, scal, V.bl.injEq, V.int.injEq, V.ref.injEq, List.cons.injEq, and_true, List.getElem?_cons_succ, List.getElem?_cons_zero, List.cons_append, List.nil_append, List.append_nil, Option.some.injEq, exists_eq_left', exists_and_left, and_assoc, Int.natCast_inj, Int.zero_add, true_and, List.set_cons_succ, List.set_cons_zero])
def POk (n : Nat) (l : List Promise) : Prop := ∀ p ∈ l, p.first ≤ p.last ∧ p.last < n
/-- by how much it's wider than was promised -/
def spareM (n : Nat) (l : List Fact) (p : Promise) : Int := wideM n (knownTo p.to_ l) p.first p.last - (p.wide : Int)
def spToSpare (K : PySem.W.Frag) : Sp := fun vs H Q _ => ∃ (c b : Addr) (n : Nat) (p : Promise) (l : List Fact), vs = [.int n, .ref c, .ref b] ∧ SqT K H c (prV p) ∧ Rows H .tup b (l.map fV) ∧ FO1 l ∧ l.length ≤ 1000 ∧ n ≤ 1000 ∧ p.first ≤ p.last ∧ p.last < n ∧ ∀ H', Same H H' → Q (.int (spareM n l p)) H'
local macro_rules | `(tactic| walk_at "rd") => `(tactic| simp only [L2.start, wipe, List.replicate_succ, List.replicate_zero, Nat.reduceSub, Nat.reduceAdd, Nat.zero_add, List.map_cons, List.map_nil, List.length_cons, List.length_nil, tSeq, tRet, tAsg, gName, gTup, gCons, gNil, tVar, tC, tOp, tUn, rI0, rI, rU, rEq, rNe, tChain, tChain3, tCons, tNil, tOrV, tAndV, tIfS, tNext, tTest, tB, tNot, tAnd, tOr, tAug, ipI, tCall, tCB, tDrop, tBM, tBM0, tFld, tMeth, rAppend, rExtend, rCat, tTup, tLst, rIxL, rIxT, scal, V.bl.injEq, V.int.injEq, V.ref.injEq, List.cons.injEq, and_true, List.getElem?_cons_succ, List.getElem?_cons_zero, List.cons_append, List.nil_append, List.append_nil, Option.some.injEq, exists_eq_left', exists_and_left, and_assoc, Int.natCast_inj, Int.zero_add, true_and, List.set_cons_succ, List.set_cons_zero, spFoundOut, spWidth])
theorem ok_to_spare (T : Txt K mg C aS aW) : FnG P w K mg base 6 "to_spare" p_to_spare (spToSpare K) := by
  obtain ⟨_, _, g_found_out, k_found_out, b_found_out, o_found_out⟩ := (ok_found_out (P := P) (w := w) (base := base) T).ex
  obtain ⟨_, _, g_width, k_width, b_width, o_width⟩ := (ok_width (P := P) (w := w) (base := base) T).ex
  refine FnG.of T.d_to_spare sc_to_spare (fun _ _ _ _ _ _ us hl => match us, hl with | [_, _, _], _ => rfl) (by rintro vs H Q E ⟨c, b, n, p, l, rfl, hS, hR, hF, hl, hn, h1, h2, q⟩; rfl) (fun f cdv A outer s H vs Q E hr h => ?_)
  obtain ⟨c, b, n, p, l, rfl, hS, hR, hF, hl, hn, h1, h2, q⟩ := h
  refine ⟨_, (pss_cons (ps_asg (pv 1) (pg_K (K := K) (n := 4) (pg_tup rfl (pgs_cons (pg_name (i := 3) sc_to_spare.nd rfl (Or.inl rfl)) (pgs_cons (pg_name (i := 4) sc_to_spare.nd rfl (Or.inl rfl)) (pgs_cons (pg_name (i := 5) sc_to_spare.nd rfl (Or.inl rfl)) (pgs_cons (pg_name (i := 6) sc_to_spare.nd rfl (Or.inl rfl)) pgs_nil))))) rfl))
      (pss_one (ps_ret (pe_op op_sub (pe_call o_width (hr.mono (by decide)) rfl g_width k_width b_width .nil pass0 (pa_cons (pe_call o_found_out (hr.mono (by decide)) rfl g_found_out k_found_out b_found_out .nil pass0 (pa_cons (pv 0) (pa_cons (pv 2) (pa_cons (pv 3) pa_nil)))) (pa_cons (pv 4) (pa_cons (pv 5) pa_nil)))) (pv 6))))), ?_⟩
  refine ⟨_, rfl, _, _, rfl, hS, rfl, _, _, rfl, _, _, rfl, _, _, rfl, _, _, rfl, rfl, ?_⟩
  walk_at "rd"
  refine ⟨l, hR, hF, hl, hn, fun D H' s1 r1 => ⟨_, r1, n, sq_apart n _, by omega, by omega, q H' s1⟩⟩
def spIsKept (K : PySem.W.Frag) : Sp := fun vs H Q _ => ∃ (c b : Addr) (n : Nat) (p : Promise) (l : List Fact), vs = [.int n, .ref c, .ref b] ∧ SqT K H c (prV p) ∧ Rows H .tup b (l.map fV) ∧ FO1 l ∧ l.length ≤ 1000 ∧ n ≤ 1000 ∧ p.first ≤ p.last ∧ p.last < n ∧ ∀ H', Same H H' → Q (.bl (decide (0 ≤ spareM n l p))) H'
local macro_rules | `(tactic| walk_at "rd") => `(tactic| simp only [L2.start, wipe, List.replicate_succ, List.replicate_zero, Nat.reduceSub, Nat.reduceAdd, Nat.zero_add, List.map_cons, List.map_nil, List.length_cons, List.length_nil, tSeq, tRet, tAsg, gName, gTup, gCons, gNil, tVar, tC, tOp, tUn, rI0, rI, rU, rEq, rNe, tChain, tChain3, tCons, tNil, tOrV, tAndV, tIfS, tNext, tTest, tB, tNot, tAnd, tOr, tAug, ipI, tCall, tCB, tDrop, tBM, tBM0, tFld, tMeth, rAppend, rExtend, rCat, tTup, tLst, rIxL, rIxT, scal, V.bl.injEq, V.int.injEq, V.ref.injEq, List.cons.injEq, and_true, List.getElem?_cons_succ, List.getElem?_cons_zero, List.cons_append, List.nil_append, List.append_nil, Option.some.injEq, exists_eq_left', exists_and_left, and_assoc, Int.natCast_inj, Int.zero_add, true_and, List.set_cons_succ, List.set_cons_zero, spToSpare])
theorem ok_is_kept (T : Txt K mg C aS aW) : FnG P w K mg base 7 "is_kept" p_is_kept (spIsKept K) := by
  obtain ⟨_, _, g_to_spare, k_to_spare, b_to_spare, o_to_spare⟩ := (ok_to_spare (P := P) (w := w) (base := base) T).ex
  refine FnG.of T.d_is_kept sc_is_kept (fun _ _ _ _ _ _ us hl => match us, hl with | [_, _, _], _ => rfl) (by rintro vs H Q E ⟨c, b, n, p, l, rfl, hS, hR, hF, hl, hn, h1, h2, q⟩; rfl) (fun f cdv A outer s H vs Q E hr h => ?_)
  obtain ⟨c, b, n, p, l, rfl, hS, hR, hF, hl, hn, h1, h2, q⟩ := h
  refine ⟨_, (pss_one (ps_ret (pe_cmpR op_ge (pe_call o_to_spare (hr.mono (by decide)) rfl g_to_spare k_to_spare b_to_spare .nil pass0 (pa_cons (pv 0) (pa_cons (pv 1) (pa_cons (pv 2) pa_nil)))) pe_int (nomark _)))), ?_⟩
  walk_at "rd"
  exact ⟨p, hS, l, hR, hF, hl, hn, h1, h2, q⟩
def spAllKept : Sp := fun vs H Q _ => ∃ (c b : Addr) (n : Nat) (ps : List Promise) (l : List Fact), vs = [.int n, .ref c, .ref b] ∧ Rows H .tup c (ps.map prV) ∧ Rows H .tup b (l.map fV) ∧ FO1 l ∧ l.length ≤ 1000 ∧ n ≤ 1000 ∧ POk n ps ∧ ∀ H', Same H H' → Q (.bl (ps.all fun p => decide (0 ≤ spareM n l p))) H'
local macro_rules | `(tactic| walk_at "rd") => `(tactic| simp only [L2.start, wipe, List.replicate_succ, List.replicate_zero, Nat.reduceSub, Nat.reduceAdd, Nat.zero_add, List.map_cons, List.map_nil, List.length_cons, List.length_nil, tSeq, tRet, tAsg, gName, gTup, gCons, gNil, tVar, tC, tOp, tUn, rI0, rI, rU, rEq, rNe, tChain, tChain3, tCons, tNil, tOrV, tAndV, tIfS, tNext, tTest, tB, tNot, tAnd, tOr, tAug, ipI, tCall, tCB, tDrop, tBM, tBM0, tFld, tMeth, rAppend, rExtend, rCat, tTup, tLst, rIxL, rIxT, scal, V.bl.injEq, V.int.injEq, V.ref.injEq, List.cons.injEq, and_true, List.getElem?_cons_succ, List.getElem?_cons_zero, List.cons_append, List.nil_append, List.append_nil, Option.some.injEq, exists_eq_left', exists_and_left, and_assoc, Int.natCast_inj, Int.zero_add, true_and, List.set_cons_succ, List.set_cons_zero, spIsKept])
theorem ok_all_kept (T : Txt K mg C aS aW) : FnG P w K mg base 8 "all_kept" p_all_kept spAllKept := by
  obtain ⟨_, _, g_is_kept, k_is_kept, b_is_kept, o_is_kept⟩ := (ok_is_kept (P := P) (w := w) (base := base) T).ex
  refine FnG.of T.d_all_kept sc_all_kept (fun _ _ _ _ _ _ us hl => match us, hl with | [_, _, _], _ => rfl) (by rintro vs H Q E ⟨c, b, n, ps, l, rfl, hP, hR, hF, hl, hn, hO, q⟩; rfl) (fun f cdv A outer s H vs Q E hr h => ?_)
  obtain ⟨c, b, n, ps, l, rfl, hP, hR, hF, hl, hn, hO, q⟩ := h
  refine ⟨_, (pss_cons (ps_for PassesOwn.never rfl (pi_list (pv 1)) (pg_name (i := 3) sc_all_kept.nd rfl (Or.inl rfl)) (pss_one (ps_if (pt_not (pt_val (pe_call o_is_kept (hr.mono (by decide)) rfl g_is_kept k_is_kept b_is_kept .nil pass0 (pa_cons (pv 0) (pa_cons (pv 3) (pa_cons (pv 2) pa_nil)))))) (pss_one (ps_ret pe_bl)) pss_nil)))
      (pss_one (ps_ret pe_bl))), ?_⟩
  refine ⟨_, rfl, forR hP (fun i σ H' => ∃ v, σ = [some (.int n), some (.ref c), some (.ref b), v] ∧ Same H H' ∧ ((ps.take i).all fun p => decide (0 ≤ spareM n l p)) = true) ⟨_, rfl, Same.refl _, rfl⟩ (by rintro i σ H' ⟨_, _, h, _⟩; exact h) ?_ ?_⟩
  · rintro i f p σ H' hf hp ⟨v, rfl, s1, hi⟩
    rw [List.getElem?_map] at hf
    cases ef : ps[i]? with
    | none => rw [ef] at hf; cases hf
    | some x =>
      rw [ef] at hf
      obtain rfl := Option.some.inj hf
      have hx := hO x (List.mem_of_getElem? ef)
      walk_at "rd"
      refine ⟨x, SqT.of hp, l, hR.same s1, hF, hl, hn, hx.1, hx.2, fun H2 s2 => ite2 (fun k => ?_) (fun k => ?_)⟩
      · have e : (ps.all fun p => decide (0 ≤ spareM n l p)) = false := by
          rw [List.all_eq_false]
          exact ⟨x, List.mem_of_getElem? ef, by simpa using k⟩
        rw [e] at q
        exact q H2 (s1.trans s2)
      · refine ⟨s1.trans s2, ?_⟩
        rw [List.take_add_one, ef, List.all_append, hi]
        simpa using k
  · rintro σ H' ⟨v, rfl, s1, hi⟩
    rw [List.length_map, List.take_length] at hi
    rw [hi] at q
    exact q H' s1
def spIsPromised : Sp := fun vs H Q _ => ∃ (c : Addr) (m i j : Int) (ps : List Promise), vs = [.ref c, .int m, .int i, .int j] ∧ Rows H .tup c (ps.map prV) ∧ Q (.bl (ps.any fun p => decide ((p.to_ : Int) = m) && (decide ((p.first : Int) = i) && decide ((p.last : Int) = j)))) H
local macro_rules | `(tactic| walk_at "rd") => `(tactic| simp only [L2.start, wipe, List.replicate_succ, List.replicate_zero, Nat.reduceSub, Nat.reduceAdd, Nat.zero_add, List.map_cons, List.map_nil, List.length_cons, List.length_nil, tSeq, tRet, tAsg, gName, gTup, gCons, gNil, tVar, tC, tOp, tUn, rI0, rI, rU, rEq, rNe, tChain, tChain3, tCons, tNil, tOrV, tAndV, tIfS, tNext, tTest, tB, tNot, tAnd, tOr, tAug, ipI, tCall, tCB, tDrop, tBM, tBM0, tFld, tMeth, rAppend, rExtend, rCat, tTup, tLst, rIxL, rIxT, scal, V.bl.injEq, V.int.injEq, V.ref.injEq, List.cons.injEq, and_true, List.getElem?_cons_succ, List.getElem?_cons_zero, List.cons_append, List.nil_append, List.append_nil, Option.some.injEq, exists_eq_left', exists_and_left, and_assoc, Int.natCast_inj, Int.zero_add, true_and, List.set_cons_succ, List.set_cons_zero])
theorem ok_is_promised (T : Txt K mg C aS aW) : FnG P w K mg base 1 "is_promised" p_is_promised spIsPromised := by
  refine FnG.of T.d_is_promised sc_is_promised (fun _ _ _ _ _ _ us hl => match us, hl with | [_, _, _, _], _ => rfl) (by rintro vs H Q E ⟨c, m, i, j, ps, rfl, hP, q⟩; rfl) (fun f cdv A outer s H vs Q E hr h => ?_)
  obtain ⟨c, m, i, j, ps, rfl, hP, q⟩ := h
  refine ⟨_, (pss_cons (ps_for PassesOwn.never rfl (pi_list (pv 0)) (pg_name (i := 4) sc_is_promised.nd rfl (Or.inl rfl)) (pss_one (ps_if (PW.pt (pw_and (pt_cmpR op_eq (pe_ix (ix_tupK (K := K) rfl) (pv 4) pe_int (fun _ _ => rfl)) (pv 1) (nomark _)) (pw_and (pt_cmpR op_eq (pe_ix (ix_tupK (K := K) rfl) (pv 4) pe_int (fun _ _ => rfl)) (pv 2) (nomark _)) (pw_and1 (pt_cmpR op_eq (pe_ix (ix_tupK (K := K) rfl) (pv 4) pe_int (fun _ _ => rfl)) (pv 3) (nomark _)))))) (pss_one (ps_ret pe_bl)) pss_nil)))
      (pss_one (ps_ret pe_bl))), ?_⟩
  refine ⟨_, rfl, forR hP (fun k σ H' => ∃ v, σ = [some (.ref c), some (.int m), some (.int i), some (.int j), v] ∧ H' = H ∧ ((ps.take k).any fun p => decide ((p.to_ : Int) = m) && (decide ((p.first : Int) = i) && decide ((p.last : Int) = j))) = false) ⟨_, rfl, rfl, rfl⟩ (by rintro i σ H' ⟨_, _, rfl, _⟩; exact Same.refl _) ?_ ?_⟩
  · rintro k f p σ H' hf hp ⟨v, rfl, rfl, hi⟩
    rw [List.getElem?_map] at hf
    cases ef : ps[k]? with
    | none => rw [ef] at hf; cases hf
    | some x =>
      rw [ef] at hf
      obtain rfl := Option.some.inj hf
      have eT : (decide ((x.to_ : Int) = m) && (decide ((x.first : Int) = i) && decide ((x.last : Int) = j))) = true → (ps.any fun p => decide ((p.to_ : Int) = m) && (decide ((p.first : Int) = i) && decide ((p.last : Int) = j))) = true := fun h => by
        rw [List.any_eq_true]
        exact ⟨x, List.mem_of_getElem? ef, h⟩
      have eF : (decide ((x.to_ : Int) = m) && (decide ((x.first : Int) = i) && decide ((x.last : Int) = j))) = false → ((ps.take (k + 1)).any fun p => decide ((p.to_ : Int) = m) && (decide ((p.first : Int) = i) && decide ((p.last : Int) = j))) = false := fun h => by
        rw [List.take_add_one, ef, List.any_append, hi]
        simpa using h
      walk_at "rd"
      refine ⟨_, SqT.of hp, _, at0, rfl, ?_⟩
      by_cases c1 : (x.to_ : Int) = m
      · refine iteTt (decide_eq_true (by rw [c1])) ⟨_, SqT.of hp, _, at1, rfl, ?_⟩
        by_cases c2 : (x.first : Int) = i
        · refine iteTt (decide_eq_true (by rw [c2])) ⟨_, SqT.of hp, _, at2, rfl, ?_⟩
          by_cases c3 : (x.last : Int) = j
          · refine iteTt (decide_eq_true (by rw [c3])) ?_
            rw [eT (by rw [decide_eq_true c1, decide_eq_true c2, decide_eq_true c3]; rfl)] at q
            exact q
          · refine iteFf (decide_eq_false fun z => c3 (V.int.inj z)) ?_
            exact eF (by rw [decide_eq_false c3, Bool.and_false, Bool.and_false])
        · refine iteFf (decide_eq_false fun z => c2 (V.int.inj z)) (iteFf rfl ?_)
          exact eF (by rw [decide_eq_false c2, Bool.false_and, Bool.and_false])
      · refine iteFf (decide_eq_false fun z => c1 (V.int.inj z)) (iteFf rfl ?_)
        exact eF (by rw [decide_eq_false c1, Bool.false_and])
  · rintro σ H' ⟨v, rfl, rfl, hi⟩
    rw [List.length_map, List.take_length] at hi
    rw [hi] at q
    exact q
/-- the first place of the least -/
theorem nearest_fold (f : Promise → Int) : ∀ (l : List Promise) (p : Promise),
    (∃ k : Nat, (p :: l)[k]? = some (l.foldl (fun a b => if f b < f a then b else a) p) ∧ (∀ (j : Nat) x, j < k → (p :: l)[j]? = some x → f (l.foldl (fun a b => if f b < f a then b else a) p) < f x)) ∧
      ∀ x ∈ p :: l, f (l.foldl (fun a b => if f b < f a then b else a) p) ≤ f x
  | [], p => ⟨⟨0, rfl, fun j x h _ => absurd h (by omega)⟩, fun x hx => by
      rw [List.mem_singleton] at hx
      rw [hx]
      exact Int.le_refl _⟩
  | b :: l, p => by
    rw [List.foldl_cons]
    by_cases h : f b < f p
    · rw [if_pos h]
      obtain ⟨⟨k, h1, h2⟩, h3⟩ := nearest_fold f l b
      have hb := h3 b (List.mem_cons_self ..)
      refine ⟨⟨k + 1, h1, fun j x hj e => ?_⟩, fun x hx => ?_⟩
      · cases j with
        | zero =>
          have : p = x := Option.some.inj e
          subst this
          omega
        | succ j => exact h2 j x (by omega) e
      · rcases List.mem_cons.mp hx with rfl | hx
        · omega
        · exact h3 x hx
    · rw [if_neg h]
      obtain ⟨⟨k, h1, h2⟩, h3⟩ := nearest_fold f l p
      have hp := h3 p (List.mem_cons_self ..)
      refine ⟨?_, fun x hx => ?_⟩
      · cases k with
        | zero => exact ⟨0, h1, fun j x hj => absurd hj (by omega)⟩
        | succ k =>
          refine ⟨k + 2, h1, fun j x hj e => ?_⟩
          match j, e with
          | 0, e => exact h2 0 x (by omega) e
          | 1, e =>
            have : b = x := Option.some.inj e
            subst this
            have := h2 0 p (by omega) rfl
            omega
          | j + 2, e => exact h2 (j + 1) x (by omega) e
      · rcases List.mem_cons.mp hx with rfl | hx
        · exact hp
        · rcases List.mem_cons.mp hx with rfl | hx
          · omega
          · exact h3 x (List.mem_cons_of_mem _ hx)
theorem sVia {i : Nat} {te : TE} {u : TS} {D : Ends} {σ : L2.St} {H : Hp} {P : VK → Prop} (h : ∀ Q, P Q → te σ H Q) (q : P fun x H1 => u D (σ.set i (some x)) H1) : tSeq (tAsg te (gName i)) u D σ H := h _ q
def spNearest : Sp := fun vs H Q _ => ∃ (c b : Addr) (n : Nat) (p : Promise) (ps : List Promise) (l : List Fact), vs = [.int n, .ref c, .ref b] ∧ Rows H .tup c ((p :: ps).map prV) ∧ Rows H .tup b (l.map fV) ∧ FO1 l ∧ l.length ≤ 1000 ∧ n ≤ 1000 ∧ POk n (p :: ps) ∧ ps.length ≤ 1000 ∧
  ∀ D H' x, x = ps.foldl (fun a b => if spareM n l b < spareM n l a then b else a) p → Same H H' → H D = none → H' D = some (.lst [.int x.to_, .int x.first, .int x.last, .int (spareM n l x)]) → Q (.ref D) H'
local macro_rules | `(tactic| walk_at "rd") => `(tactic| simp only [L2.start, wipe, List.replicate_succ, List.replicate_zero, Nat.reduceSub, Nat.reduceAdd, Nat.zero_add, List.map_cons, List.map_nil, List.length_cons, List.length_nil, tSeq, tRet, tAsg, gName, gTup, gCons, gNil, tVar, tC, tOp, tUn, rI0, rI, rU, rEq, rNe, tChain, tChain3, tCons, tNil, tOrV, tAndV, tIfS, tNext, tTest, tB, tNot, tAnd, tOr, tAug, ipI, tCall, tCB, tDrop, tBM, tBM0, tFld, tMeth, rAppend, rExtend, rCat, tTup, tLst, rIxL, rIxT, scal, V.bl.injEq, V.int.injEq, V.ref.injEq, List.cons.injEq, and_true, List.getElem?_cons_succ, List.getElem?_cons_zero, List.cons_append, List.nil_append, List.append_nil, Option.some.injEq, exists_eq_left', exists_and_left, and_assoc, Int.natCast_inj, Int.zero_add, true_and, List.set_cons_succ, List.set_cons_zero, spToSpare])
theorem ok_nearest (T : Txt K mg C aS aW) : FnG P w K mg base 7 "nearest" p_nearest spNearest := by
  obtain ⟨_, _, g_to_spare, k_to_spare, b_to_spare, o_to_spare⟩ := (ok_to_spare (P := P) (w := w) (base := base) T).ex
  refine FnG.of T.d_nearest sc_nearest (fun _ _ _ _ _ _ us hl => match us, hl with | [_, _, _], _ => rfl) (by rintro vs H Q E ⟨c, b, n, p, ps, l, rfl, hP, hR, hF, hl, hn, hO, hps, q⟩; rfl) (fun f cdv A outer s H vs Q E hr h => ?_)
  obtain ⟨c, b, n, p, ps, l, rfl, hP, hR, hF, hl, hn, hO, hps, q⟩ := h
  refine ⟨_, (pss_cons (ps_setLc (i := 3) (own := [("promise", 9)]) rfl sc_nearest.nd rfl rfl (sw_true rfl rfl rfl (by decide +kernel)) (pi_list (pv 1)) (blkOk_by (own := [("promise", 9)]) (N := n_nearest) (sc := defScope s_nearest) (by decide +kernel)) (fun _ _ _ _ _ => (pg_name (i := 9) sc_nearest.nd rfl (Or.inl rfl))) (fun _ _ _ _ _ => pts_nil) (fun _ _ _ _ _ => (pe_call o_to_spare (hr.mono (by decide)) rfl g_to_spare k_to_spare b_to_spare .nil pass0 (pa_cons (pv 0) (pa_cons (pv 9) (pa_cons (pv 2) pa_nil))))))
      (pss_cons (ps_set (i := 4) sc_nearest.nd rfl (Or.inl rfl) (pe_callB (cr_min rfl) rfl T.b_min (by decide +kernel) (pa_cons (pv 3) pa_nil)))
      (pss_cons (ps_asg (pe_ix (ix_listK (K := K) rfl) (pv 1) (pe_bm PySem.F.plainAttrs_list PySem.F.slot_list_index PySem.F.type_list_index mt_index (pv 3) (pa_cons (pv 4) pa_nil)) (fun _ _ => rfl)) (pg_K (K := K) (n := 4) (pg_tup rfl (pgs_cons (pg_name (i := 5) sc_nearest.nd rfl (Or.inl rfl)) (pgs_cons (pg_name (i := 6) sc_nearest.nd rfl (Or.inl rfl)) (pgs_cons (pg_name (i := 7) sc_nearest.nd rfl (Or.inl rfl)) (pgs_cons (pg_name (i := 8) sc_nearest.nd rfl (Or.inl rfl)) pgs_nil))))) rfl))
      (pss_one (ps_ret (pe_lst (pa_cons (pv 5) (pa_cons (pv 6) (pa_cons (pv 7) (pa_cons (pv 4) pa_nil)))))))))), ?_⟩
  obtain ⟨xs, h1, h2, h3⟩ := hP.list
  rw [List.length_map] at h2
  have h2' : xs.length = ps.length + 1 := h2
  refine sVia (P := fun Q => ∀ D H', H D = none → Same H H' → H' D = some (.lst ((List.range xs.length).map fun i => V.int (spareM n l ((p :: ps).getD i p)))) → Q (.ref D) H') (fun Q hq => ⟨_, rfl, c, rfl, ⟨_, SqL.of h1⟩, lcV (n := xs.length) (Y := YAt xs) (G := fun H => SqL K H c xs) walk_list (fun i => V.int (spareM n l ((p :: ps).getD i p))) (by omega) (fun H' s => SqL.of (s _ _ h1)) (by rintro i H1 x H2 ⟨rfl, _⟩; exact Same.refl _) (fun i x H1 H2 hi s1 hy Q1 q1 => ?_) (gName_mono _) hq⟩) (fun D H' hD s1 d1 => ?_)
  · obtain ⟨rfl, hx⟩ := hy
    have hi' : i < (p :: ps).length := by rw [← h2]; exact hi
    obtain ⟨a, e1, e2, e3⟩ := h3 i (prV (p :: ps)[i]) (by rw [List.getElem?_map, List.getElem?_eq_getElem hi']; rfl)
    have ex : x = .ref a := Option.some.inj (hx.symm.trans e1)
    subst ex
    have ho := hO _ (List.getElem_mem hi')
    rw [getD_at (List.getElem?_eq_getElem hi')] at q1
    refine ⟨rfl, ?_⟩
    walk_at "rd"
    exact ⟨_, SqT.of (s1 _ _ e3), l, hR.same s1, hF, hl, hn, ho.1, ho.2, q1⟩
  · rw [h2, map_range_getD (fun x => V.int (spareM n l x)) p (p :: ps)] at d1
    have d2 : H' D = some (.lst (((p :: ps).map (spareM n l)).map V.int)) := by rw [d1, List.map_map]; rfl
    obtain ⟨⟨k, k1, k2⟩, k3⟩ := nearest_fold (spareM n l) ps p
    have eq := fun D H' => q D H' _ rfl
    generalize ps.foldl (fun a b => if spareM n l b < spareM n l a then b else a) p = x at k1 k2 k3 eq
    refine ⟨_, rfl, D, _, rfl, SqL.of d2, by simp, fun m hm hle => ?_⟩
    have em : m = spareM n l x := by
      obtain ⟨y, hy, rfl⟩ := List.mem_map.mp hm
      have a1 := k3 y hy
      have a2 := hle (spareM n l x) (List.mem_map_of_mem (List.mem_of_getElem? k1))
      omega
    subst em
    have hk : k < (p :: ps).length := (List.getElem?_eq_some_iff.mp k1).1
    obtain ⟨a, e1, e2, e3⟩ := h3 k (prV x) (by rw [List.getElem?_map, k1]; rfl)
    refine ⟨_, rfl, _, rfl, .inl ⟨rfl, _, SqL.of d2⟩, _, rfl, D, _, _, k, .int (spareM n l x), rfl, rfl, SqL.of d2, rfl, ?_, ?_, ?_, ?_, ?_⟩
    · rw [List.all_eq_true]
      intro y hy
      obtain ⟨z, _, rfl⟩ := List.mem_map.mp hy
      rfl
    · rw [List.getElem?_map, List.getElem?_map, k1]
      rfl
    · exact beq_self_eq_true _
    · intro j z hj hz
      rw [List.getElem?_map, List.getElem?_map] at hz
      cases ez : (p :: ps)[j]? with
      | none => rw [ez] at hz; cases hz
      | some y =>
        rw [ez] at hz
        obtain rfl := Option.some.inj hz
        have := k2 j y hj ez
        exact beq_eq_false_iff_ne.mpr (show spareM n l y ≠ spareM n l x by omega)
    · refine ⟨_, _, _, _, rfl, rfl, SqL.of (s1 _ _ h1), atI_nat e1, _, _, rfl, SqT.of (s1 _ _ e3), rfl, _, _, rfl, _, _, rfl, _, _, rfl, _, _, rfl, rfl, ?_⟩
      walk_at "rd"
      refine ⟨by decide, fun D2 hD2 => eq D2 _ (s1.trans (same_new hD2)) ?_ upd_same⟩
      exact s1.free hD2
/-! ### the book -/
def bF (aS aP aF : Addr) : List (Str × V) := [("shares", .ref aS), ("promises", .ref aP), ("facts", .ref aF)]
theorem lk_here {k : Str} {v : V} {r : List (Str × V)} : List.lookup k ((k, v) :: r) = some v := by
  have e : (k == k) = true := beq_self_eq_true k
  simp only [List.lookup, e]
theorem lk_past {k g : Str} {v : V} {r : List (Str × V)} (h : (k == g) = false) : List.lookup k ((g, v) :: r) = List.lookup k r := by
  simp only [List.lookup, h]
theorem put_here {f : Str} {v x : V} {r : List (Str × V)} : putF f v ((f, x) :: r) = (f, v) :: r := if_pos rfl
theorem put_past {f g : Str} {v x : V} {r : List (Str × V)} (h : ¬ g = f) : putF f v ((g, x) :: r) = (g, x) :: putF f v r := if_neg h
theorem bF_shares (a b c : Addr) : (bF a b c).lookup ("shares" : Str) = some (.ref a) := lk_here
theorem bF_promises (a b c : Addr) : (bF a b c).lookup ("promises" : Str) = some (.ref b) := (lk_past (by decide +kernel)).trans lk_here
theorem bF_facts (a b c : Addr) : (bF a b c).lookup ("facts" : Str) = some (.ref c) := (lk_past (by decide +kernel)).trans ((lk_past (by decide +kernel)).trans lk_here)
theorem bF_no {m : Str} (h1 : (m == ("shares" : Str)) = false) (h2 : (m == ("promises" : Str)) = false) (h3 : (m == ("facts" : Str)) = false) (a b c : Addr) : (bF a b c).lookup m = none := (lk_past h1).trans ((lk_past h2).trans ((lk_past h3).trans rfl))
theorem bF_put_shares (a b c d : Addr) : putF "shares" (.ref d) (bF a b c) = bF d b c := put_here
theorem bF_put_promises (a b c d : Addr) : putF "promises" (.ref d) (bF a b c) = bF a d c := (put_past (by decide +kernel)).trans (congrArg _ put_here)
theorem bF_put_facts (a b c d : Addr) : putF "facts" (.ref d) (bF a b c) = bF a b d := (put_past (by decide +kernel)).trans (congrArg _ ((put_past (by decide +kernel)).trans (congrArg _ put_here)))
theorem bF_new (a b c : Addr) : putF "facts" (.ref c) (putF "promises" (.ref b) (putF "shares" (.ref a) [])) = bF a b c := by
  show putF "facts" (.ref c) (putF "promises" (.ref b) [("shares", .ref a)]) = _
  rw [put_past (by decide +kernel)]
  show putF "facts" (.ref c) [("shares", .ref a), ("promises", .ref b)] = _
  rw [put_past (by decide +kernel), put_past (by decide +kernel)]
  rfl
/-- the book at b; its lists are none of g -/
structure BookL (C : Addr) (H : Hp) (g b dx a1 a2 a3 : Addr) (s : State) : Prop where
  ins : H b = some (.ins C dx (bF a1 a2 a3))
  sh : H a1 = some (.lst (sV s.shares))
  pr : Rows H .tup a2 (s.promises.map prV)
  fa : Rows H .tup a3 (s.facts.map fV)
  n1 : a1 ≠ g
  n2 : a2 ≠ g
  n3 : a3 ≠ g
  nb : b ≠ g
def BookAt (C : Addr) (H : Hp) (g b : Addr) (s : State) : Prop := ∃ dx a1 a2 a3, BookL C H g b dx a1 a2 a3 s
theorem BookL.same {C : Addr} {H H' : Hp} {g b dx a1 a2 a3 : Addr} {s : State} (e : Same H H') (h : BookL C H g b dx a1 a2 a3 s) : BookL C H' g b dx a1 a2 a3 s :=
  ⟨e _ _ h.ins, e _ _ h.sh, h.pr.same e, h.fa.same e, h.n1, h.n2, h.n3, h.nb⟩
theorem BookAt.same {C : Addr} {H H' : Hp} {g b : Addr} {s : State} (e : Same H H') (h : BookAt C H g b s) : BookAt C H' g b s := by
  obtain ⟨dx, a1, a2, a3, h⟩ := h
  exact ⟨dx, a1, a2, a3, h.same e⟩
/-- all but b is as it was -/
def But (b : Addr) (H H' : Hp) : Prop := ∀ a o, H a = some o → a ≠ b → H' a = some o
theorem Same.but {b : Addr} {H H' : Hp} (h : Same H H') : But b H H' := fun a o e _ => h a o e
theorem But.trans {b : Addr} {H H1 H2 : Hp} (h : But b H H1) (h' : But b H1 H2) : But b H H2 := fun a o e n => h' a o (h a o e n) n
theorem But.upd {b : Addr} {H : Hp} {o : HO} : But b H (upd H b o) := fun a u e n => by
  rw [upd_ne n]
  exact e
theorem But.rows {b : Addr} {H H' : Hp} {a C dx : Addr} {fs : List (Str × V)} {rows : List (List V)} (h : But b H H') (hb : H b = some (.ins C dx fs)) (r : Rows H .tup a rows) : Rows H' .tup a rows := by
  obtain ⟨ps, h1, h2, h3⟩ := r
  have ne : ∀ (p : Addr) (o : HO), H p = some o → (∀ C dx fs, o ≠ .ins C dx fs) → p ≠ b := fun p o e n z => by
    subst z
    rw [hb] at e
    exact n _ _ _ (Option.some.inj e).symm
  refine ⟨ps, h _ _ h1 (ne _ _ h1 (by intro _ _ _ z; cases z)), h2, fun i f e => ?_⟩
  obtain ⟨p, e1, e2, e3⟩ := h3 i f e
  exact ⟨p, e1, e2, h _ _ e3 (ne _ _ e3 (by intro _ _ _ z; cases z))⟩
/-- the book as it is in form -/
structure Good (s : State) : Prop where
  len : s.shares.length ≤ 10
  sum : sumN s.shares ≤ 1000000
  facts : FOk s.shares.length s.facts
  proms : POk s.shares.length s.promises
  nf : s.facts.length ≤ 40
  np : s.promises.length ≤ 12
end
end Tl

namespace Tl
open PySem PySem.Spec PyProof.Rows L2 SctSecret SctBase
section
variable {P : Program} {w : World} {K : PySem.W.Frag} {mg : Str → Option Value} {base : Heap} {C aS aW : Addr}
local macro_rules | `(tactic| walk_at "rd") => `(tactic| simp only [L2.start, wipe, List.replicate_succ, List.replicate_zero, Nat.reduceSub, Nat.reduceAdd, Nat.zero_add, List.map_cons, List.map_nil, List.length_cons, List.length_nil, tSeq, tRet, tAsg, gName, gTup, gCons, gNil, tVar, tC, tOp, tUn, rI0, rI, rU, rEq, rNe, tChain, tChain3, tCons, tNil, tOrV, tAndV, tIfS, tNext, tTest, tB, tNot, tAnd, tOr, tAug, ipI, tCall, tCB, tDrop, tBM, tBM0, tFld, tMeth, rAppend, rExtend, rCat, tTup, tLst, rIxL, rIxT, scal, V.bl.injEq, V.int.injEq, V.ref.injEq, List.cons.injEq, and_true, List.getElem?_cons_succ, List.getElem?_cons_zero, List.cons_append, List.nil_append, List.append_nil, Option.some.injEq, exists_eq_left', exists_and_left, and_assoc, Int.natCast_inj, Int.zero_add, true_and, List.set_cons_succ, List.set_cons_zero])
theorem spare_kept {n : Nat} (hn : 1 ≤ n) (l : List Fact) (p : Promise) : decide (0 ≤ spareM n l p) = decide ((p.wide : Int) ≤ wide n (knownTo p.to_ l) p.first p.last) := by
  unfold spareM
  rw [wideM_eq hn, decide_eq_decide]
  omega
theorem keeps_eq {s : State} (g : Good s) (l : List Fact) : (s.promises.all fun p => decide (0 ≤ spareM s.shares.length l p)) = keeps s l := by
  unfold keeps
  have h : ∀ p ∈ s.promises, decide (0 ≤ spareM s.shares.length l p) = decide ((p.wide : Int) ≤ wide s.shares.length (knownTo p.to_ l) p.first p.last) := fun p hp => spare_kept (by have := (g.proms p hp).2; omega) l p
  rw [Bool.eq_iff_iff, List.all_eq_true, List.all_eq_true]
  exact ⟨fun k p hp => by rw [← h p hp]; exact k p hp, fun k p hp => by rw [h p hp]; exact k p hp⟩
theorem stage {H : Hp} {b C dx a : Addr} {fs fs' : List (Str × V)} {xs : List V} (hb : H b = some (.ins C dx fs)) (ha : H a = none) :
    (upd (upd H a (.lst xs)) b (.ins C dx fs')) b = some (.ins C dx fs') ∧ (upd (upd H a (.lst xs)) b (.ins C dx fs')) a = some (.lst xs) ∧ But b H (upd (upd H a (.lst xs)) b (.ins C dx fs')) ∧ a ≠ b := by
  have n : a ≠ b := (ne_of_none hb ha).symm
  exact ⟨upd_same, by rw [upd_ne n, upd_same], fun c o e k => by rw [upd_ne k]; exact same_new ha _ _ e, n⟩
def spInit (C : Addr) : Sp := fun vs H Q _ => ∃ (b dx : Addr), vs = [.ref b] ∧ H b = some (.ins C dx []) ∧ ∀ H', But b H H' → (∀ g, H' g = none → BookAt C H' g b SctSecret.start) → Q .non H'
local macro_rules | `(tactic| walk_at "rd") => `(tactic| simp only [L2.start, wipe, List.replicate_succ, List.replicate_zero, Nat.reduceSub, Nat.reduceAdd, Nat.zero_add, List.map_cons, List.map_nil, List.length_cons, List.length_nil, tSeq, tRet, tAsg, gName, gTup, gCons, gNil, tVar, tC, tOp, tUn, rI0, rI, rU, rEq, rNe, tChain, tChain3, tCons, tNil, tOrV, tAndV, tIfS, tNext, tTest, tB, tNot, tAnd, tOr, tAug, ipI, tCall, tCB, tDrop, tBM, tBM0, tFld, tMeth, rAppend, rExtend, rCat, tTup, tLst, rIxL, rIxT, scal, V.bl.injEq, V.int.injEq, V.ref.injEq, List.cons.injEq, and_true, List.getElem?_cons_succ, List.getElem?_cons_zero, List.cons_append, List.nil_append, List.append_nil, Option.some.injEq, exists_eq_left', exists_and_left, and_assoc, Int.natCast_inj, Int.zero_add, true_and, List.set_cons_succ, List.set_cons_zero])
theorem ok_Book___init__ (T : Txt K mg C aS aW) : MtG P w K mg base C 1 "__init__" p_Book___init__ (spInit C) := by
  refine MtG.of T.d_Book___init__ sc_Book___init__ (fun _ _ _ _ _ _ us hl => match us, hl with | [_], _ => rfl) (by rintro vs H Q E ⟨b, dx, rfl, hb, q⟩; rfl) (fun f cdv A outer s H vs Q E hr h => ?_)
  obtain ⟨b, dx, rfl, hb, q⟩ := h
  refine ⟨_, (pss_cons (ps_fld (pv 0) (pe_lst pa_nil) rfl)
      (pss_cons (ps_fld (pv 0) (pe_lst pa_nil) rfl)
      (pss_one (ps_fld (pv 0) (pe_lst pa_nil) rfl)))), ?_⟩
  refine ⟨Nat.zero_le _, fun a1 n1 => ⟨_, rfl, b, C, dx, _, rfl, same_new n1 _ _ hb, T.cl, T.a_shares, (by show 0 < 1000; decide), ?_⟩⟩
  refine ⟨Nat.zero_le _, fun a2 n2 => ⟨_, rfl, b, C, dx, _, rfl, same_new n2 _ _ upd_same, T.cl, T.a_promises, (by show 1 < 1000; decide), ?_⟩⟩
  refine ⟨Nat.zero_le _, fun a3 n3 => ⟨_, rfl, b, C, dx, _, rfl, same_new n3 _ _ upd_same, T.cl, T.a_facts, (by show 2 < 1000; decide), ?_⟩⟩
  have e : putF "facts" (.ref a3) (putF "promises" (.ref a2) (putF "shares" (.ref a1) [])) = bF a1 a2 a3 := bF_new a1 a2 a3
  obtain ⟨b1, l1, k1, e1⟩ := stage (fs' := putF "shares" (.ref a1) []) (xs := []) hb n1
  obtain ⟨b2, l2, k2, e2⟩ := stage (fs' := putF "promises" (.ref a2) (putF "shares" (.ref a1) [])) (xs := []) b1 n2
  obtain ⟨b3, l3, k3, e3⟩ := stage (fs' := putF "facts" (.ref a3) (putF "promises" (.ref a2) (putF "shares" (.ref a1) []))) (xs := []) b2 n3
  rw [e] at b3
  rw [e] at k3 l3
  refine cast (congrArg (fun z => Q V.non (upd _ b (.ins C dx z))) e.symm) (q _ (k1.trans (k2.trans k3)) fun g hg => ⟨dx, a1, a2, a3, b3, k3 _ _ (k2 _ _ l1 e1) e1, Rows.nil (k3 _ _ l2 e2), Rows.nil l3, ne_of_none (k3 _ _ (k2 _ _ l1 e1) e1) hg, ne_of_none (k3 _ _ l2 e2) hg, ne_of_none l3 hg, ne_of_none b3 hg⟩)
def spParts (C : Addr) : Sp := fun vs H Q _ => ∃ (b g : Addr) (s : State), vs = [.ref b] ∧ BookAt C H g b s ∧ Q (.int (s.shares.length : Nat)) H
local macro_rules | `(tactic| walk_at "rd") => `(tactic| simp only [L2.start, wipe, List.replicate_succ, List.replicate_zero, Nat.reduceSub, Nat.reduceAdd, Nat.zero_add, List.map_cons, List.map_nil, List.length_cons, List.length_nil, tSeq, tRet, tAsg, gName, gTup, gCons, gNil, tVar, tC, tOp, tUn, rI0, rI, rU, rEq, rNe, tChain, tChain3, tCons, tNil, tOrV, tAndV, tIfS, tNext, tTest, tB, tNot, tAnd, tOr, tAug, ipI, tCall, tCB, tDrop, tBM, tBM0, tFld, tMeth, rAppend, rExtend, rCat, tTup, tLst, rIxL, rIxT, scal, V.bl.injEq, V.int.injEq, V.ref.injEq, List.cons.injEq, and_true, List.getElem?_cons_succ, List.getElem?_cons_zero, List.cons_append, List.nil_append, List.append_nil, Option.some.injEq, exists_eq_left', exists_and_left, and_assoc, Int.natCast_inj, Int.zero_add, true_and, List.set_cons_succ, List.set_cons_zero])
theorem ok_Book_parts (T : Txt K mg C aS aW) : MtG P w K mg base C 1 "parts" p_Book_parts (spParts C) := by
  refine MtG.of T.d_Book_parts sc_Book_parts (fun _ _ _ _ _ _ us hl => match us, hl with | [_], _ => rfl) (by rintro vs H Q E ⟨b, g, s0, rfl, ⟨dx, a1, a2, a3, hB⟩, q⟩; rfl) (fun f cdv A outer s H vs Q E hr h => ?_)
  obtain ⟨b, g, s0, rfl, ⟨dx, a1, a2, a3, hB⟩, q⟩ := h
  refine ⟨_, (pss_one (ps_ret (pe_callB call_len_seq rfl T.b_len PySem.boot_len (pa_cons (pe_fld (pv 0) rfl) pa_nil)))), ?_⟩
  walk_at "rd"
  refine ⟨_, _, _, hB.ins, T.cl, T.a_shares, _, bF_shares _ _ _, _, rfl, _, .inl (SqL.of hB.sh), ?_⟩
  rw [sV_len]
  exact q
def spKeeps (C : Addr) : Sp := fun vs H Q _ => ∃ (b c g : Addr) (s : State) (l : List Fact), vs = [.ref b, .ref c] ∧ BookAt C H g b s ∧ Good s ∧ Rows H .tup c (l.map fV) ∧ FO1 l ∧ l.length ≤ 1000 ∧ ∀ H', Same H H' → Q (.bl (keeps s l)) H'
local macro_rules | `(tactic| walk_at "rd") => `(tactic| simp only [L2.start, wipe, List.replicate_succ, List.replicate_zero, Nat.reduceSub, Nat.reduceAdd, Nat.zero_add, List.map_cons, List.map_nil, List.length_cons, List.length_nil, tSeq, tRet, tAsg, gName, gTup, gCons, gNil, tVar, tC, tOp, tUn, rI0, rI, rU, rEq, rNe, tChain, tChain3, tCons, tNil, tOrV, tAndV, tIfS, tNext, tTest, tB, tNot, tAnd, tOr, tAug, ipI, tCall, tCB, tDrop, tBM, tBM0, tFld, tMeth, rAppend, rExtend, rCat, tTup, tLst, rIxL, rIxT, scal, V.bl.injEq, V.int.injEq, V.ref.injEq, List.cons.injEq, and_true, List.getElem?_cons_succ, List.getElem?_cons_zero, List.cons_append, List.nil_append, List.append_nil, Option.some.injEq, exists_eq_left', exists_and_left, and_assoc, Int.natCast_inj, Int.zero_add, true_and, List.set_cons_succ, List.set_cons_zero, spAllKept, spParts])
theorem ok_Book_keeps (T : Txt K mg C aS aW) : MtG P w K mg base C 9 "keeps" p_Book_keeps (spKeeps C) := by
  obtain ⟨_, _, m_Book_parts, b_Book_parts, o_Book_parts⟩ := (ok_Book_parts (P := P) (w := w) (base := base) T).ex
  obtain ⟨_, _, g_all_kept, k_all_kept, b_all_kept, o_all_kept⟩ := (ok_all_kept (P := P) (w := w) (base := base) T).ex
  refine MtG.of T.d_Book_keeps sc_Book_keeps (fun _ _ _ _ _ _ us hl => match us, hl with | [_, _], _ => rfl) (by rintro vs H Q E ⟨b, c, g, s0, l, rfl, hB, hG, hR, hF, hl, q⟩; rfl) (fun f cdv A outer s H vs Q E hr h => ?_)
  obtain ⟨b, c, g, s0, l, rfl, hB, hG, hR, hF, hl, q⟩ := h
  refine ⟨_, (pss_one (ps_ret (pe_call o_all_kept (hr.mono (by decide)) rfl g_all_kept k_all_kept b_all_kept .nil pass0 (pa_cons (pe_meth0 (pv 0) T.cl m_Book_parts o_Book_parts (hr.mono (by decide)) b_Book_parts .nil pass0) (pa_cons (pe_fld (pv 0) rfl) (pa_cons (pv 1) pa_nil)))))), ?_⟩
  obtain ⟨dx, a1, a2, a3, hL⟩ := id hB
  have hn := hG.len
  walk_at "rd"
  exact ⟨dx, _, hL.ins, bF_no (by decide +kernel) (by decide +kernel) (by decide +kernel) _ _ _, g, s0, hB, C, dx, _, hL.ins, T.cl, T.a_promises, _, bF_promises _ _ _, _, rfl, s0.promises, hL.pr, l, hR, hF, hl, by omega, hG.proms, fun H' s1 => by
    rw [keeps_eq hG]
    exact q H' s1⟩
def spBegin (K : PySem.W.Frag) (C : Addr) : Sp := fun vs H Q _ => ∃ (b c g : Addr) (s : State) (l : List Nat), vs = [.ref b, .ref c] ∧ BookAt C H g b s ∧ H g ≠ none ∧ SqL K H c (sV l) ∧ ∀ H', But b H H' → BookAt C H' g b ⟨l, [], []⟩ → Q .non H'
local macro_rules | `(tactic| walk_at "rd") => `(tactic| simp only [L2.start, wipe, List.replicate_succ, List.replicate_zero, Nat.reduceSub, Nat.reduceAdd, Nat.zero_add, List.map_cons, List.map_nil, List.length_cons, List.length_nil, tSeq, tRet, tAsg, gName, gTup, gCons, gNil, tVar, tC, tOp, tUn, rI0, rI, rU, rEq, rNe, tChain, tChain3, tCons, tNil, tOrV, tAndV, tIfS, tNext, tTest, tB, tNot, tAnd, tOr, tAug, ipI, tCall, tCB, tDrop, tBM, tBM0, tFld, tMeth, rAppend, rExtend, rCat, tTup, tLst, rIxL, rIxT, scal, V.bl.injEq, V.int.injEq, V.ref.injEq, List.cons.injEq, and_true, List.getElem?_cons_succ, List.getElem?_cons_zero, List.cons_append, List.nil_append, List.append_nil, Option.some.injEq, exists_eq_left', exists_and_left, and_assoc, Int.natCast_inj, Int.zero_add, true_and, List.set_cons_succ, List.set_cons_zero])
theorem ok_Book_begin (T : Txt K mg C aS aW) : MtG P w K mg base C 1 "begin" p_Book_begin (spBegin K C) := by
  refine MtG.of T.d_Book_begin sc_Book_begin (fun _ _ _ _ _ _ us hl => match us, hl with | [_, _], _ => rfl) (by rintro vs H Q E ⟨b, c, g, s0, l, rfl, ⟨dx, a1, a2, a3, hB⟩, hg, hS, q⟩; rfl) (fun f cdv A outer s H vs Q E hr h => ?_)
  obtain ⟨b, c, g, s0, l, rfl, ⟨dx, a1, a2, a3, hB⟩, hg, hS, q⟩ := h
  refine ⟨_, (pss_cons (ps_fld (pv 0) (pe_callTy call_list_of rfl T.b_list (by decide +kernel) (pa_cons (pv 1) pa_nil)) rfl)
      (pss_cons (ps_fld (pv 0) (pe_lst pa_nil) rfl)
      (pss_one (ps_fld (pv 0) (pe_lst pa_nil) rfl)))), ?_⟩
  refine ⟨_, rfl, c, _, rfl, .inl hS, fun d1 n1 => ⟨_, rfl, b, C, dx, _, rfl, same_new n1 _ _ hB.ins, T.cl, T.a_shares, (by show 3 < 1000; decide), ?_⟩⟩
  refine ⟨Nat.zero_le _, fun d2 n2 => ⟨_, rfl, b, C, dx, _, rfl, same_new n2 _ _ upd_same, T.cl, T.a_promises, (by show 3 < 1000; decide), ?_⟩⟩
  refine ⟨Nat.zero_le _, fun d3 n3 => ⟨_, rfl, b, C, dx, _, rfl, same_new n3 _ _ upd_same, T.cl, T.a_facts, (by show 3 < 1000; decide), ?_⟩⟩
  obtain ⟨o, ho⟩ := Option.ne_none_iff_exists'.mp hg
  obtain ⟨b1, l1, k1, e1⟩ := stage (fs' := putF "shares" (.ref d1) (bF a1 a2 a3)) (xs := sV l) hB.ins n1
  obtain ⟨b2, l2, k2, e2⟩ := stage (fs' := putF "promises" (.ref d2) (putF "shares" (.ref d1) (bF a1 a2 a3))) (xs := []) b1 n2
  obtain ⟨b3, l3, k3, e3⟩ := stage (fs' := putF "facts" (.ref d3) (putF "promises" (.ref d2) (putF "shares" (.ref d1) (bF a1 a2 a3)))) (xs := []) b2 n3
  have e : putF "facts" (.ref d3) (putF "promises" (.ref d2) (putF "shares" (.ref d1) (bF a1 a2 a3))) = bF d1 d2 d3 := by rw [bF_put_shares, bF_put_promises, bF_put_facts]
  rw [e] at b3
  rw [e] at k3 l3
  have g1 := k1 _ _ ho hB.nb.symm
  refine cast (congrArg (fun z => Q V.non (upd _ b (.ins C dx z))) e.symm) (q _ (k1.trans (k2.trans k3)) ⟨dx, d1, d2, d3, b3, k3 _ _ (k2 _ _ l1 e1) e1, Rows.nil (k3 _ _ l2 e2), Rows.nil l3, (ne_of_none ho n1).symm, (ne_of_none g1 n2).symm, (ne_of_none (k2 _ _ g1 hB.nb.symm) n3).symm, hB.nb⟩)
def spAddPromise (C : Addr) : Sp := fun vs H Q _ => ∃ (b c g : Addr) (s : State) (p : Promise), vs = [.ref b, .ref c] ∧ BookAt C H g b s ∧ H g ≠ none ∧ H c = some (.tup (prV p)) ∧ s.promises.length ≤ 1000 ∧ ∀ H', But b H H' → BookAt C H' g b { s with promises := s.promises ++ [p] } → Q .non H'
local macro_rules | `(tactic| walk_at "rd") => `(tactic| simp only [L2.start, wipe, List.replicate_succ, List.replicate_zero, Nat.reduceSub, Nat.reduceAdd, Nat.zero_add, List.map_cons, List.map_nil, List.length_cons, List.length_nil, tSeq, tRet, tAsg, gName, gTup, gCons, gNil, tVar, tC, tOp, tUn, rI0, rI, rU, rEq, rNe, tChain, tChain3, tCons, tNil, tOrV, tAndV, tIfS, tNext, tTest, tB, tNot, tAnd, tOr, tAug, ipI, tCall, tCB, tDrop, tBM, tBM0, tFld, tMeth, rAppend, rExtend, rCat, tTup, tLst, rIxL, rIxT, scal, V.bl.injEq, V.int.injEq, V.ref.injEq, List.cons.injEq, and_true, List.getElem?_cons_succ, List.getElem?_cons_zero, List.cons_append, List.nil_append, List.append_nil, Option.some.injEq, exists_eq_left', exists_and_left, and_assoc, Int.natCast_inj, Int.zero_add, true_and, List.set_cons_succ, List.set_cons_zero])
theorem ok_Book_add_promise (T : Txt K mg C aS aW) : MtG P w K mg base C 1 "add_promise" p_Book_add_promise (spAddPromise C) := by
  refine MtG.of T.d_Book_add_promise sc_Book_add_promise (fun _ _ _ _ _ _ us hl => match us, hl with | [_, _], _ => rfl) (by rintro vs H Q E ⟨b, c, g, s0, p, rfl, ⟨dx, a1, a2, a3, hB⟩, hg, hS, hl, q⟩; rfl) (fun f cdv A outer s H vs Q E hr h => ?_)
  obtain ⟨b, c, g, s0, p, rfl, ⟨dx, a1, a2, a3, hB⟩, hg, hS, hl, q⟩ := h
  refine ⟨_, (pss_one (ps_fld (pv 0) (pe_op op_cat (pe_fld (pv 0) rfl) (pe_lst (pa_cons (pv 1) pa_nil))) rfl)), ?_⟩
  obtain ⟨o, ho⟩ := Option.ne_none_iff_exists'.mp hg
  obtain ⟨xs, h1, h2, _⟩ := hB.pr.list
  rw [List.length_map] at h2
  refine ⟨_, rfl, b, C, dx, _, _, rfl, hB.ins, T.cl, T.a_promises, bF_promises _ _ _, _, rfl, (by show 1 ≤ sizeLine; decide), fun q0 nq => ?_⟩
  have s1 : Same H (upd H q0 (.lst [.ref c])) := same_new nq
  refine ⟨a2, q0, xs, _, rfl, rfl, s1 _ _ h1, upd_same, ?_, fun d nd => ⟨_, rfl, b, C, dx, _, rfl, same_new nd _ _ (s1 _ _ hB.ins), T.cl, T.a_promises, (by show 3 < 1000; decide), ?_⟩⟩
  · rw [h2]
    exact le_line (show s0.promises.length + 1 ≤ 10000 by omega)
  · obtain ⟨b3, l3, k3, e3⟩ := stage (fs' := bF a1 d a3) (xs := xs ++ [.ref c]) (s1 _ _ hB.ins) nd
    have e : putF "promises" (.ref d) (bF a1 a2 a3) = bF a1 d a3 := bF_put_promises _ _ _ _
    have r : Rows (upd (upd H q0 (.lst [.ref c])) d (.lst (xs ++ [.ref c]))) .tup d (s0.promises.map prV ++ [prV p]) := (hB.pr.same s1).cat (s1 _ _ h1) nd (s1 _ _ hS)
    have r2 := (But.upd (b := b) (o := .ins C dx (bF a1 d a3))).rows (same_new nd _ _ (s1 _ _ hB.ins)) r
    have f2 := k3.rows (s1 _ _ hB.ins) (hB.fa.same s1)
    have ne1 : a1 ≠ b := fun z => by
      have := hB.sh
      rw [z, hB.ins] at this
      cases this
    refine cast (congrArg (fun z => Q V.non (upd _ b (.ins C dx z))) e.symm) (q _ ((Same.but (b := b) s1).trans k3) ⟨dx, a1, d, a3, b3, k3 _ _ (s1 _ _ hB.sh) ne1, ?_, f2, hB.n1, (ne_of_none (s1 _ _ ho) nd).symm, hB.n3, hB.nb⟩)
    show Rows _ _ _ ((s0.promises ++ [p]).map prV)
    rw [List.map_append]
    exact r2
def spPutFacts (C : Addr) : Sp := fun vs H Q _ => ∃ (b c g : Addr) (s : State) (l : List Fact), vs = [.ref b, .ref c] ∧ BookAt C H g b s ∧ H g ≠ none ∧ Rows H .tup c (l.map fV) ∧ ∀ H', But b H H' → BookAt C H' g b { s with facts := l } → Q .non H'
local macro_rules | `(tactic| walk_at "rd") => `(tactic| simp only [L2.start, wipe, List.replicate_succ, List.replicate_zero, Nat.reduceSub, Nat.reduceAdd, Nat.zero_add, List.map_cons, List.map_nil, List.length_cons, List.length_nil, tSeq, tRet, tAsg, gName, gTup, gCons, gNil, tVar, tC, tOp, tUn, rI0, rI, rU, rEq, rNe, tChain, tChain3, tCons, tNil, tOrV, tAndV, tIfS, tNext, tTest, tB, tNot, tAnd, tOr, tAug, ipI, tCall, tCB, tDrop, tBM, tBM0, tFld, tMeth, rAppend, rExtend, rCat, tTup, tLst, rIxL, rIxT, scal, V.bl.injEq, V.int.injEq, V.ref.injEq, List.cons.injEq, and_true, List.getElem?_cons_succ, List.getElem?_cons_zero, List.cons_append, List.nil_append, List.append_nil, Option.some.injEq, exists_eq_left', exists_and_left, and_assoc, Int.natCast_inj, Int.zero_add, true_and, List.set_cons_succ, List.set_cons_zero])
theorem ok_Book_put_facts (T : Txt K mg C aS aW) : MtG P w K mg base C 1 "put_facts" p_Book_put_facts (spPutFacts C) := by
  refine MtG.of T.d_Book_put_facts sc_Book_put_facts (fun _ _ _ _ _ _ us hl => match us, hl with | [_, _], _ => rfl) (by rintro vs H Q E ⟨b, c, g, s0, l, rfl, ⟨dx, a1, a2, a3, hB⟩, hg, hR, q⟩; rfl) (fun f cdv A outer s H vs Q E hr h => ?_)
  obtain ⟨b, c, g, s0, l, rfl, ⟨dx, a1, a2, a3, hB⟩, hg, hR, q⟩ := h
  refine ⟨_, (pss_one (ps_fld (pv 0) (pe_callTy call_list_of rfl T.b_list (by decide +kernel) (pa_cons (pv 1) pa_nil)) rfl)), ?_⟩
  obtain ⟨o, ho⟩ := Option.ne_none_iff_exists'.mp hg
  obtain ⟨xs, h1, h2, _⟩ := hR.list
  refine ⟨_, rfl, c, _, rfl, .inl (SqL.of h1), fun d nd => ⟨_, rfl, b, C, dx, _, rfl, same_new nd _ _ hB.ins, T.cl, T.a_facts, (by show 3 < 1000; decide), ?_⟩⟩
  obtain ⟨b3, l3, k3, e3⟩ := stage (fs' := bF a1 a2 d) (xs := xs) hB.ins nd
  have e : putF "facts" (.ref d) (bF a1 a2 a3) = bF a1 a2 d := bF_put_facts _ _ _ _
  have r : Rows (upd H d (.lst xs)) .tup d (l.map fV) := hR.copy h1 nd
  have r2 := (But.upd (b := b) (o := .ins C dx (bF a1 a2 d))).rows (same_new nd _ _ hB.ins) r
  have p2 := k3.rows hB.ins hB.pr
  have ne1 : a1 ≠ b := fun z => by
    have := hB.sh
    rw [z, hB.ins] at this
    cases this
  exact cast (congrArg (fun z => Q V.non (upd _ b (.ins C dx z))) e.symm) (q _ k3 ⟨dx, a1, a2, d, b3, k3 _ _ hB.sh ne1, p2, r2, hB.n1, hB.n2, (ne_of_none ho nd).symm, hB.nb⟩)
end
end Tl

namespace Tl
open PySem PySem.Spec PyProof.Rows L2 SctSecret SctBase
section
variable {P : Program} {w : World} {K : PySem.W.Frag} {mg : Str → Option Value} {base : Heap} {C aS aW : Addr}
local macro_rules | `(tactic| walk_at "rd") => `(tactic| simp only [L2.start, wipe, List.replicate_succ, List.replicate_zero, Nat.reduceSub, Nat.reduceAdd, Nat.zero_add, List.map_cons, List.map_nil, List.length_cons, List.length_nil, tSeq, tRet, tAsg, gName, gTup, gCons, gNil, tVar, tC, tOp, tUn, rI0, rI, rU, rEq, rNe, tChain, tChain3, tCons, tNil, tOrV, tAndV, tIfS, tNext, tTest, tB, tNot, tAnd, tOr, tAug, ipI, tCall, tCB, tDrop, tBM, tBM0, tFld, tMeth, rAppend, rExtend, rCat, tTup, tLst, rIxL, rIxT, scal, V.bl.injEq, V.int.injEq, V.ref.injEq, List.cons.injEq, and_true, List.getElem?_cons_succ, List.getElem?_cons_zero, List.cons_append, List.nil_append, List.append_nil, Option.some.injEq, exists_eq_left', exists_and_left, and_assoc, Int.natCast_inj, Int.zero_add, true_and, List.set_cons_succ, List.set_cons_zero])
/-- what's answered to a call -/
def ans (s : State) (c : Call) : List Int := (SctSecret.step s c).2.code :: (SctSecret.step s c).2.nums
def Ans (C : Addr) (H : Hp) (g b : Addr) (s : State) (c : Call) (Q : VK) : Prop :=
  ∀ H' p, But b H H' → BookAt C H' g b (SctSecret.step s c).1 → H p = none → H' p = some (.lst (rV (ans s c))) → Q (.ref p) H'
theorem Ans.tell {C : Addr} {H H1 : Hp} {g b p : Addr} {s : State} {c : Call} {Q : VK} {a : Answer} {xs : List V} (q : Ans C H g b s c Q) (hB : BookAt C H g b s) (e : SctSecret.step s c = (s, a)) (s1 : Same H H1) (hp : H1 p = none) (hx : xs = rV (a.code :: a.nums)) :
    Q (.ref p) (upd H1 p (.lst xs)) := by
  refine q _ p (Same.but (s1.trans (same_new hp))) ?_ (s1.free hp) ?_
  · rw [e]
    exact hB.same (s1.trans (same_new hp))
  · rw [upd_same, hx]
    unfold ans
    rw [e]
theorem one_line : ([] : List V).length + 1 ≤ sizeLine := by decide
theorem rV_nat {ns : List Int} (h : isShares ns = true) : rV ns = sV (ns.map Int.toNat) := by
  unfold rV sV
  rw [List.map_map]
  refine List.map_congr_left fun x hx => ?_
  unfold isShares at h
  rw [List.all_eq_true] at h
  have := h x hx
  rw [Bool.and_eq_true, decide_eq_true_eq, decide_eq_true_eq] at this
  show V.int x = V.int ((x.toNat : Nat) : Int)
  rw [show ((x.toNat : Nat) : Int) = x by omega]
theorem sum_nat {ns : List Int} (h : isShares ns = true) : ns.sum = ((sumN (ns.map Int.toNat) : Nat) : Int) := by
  rw [← sumN_cast, List.map_map]
  congr 1
  refine (List.map_id ns).symm.trans (List.map_congr_left fun x hx => ?_)
  unfold isShares at h
  rw [List.all_eq_true] at h
  have := h x hx
  rw [Bool.and_eq_true, decide_eq_true_eq, decide_eq_true_eq] at this
  show x = ((x.toNat : Nat) : Int)
  omega
theorem rV_length (l : List Int) : (rV l).length = l.length := List.length_map ..
theorem Ans.no {C : Addr} {H H1 : Hp} {g b : Addr} {s : State} {c : Call} {Q : VK} {n : Nat} {z : Int} (q : Ans C H g b s c Q) (hB : BookAt C H g b s) (e : SctSecret.step s c = (s, SctBase.no n)) (s1 : Same H H1) (hz : z = -(n : Int)) :
    1 ≤ sizeLine ∧ ∀ p, H1 p = none → Q (.ref p) (upd H1 p (.lst [.int z])) :=
  ⟨by decide, fun p hp => q.tell hB e s1 hp (by rw [hz]; rfl)⟩
/-- an if whose test is known, and what follows -/
theorem sIf {c : TT} {t u : TS} {D : Ends} {σ : L2.St} {H : Hp} (v : Bool) (hc : ∀ Q : Bool → Hp → Prop, Q v H → c σ H Q) (ht : v = true → t { D with nx := u D } σ H) (hu : v = false → u D σ H) : tSeq (tIfS c t tNext) u D σ H :=
  hc _ (by
    cases v with
    | true => exact ht rfl
    | false => exact hu rfl)
/-- .. whose test makes new objects -/
theorem sIfN {c : TT} {t u : TS} {D : Ends} {σ : L2.St} {H : Hp} (v : Bool) (hc : ∀ Q : Bool → Hp → Prop, (∀ H', Same H H' → Q v H') → c σ H Q) (ht : ∀ H', Same H H' → v = true → t { D with nx := u D } σ H') (hu : ∀ H', Same H H' → v = false → u D σ H') : tSeq (tIfS c t tNext) u D σ H :=
  hc _ fun H' s1 => by
    cases v with
    | true => exact ht H' s1 rfl
    | false => exact hu H' s1 rfl
theorem sSet {i : Nat} {te : TE} {u : TS} {D : Ends} {σ : L2.St} {H : Hp} (h : te σ H fun x H1 => u D (σ.set i (some x)) H1) : tSeq (tAsg te (gName i)) u D σ H := h
theorem bF_parts (a b c : Addr) : (bF a b c).lookup ("parts" : Str) = none := bF_no (by decide +kernel) (by decide +kernel) (by decide +kernel) _ _ _
theorem bF_keeps (a b c : Addr) : (bF a b c).lookup ("keeps" : Str) = none := bF_no (by decide +kernel) (by decide +kernel) (by decide +kernel) _ _ _
theorem bF_begin (a b c : Addr) : (bF a b c).lookup ("begin" : Str) = none := bF_no (by decide +kernel) (by decide +kernel) (by decide +kernel) _ _ _
theorem bF_addp (a b c : Addr) : (bF a b c).lookup ("add_promise" : Str) = none := bF_no (by decide +kernel) (by decide +kernel) (by decide +kernel) _ _ _
theorem bF_putf (a b c : Addr) : (bF a b c).lookup ("put_facts" : Str) = none := bF_no (by decide +kernel) (by decide +kernel) (by decide +kernel) _ _ _
theorem But.free {b p : Addr} {H H1 : Hp} {o : HO} (k : But b H H1) (hb : H1 b = some o) (hp : H1 p = none) : H p = none := by
  cases e : H p with
  | none => rfl
  | some u =>
    have n : p ≠ b := fun z => by
      rw [z, hb] at hp
      cases hp
    rw [k _ _ e n] at hp
    cases hp
theorem beq_nat (i : Int) (n : Nat) (h : ((i.toNat : Nat) : Int) = i) : (n == i.toNat) = decide ((n : Int) = i) := by
  rw [Bool.eq_iff_iff, beq_iff_eq, decide_eq_true_eq]
  omega
theorem wrong_none {l : List Nat} {m i j a b : Int} (h : wrongL l m i j a b = 0) : isSet m = true ∧ isRun i j = true ∧ isBand a b = true ∧ j < (l.length : Int) ∧ holdsN l (factOf m i j a b) = true := by
  unfold wrongL wrong at h
  by_cases h1 : isSet m = false ∨ isRun i j = false ∨ isBand a b = false
  · rw [if_pos h1] at h
    cases h
  · rw [if_neg h1] at h
    by_cases h2 : runThere ⟨l, [], []⟩ j = false
    · rw [if_pos h2] at h
      cases h
    · rw [if_neg h2] at h
      by_cases h3 : so ⟨l, [], []⟩ (factOf m i j a b) = false
      · rw [if_pos h3] at h
        cases h
      · refine ⟨?_, ?_, ?_, ?_, ?_⟩
        · cases e : isSet m with
          | true => rfl
          | false => exact absurd (.inl e) h1
        · cases e : isRun i j with
          | true => rfl
          | false => exact absurd (.inr (.inl e)) h1
        · cases e : isBand a b with
          | true => rfl
          | false => exact absurd (.inr (.inr e)) h1
        · unfold runThere at h2
          rw [Bool.not_eq_false, decide_eq_true_eq] at h2
          exact h2
        · rw [Bool.not_eq_false] at h3
          exact h3
theorem fok_with {s : State} (hG : Good s) {m i j a b : Int} (h2 : isRun i j = true) (h4 : j < (s.shares.length : Int)) : FOk s.shares.length (withFact s m i j a b) := by
  intro x hx
  rcases List.mem_append.mp hx with hx | hx
  · exact hG.facts x hx
  · rw [List.mem_singleton] at hx
    subst hx
    obtain ⟨_, jn, ij⟩ := nat_of_run h2
    exact ⟨ij, by show j.toNat < _; omega⟩
theorem fok_told {s : State} (hG : Good s) {m : Nat} : FOk s.shares.length (s.facts.map (toldOn m)) := by
  intro x hx
  obtain ⟨y, hy, rfl⟩ := List.mem_map.mp hx
  have h := hG.facts y hy
  unfold toldOn
  split
  · exact h
  · exact h
/-- book.facts + [a fact] -/
theorem plus_fact {K : PySem.W.Frag} {C g b dx a1 a2 a3 : Addr} {s : State} {x : Fact} {σ : L2.St} {H1 : Hp} {Q : VK} {te : TE} (hL : BookL C H1 g b dx a1 a2 a3 s) (cl : Cls K C) (na : NoAttr K C "facts") (hb : σ[0]? = some (some (.ref b))) (hl : s.facts.length ≤ 1000)
    (hc : ∀ Q : VK, (∀ c H2, Same H1 H2 → H2 c = some (.tup (fV x)) → Q (.ref c) H2) → te σ H1 Q)
    (q : ∀ d H3, Same H1 H3 → Rows H3 .tup d ((s.facts ++ [x]).map fV) → Q (.ref d) H3) : tOp rCat (tFld K (tVar 0) "facts") (tLst (tCons te tNil)) σ H1 Q := by
  refine ⟨_, hb, b, C, dx, _, _, rfl, hL.ins, cl, na, bF_facts _ _ _, hc _ fun c H2 s2 h2 => ⟨by show 1 ≤ sizeLine; decide, fun q0 nq => ?_⟩⟩
  have s3 : Same H1 (upd H2 q0 (.lst [.ref c])) := s2.trans (same_new nq)
  obtain ⟨xs, x1, x2, _⟩ := hL.fa.list
  rw [List.length_map] at x2
  refine ⟨a3, q0, xs, _, rfl, rfl, s3 _ _ x1, upd_same, ?_, fun d nd => q d _ (s3.trans (same_new nd)) ?_⟩
  · rw [x2]
    exact le_line (show s.facts.length + 1 ≤ 10000 by omega)
  · rw [List.map_append]
    exact (hL.fa.same s3).cat (s3 _ _ x1) nd (same_new nq _ _ h2)
/-- three tests in a row -/
theorem ite3 {a b c : Bool} {Q : Bool → Prop} (q : Q (!(a && (b && c)))) : if a = true then if b = true then Q (!c) else Q (!false) else Q (!false) := by
  cases a <;> cases b <;> exact q
theorem ite2b {a b : Bool} {Q : Bool → Prop} (q : Q (!(a && b))) : if a = true then Q (!b) else Q (!false) := by
  cases a <;> exact q
theorem not3 {a b c : Bool} (h : (!(a && (b && c))) = true) : a = false ∨ b = false ∨ c = false := by
  cases a <;> cases b <;> cases c <;> simp_all
theorem and3 {a b c : Bool} (h : (!(a && (b && c))) = false) : a = true ∧ b = true ∧ c = true := by
  cases a <;> cases b <;> cases c <;> simp_all
theorem not2 {a b : Bool} (h : (!(a && b)) = true) : a = false ∨ b = false := by
  cases a <;> cases b <;> simp_all
theorem and2 {a b : Bool} (h : (!(a && b)) = false) : a = true ∧ b = true := by
  cases a <;> cases b <;> simp_all
def spFormula (K : PySem.W.Frag) (C : Addr) : Sp := fun vs H Q _ => ∃ (b c g : Addr) (s : State) (ns : List Int), vs = [.ref b, .ref c] ∧ BookAt C H g b s ∧ H g ≠ none ∧ SqL K H c (rV ns) ∧ Ans C H g b s (.formula ns) Q
local macro_rules | `(tactic| walk_at "rd") => `(tactic| simp only [L2.start, wipe, List.replicate_succ, List.replicate_zero, Nat.reduceSub, Nat.reduceAdd, Nat.zero_add, List.map_cons, List.map_nil, List.length_cons, List.length_nil, tSeq, tRet, tAsg, gName, gTup, gCons, gNil, tVar, tC, tOp, tUn, rI0, rI, rU, rEq, rNe, tChain, tChain3, tCons, tNil, tOrV, tAndV, tIfS, tNext, tTest, tB, tNot, tAnd, tOr, tAug, ipI, tCall, tCB, tDrop, tBM, tBM0, tFld, tMeth, rAppend, rExtend, rCat, tTup, tLst, rIxL, rIxT, scal, V.bl.injEq, V.int.injEq, V.ref.injEq, List.cons.injEq, and_true, List.getElem?_cons_succ, List.getElem?_cons_zero, List.cons_append, List.nil_append, List.append_nil, Option.some.injEq, exists_eq_left', exists_and_left, and_assoc, Int.natCast_inj, Int.zero_add, true_and, List.set_cons_succ, List.set_cons_zero, spAreParts, spAreShares, spBegin, spIsWhole, spParts])
theorem ok_answer_formula (T : Txt K mg C aS aW) : FnG P w K mg base 3 "answer_formula" p_answer_formula (spFormula K C) := by
  obtain ⟨_, _, m_Book_begin, b_Book_begin, o_Book_begin⟩ := (ok_Book_begin (P := P) (w := w) (base := base) T).ex
  obtain ⟨_, _, m_Book_parts, b_Book_parts, o_Book_parts⟩ := (ok_Book_parts (P := P) (w := w) (base := base) T).ex
  obtain ⟨_, _, g_are_parts, k_are_parts, b_are_parts, o_are_parts⟩ := (ok_are_parts (P := P) (w := w) (base := base) T).ex
  obtain ⟨_, _, g_are_shares, k_are_shares, b_are_shares, o_are_shares⟩ := (ok_are_shares (P := P) (w := w) (base := base) T).ex
  obtain ⟨_, _, g_is_whole, k_is_whole, b_is_whole, o_is_whole⟩ := (ok_is_whole (P := P) (w := w) (base := base) T).ex
  refine FnG.of T.d_answer_formula sc_answer_formula (fun _ _ _ _ _ _ us hl => match us, hl with | [_, _], _ => rfl) (by rintro vs H Q E ⟨b, c, g, s0, ns, rfl, hB, hg, hS, q⟩; rfl) (fun f cdv A outer s H vs Q E hr h => ?_)
  obtain ⟨b, c, g, s0, ns, rfl, hB, hg, hS, q⟩ := h
  refine ⟨_, (pss_cons (ps_if (pt_not (PW.pt (pw_and (pt_val (pe_call o_are_parts (hr.mono (by decide)) rfl g_are_parts k_are_parts b_are_parts .nil pass0 (pa_cons (pe_callB call_len_seq rfl T.b_len PySem.boot_len (pa_cons (pv 1) pa_nil)) pa_nil))) (pw_and1 (pt_val (pe_call o_are_shares (hr.mono (by decide)) rfl g_are_shares k_are_shares b_are_shares .nil pass0 (pa_cons (pv 1) pa_nil))))))) (pss_one (ps_ret (pe_lst (pa_cons (pe_gint T.c_OUT_OF_RANGE rfl) pa_nil)))) pss_nil)
      (pss_cons (ps_if (pt_not (pt_val (pe_call o_is_whole (hr.mono (by decide)) rfl g_is_whole k_is_whole b_is_whole .nil pass0 (pa_cons (pv 1) pa_nil)))) (pss_one (ps_ret (pe_lst (pa_cons (pe_gint T.c_CANT_BE_SO rfl) pa_nil)))) pss_nil)
      (pss_cons (ps_expr (pe_meth (pv 0) T.cl m_Book_begin o_Book_begin (hr.mono (by decide)) b_Book_begin .nil pass0 (pa_cons (pv 1) pa_nil)))
      (pss_one (ps_ret (pe_lst (pa_cons (pe_gint T.c_DONE rfl) (pa_cons (pe_meth0 (pv 0) T.cl m_Book_parts o_Book_parts (hr.mono (by decide)) b_Book_parts .nil pass0) pa_nil)))))))), ?_⟩
  refine sIf (!((decide (1 ≤ (ns.length : Int)) && decide ((ns.length : Int) ≤ 10)) && isShares ns)) (fun Q q => ?_) (fun h => ?_) (fun h => ?_)
  · walk_at "rd"
    refine ⟨_, .inl hS, ?_⟩
    rw [rV_length]
    cases hb : (decide (1 ≤ (ns.length : Int)) && decide ((ns.length : Int) ≤ 10)) with
    | false =>
      rw [hb] at q
      exact iteFf rfl q
    | true =>
      rw [hb] at q
      exact iteTt rfl ⟨ns, hS, q⟩
  · have e : SctSecret.step s0 (.formula ns) = (s0, SctBase.no 1) := if_pos (by
      unfold PARTS
      rcases not2 h with h | h
      · rw [Bool.and_eq_false_iff, decide_eq_false_iff_not, decide_eq_false_iff_not] at h
        omega
      · exact .inr (.inr h))
    walk_at "rd"
    exact q.no hB e (Same.refl _) rfl
  · obtain ⟨h1, h2⟩ := and2 h
    rw [Bool.and_eq_true, decide_eq_true_eq, decide_eq_true_eq] at h1
    have hno : ¬ (ns.length < 1 ∨ PARTS < ns.length ∨ isShares ns = false) := by
      unfold PARTS
      rw [h2]
      simp only [reduceCtorEq, or_false, Bool.true_eq_false]
      omega
    refine sIf (!decide (ns.sum = 1000000)) (fun Q q => ?_) (fun h => ?_) (fun h => ?_)
    · walk_at "rd"
      exact ⟨ns, hS, q⟩
    · have e : SctSecret.step s0 (.formula ns) = (s0, SctBase.no 4) := (if_neg hno).trans (if_pos (by
        rw [Bool.not_eq_true', decide_eq_false_iff_not, sum_nat h2] at h
        unfold WHOLE
        omega))
      walk_at "rd"
      exact q.no hB e (Same.refl _) rfl
    · have e : SctSecret.step s0 (.formula ns) = (⟨ns.map Int.toNat, [], []⟩, tells [num (ns.map Int.toNat).length]) := (if_neg hno).trans (if_neg (by
        rw [Bool.not_eq_false', decide_eq_true_eq, sum_nat h2] at h
        unfold WHOLE
        omega))
      obtain ⟨dx, a1, a2, a3, hL⟩ := id hB
      walk_at "rd"
      refine ⟨dx, _, hL.ins, bF_begin _ _ _, g, s0, hB, hg, ns.map Int.toNat, by rw [← rV_nat h2]; exact hS, fun H1 k1 hB1 => ?_⟩
      obtain ⟨dx', b1, b2, b3, hL1⟩ := id hB1
      refine ⟨dx', _, hL1.ins, bF_parts _ _ _, g, _, hB1, by decide, fun p hp => q _ p (k1.trans (Same.but (same_new hp))) ?_ ?_ ?_⟩
      · rw [e]
        exact hB1.same (same_new hp)
      · exact k1.free hL1.ins hp
      · rw [upd_same]
        unfold ans
        rw [e]
        rfl
def spPromise (C : Addr) : Sp := fun vs H Q _ => ∃ (b g : Addr) (m i j w : Int) (s : State), vs = [.ref b, .int m, .int i, .int j, .int w] ∧ BookAt C H g b s ∧ Good s ∧ H g ≠ none ∧ Ans C H g b s (.promise m i j w) Q
local macro_rules | `(tactic| walk_at "rd") => `(tactic| simp only [L2.start, wipe, List.replicate_succ, List.replicate_zero, Nat.reduceSub, Nat.reduceAdd, Nat.zero_add, List.map_cons, List.map_nil, List.length_cons, List.length_nil, tSeq, tRet, tAsg, gName, gTup, gCons, gNil, tVar, tC, tOp, tUn, rI0, rI, rU, rEq, rNe, tChain, tChain3, tCons, tNil, tOrV, tAndV, tIfS, tNext, tTest, tB, tNot, tAnd, tOr, tAug, ipI, tCall, tCB, tDrop, tBM, tBM0, tFld, tMeth, rAppend, rExtend, rCat, tTup, tLst, rIxL, rIxT, scal, V.bl.injEq, V.int.injEq, V.ref.injEq, List.cons.injEq, and_true, List.getElem?_cons_succ, List.getElem?_cons_zero, List.cons_append, List.nil_append, List.append_nil, Option.some.injEq, exists_eq_left', exists_and_left, and_assoc, Int.natCast_inj, Int.zero_add, true_and, List.set_cons_succ, List.set_cons_zero, spAddPromise, spIsAmount, spIsHearers, spIsKept, spIsPromised, spIsRun, spParts])
theorem ok_answer_promise (T : Txt K mg C aS aW) : FnG P w K mg base 8 "answer_promise" p_answer_promise (spPromise C) := by
  obtain ⟨_, _, m_Book_add_promise, b_Book_add_promise, o_Book_add_promise⟩ := (ok_Book_add_promise (P := P) (w := w) (base := base) T).ex
  obtain ⟨_, _, m_Book_parts, b_Book_parts, o_Book_parts⟩ := (ok_Book_parts (P := P) (w := w) (base := base) T).ex
  obtain ⟨_, _, g_is_amount, k_is_amount, b_is_amount, o_is_amount⟩ := (ok_is_amount (P := P) (w := w) (base := base) T).ex
  obtain ⟨_, _, g_is_hearers, k_is_hearers, b_is_hearers, o_is_hearers⟩ := (ok_is_hearers (P := P) (w := w) (base := base) T).ex
  obtain ⟨_, _, g_is_kept, k_is_kept, b_is_kept, o_is_kept⟩ := (ok_is_kept (P := P) (w := w) (base := base) T).ex
  obtain ⟨_, _, g_is_promised, k_is_promised, b_is_promised, o_is_promised⟩ := (ok_is_promised (P := P) (w := w) (base := base) T).ex
  obtain ⟨_, _, g_is_run, k_is_run, b_is_run, o_is_run⟩ := (ok_is_run (P := P) (w := w) (base := base) T).ex
  refine FnG.of T.d_answer_promise sc_answer_promise (fun _ _ _ _ _ _ us hl => match us, hl with | [_, _, _, _, _], _ => rfl) (by rintro vs H Q E ⟨b, g, m, i, j, w0, s0, rfl, hB, hG, hg, q⟩; rfl) (fun f cdv A outer s H vs Q E hr h => ?_)
  obtain ⟨b, g, m, i, j, w0, s0, rfl, hB, hG, hg, q⟩ := h
  refine ⟨_, (pss_cons (ps_if (pt_not (PW.pt (pw_and (pt_val (pe_call o_is_hearers (hr.mono (by decide)) rfl g_is_hearers k_is_hearers b_is_hearers .nil pass0 (pa_cons (pv 1) pa_nil))) (pw_and (pt_val (pe_call o_is_run (hr.mono (by decide)) rfl g_is_run k_is_run b_is_run .nil pass0 (pa_cons (pv 2) (pa_cons (pv 3) pa_nil)))) (pw_and1 (pt_val (pe_call o_is_amount (hr.mono (by decide)) rfl g_is_amount k_is_amount b_is_amount .nil pass0 (pa_cons (pv 4) pa_nil)))))))) (pss_one (ps_ret (pe_lst (pa_cons (pe_gint T.c_OUT_OF_RANGE rfl) pa_nil)))) pss_nil)
      (pss_cons (ps_if (pt_cmpR op_ge (pv 3) (pe_meth0 (pv 0) T.cl m_Book_parts o_Book_parts (hr.mono (by decide)) b_Book_parts .nil pass0) (nomark _)) (pss_one (ps_ret (pe_lst (pa_cons (pe_gint T.c_NO_SUCH_RUN rfl) pa_nil)))) pss_nil)
      (pss_cons (ps_if (pt_val (pe_call o_is_promised (hr.mono (by decide)) rfl g_is_promised k_is_promised b_is_promised .nil pass0 (pa_cons (pe_fld (pv 0) rfl) (pa_cons (pv 1) (pa_cons (pv 2) (pa_cons (pv 3) pa_nil)))))) (pss_one (ps_ret (pe_lst (pa_cons (pe_gint T.c_THERE_ALREADY rfl) pa_nil)))) pss_nil)
      (pss_cons (ps_set (i := 5) sc_answer_promise.nd rfl (Or.inl rfl) (pe_tup (pa_cons (pv 1) (pa_cons (pv 2) (pa_cons (pv 3) (pa_cons (pv 4) pa_nil))))))
      (pss_cons (ps_if (pt_not (pt_val (pe_call o_is_kept (hr.mono (by decide)) rfl g_is_kept k_is_kept b_is_kept .nil pass0 (pa_cons (pe_meth0 (pv 0) T.cl m_Book_parts o_Book_parts (hr.mono (by decide)) b_Book_parts .nil pass0) (pa_cons (pv 5) (pa_cons (pe_fld (pv 0) rfl) pa_nil)))))) (pss_one (ps_ret (pe_lst (pa_cons (pe_gint T.c_CANT_BE_SO rfl) pa_nil)))) pss_nil)
      (pss_cons (ps_if (pt_cmpR op_ge (pe_callB call_len_seq rfl T.b_len PySem.boot_len (pa_cons (pe_fld (pv 0) rfl) pa_nil)) (pe_gint T.c_MOST_PROMISES rfl) (nomark _)) (pss_one (ps_ret (pe_lst (pa_cons (pe_gint T.c_TOO_MUCH rfl) pa_nil)))) pss_nil)
      (pss_cons (ps_expr (pe_meth (pv 0) T.cl m_Book_add_promise o_Book_add_promise (hr.mono (by decide)) b_Book_add_promise .nil pass0 (pa_cons (pv 5) pa_nil)))
      (pss_one (ps_ret (pe_lst (pa_cons (pe_gint T.c_DONE rfl) (pa_cons (pe_callB call_len_seq rfl T.b_len PySem.boot_len (pa_cons (pe_fld (pv 0) rfl) pa_nil)) pa_nil)))))))))))), ?_⟩
  obtain ⟨dx, a1, a2, a3, hL⟩ := id hB
  have hlen := hG.len
  refine sIf (!(isSet m && (isRun i j && (decide (0 ≤ w0) && decide (w0 ≤ 1000000))))) (fun Q q => ?_) (fun h => ?_) (fun h => ?_)
  · walk_at "rd"
    exact ite3 (Q := fun z => Q z H) q
  · have e : SctSecret.step s0 (.promise m i j w0) = (s0, SctBase.no 1) := if_pos (by
      unfold WHOLE
      rcases not3 h with h | h | h
      · exact .inl h
      · exact .inr (.inl h)
      · rw [Bool.and_eq_false_iff, decide_eq_false_iff_not, decide_eq_false_iff_not] at h
        omega)
    walk_at "rd"
    exact q.no hB e (Same.refl _) rfl
  obtain ⟨g1, g2, g3⟩ := and3 h
  obtain ⟨mn, m1, m2⟩ := nat_of_set g1
  obtain ⟨en, jn, ij⟩ := nat_of_run g2
  rw [Bool.and_eq_true, decide_eq_true_eq, decide_eq_true_eq] at g3
  have wn : ((w0.toNat : Nat) : Int) = w0 := by omega
  have no1 : ¬ (isSet m = false ∨ isRun i j = false ∨ w0 < 0 ∨ (WHOLE : Int) < w0) := by
    rw [g1, g2]
    unfold WHOLE
    simp only [Bool.true_eq_false, false_or]
    omega
  refine sIf (decide ((s0.shares.length : Int) ≤ j)) (fun Q q => ?_) (fun h => ?_) (fun h => ?_)
  · walk_at "rd"
    exact ⟨dx, _, hL.ins, bF_parts _ _ _, g, s0, hB, q⟩
  · have e : SctSecret.step s0 (.promise m i j w0) = (s0, SctBase.no 3) := (if_neg no1).trans (if_pos (by
      unfold runThere
      rw [decide_eq_true_eq] at h
      exact decide_eq_false (by omega)))
    walk_at "rd"
    exact q.no hB e (Same.refl _) rfl
  have hj : j < (s0.shares.length : Int) := by
    rw [decide_eq_false_iff_not] at h
    omega
  have no2 : ¬ (runThere s0 j = false) := by
    unfold runThere
    rw [decide_eq_true hj]
    simp
  have ea : (s0.promises.any fun (p : Promise) => p.to_ == m.toNat && (p.first == i.toNat && p.last == j.toNat)) = s0.promises.any fun p => decide ((p.to_ : Int) = m) && (decide ((p.first : Int) = i) && decide ((p.last : Int) = j)) := by
    congr 1
    funext p
    rw [beq_nat m p.to_ mn, beq_nat i p.first en, beq_nat j p.last jn]
  refine sIf (s0.promises.any fun p => decide ((p.to_ : Int) = m) && (decide ((p.first : Int) = i) && decide ((p.last : Int) = j))) (fun Q q => ?_) (fun h => ?_) (fun h => ?_)
  · walk_at "rd"
    exact ⟨C, dx, _, hL.ins, T.cl, T.a_promises, _, bF_promises _ _ _, _, rfl, s0.promises, hL.pr, q⟩
  · have e : SctSecret.step s0 (.promise m i j w0) = (s0, SctBase.no 8) := (if_neg no1).trans ((if_neg no2).trans (if_pos (ea.trans h)))
    walk_at "rd"
    exact q.no hB e (Same.refl _) rfl
  have no3 : ¬ ((s0.promises.any fun (p : Promise) => p.to_ == m.toNat && (p.first == i.toNat && p.last == j.toNat)) = true) := by
    rw [ea, h]
    simp
  have ep : prV ⟨m.toNat, i.toNat, j.toNat, w0.toNat⟩ = [.int m, .int i, .int j, .int w0] := by
    unfold prV
    rw [mn, en, jn, wn]
  refine sSet ⟨_, rfl, _, rfl, _, rfl, _, rfl, (by show 4 ≤ sizeLine; decide), fun c nc => ?_⟩
  have s1 : Same H (upd H c (.tup [.int m, .int i, .int j, .int w0])) := same_new nc
  have hc : (upd H c (.tup [.int m, .int i, .int j, .int w0])) c = some (.tup (prV ⟨m.toNat, i.toNat, j.toNat, w0.toNat⟩)) := by rw [upd_same, ep]
  generalize upd H c (.tup [.int m, .int i, .int j, .int w0]) = H1 at s1 hc
  have ek : decide (0 ≤ spareM s0.shares.length s0.facts ⟨m.toNat, i.toNat, j.toNat, w0.toNat⟩) = !decide (wide s0.shares.length (knownTo m.toNat s0.facts) i.toNat j.toNat < w0) := by
    rw [spare_kept (by omega), ← decide_not, decide_eq_decide]
    show ((w0.toNat : Nat) : Int) ≤ wide s0.shares.length (knownTo m.toNat s0.facts) i.toNat j.toNat ↔ ¬ (wide s0.shares.length (knownTo m.toNat s0.facts) i.toNat j.toNat < w0)
    omega
  refine sIfN (!decide (0 ≤ spareM s0.shares.length s0.facts ⟨m.toNat, i.toNat, j.toNat, w0.toNat⟩)) (fun Q q => ?_) (fun H2 s2 h => ?_) (fun H2 s2 h => ?_)
  · have hL1 := hL.same s1
    walk_at "rd"
    exact ⟨dx, _, hL1.ins, bF_parts _ _ _, g, s0, hB.same s1, C, dx, _, hL1.ins, T.cl, T.a_facts, _, bF_facts _ _ _, _, rfl, _, SqT.of hc, s0.facts, hL1.fa, hG.facts.one, by have := hG.nf; omega, by omega, ij, by show j.toNat < _; omega, q⟩
  · have e : SctSecret.step s0 (.promise m i j w0) = (s0, SctBase.no 4) := (if_neg no1).trans ((if_neg no2).trans ((if_neg no3).trans (if_pos (by
      rw [ek, Bool.not_not, decide_eq_true_eq] at h
      exact h))))
    walk_at "rd"
    exact q.no hB e (s1.trans s2) rfl
  have no4 : ¬ (wide s0.shares.length (knownTo m.toNat s0.facts) i.toNat j.toNat < w0) := by
    rw [ek, Bool.not_not, decide_eq_false_iff_not] at h
    exact h
  have hL2 := hL.same (s1.trans s2)
  have hB2 := hB.same (s1.trans s2)
  refine sIf (decide (12 ≤ (s0.promises.length : Int))) (fun Q q => ?_) (fun h => ?_) (fun h => ?_)
  · obtain ⟨xs, x1, x2, _⟩ := hL2.pr.list
    rw [List.length_map] at x2
    walk_at "rd"
    refine ⟨C, dx, _, hL2.ins, T.cl, T.a_promises, _, bF_promises _ _ _, _, rfl, xs, .inl (SqL.of x1), ?_⟩
    rw [x2]
    exact q
  · have e : SctSecret.step s0 (.promise m i j w0) = (s0, SctBase.no 9) := (if_neg no1).trans ((if_neg no2).trans ((if_neg no3).trans ((if_neg no4).trans (if_pos (by
      unfold PROMISES
      rw [decide_eq_true_eq] at h
      omega)))))
    walk_at "rd"
    exact q.no hB e (s1.trans s2) rfl
  have e : SctSecret.step s0 (.promise m i j w0) = ({ s0 with promises := s0.promises ++ [⟨m.toNat, i.toNat, j.toNat, w0.toNat⟩] }, tells [num (s0.promises.length + 1)]) := (if_neg no1).trans ((if_neg no2).trans ((if_neg no3).trans ((if_neg no4).trans (if_neg (by
      unfold PROMISES
      rw [decide_eq_false_iff_not] at h
      omega)))))
  obtain ⟨og, ho⟩ := Option.ne_none_iff_exists'.mp hg
  walk_at "rd"
  refine ⟨dx, _, hL2.ins, bF_addp _ _ _, g, s0, hB2, by rw [(s1.trans s2) _ _ ho]; simp, _, s2 _ _ hc, by have := hG.np; omega, fun H3 k3 hB3 => ?_⟩
  obtain ⟨dx', b1, b2, b3, hL3⟩ := id hB3
  obtain ⟨xs, x1, x2, _⟩ := hL3.pr.list
  rw [List.length_map] at x2
  refine ⟨C, dx', _, hL3.ins, T.cl, T.a_promises, _, bF_promises _ _ _, _, rfl, xs, .inl (SqL.of x1), by decide, fun p hp => q _ p ((Same.but (s1.trans s2)).trans (k3.trans (Same.but (same_new hp)))) ?_ ?_ ?_⟩
  · rw [e]
    exact hB3.same (same_new hp)
  · exact (s1.trans s2).free (k3.free hL3.ins hp)
  · rw [upd_same, x2]
    unfold ans
    rw [e, List.length_append]
    rfl
def spTell (C : Addr) : Sp := fun vs H Q _ => ∃ (b g : Addr) (m i j u v : Int) (s : State), vs = [.ref b, .int m, .int i, .int j, .int u, .int v] ∧ BookAt C H g b s ∧ Good s ∧ H g ≠ none ∧ Ans C H g b s (.tell m i j u v) Q
local macro_rules | `(tactic| walk_at "rd") => `(tactic| simp only [L2.start, wipe, List.replicate_succ, List.replicate_zero, Nat.reduceSub, Nat.reduceAdd, Nat.zero_add, List.map_cons, List.map_nil, List.length_cons, List.length_nil, tSeq, tRet, tAsg, gName, gTup, gCons, gNil, tVar, tC, tOp, tUn, rI0, rI, rU, rEq, rNe, tChain, tChain3, tCons, tNil, tOrV, tAndV, tIfS, tNext, tTest, tB, tNot, tAnd, tOr, tAug, ipI, tCall, tCB, tDrop, tBM, tBM0, tFld, tMeth, rAppend, rExtend, rCat, tTup, tLst, rIxL, rIxT, scal, V.bl.injEq, V.int.injEq, V.ref.injEq, List.cons.injEq, and_true, List.getElem?_cons_succ, List.getElem?_cons_zero, List.cons_append, List.nil_append, List.append_nil, Option.some.injEq, exists_eq_left', exists_and_left, and_assoc, Int.natCast_inj, Int.zero_add, true_and, List.set_cons_succ, List.set_cons_zero, spFactRefusal, spKeeps, spPutFacts])
theorem ok_answer_tell (T : Txt K mg C aS aW) : FnG P w K mg base 10 "answer_tell" p_answer_tell (spTell C) := by
  obtain ⟨_, _, m_Book_keeps, b_Book_keeps, o_Book_keeps⟩ := (ok_Book_keeps (P := P) (w := w) (base := base) T).ex
  obtain ⟨_, _, m_Book_put_facts, b_Book_put_facts, o_Book_put_facts⟩ := (ok_Book_put_facts (P := P) (w := w) (base := base) T).ex
  obtain ⟨_, _, g_fact_refusal, k_fact_refusal, b_fact_refusal, o_fact_refusal⟩ := (ok_fact_refusal (P := P) (w := w) (base := base) T).ex
  refine FnG.of T.d_answer_tell sc_answer_tell (fun _ _ _ _ _ _ us hl => match us, hl with | [_, _, _, _, _, _], _ => rfl) (by rintro vs H Q E ⟨b, g, m, i, j, u, v, s0, rfl, hB, hG, hg, q⟩; rfl) (fun f cdv A outer s H vs Q E hr h => ?_)
  obtain ⟨b, g, m, i, j, u, v, s0, rfl, hB, hG, hg, q⟩ := h
  refine ⟨_, (pss_cons (ps_set (i := 6) sc_answer_tell.nd rfl (Or.inl rfl) (pe_tup (pa_cons (pv 1) (pa_cons (pv 2) (pa_cons (pv 3) (pa_cons (pv 4) (pa_cons (pv 5) pa_nil)))))))
      (pss_cons (ps_set (i := 7) sc_answer_tell.nd rfl (Or.inl rfl) (pe_call o_fact_refusal (hr.mono (by decide)) rfl g_fact_refusal k_fact_refusal b_fact_refusal .nil pass0 (pa_cons (pv 6) (pa_cons (pe_fld (pv 0) rfl) pa_nil))))
      (pss_cons (ps_if (pt_cmpR op_ne (pv 7) (pe_gint T.c_DONE rfl) (nomark _)) (pss_one (ps_ret (pe_lst (pa_cons (pv 7) pa_nil)))) pss_nil)
      (pss_cons (ps_set (i := 8) sc_answer_tell.nd rfl (Or.inl rfl) (pe_op op_cat (pe_fld (pv 0) rfl) (pe_lst (pa_cons (pv 6) pa_nil))))
      (pss_cons (ps_if (pt_not (pt_val (pe_meth (pv 0) T.cl m_Book_keeps o_Book_keeps (hr.mono (by decide)) b_Book_keeps .nil pass0 (pa_cons (pv 8) pa_nil)))) (pss_one (ps_ret (pe_lst (pa_cons (pe_gint T.c_NOT_KEPT rfl) pa_nil)))) pss_nil)
      (pss_cons (ps_if (pt_cmpR op_ge (pe_callB call_len_seq rfl T.b_len PySem.boot_len (pa_cons (pe_fld (pv 0) rfl) pa_nil)) (pe_gint T.c_MOST_FACTS rfl) (nomark _)) (pss_one (ps_ret (pe_lst (pa_cons (pe_gint T.c_TOO_MUCH rfl) pa_nil)))) pss_nil)
      (pss_cons (ps_expr (pe_meth (pv 0) T.cl m_Book_put_facts o_Book_put_facts (hr.mono (by decide)) b_Book_put_facts .nil pass0 (pa_cons (pv 8) pa_nil)))
      (pss_one (ps_ret (pe_lst (pa_cons (pe_gint T.c_DONE rfl) (pa_cons (pe_callB call_len_seq rfl T.b_len PySem.boot_len (pa_cons (pe_fld (pv 0) rfl) pa_nil)) pa_nil)))))))))))), ?_⟩
  obtain ⟨dx, a1, a2, a3, hL⟩ := id hB
  have hlen := hG.len
  refine sSet ⟨_, rfl, _, rfl, _, rfl, _, rfl, _, rfl, (by show 5 ≤ sizeLine; decide), fun c nc => ?_⟩
  have s1 : Same H (upd H c (.tup [.int m, .int i, .int j, .int u, .int v])) := same_new nc
  have hc : (upd H c (.tup [.int m, .int i, .int j, .int u, .int v])) c = some (.tup (rawF m i j u v)) := upd_same
  generalize upd H c (.tup [.int m, .int i, .int j, .int u, .int v]) = H1 at s1 hc
  have hL1 := hL.same s1
  refine sSet ⟨_, rfl, _, rfl, _, C, dx, _, _, rfl, hL1.ins, T.cl, T.a_shares, bF_shares _ _ _, c, a1, m, i, j, u, v, _, rfl, SqT.of hc, SqL.of hL1.sh, by omega, ?_⟩
  have hw : wrong s0 m i j u v = wrongL s0.shares m i j u v := rfl
  refine sIf (!decide (wrongL s0.shares m i j u v = 0)) (fun Q q => ?_) (fun h => ?_) (fun h => ?_)
  · walk_at "rd"
    exact cast (congrArg (fun z => Q (!z) H1) (by rw [decide_eq_decide]; omega)) q
  · rw [Bool.not_eq_true', decide_eq_false_iff_not] at h
    have e : SctSecret.step s0 (.tell m i j u v) = (s0, SctBase.no (wrong s0 m i j u v)) := if_pos (by rw [hw]; exact h)
    walk_at "rd"
    exact q.no hB e s1 rfl
  rw [Bool.not_eq_false', decide_eq_true_eq] at h
  have no1 : ¬ (wrong s0 m i j u v ≠ 0) := fun z => z (hw.trans h)
  obtain ⟨g1, g2, g3, g4, g5⟩ := wrong_none h
  rw [rawF_eq g1 g2 g3] at hc
  have fok : FOk s0.shares.length (withFact s0 m i j u v) := fok_with hG g2 g4
  have hwl : (withFact s0 m i j u v).length = s0.facts.length + 1 := List.length_append
  have hnf := hG.nf
  refine sSet (plus_fact hL1 T.cl T.a_facts rfl (by omega) (fun Q q => ⟨_, rfl, q c H1 (Same.refl _) hc⟩) fun d H2 s2 r2 => ?_)
  have r2 : Rows H2 .tup d ((withFact s0 m i j u v).map fV) := r2
  have s12 := s1.trans s2
  have hL2 := hL.same s12
  refine sIfN (!keeps s0 (withFact s0 m i j u v)) (fun Q q => ?_) (fun H3 s3 h => ?_) (fun H3 s3 h => ?_)
  · walk_at "rd"
    exact ⟨dx, _, hL2.ins, bF_keeps _ _ _, g, s0, hB.same s12, hG, _, r2, fok.one, by omega, q⟩
  · have e : SctSecret.step s0 (.tell m i j u v) = (s0, SctBase.no 7) := (if_neg no1).trans (if_pos (by rw [Bool.not_eq_true'] at h; exact h))
    walk_at "rd"
    exact q.no hB e (s12.trans s3) rfl
  have no2 : ¬ (keeps s0 (withFact s0 m i j u v) = false) := by
    rw [Bool.not_eq_false'] at h
    rw [h]
    simp
  have hL3 := hL.same (s12.trans s3)
  refine sIf (decide (40 ≤ (s0.facts.length : Int))) (fun Q q => ?_) (fun h => ?_) (fun h => ?_)
  · obtain ⟨xs, x1, x2, _⟩ := hL3.fa.list
    rw [List.length_map] at x2
    walk_at "rd"
    refine ⟨C, dx, _, hL3.ins, T.cl, T.a_facts, _, bF_facts _ _ _, _, rfl, xs, .inl (SqL.of x1), ?_⟩
    rw [x2]
    exact q
  · have e : SctSecret.step s0 (.tell m i j u v) = (s0, SctBase.no 9) := (if_neg no1).trans ((if_neg no2).trans (if_pos (by
      unfold FACTS
      rw [decide_eq_true_eq] at h
      omega)))
    walk_at "rd"
    exact q.no hB e (s12.trans s3) rfl
  have e : SctSecret.step s0 (.tell m i j u v) = ({ s0 with facts := withFact s0 m i j u v }, tells [num (s0.facts.length + 1)]) := (if_neg no1).trans ((if_neg no2).trans (if_neg (by
    unfold FACTS
    rw [decide_eq_false_iff_not] at h
    omega)))
  obtain ⟨og, ho⟩ := Option.ne_none_iff_exists'.mp hg
  walk_at "rd"
  refine ⟨dx, _, hL3.ins, bF_putf _ _ _, g, s0, hB.same (s12.trans s3), by rw [(s12.trans s3) _ _ ho]; simp, _, r2.same s3, fun H4 k4 hB4 => ?_⟩
  obtain ⟨dx', b1, b2, b3, hL4⟩ := id hB4
  obtain ⟨xs, x1, x2, _⟩ := hL4.fa.list
  rw [List.length_map] at x2
  refine ⟨C, dx', _, hL4.ins, T.cl, T.a_facts, _, bF_facts _ _ _, _, rfl, xs, .inl (SqL.of x1), by decide, fun p hp => q _ p ((Same.but (s12.trans s3)).trans (k4.trans (Same.but (same_new hp)))) ?_ ?_ ?_⟩
  · rw [e]
    exact hB4.same (same_new hp)
  · exact (s12.trans s3).free (k4.free hL4.ins hp)
  · rw [upd_same, x2]
    unfold ans
    rw [e, hwl]
    rfl
def spMeet (C : Addr) : Sp := fun vs H Q _ => ∃ (b g : Addr) (m : Int) (s : State), vs = [.ref b, .int m] ∧ BookAt C H g b s ∧ Good s ∧ H g ≠ none ∧ Ans C H g b s (.meet m) Q
local macro_rules | `(tactic| walk_at "rd") => `(tactic| simp only [L2.start, wipe, List.replicate_succ, List.replicate_zero, Nat.reduceSub, Nat.reduceAdd, Nat.zero_add, List.map_cons, List.map_nil, List.length_cons, List.length_nil, tSeq, tRet, tAsg, gName, gTup, gCons, gNil, tVar, tC, tOp, tUn, rI0, rI, rU, rEq, rNe, tChain, tChain3, tCons, tNil, tOrV, tAndV, tIfS, tNext, tTest, tB, tNot, tAnd, tOr, tAug, ipI, tCall, tCB, tDrop, tBM, tBM0, tFld, tMeth, rAppend, rExtend, rCat, tTup, tLst, rIxL, rIxT, scal, V.bl.injEq, V.int.injEq, V.ref.injEq, List.cons.injEq, and_true, List.getElem?_cons_succ, List.getElem?_cons_zero, List.cons_append, List.nil_append, List.append_nil, Option.some.injEq, exists_eq_left', exists_and_left, and_assoc, Int.natCast_inj, Int.zero_add, true_and, List.set_cons_succ, List.set_cons_zero, spAfterMeeting, spIsHearers, spKeeps, spPutFacts])
theorem ok_answer_meet (T : Txt K mg C aS aW) : FnG P w K mg base 10 "answer_meet" p_answer_meet (spMeet C) := by
  obtain ⟨_, _, m_Book_keeps, b_Book_keeps, o_Book_keeps⟩ := (ok_Book_keeps (P := P) (w := w) (base := base) T).ex
  obtain ⟨_, _, m_Book_put_facts, b_Book_put_facts, o_Book_put_facts⟩ := (ok_Book_put_facts (P := P) (w := w) (base := base) T).ex
  obtain ⟨_, _, g_after_meeting, k_after_meeting, b_after_meeting, o_after_meeting⟩ := (ok_after_meeting (P := P) (w := w) (base := base) T).ex
  obtain ⟨_, _, g_is_hearers, k_is_hearers, b_is_hearers, o_is_hearers⟩ := (ok_is_hearers (P := P) (w := w) (base := base) T).ex
  refine FnG.of T.d_answer_meet sc_answer_meet (fun _ _ _ _ _ _ us hl => match us, hl with | [_, _], _ => rfl) (by rintro vs H Q E ⟨b, g, m, s0, rfl, hB, hG, hg, q⟩; rfl) (fun f cdv A outer s H vs Q E hr h => ?_)
  obtain ⟨b, g, m, s0, rfl, hB, hG, hg, q⟩ := h
  refine ⟨_, (pss_cons (ps_if (pt_not (pt_val (pe_call o_is_hearers (hr.mono (by decide)) rfl g_is_hearers k_is_hearers b_is_hearers .nil pass0 (pa_cons (pv 1) pa_nil)))) (pss_one (ps_ret (pe_lst (pa_cons (pe_gint T.c_OUT_OF_RANGE rfl) pa_nil)))) pss_nil)
      (pss_cons (ps_set (i := 2) sc_answer_meet.nd rfl (Or.inl rfl) (pe_call o_after_meeting (hr.mono (by decide)) rfl g_after_meeting k_after_meeting b_after_meeting .nil pass0 (pa_cons (pe_fld (pv 0) rfl) (pa_cons (pv 1) pa_nil))))
      (pss_cons (ps_if (pt_not (pt_val (pe_meth (pv 0) T.cl m_Book_keeps o_Book_keeps (hr.mono (by decide)) b_Book_keeps .nil pass0 (pa_cons (pv 2) pa_nil)))) (pss_one (ps_ret (pe_lst (pa_cons (pe_gint T.c_NOT_KEPT rfl) pa_nil)))) pss_nil)
      (pss_cons (ps_expr (pe_meth (pv 0) T.cl m_Book_put_facts o_Book_put_facts (hr.mono (by decide)) b_Book_put_facts .nil pass0 (pa_cons (pv 2) pa_nil)))
      (pss_one (ps_ret (pe_lst (pa_cons (pe_gint T.c_DONE rfl) pa_nil)))))))), ?_⟩
  obtain ⟨dx, a1, a2, a3, hL⟩ := id hB
  have hlen := hG.len
  have hnf := hG.nf
  refine sIf (!isSet m) (fun Q q => ?_) (fun h => ?_) (fun h => ?_)
  · walk_at "rd"
    exact q
  · have e : SctSecret.step s0 (.meet m) = (s0, SctBase.no 1) := if_pos (by rw [Bool.not_eq_true'] at h; exact h)
    walk_at "rd"
    exact q.no hB e (Same.refl _) rfl
  rw [Bool.not_eq_false'] at h
  obtain ⟨mn, _, _⟩ := nat_of_set h
  have no1 : ¬ (isSet m = false) := by rw [h]; simp
  have em : (s0.facts.map fun (x : Fact) => if x.to_ &&& m.toNat != 0 then { x with to_ := x.to_ ||| m.toNat } else x) = s0.facts.map (toldOn m.toNat) := rfl
  have fok : FOk s0.shares.length (s0.facts.map (toldOn m.toNat)) := fok_told hG
  refine sSet ⟨_, rfl, b, C, dx, _, _, rfl, hL.ins, T.cl, T.a_facts, bF_facts _ _ _, _, rfl, a3, s0.facts, m.toNat, by rw [mn]; rfl, hL.fa, by omega, fun d H2 s2 nd r2 => ?_⟩
  have hL2 := hL.same s2
  refine sIfN (!keeps s0 (s0.facts.map (toldOn m.toNat))) (fun Q q => ?_) (fun H3 s3 h => ?_) (fun H3 s3 h => ?_)
  · walk_at "rd"
    exact ⟨dx, _, hL2.ins, bF_keeps _ _ _, g, s0, hB.same s2, hG, _, r2, fok.one, by rw [List.length_map]; omega, q⟩
  · have e : SctSecret.step s0 (.meet m) = (s0, SctBase.no 7) := (if_neg no1).trans (if_pos (by rw [Bool.not_eq_true'] at h; exact h))
    walk_at "rd"
    exact q.no hB e (s2.trans s3) rfl
  have no2 : ¬ (keeps s0 (s0.facts.map (toldOn m.toNat)) = false) := by
    rw [Bool.not_eq_false'] at h
    rw [h]
    simp
  have e : SctSecret.step s0 (.meet m) = ({ s0 with facts := s0.facts.map (toldOn m.toNat) }, tells []) := (if_neg no1).trans (if_neg no2)
  have hL3 := hL.same (s2.trans s3)
  obtain ⟨og, ho⟩ := Option.ne_none_iff_exists'.mp hg
  walk_at "rd"
  refine ⟨dx, _, hL3.ins, bF_putf _ _ _, g, s0, hB.same (s2.trans s3), by rw [(s2.trans s3) _ _ ho]; simp, _, r2.same s3, fun H4 k4 hB4 => ⟨by decide, fun p hp => q _ p ((Same.but (s2.trans s3)).trans (k4.trans (Same.but (same_new hp)))) ?_ ?_ ?_⟩⟩
  · rw [e]
    exact hB4.same (same_new hp)
  · obtain ⟨dx', b1, b2, b3, hL4⟩ := id hB4
    exact (s2.trans s3).free (k4.free hL4.ins hp)
  · rw [upd_same]
    unfold ans
    rw [e]
    rfl
end
end Tl

namespace Tl
open PySem PySem.Spec PyProof.Rows L2 SctSecret SctBase
section
variable {P : Program} {w : World} {K : PySem.W.Frag} {mg : Str → Option Value} {base : Heap} {C aS aW : Addr}
local macro_rules | `(tactic| walk_at "rd") => `(tactic| simp only [L2.start, wipe, List.replicate_succ, List.replicate_zero, Nat.reduceSub, Nat.reduceAdd, Nat.zero_add, List.map_cons, List.map_nil, List.length_cons, List.length_nil, tSeq, tRet, tAsg, gName, gTup, gCons, gNil, tVar, tC, tOp, tUn, rI0, rI, rU, rEq, rNe, tChain, tChain3, tCons, tNil, tOrV, tAndV, tIfS, tNext, tTest, tB, tNot, tAnd, tOr, tAug, ipI, tCall, tCB, tDrop, tBM, tBM0, tFld, tMeth, rAppend, rExtend, rCat, tTup, tLst, rIxL, rIxT, scal, V.bl.injEq, V.int.injEq, V.ref.injEq, List.cons.injEq, and_true, List.getElem?_cons_succ, List.getElem?_cons_zero, List.cons_append, List.nil_append, List.append_nil, Option.some.injEq, exists_eq_left', exists_and_left, and_assoc, Int.natCast_inj, Int.zero_add, true_and, List.set_cons_succ, List.set_cons_zero])
theorem bandsM_eq (s : State) (l : List Fact) : bandsM (apartM s.shares.length l) s.shares.length = bandsOf s l := by
  cases h : s.shares.length with
  | zero =>
    unfold bandsM bandsOf
    rw [h]
    rfl
  | succ n =>
    rw [apartM_eq (by omega)]
    unfold bandsM bandsOf
    rw [h]
def spMay (C : Addr) : Sp := fun vs H Q _ => ∃ (b g : Addr) (m i j u v : Int) (s : State), vs = [.ref b, .int m, .int i, .int j, .int u, .int v] ∧ BookAt C H g b s ∧ Good s ∧ Ans C H g b s (.may m i j u v) Q
local macro_rules | `(tactic| walk_at "rd") => `(tactic| simp only [L2.start, wipe, List.replicate_succ, List.replicate_zero, Nat.reduceSub, Nat.reduceAdd, Nat.zero_add, List.map_cons, List.map_nil, List.length_cons, List.length_nil, tSeq, tRet, tAsg, gName, gTup, gCons, gNil, tVar, tC, tOp, tUn, rI0, rI, rU, rEq, rNe, tChain, tChain3, tCons, tNil, tOrV, tAndV, tIfS, tNext, tTest, tB, tNot, tAnd, tOr, tAug, ipI, tCall, tCB, tDrop, tBM, tBM0, tFld, tMeth, rAppend, rExtend, rCat, tTup, tLst, rIxL, rIxT, scal, V.bl.injEq, V.int.injEq, V.ref.injEq, List.cons.injEq, and_true, List.getElem?_cons_succ, List.getElem?_cons_zero, List.cons_append, List.nil_append, List.append_nil, Option.some.injEq, exists_eq_left', exists_and_left, and_assoc, Int.natCast_inj, Int.zero_add, true_and, List.set_cons_succ, List.set_cons_zero, spFactRefusal, spKeeps])
theorem ok_answer_may (T : Txt K mg C aS aW) : FnG P w K mg base 10 "answer_may" p_answer_may (spMay C) := by
  obtain ⟨_, _, m_Book_keeps, b_Book_keeps, o_Book_keeps⟩ := (ok_Book_keeps (P := P) (w := w) (base := base) T).ex
  obtain ⟨_, _, g_fact_refusal, k_fact_refusal, b_fact_refusal, o_fact_refusal⟩ := (ok_fact_refusal (P := P) (w := w) (base := base) T).ex
  refine FnG.of T.d_answer_may sc_answer_may (fun _ _ _ _ _ _ us hl => match us, hl with | [_, _, _, _, _, _], _ => rfl) (by rintro vs H Q E ⟨b, g, m, i, j, u, v, s0, rfl, hB, hG, q⟩; rfl) (fun f cdv A outer s H vs Q E hr h => ?_)
  obtain ⟨b, g, m, i, j, u, v, s0, rfl, hB, hG, q⟩ := h
  refine ⟨_, (pss_cons (ps_set (i := 6) sc_answer_may.nd rfl (Or.inl rfl) (pe_tup (pa_cons (pv 1) (pa_cons (pv 2) (pa_cons (pv 3) (pa_cons (pv 4) (pa_cons (pv 5) pa_nil)))))))
      (pss_cons (ps_set (i := 7) sc_answer_may.nd rfl (Or.inl rfl) (pe_call o_fact_refusal (hr.mono (by decide)) rfl g_fact_refusal k_fact_refusal b_fact_refusal .nil pass0 (pa_cons (pv 6) (pa_cons (pe_fld (pv 0) rfl) pa_nil))))
      (pss_cons (ps_if (pt_cmpR op_ne (pv 7) (pe_gint T.c_DONE rfl) (nomark _)) (pss_one (ps_ret (pe_lst (pa_cons (pv 7) pa_nil)))) pss_nil)
      (pss_cons (ps_if (pt_val (pe_meth (pv 0) T.cl m_Book_keeps o_Book_keeps (hr.mono (by decide)) b_Book_keeps .nil pass0 (pa_cons (pe_op op_cat (pe_fld (pv 0) rfl) (pe_lst (pa_cons (pv 6) pa_nil))) pa_nil))) (pss_one (ps_ret (pe_lst (pa_cons (pe_gint T.c_DONE rfl) (pa_cons pe_int pa_nil))))) pss_nil)
      (pss_one (ps_ret (pe_lst (pa_cons (pe_gint T.c_DONE rfl) (pa_cons pe_int pa_nil))))))))), ?_⟩
  obtain ⟨dx, a1, a2, a3, hL⟩ := id hB
  have hlen := hG.len
  refine sSet ⟨_, rfl, _, rfl, _, rfl, _, rfl, _, rfl, (by show 5 ≤ sizeLine; decide), fun c nc => ?_⟩
  have s1 : Same H (upd H c (.tup [.int m, .int i, .int j, .int u, .int v])) := same_new nc
  have hc : (upd H c (.tup [.int m, .int i, .int j, .int u, .int v])) c = some (.tup (rawF m i j u v)) := upd_same
  generalize upd H c (.tup [.int m, .int i, .int j, .int u, .int v]) = H1 at s1 hc
  have hL1 := hL.same s1
  refine sSet ⟨_, rfl, _, rfl, _, C, dx, _, _, rfl, hL1.ins, T.cl, T.a_shares, bF_shares _ _ _, c, a1, m, i, j, u, v, _, rfl, SqT.of hc, SqL.of hL1.sh, by omega, ?_⟩
  have hw : wrong s0 m i j u v = wrongL s0.shares m i j u v := rfl
  refine sIf (!decide (wrongL s0.shares m i j u v = 0)) (fun Q q => ?_) (fun h => ?_) (fun h => ?_)
  · walk_at "rd"
    exact cast (congrArg (fun z => Q (!z) H1) (by rw [decide_eq_decide]; omega)) q
  · rw [Bool.not_eq_true', decide_eq_false_iff_not] at h
    have e : SctSecret.step s0 (.may m i j u v) = (s0, SctBase.no (wrong s0 m i j u v)) := congrArg (Prod.mk s0) (if_pos (by rw [hw]; exact h))
    walk_at "rd"
    exact q.no hB e s1 rfl
  rw [Bool.not_eq_false', decide_eq_true_eq] at h
  have no1 : ¬ (wrong s0 m i j u v ≠ 0) := fun z => z (hw.trans h)
  obtain ⟨g1, g2, g3, g4, g5⟩ := wrong_none h
  rw [rawF_eq g1 g2 g3] at hc
  have fok : FOk s0.shares.length (withFact s0 m i j u v) := fok_with hG g2 g4
  have hwl : (withFact s0 m i j u v).length = s0.facts.length + 1 := List.length_append
  have hnf := hG.nf
  have e : SctSecret.step s0 (.may m i j u v) = (s0, tells [bit (keeps s0 (withFact s0 m i j u v))]) := congrArg (Prod.mk s0) (if_neg no1)
  refine sIfN (keeps s0 (withFact s0 m i j u v)) (fun Q q => ?_) (fun H3 s3 h => ?_) (fun H3 s3 h => ?_)
  · refine ⟨_, rfl, b, dx, _, rfl, hL1.ins, bF_keeps _ _ _, plus_fact hL1 T.cl T.a_facts rfl (by omega) (fun Q q => ⟨_, rfl, q c H1 (Same.refl _) hc⟩) fun d H2 s2 r2 => ?_⟩
    exact ⟨b, d, g, s0, _, rfl, hB.same (s1.trans s2), hG, r2, fok.one, by show (withFact s0 m i j u v).length ≤ 1000; omega, fun H3 s3 => ⟨_, rfl, q H3 (s2.trans s3)⟩⟩
  · rw [h] at e
    walk_at "rd"
    exact ⟨by decide, fun p hp => q.tell hB e (s1.trans s3) hp rfl⟩
  · rw [h] at e
    walk_at "rd"
    exact ⟨by decide, fun p hp => q.tell hB e (s1.trans s3) hp rfl⟩
def spWould (C : Addr) : Sp := fun vs H Q _ => ∃ (b g : Addr) (m i j u v k : Int) (s : State), vs = [.ref b, .int m, .int i, .int j, .int u, .int v, .int k] ∧ BookAt C H g b s ∧ Good s ∧ Ans C H g b s (.would m i j u v k) Q
local macro_rules | `(tactic| walk_at "rd") => `(tactic| simp only [L2.start, wipe, List.replicate_succ, List.replicate_zero, Nat.reduceSub, Nat.reduceAdd, Nat.zero_add, List.map_cons, List.map_nil, List.length_cons, List.length_nil, tSeq, tRet, tAsg, gName, gTup, gCons, gNil, tVar, tC, tOp, tUn, rI0, rI, rU, rEq, rNe, tChain, tChain3, tCons, tNil, tOrV, tAndV, tIfS, tNext, tTest, tB, tNot, tAnd, tOr, tAug, ipI, tCall, tCB, tDrop, tBM, tBM0, tFld, tMeth, rAppend, rExtend, rCat, tTup, tLst, rIxL, rIxT, scal, V.bl.injEq, V.int.injEq, V.ref.injEq, List.cons.injEq, and_true, List.getElem?_cons_succ, List.getElem?_cons_zero, List.cons_append, List.nil_append, List.append_nil, Option.some.injEq, exists_eq_left', exists_and_left, and_assoc, Int.natCast_inj, Int.zero_add, true_and, List.set_cons_succ, List.set_cons_zero, spFactRefusal, spFoundOut, spIsHearers, spPartBands, spParts])
theorem ok_answer_would (T : Txt K mg C aS aW) : FnG P w K mg base 6 "answer_would" p_answer_would (spWould C) := by
  obtain ⟨_, _, m_Book_parts, b_Book_parts, o_Book_parts⟩ := (ok_Book_parts (P := P) (w := w) (base := base) T).ex
  obtain ⟨_, _, g_fact_refusal, k_fact_refusal, b_fact_refusal, o_fact_refusal⟩ := (ok_fact_refusal (P := P) (w := w) (base := base) T).ex
  obtain ⟨_, _, g_found_out, k_found_out, b_found_out, o_found_out⟩ := (ok_found_out (P := P) (w := w) (base := base) T).ex
  obtain ⟨_, _, g_is_hearers, k_is_hearers, b_is_hearers, o_is_hearers⟩ := (ok_is_hearers (P := P) (w := w) (base := base) T).ex
  obtain ⟨_, _, g_part_bands, k_part_bands, b_part_bands, o_part_bands⟩ := (ok_part_bands (P := P) (w := w) (base := base) T).ex
  refine FnG.of T.d_answer_would sc_answer_would (fun _ _ _ _ _ _ us hl => match us, hl with | [_, _, _, _, _, _, _], _ => rfl) (by rintro vs H Q E ⟨b, g, m, i, j, u, v, k, s0, rfl, hB, hG, q⟩; rfl) (fun f cdv A outer s H vs Q E hr h => ?_)
  obtain ⟨b, g, m, i, j, u, v, k, s0, rfl, hB, hG, q⟩ := h
  refine ⟨_, (pss_cons (ps_if (pt_not (pt_val (pe_call o_is_hearers (hr.mono (by decide)) rfl g_is_hearers k_is_hearers b_is_hearers .nil pass0 (pa_cons (pv 6) pa_nil)))) (pss_one (ps_ret (pe_lst (pa_cons (pe_gint T.c_OUT_OF_RANGE rfl) pa_nil)))) pss_nil)
      (pss_cons (ps_set (i := 7) sc_answer_would.nd rfl (Or.inl rfl) (pe_tup (pa_cons (pv 1) (pa_cons (pv 2) (pa_cons (pv 3) (pa_cons (pv 4) (pa_cons (pv 5) pa_nil)))))))
      (pss_cons (ps_set (i := 8) sc_answer_would.nd rfl (Or.inl rfl) (pe_call o_fact_refusal (hr.mono (by decide)) rfl g_fact_refusal k_fact_refusal b_fact_refusal .nil pass0 (pa_cons (pv 7) (pa_cons (pe_fld (pv 0) rfl) pa_nil))))
      (pss_cons (ps_if (pt_cmpR op_ne (pv 8) (pe_gint T.c_DONE rfl) (nomark _)) (pss_one (ps_ret (pe_lst (pa_cons (pv 8) pa_nil)))) pss_nil)
      (pss_one (ps_ret (pe_op op_cat (pe_lst (pa_cons (pe_gint T.c_DONE rfl) pa_nil)) (pe_call o_part_bands (hr.mono (by decide)) rfl g_part_bands k_part_bands b_part_bands .nil pass0 (pa_cons (pe_call o_found_out (hr.mono (by decide)) rfl g_found_out k_found_out b_found_out .nil pass0 (pa_cons (pe_meth0 (pv 0) T.cl m_Book_parts o_Book_parts (hr.mono (by decide)) b_Book_parts .nil pass0) (pa_cons (pe_op op_cat (pe_fld (pv 0) rfl) (pe_lst (pa_cons (pv 7) pa_nil))) (pa_cons (pv 6) pa_nil)))) pa_nil))))))))), ?_⟩
  obtain ⟨dx, a1, a2, a3, hL⟩ := id hB
  have hlen := hG.len
  refine sIf (!isSet k) (fun Q q => ?_) (fun h => ?_) (fun h => ?_)
  · walk_at "rd"
    exact q
  · have e : SctSecret.step s0 (.would m i j u v k) = (s0, SctBase.no 1) := congrArg (Prod.mk s0) (if_pos (by rw [Bool.not_eq_true'] at h; exact h))
    walk_at "rd"
    exact q.no hB e (Same.refl _) rfl
  rw [Bool.not_eq_false'] at h
  obtain ⟨kn, _, _⟩ := nat_of_set h
  have no0 : ¬ (isSet k = false) := by rw [h]; simp
  refine sSet ⟨_, rfl, _, rfl, _, rfl, _, rfl, _, rfl, (by show 5 ≤ sizeLine; decide), fun c nc => ?_⟩
  have s1 : Same H (upd H c (.tup [.int m, .int i, .int j, .int u, .int v])) := same_new nc
  have hc : (upd H c (.tup [.int m, .int i, .int j, .int u, .int v])) c = some (.tup (rawF m i j u v)) := upd_same
  generalize upd H c (.tup [.int m, .int i, .int j, .int u, .int v]) = H1 at s1 hc
  have hL1 := hL.same s1
  refine sSet ⟨_, rfl, _, rfl, _, C, dx, _, _, rfl, hL1.ins, T.cl, T.a_shares, bF_shares _ _ _, c, a1, m, i, j, u, v, _, rfl, SqT.of hc, SqL.of hL1.sh, by omega, ?_⟩
  have hw : wrong s0 m i j u v = wrongL s0.shares m i j u v := rfl
  refine sIf (!decide (wrongL s0.shares m i j u v = 0)) (fun Q q => ?_) (fun h => ?_) (fun h => ?_)
  · walk_at "rd"
    exact cast (congrArg (fun z => Q (!z) H1) (by rw [decide_eq_decide]; omega)) q
  · rw [Bool.not_eq_true', decide_eq_false_iff_not] at h
    have e : SctSecret.step s0 (.would m i j u v k) = (s0, SctBase.no (wrong s0 m i j u v)) := congrArg (Prod.mk s0) ((if_neg no0).trans (if_pos (by rw [hw]; exact h)))
    walk_at "rd"
    exact q.no hB e s1 rfl
  rw [Bool.not_eq_false', decide_eq_true_eq] at h
  have no1 : ¬ (wrong s0 m i j u v ≠ 0) := fun z => z (hw.trans h)
  obtain ⟨g1, g2, g3, g4, g5⟩ := wrong_none h
  rw [rawF_eq g1 g2 g3] at hc
  have fok : FOk s0.shares.length (withFact s0 m i j u v) := fok_with hG g2 g4
  have hwl : (withFact s0 m i j u v).length = s0.facts.length + 1 := List.length_append
  have hnf := hG.nf
  have e : SctSecret.step s0 (.would m i j u v k) = (s0, tells (bandsOf s0 (knownTo k.toNat (withFact s0 m i j u v)))) := congrArg (Prod.mk s0) ((if_neg no0).trans (if_neg no1))
  refine ⟨by show 1 ≤ sizeLine; decide, fun p0 n0 => ?_⟩
  have s2 : Same H1 (upd H1 p0 (.lst [.int 0])) := same_new n0
  have hp0 : (upd H1 p0 (.lst [.int 0])) p0 = some (.lst [.int 0]) := upd_same
  generalize upd H1 p0 (.lst [.int 0]) = H2 at s2 hp0
  have hL2 := hL1.same s2
  refine ⟨_, rfl, b, dx, _, rfl, hL2.ins, bF_parts _ _ _, b, g, s0, rfl, hB.same (s1.trans s2), plus_fact hL2 T.cl T.a_facts rfl (by omega) (fun Q q => ⟨_, rfl, q c H2 (Same.refl _) (s2 _ _ hc)⟩) fun d H3 s3 r3 => ?_⟩
  refine ⟨_, rfl, d, s0.shares.length, k.toNat, withFact s0 m i j u v, by rw [kn]; rfl, r3, fok.one, by omega, by omega, fun D H4 s4 r4 => ?_⟩
  refine ⟨D, _, s0.shares.length, rfl, r4, sq_apart _ _, by omega, fun D2 H5 s5 n5 h5 => ?_⟩
  rw [bandsM_eq] at h5
  refine ⟨p0, D2, _, _, rfl, rfl, s5 _ _ (s4 _ _ (s3 _ _ hp0)), h5, ?_, fun p hp => q.tell hB e (s1.trans (s2.trans (s3.trans (s4.trans s5)))) hp rfl⟩
  rw [rV_len, ← bandsM_eq, bandsM_len]
  exact le_line (show 1 + 2 * s0.shares.length ≤ 10000 by omega)
def spInferred (C : Addr) : Sp := fun vs H Q _ => ∃ (b g : Addr) (k i j : Int) (s : State), vs = [.ref b, .int k, .int i, .int j] ∧ BookAt C H g b s ∧ Good s ∧ Ans C H g b s (.inferred k i j) Q
local macro_rules | `(tactic| walk_at "rd") => `(tactic| simp only [L2.start, wipe, List.replicate_succ, List.replicate_zero, Nat.reduceSub, Nat.reduceAdd, Nat.zero_add, List.map_cons, List.map_nil, List.length_cons, List.length_nil, tSeq, tRet, tAsg, gName, gTup, gCons, gNil, tVar, tC, tOp, tUn, rI0, rI, rU, rEq, rNe, tChain, tChain3, tCons, tNil, tOrV, tAndV, tIfS, tNext, tTest, tB, tNot, tAnd, tOr, tAug, ipI, tCall, tCB, tDrop, tBM, tBM0, tFld, tMeth, rAppend, rExtend, rCat, tTup, tLst, rIxL, rIxT, scal, V.bl.injEq, V.int.injEq, V.ref.injEq, List.cons.injEq, and_true, List.getElem?_cons_succ, List.getElem?_cons_zero, List.cons_append, List.nil_append, List.append_nil, Option.some.injEq, exists_eq_left', exists_and_left, and_assoc, Int.natCast_inj, Int.zero_add, true_and, List.set_cons_succ, List.set_cons_zero, spFoundOut, spGreatest, spIsHearers, spIsRun, spLeast, spParts])
theorem ok_answer_inferred (T : Txt K mg C aS aW) : FnG P w K mg base 6 "answer_inferred" p_answer_inferred (spInferred C) := by
  obtain ⟨_, _, m_Book_parts, b_Book_parts, o_Book_parts⟩ := (ok_Book_parts (P := P) (w := w) (base := base) T).ex
  obtain ⟨_, _, g_found_out, k_found_out, b_found_out, o_found_out⟩ := (ok_found_out (P := P) (w := w) (base := base) T).ex
  obtain ⟨_, _, g_greatest_sum, k_greatest_sum, b_greatest_sum, o_greatest_sum⟩ := (ok_greatest_sum (P := P) (w := w) (base := base) T).ex
  obtain ⟨_, _, g_is_hearers, k_is_hearers, b_is_hearers, o_is_hearers⟩ := (ok_is_hearers (P := P) (w := w) (base := base) T).ex
  obtain ⟨_, _, g_is_run, k_is_run, b_is_run, o_is_run⟩ := (ok_is_run (P := P) (w := w) (base := base) T).ex
  obtain ⟨_, _, g_least_sum, k_least_sum, b_least_sum, o_least_sum⟩ := (ok_least_sum (P := P) (w := w) (base := base) T).ex
  refine FnG.of T.d_answer_inferred sc_answer_inferred (fun _ _ _ _ _ _ us hl => match us, hl with | [_, _, _, _], _ => rfl) (by rintro vs H Q E ⟨b, g, k, i, j, s0, rfl, hB, hG, q⟩; rfl) (fun f cdv A outer s H vs Q E hr h => ?_)
  obtain ⟨b, g, k, i, j, s0, rfl, hB, hG, q⟩ := h
  refine ⟨_, (pss_cons (ps_if (pt_not (PW.pt (pw_and (pt_val (pe_call o_is_hearers (hr.mono (by decide)) rfl g_is_hearers k_is_hearers b_is_hearers .nil pass0 (pa_cons (pv 1) pa_nil))) (pw_and1 (pt_val (pe_call o_is_run (hr.mono (by decide)) rfl g_is_run k_is_run b_is_run .nil pass0 (pa_cons (pv 2) (pa_cons (pv 3) pa_nil)))))))) (pss_one (ps_ret (pe_lst (pa_cons (pe_gint T.c_OUT_OF_RANGE rfl) pa_nil)))) pss_nil)
      (pss_cons (ps_if (pt_cmpR op_ge (pv 3) (pe_meth0 (pv 0) T.cl m_Book_parts o_Book_parts (hr.mono (by decide)) b_Book_parts .nil pass0) (nomark _)) (pss_one (ps_ret (pe_lst (pa_cons (pe_gint T.c_NO_SUCH_RUN rfl) pa_nil)))) pss_nil)
      (pss_cons (ps_set (i := 4) sc_answer_inferred.nd rfl (Or.inl rfl) (pe_call o_found_out (hr.mono (by decide)) rfl g_found_out k_found_out b_found_out .nil pass0 (pa_cons (pe_meth0 (pv 0) T.cl m_Book_parts o_Book_parts (hr.mono (by decide)) b_Book_parts .nil pass0) (pa_cons (pe_fld (pv 0) rfl) (pa_cons (pv 1) pa_nil)))))
      (pss_one (ps_ret (pe_lst (pa_cons (pe_gint T.c_DONE rfl) (pa_cons (pe_call o_least_sum (hr.mono (by decide)) rfl g_least_sum k_least_sum b_least_sum .nil pass0 (pa_cons (pv 4) (pa_cons (pv 2) (pa_cons (pv 3) pa_nil)))) (pa_cons (pe_call o_greatest_sum (hr.mono (by decide)) rfl g_greatest_sum k_greatest_sum b_greatest_sum .nil pass0 (pa_cons (pv 4) (pa_cons (pv 2) (pa_cons (pv 3) pa_nil)))) pa_nil))))))))), ?_⟩
  obtain ⟨dx, a1, a2, a3, hL⟩ := id hB
  have hlen := hG.len
  have hnf := hG.nf
  refine sIf (!(isSet k && isRun i j)) (fun Q q => ?_) (fun h => ?_) (fun h => ?_)
  · walk_at "rd"
    exact ite2b (Q := fun z => Q z H) q
  · have e : SctSecret.step s0 (.inferred k i j) = (s0, SctBase.no 1) := congrArg (Prod.mk s0) (if_pos (not2 h))
    walk_at "rd"
    exact q.no hB e (Same.refl _) rfl
  obtain ⟨g1, g2⟩ := and2 h
  obtain ⟨kn, _, _⟩ := nat_of_set g1
  obtain ⟨en, jn, ij⟩ := nat_of_run g2
  have no1 : ¬ (isSet k = false ∨ isRun i j = false) := by rw [g1, g2]; simp
  refine sIf (decide ((s0.shares.length : Int) ≤ j)) (fun Q q => ?_) (fun h => ?_) (fun h => ?_)
  · walk_at "rd"
    exact ⟨dx, _, hL.ins, bF_parts _ _ _, g, s0, hB, q⟩
  · have e : SctSecret.step s0 (.inferred k i j) = (s0, SctBase.no 3) := congrArg (Prod.mk s0) ((if_neg no1).trans (if_pos (by
      unfold runThere
      rw [decide_eq_true_eq] at h
      exact decide_eq_false (by omega))))
    walk_at "rd"
    exact q.no hB e (Same.refl _) rfl
  have hj : j < (s0.shares.length : Int) := by
    rw [decide_eq_false_iff_not] at h
    omega
  have no2 : ¬ (runThere s0 j = false) := by
    unfold runThere
    rw [decide_eq_true hj]
    simp
  have e : SctSecret.step s0 (.inferred k i j) = (s0, tells [(band s0.shares.length (knownTo k.toNat s0.facts) i.toNat j.toNat).1, (band s0.shares.length (knownTo k.toNat s0.facts) i.toNat j.toNat).2]) := congrArg (Prod.mk s0) ((if_neg no1).trans (if_neg no2))
  refine sSet ⟨_, rfl, b, dx, _, rfl, hL.ins, bF_parts _ _ _, b, g, s0, rfl, hB, _, rfl, b, C, dx, _, _, rfl, hL.ins, T.cl, T.a_facts, bF_facts _ _ _, _, rfl, a3, s0.shares.length, k.toNat, s0.facts, by rw [kn]; rfl, hL.fa, hG.facts.one, by omega, by omega, fun D H2 s2 r2 => ?_⟩
  rw [← en, ← jn]
  walk_at "rd"
  refine ⟨_, r2, s0.shares.length, sq_apart _ _, by omega, by omega, _, r2, _, sq_apart _ _, by omega, by omega, by decide, fun p hp => q.tell hB e s2 hp ?_⟩
  rw [apartM_eq (by omega)]
  rfl
def spAll (C : Addr) : Sp := fun vs H Q _ => ∃ (b g : Addr) (k : Int) (s : State), vs = [.ref b, .int k] ∧ BookAt C H g b s ∧ Good s ∧ Ans C H g b s (.all_ k) Q
local macro_rules | `(tactic| walk_at "rd") => `(tactic| simp only [L2.start, wipe, List.replicate_succ, List.replicate_zero, Nat.reduceSub, Nat.reduceAdd, Nat.zero_add, List.map_cons, List.map_nil, List.length_cons, List.length_nil, tSeq, tRet, tAsg, gName, gTup, gCons, gNil, tVar, tC, tOp, tUn, rI0, rI, rU, rEq, rNe, tChain, tChain3, tCons, tNil, tOrV, tAndV, tIfS, tNext, tTest, tB, tNot, tAnd, tOr, tAug, ipI, tCall, tCB, tDrop, tBM, tBM0, tFld, tMeth, rAppend, rExtend, rCat, tTup, tLst, rIxL, rIxT, scal, V.bl.injEq, V.int.injEq, V.ref.injEq, List.cons.injEq, and_true, List.getElem?_cons_succ, List.getElem?_cons_zero, List.cons_append, List.nil_append, List.append_nil, Option.some.injEq, exists_eq_left', exists_and_left, and_assoc, Int.natCast_inj, Int.zero_add, true_and, List.set_cons_succ, List.set_cons_zero, spFoundOut, spIsHearers, spPartBands, spParts])
theorem ok_answer_all (T : Txt K mg C aS aW) : FnG P w K mg base 6 "answer_all" p_answer_all (spAll C) := by
  obtain ⟨_, _, m_Book_parts, b_Book_parts, o_Book_parts⟩ := (ok_Book_parts (P := P) (w := w) (base := base) T).ex
  obtain ⟨_, _, g_found_out, k_found_out, b_found_out, o_found_out⟩ := (ok_found_out (P := P) (w := w) (base := base) T).ex
  obtain ⟨_, _, g_is_hearers, k_is_hearers, b_is_hearers, o_is_hearers⟩ := (ok_is_hearers (P := P) (w := w) (base := base) T).ex
  obtain ⟨_, _, g_part_bands, k_part_bands, b_part_bands, o_part_bands⟩ := (ok_part_bands (P := P) (w := w) (base := base) T).ex
  refine FnG.of T.d_answer_all sc_answer_all (fun _ _ _ _ _ _ us hl => match us, hl with | [_, _], _ => rfl) (by rintro vs H Q E ⟨b, g, k, s0, rfl, hB, hG, q⟩; rfl) (fun f cdv A outer s H vs Q E hr h => ?_)
  obtain ⟨b, g, k, s0, rfl, hB, hG, q⟩ := h
  refine ⟨_, (pss_cons (ps_if (pt_not (pt_val (pe_call o_is_hearers (hr.mono (by decide)) rfl g_is_hearers k_is_hearers b_is_hearers .nil pass0 (pa_cons (pv 1) pa_nil)))) (pss_one (ps_ret (pe_lst (pa_cons (pe_gint T.c_OUT_OF_RANGE rfl) pa_nil)))) pss_nil)
      (pss_one (ps_ret (pe_op op_cat (pe_lst (pa_cons (pe_gint T.c_DONE rfl) pa_nil)) (pe_call o_part_bands (hr.mono (by decide)) rfl g_part_bands k_part_bands b_part_bands .nil pass0 (pa_cons (pe_call o_found_out (hr.mono (by decide)) rfl g_found_out k_found_out b_found_out .nil pass0 (pa_cons (pe_meth0 (pv 0) T.cl m_Book_parts o_Book_parts (hr.mono (by decide)) b_Book_parts .nil pass0) (pa_cons (pe_fld (pv 0) rfl) (pa_cons (pv 1) pa_nil)))) pa_nil)))))), ?_⟩
  obtain ⟨dx, a1, a2, a3, hL⟩ := id hB
  have hlen := hG.len
  have hnf := hG.nf
  refine sIf (!isSet k) (fun Q q => ?_) (fun h => ?_) (fun h => ?_)
  · walk_at "rd"
    exact q
  · have e : SctSecret.step s0 (.all_ k) = (s0, SctBase.no 1) := congrArg (Prod.mk s0) (if_pos (by rw [Bool.not_eq_true'] at h; exact h))
    walk_at "rd"
    exact q.no hB e (Same.refl _) rfl
  rw [Bool.not_eq_false'] at h
  obtain ⟨kn, _, _⟩ := nat_of_set h
  have no0 : ¬ (isSet k = false) := by rw [h]; simp
  have e : SctSecret.step s0 (.all_ k) = (s0, tells (bandsOf s0 (knownTo k.toNat s0.facts))) := congrArg (Prod.mk s0) (if_neg no0)
  refine ⟨by show 1 ≤ sizeLine; decide, fun p0 n0 => ?_⟩
  have s2 : Same H (upd H p0 (.lst [.int 0])) := same_new n0
  have hp0 : (upd H p0 (.lst [.int 0])) p0 = some (.lst [.int 0]) := upd_same
  generalize upd H p0 (.lst [.int 0]) = H2 at s2 hp0
  have hL2 := hL.same s2
  refine ⟨_, rfl, b, dx, _, rfl, hL2.ins, bF_parts _ _ _, b, g, s0, rfl, hB.same s2, _, rfl, b, C, dx, _, _, rfl, hL2.ins, T.cl, T.a_facts, bF_facts _ _ _, _, rfl, a3, s0.shares.length, k.toNat, s0.facts, by rw [kn]; rfl, hL2.fa, hG.facts.one, by omega, by omega, fun D H4 s4 r4 => ?_⟩
  refine ⟨D, _, s0.shares.length, rfl, r4, sq_apart _ _, by omega, fun D2 H5 s5 n5 h5 => ?_⟩
  rw [bandsM_eq] at h5
  refine ⟨p0, D2, _, _, rfl, rfl, s5 _ _ (s4 _ _ hp0), h5, ?_, fun p hp => q.tell hB e (s2.trans (s4.trans s5)) hp rfl⟩
  rw [rV_len, ← bandsM_eq, bandsM_len]
  exact le_line (show 1 + 2 * s0.shares.length ≤ 10000 by omega)
end
end Tl

namespace Tl
open PySem PySem.Spec PyProof.Rows L2 SctSecret SctBase
section
variable {P : Program} {w : World} {K : PySem.W.Frag} {mg : Str → Option Value} {base : Heap} {C aS aW : Addr}
local macro_rules | `(tactic| walk_at "rd") => `(tactic| simp only [L2.start, wipe, List.replicate_succ, List.replicate_zero, Nat.reduceSub, Nat.reduceAdd, Nat.zero_add, List.map_cons, List.map_nil, List.length_cons, List.length_nil, tSeq, tRet, tAsg, gName, gTup, gCons, gNil, tVar, tC, tOp, tUn, rI0, rI, rU, rEq, rNe, tChain, tChain3, tCons, tNil, tOrV, tAndV, tIfS, tNext, tTest, tB, tNot, tAnd, tOr, tAug, ipI, tCall, tCB, tDrop, tBM, tBM0, tFld, tMeth, rAppend, rExtend, rCat, tTup, tLst, rIxL, rIxT, scal, V.bl.injEq, V.int.injEq, V.ref.injEq, List.cons.injEq, and_true, List.getElem?_cons_succ, List.getElem?_cons_zero, List.cons_append, List.nil_append, List.append_nil, Option.some.injEq, exists_eq_left', exists_and_left, and_assoc, Int.natCast_inj, Int.zero_add, true_and, List.set_cons_succ, List.set_cons_zero])
def spShows (C : Addr) : Sp := fun vs H Q _ => ∃ (b g : Addr) (k i j e : Int) (s : State), vs = [.ref b, .int k, .int i, .int j, .int e] ∧ BookAt C H g b s ∧ Good s ∧ Ans C H g b s (.shows k i j e) Q
local macro_rules | `(tactic| walk_at "rd") => `(tactic| simp only [L2.start, wipe, List.replicate_succ, List.replicate_zero, Nat.reduceSub, Nat.reduceAdd, Nat.zero_add, List.map_cons, List.map_nil, List.length_cons, List.length_nil, tSeq, tRet, tAsg, gName, gTup, gCons, gNil, tVar, tC, tOp, tUn, rI0, rI, rU, rEq, rNe, tChain, tChain3, tCons, tNil, tOrV, tAndV, tIfS, tNext, tTest, tB, tNot, tAnd, tOr, tAug, ipI, tCall, tCB, tDrop, tBM, tBM0, tFld, tMeth, rAppend, rExtend, rCat, tTup, tLst, rIxL, rIxT, scal, V.bl.injEq, V.int.injEq, V.ref.injEq, List.cons.injEq, and_true, List.getElem?_cons_succ, List.getElem?_cons_zero, List.cons_append, List.nil_append, List.append_nil, Option.some.injEq, exists_eq_left', exists_and_left, and_assoc, Int.natCast_inj, Int.zero_add, true_and, List.set_cons_succ, List.set_cons_zero, spFoundOut, spIsHearers, spIsRun, spIsSide, spParts, spShown])
theorem ok_answer_shows (T : Txt K mg C aS aW) : FnG P w K mg base 6 "answer_shows" p_answer_shows (spShows C) := by
  obtain ⟨_, _, m_Book_parts, b_Book_parts, o_Book_parts⟩ := (ok_Book_parts (P := P) (w := w) (base := base) T).ex
  obtain ⟨_, _, g_found_out, k_found_out, b_found_out, o_found_out⟩ := (ok_found_out (P := P) (w := w) (base := base) T).ex
  obtain ⟨_, _, g_is_hearers, k_is_hearers, b_is_hearers, o_is_hearers⟩ := (ok_is_hearers (P := P) (w := w) (base := base) T).ex
  obtain ⟨_, _, g_is_run, k_is_run, b_is_run, o_is_run⟩ := (ok_is_run (P := P) (w := w) (base := base) T).ex
  obtain ⟨_, _, g_is_side, k_is_side, b_is_side, o_is_side⟩ := (ok_is_side (P := P) (w := w) (base := base) T).ex
  obtain ⟨_, _, g_shown, k_shown, b_shown, o_shown⟩ := (ok_shown (P := P) (w := w) (base := base) T).ex
  refine FnG.of T.d_answer_shows sc_answer_shows (fun _ _ _ _ _ _ us hl => match us, hl with | [_, _, _, _, _], _ => rfl) (by rintro vs H Q E ⟨b, g, k, i, j, sd, s0, rfl, hB, hG, q⟩; rfl) (fun f cdv A outer s H vs Q E hr h => ?_)
  obtain ⟨b, g, k, i, j, sd, s0, rfl, hB, hG, q⟩ := h
  refine ⟨_, (pss_cons (ps_if (pt_not (PW.pt (pw_and (pt_val (pe_call o_is_hearers (hr.mono (by decide)) rfl g_is_hearers k_is_hearers b_is_hearers .nil pass0 (pa_cons (pv 1) pa_nil))) (pw_and (pt_val (pe_call o_is_run (hr.mono (by decide)) rfl g_is_run k_is_run b_is_run .nil pass0 (pa_cons (pv 2) (pa_cons (pv 3) pa_nil)))) (pw_and1 (pt_val (pe_call o_is_side (hr.mono (by decide)) rfl g_is_side k_is_side b_is_side .nil pass0 (pa_cons (pv 4) pa_nil)))))))) (pss_one (ps_ret (pe_lst (pa_cons (pe_gint T.c_OUT_OF_RANGE rfl) pa_nil)))) pss_nil)
      (pss_cons (ps_if (pt_cmpR op_ge (pv 3) (pe_meth0 (pv 0) T.cl m_Book_parts o_Book_parts (hr.mono (by decide)) b_Book_parts .nil pass0) (nomark _)) (pss_one (ps_ret (pe_lst (pa_cons (pe_gint T.c_NO_SUCH_RUN rfl) pa_nil)))) pss_nil)
      (pss_cons (ps_set (i := 5) sc_answer_shows.nd rfl (Or.inl rfl) (pe_call o_found_out (hr.mono (by decide)) rfl g_found_out k_found_out b_found_out .nil pass0 (pa_cons (pe_meth0 (pv 0) T.cl m_Book_parts o_Book_parts (hr.mono (by decide)) b_Book_parts .nil pass0) (pa_cons (pe_fld (pv 0) rfl) (pa_cons (pv 1) pa_nil)))))
      (pss_cons (ps_if (pt_cmpR op_eq (pv 4) (pe_gint T.c_GREATEST_SIDE rfl) (nomark _)) (pss_one (ps_ret (pe_op op_cat (pe_lst (pa_cons (pe_gint T.c_DONE rfl) pa_nil)) (pe_call o_shown (hr.mono (by decide)) rfl g_shown k_shown b_shown .nil pass0 (pa_cons (pv 5) (pa_cons (pv 2) pa_nil)))))) pss_nil)
      (pss_one (ps_ret (pe_op op_cat (pe_lst (pa_cons (pe_gint T.c_DONE rfl) pa_nil)) (pe_call o_shown (hr.mono (by decide)) rfl g_shown k_shown b_shown .nil pass0 (pa_cons (pv 5) (pa_cons (pe_op op_add (pv 3) pe_int) pa_nil)))))))))), ?_⟩
  obtain ⟨dx, a1, a2, a3, hL⟩ := id hB
  have hlen := hG.len
  have hnf := hG.nf
  refine sIf (!(isSet k && (isRun i j && (decide (sd = 0) || decide (sd = 1))))) (fun Q q => ?_) (fun h => ?_) (fun h => ?_)
  · walk_at "rd"
    exact ite3 (Q := fun z => Q z H) q
  · have e : SctSecret.step s0 (.shows k i j sd) = (s0, SctBase.no 1) := congrArg (Prod.mk s0) (if_pos (by
      rcases not3 h with h | h | h
      · exact .inl h
      · exact .inr (.inl h)
      · rw [Bool.or_eq_false_iff, decide_eq_false_iff_not, decide_eq_false_iff_not] at h
        omega))
    walk_at "rd"
    exact q.no hB e (Same.refl _) rfl
  obtain ⟨g1, g2, g3⟩ := and3 h
  obtain ⟨kn, _, _⟩ := nat_of_set g1
  obtain ⟨en, jn, ij⟩ := nat_of_run g2
  rw [Bool.or_eq_true, decide_eq_true_eq, decide_eq_true_eq] at g3
  have no1 : ¬ (isSet k = false ∨ isRun i j = false ∨ sd < 0 ∨ 1 < sd) := by
    rw [g1, g2]
    simp only [Bool.true_eq_false, false_or]
    omega
  refine sIf (decide ((s0.shares.length : Int) ≤ j)) (fun Q q => ?_) (fun h => ?_) (fun h => ?_)
  · walk_at "rd"
    exact ⟨dx, _, hL.ins, bF_parts _ _ _, g, s0, hB, q⟩
  · have e : SctSecret.step s0 (.shows k i j sd) = (s0, SctBase.no 3) := congrArg (Prod.mk s0) ((if_neg no1).trans (if_pos (by
      unfold runThere
      rw [decide_eq_true_eq] at h
      exact decide_eq_false (by omega))))
    walk_at "rd"
    exact q.no hB e (Same.refl _) rfl
  have hj : j < (s0.shares.length : Int) := by
    rw [decide_eq_false_iff_not] at h
    omega
  have no2 : ¬ (runThere s0 j = false) := by
    unfold runThere
    rw [decide_eq_true hj]
    simp
  have e : SctSecret.step s0 (.shows k i j sd) = (s0, tells (formulaFrom s0.shares.length (knownTo k.toNat s0.facts) (if sd = 0 then j.toNat + 1 else i.toNat))) := congrArg (Prod.mk s0) ((if_neg no1).trans (if_neg no2))
  refine sSet ⟨_, rfl, b, dx, _, rfl, hL.ins, bF_parts _ _ _, b, g, s0, rfl, hB, _, rfl, b, C, dx, _, _, rfl, hL.ins, T.cl, T.a_facts, bF_facts _ _ _, _, rfl, a3, s0.shares.length, k.toNat, s0.facts, by rw [kn]; rfl, hL.fa, hG.facts.one, by omega, by omega, fun D H2 s2 r2 => ?_⟩
  have fin : ∀ (mk : Nat), mk ≤ s0.shares.length → (if sd = 0 then j.toNat + 1 else i.toNat) = mk → ∀ p0, H2 p0 = none → ∀ D2 H5, Same (upd H2 p0 (.lst [.int 0])) H5 → (upd H2 p0 (.lst [.int 0])) D2 = none → H5 D2 = some (.lst ((List.range s0.shares.length).map fun (i : Nat) => V.int (at_ (apartM s0.shares.length (knownTo k.toNat s0.facts)) mk (i + 1) - at_ (apartM s0.shares.length (knownTo k.toNat s0.facts)) mk i))) →
      rCat (.ref p0) (.ref D2) H5 Q := fun mk hmk emk p0 n0 D2 H5 s5 _ h5 => by
    refine ⟨p0, D2, _, _, rfl, rfl, s5 _ _ upd_same, h5, ?_, fun p hp => q.tell hB e (s2.trans ((same_new n0).trans s5)) hp ?_⟩
    · rw [List.length_map, List.length_range]
      exact le_line (show 1 + s0.shares.length ≤ 10000 by omega)
    · rw [emk]
      unfold formulaFrom
      rw [apartM_eq (by omega)]
      unfold tells rV
      rw [List.map_cons, List.map_map]
      rfl
  refine sIf (decide (sd = 1)) (fun Q q => ?_) (fun h => ?_) (fun h => ?_)
  · walk_at "rd"
    exact q
  · rw [decide_eq_true_eq] at h
    refine ⟨by show 1 ≤ sizeLine; decide, fun p0 n0 => ?_⟩
    exact ⟨_, rfl, _, rfl, D, i.toNat, _, s0.shares.length, by rw [en]; rfl, r2.same (same_new n0), sq_apart _ _, by omega, by omega, fin i.toNat (by omega) (if_neg (by omega)) p0 n0⟩
  · rw [decide_eq_false_iff_not] at h
    refine ⟨by show 1 ≤ sizeLine; decide, fun p0 n0 => ?_⟩
    exact ⟨_, rfl, _, rfl, _, _, rfl, rfl, D, j.toNat + 1, _, s0.shares.length, by rw [show (((j.toNat + 1 : Nat)) : Int) = j + 1 by omega]; rfl, r2.same (same_new n0), sq_apart _ _, by omega, by omega, fin (j.toNat + 1) (by omega) (if_pos (by omega)) p0 n0⟩
def spAFits (K : PySem.W.Frag) (C : Addr) : Sp := fun vs H Q _ => ∃ (b c g : Addr) (k : Int) (s : State) (ns : List Int), vs = [.ref b, .int k, .ref c] ∧ BookAt C H g b s ∧ Good s ∧ SqL K H c (rV ns) ∧ Ans C H g b s (.fits k ns) Q
local macro_rules | `(tactic| walk_at "rd") => `(tactic| simp only [L2.start, wipe, List.replicate_succ, List.replicate_zero, Nat.reduceSub, Nat.reduceAdd, Nat.zero_add, List.map_cons, List.map_nil, List.length_cons, List.length_nil, tSeq, tRet, tAsg, gName, gTup, gCons, gNil, tVar, tC, tOp, tUn, rI0, rI, rU, rEq, rNe, tChain, tChain3, tCons, tNil, tOrV, tAndV, tIfS, tNext, tTest, tB, tNot, tAnd, tOr, tAug, ipI, tCall, tCB, tDrop, tBM, tBM0, tFld, tMeth, rAppend, rExtend, rCat, tTup, tLst, rIxL, rIxT, scal, V.bl.injEq, V.int.injEq, V.ref.injEq, List.cons.injEq, and_true, List.getElem?_cons_succ, List.getElem?_cons_zero, List.cons_append, List.nil_append, List.append_nil, Option.some.injEq, exists_eq_left', exists_and_left, and_assoc, Int.natCast_inj, Int.zero_add, true_and, List.set_cons_succ, List.set_cons_zero, spAreShares, spFits, spIsHearers, spIsWhole, spKnown, spParts])
theorem ok_answer_fits (T : Txt K mg C aS aW) : FnG P w K mg base 4 "answer_fits" p_answer_fits (spAFits K C) := by
  obtain ⟨_, _, m_Book_parts, b_Book_parts, o_Book_parts⟩ := (ok_Book_parts (P := P) (w := w) (base := base) T).ex
  obtain ⟨_, _, g_are_shares, k_are_shares, b_are_shares, o_are_shares⟩ := (ok_are_shares (P := P) (w := w) (base := base) T).ex
  obtain ⟨_, _, g_fits, k_fits, b_fits, o_fits⟩ := (ok_fits (P := P) (w := w) (base := base) T).ex
  obtain ⟨_, _, g_is_hearers, k_is_hearers, b_is_hearers, o_is_hearers⟩ := (ok_is_hearers (P := P) (w := w) (base := base) T).ex
  obtain ⟨_, _, g_is_whole, k_is_whole, b_is_whole, o_is_whole⟩ := (ok_is_whole (P := P) (w := w) (base := base) T).ex
  obtain ⟨_, _, g_known, k_known, b_known, o_known⟩ := (ok_known (P := P) (w := w) (base := base) T).ex
  refine FnG.of T.d_answer_fits sc_answer_fits (fun _ _ _ _ _ _ us hl => match us, hl with | [_, _, _], _ => rfl) (by rintro vs H Q E ⟨b, c, g, k, s0, ns, rfl, hB, hG, hS, q⟩; rfl) (fun f cdv A outer s H vs Q E hr h => ?_)
  obtain ⟨b, c, g, k, s0, ns, rfl, hB, hG, hS, q⟩ := h
  refine ⟨_, (pss_cons (ps_if (pt_not (PW.pt (pw_and (pt_val (pe_call o_is_hearers (hr.mono (by decide)) rfl g_is_hearers k_is_hearers b_is_hearers .nil pass0 (pa_cons (pv 1) pa_nil))) (pw_and (pt_cmpR op_eq (pe_callB call_len_seq rfl T.b_len PySem.boot_len (pa_cons (pv 2) pa_nil)) (pe_meth0 (pv 0) T.cl m_Book_parts o_Book_parts (hr.mono (by decide)) b_Book_parts .nil pass0) (nomark _)) (pw_and1 (pt_val (pe_call o_are_shares (hr.mono (by decide)) rfl g_are_shares k_are_shares b_are_shares .nil pass0 (pa_cons (pv 2) pa_nil)))))))) (pss_one (ps_ret (pe_lst (pa_cons (pe_gint T.c_OUT_OF_RANGE rfl) pa_nil)))) pss_nil)
      (pss_cons (ps_if (PW.pt (pw_and (pt_val (pe_call o_is_whole (hr.mono (by decide)) rfl g_is_whole k_is_whole b_is_whole .nil pass0 (pa_cons (pv 2) pa_nil))) (pw_and1 (pt_val (pe_call o_fits (hr.mono (by decide)) rfl g_fits k_fits b_fits .nil pass0 (pa_cons (pv 2) (pa_cons (pe_call o_known (hr.mono (by decide)) rfl g_known k_known b_known .nil pass0 (pa_cons (pe_fld (pv 0) rfl) (pa_cons (pv 1) pa_nil))) pa_nil))))))) (pss_one (ps_ret (pe_lst (pa_cons (pe_gint T.c_DONE rfl) (pa_cons pe_int pa_nil))))) pss_nil)
      (pss_one (ps_ret (pe_lst (pa_cons (pe_gint T.c_DONE rfl) (pa_cons pe_int pa_nil))))))), ?_⟩
  obtain ⟨dx, a1, a2, a3, hL⟩ := id hB
  have hlen := hG.len
  have hnf := hG.nf
  refine sIf (!(isSet k && (decide (ns.length = s0.shares.length) && isShares ns))) (fun Q q => ?_) (fun h => ?_) (fun h => ?_)
  · walk_at "rd"
    cases h1 : isSet k with
    | false =>
      rw [h1] at q
      exact iteFf rfl q
    | true =>
      rw [h1] at q
      refine iteTt rfl ⟨_, .inl hS, _, _, hL.ins, bF_parts _ _ _, g, s0, hB, ?_⟩
      rw [rV_length]
      cases h2 : decide (ns.length = s0.shares.length) with
      | false =>
        rw [h2] at q
        exact iteFf rfl q
      | true =>
        rw [h2] at q
        exact iteTt rfl ⟨ns, hS, q⟩
  · have e : SctSecret.step s0 (.fits k ns) = (s0, SctBase.no 1) := congrArg (Prod.mk s0) (if_pos (by
      rcases not3 h with h | h | h
      · exact .inl h
      · rw [decide_eq_false_iff_not] at h
        exact .inr (.inl h)
      · exact .inr (.inr h)))
    walk_at "rd"
    exact q.no hB e (Same.refl _) rfl
  obtain ⟨g1, g2, g3⟩ := and3 h
  obtain ⟨kn, _, _⟩ := nat_of_set g1
  rw [decide_eq_true_eq] at g2
  have no1 : ¬ (isSet k = false ∨ ns.length ≠ s0.shares.length ∨ isShares ns = false) := by
    rw [g1, g2, g3]
    simp
  have e : SctSecret.step s0 (.fits k ns) = (s0, tells [bit (SctSecret.fits (ns.map Int.toNat) (knownTo k.toNat s0.facts))]) := congrArg (Prod.mk s0) (if_neg no1)
  have ef : SctSecret.fits (ns.map Int.toNat) (knownTo k.toNat s0.facts) = (decide (ns.sum = 1000000) && (knownTo k.toNat s0.facts).all (holdsN (ns.map Int.toNat))) := by
    unfold SctSecret.fits holdsN WHOLE
    congr 1
    rw [sum_nat g3, Bool.eq_iff_iff, beq_iff_eq, decide_eq_true_eq]
    omega
  refine sIfN (SctSecret.fits (ns.map Int.toNat) (knownTo k.toNat s0.facts)) (fun Q q => ?_) (fun H3 s3 h => ?_) (fun H3 s3 h => ?_)
  · rw [ef] at q
    walk_at "rd"
    refine ⟨ns, hS, ?_⟩
    cases h1 : decide (ns.sum = 1000000) with
    | false =>
      rw [h1] at q
      exact iteFf rfl (q H (Same.refl _))
    | true =>
      rw [h1] at q
      refine iteTt rfl ⟨C, dx, _, hL.ins, T.cl, T.a_facts, _, bF_facts _ _ _, _, rfl, s0.facts, k.toNat, by rw [kn], hL.fa, by omega, fun D H2 s2 nd r2 => ⟨ns.map Int.toNat, ?_, _, r2, by rw [List.length_map]; omega, ?_, q H2 s2⟩⟩
      · rw [← rV_nat g3]
        exact s2.seq hS
      · rw [List.length_map, g2]
        exact fun x hx => hG.facts x (List.mem_filter.mp hx).1
  · rw [h] at e
    walk_at "rd"
    exact ⟨by decide, fun p hp => q.tell hB e s3 hp rfl⟩
  · rw [h] at e
    walk_at "rd"
    exact ⟨by decide, fun p hp => q.tell hB e s3 hp rfl⟩
def spSum (C : Addr) : Sp := fun vs H Q _ => ∃ (b g : Addr) (i j : Int) (s : State), vs = [.ref b, .int i, .int j] ∧ BookAt C H g b s ∧ Good s ∧ Ans C H g b s (.sum i j) Q
local macro_rules | `(tactic| walk_at "rd") => `(tactic| simp only [L2.start, wipe, List.replicate_succ, List.replicate_zero, Nat.reduceSub, Nat.reduceAdd, Nat.zero_add, List.map_cons, List.map_nil, List.length_cons, List.length_nil, tSeq, tRet, tAsg, gName, gTup, gCons, gNil, tVar, tC, tOp, tUn, rI0, rI, rU, rEq, rNe, tChain, tChain3, tCons, tNil, tOrV, tAndV, tIfS, tNext, tTest, tB, tNot, tAnd, tOr, tAug, ipI, tCall, tCB, tDrop, tBM, tBM0, tFld, tMeth, rAppend, rExtend, rCat, tTup, tLst, rIxL, rIxT, scal, V.bl.injEq, V.int.injEq, V.ref.injEq, List.cons.injEq, and_true, List.getElem?_cons_succ, List.getElem?_cons_zero, List.cons_append, List.nil_append, List.append_nil, Option.some.injEq, exists_eq_left', exists_and_left, and_assoc, Int.natCast_inj, Int.zero_add, true_and, List.set_cons_succ, List.set_cons_zero, spIsRun, spParts, spRunSum])
theorem ok_answer_sum (T : Txt K mg C aS aW) : FnG P w K mg base 2 "answer_sum" p_answer_sum (spSum C) := by
  obtain ⟨_, _, m_Book_parts, b_Book_parts, o_Book_parts⟩ := (ok_Book_parts (P := P) (w := w) (base := base) T).ex
  obtain ⟨_, _, g_is_run, k_is_run, b_is_run, o_is_run⟩ := (ok_is_run (P := P) (w := w) (base := base) T).ex
  obtain ⟨_, _, g_run_sum, k_run_sum, b_run_sum, o_run_sum⟩ := (ok_run_sum (P := P) (w := w) (base := base) T).ex
  refine FnG.of T.d_answer_sum sc_answer_sum (fun _ _ _ _ _ _ us hl => match us, hl with | [_, _, _], _ => rfl) (by rintro vs H Q E ⟨b, g, i, j, s0, rfl, hB, hG, q⟩; rfl) (fun f cdv A outer s H vs Q E hr h => ?_)
  obtain ⟨b, g, i, j, s0, rfl, hB, hG, q⟩ := h
  refine ⟨_, (pss_cons (ps_if (pt_not (pt_val (pe_call o_is_run (hr.mono (by decide)) rfl g_is_run k_is_run b_is_run .nil pass0 (pa_cons (pv 1) (pa_cons (pv 2) pa_nil))))) (pss_one (ps_ret (pe_lst (pa_cons (pe_gint T.c_OUT_OF_RANGE rfl) pa_nil)))) pss_nil)
      (pss_cons (ps_if (pt_cmpR op_ge (pv 2) (pe_meth0 (pv 0) T.cl m_Book_parts o_Book_parts (hr.mono (by decide)) b_Book_parts .nil pass0) (nomark _)) (pss_one (ps_ret (pe_lst (pa_cons (pe_gint T.c_NO_SUCH_RUN rfl) pa_nil)))) pss_nil)
      (pss_one (ps_ret (pe_lst (pa_cons (pe_gint T.c_DONE rfl) (pa_cons (pe_call o_run_sum (hr.mono (by decide)) rfl g_run_sum k_run_sum b_run_sum .nil pass0 (pa_cons (pe_fld (pv 0) rfl) (pa_cons (pv 1) (pa_cons (pv 2) pa_nil)))) pa_nil))))))), ?_⟩
  obtain ⟨dx, a1, a2, a3, hL⟩ := id hB
  have hlen := hG.len
  refine sIf (!isRun i j) (fun Q q => ?_) (fun h => ?_) (fun h => ?_)
  · walk_at "rd"
    exact q
  · have e : SctSecret.step s0 (.sum i j) = (s0, SctBase.no 1) := congrArg (Prod.mk s0) (if_pos (by rw [Bool.not_eq_true'] at h; exact h))
    walk_at "rd"
    exact q.no hB e (Same.refl _) rfl
  rw [Bool.not_eq_false'] at h
  obtain ⟨en, jn, ij⟩ := nat_of_run h
  have no1 : ¬ (isRun i j = false) := by rw [h]; simp
  refine sIf (decide ((s0.shares.length : Int) ≤ j)) (fun Q q => ?_) (fun h => ?_) (fun h => ?_)
  · walk_at "rd"
    exact ⟨dx, _, hL.ins, bF_parts _ _ _, g, s0, hB, q⟩
  · have e : SctSecret.step s0 (.sum i j) = (s0, SctBase.no 3) := congrArg (Prod.mk s0) ((if_neg no1).trans (if_pos (by
      unfold runThere
      rw [decide_eq_true_eq] at h
      exact decide_eq_false (by omega))))
    walk_at "rd"
    exact q.no hB e (Same.refl _) rfl
  have hj : j < (s0.shares.length : Int) := by
    rw [decide_eq_false_iff_not] at h
    omega
  have no2 : ¬ (runThere s0 j = false) := by
    unfold runThere
    rw [decide_eq_true hj]
    simp
  have e : SctSecret.step s0 (.sum i j) = (s0, tells [num (sumOf s0.shares i.toNat j.toNat)]) := congrArg (Prod.mk s0) ((if_neg no1).trans (if_neg no2))
  rw [← en, ← jn]
  walk_at "rd"
  exact ⟨C, dx, _, hL.ins, T.cl, T.a_shares, _, bF_shares _ _ _, _, rfl, s0.shares, SqL.of hL.sh, ij, by omega, by omega, by decide, fun p hp => q.tell hB e (Same.refl _) hp rfl⟩
def spLeak (C : Addr) : Sp := fun vs H Q _ => ∃ (b g : Addr) (s : State), vs = [.ref b] ∧ BookAt C H g b s ∧ Good s ∧ Ans C H g b s .leak Q
local macro_rules | `(tactic| walk_at "rd") => `(tactic| simp only [L2.start, wipe, List.replicate_succ, List.replicate_zero, Nat.reduceSub, Nat.reduceAdd, Nat.zero_add, List.map_cons, List.map_nil, List.length_cons, List.length_nil, tSeq, tRet, tAsg, gName, gTup, gCons, gNil, tVar, tC, tOp, tUn, rI0, rI, rU, rEq, rNe, tChain, tChain3, tCons, tNil, tOrV, tAndV, tIfS, tNext, tTest, tB, tNot, tAnd, tOr, tAug, ipI, tCall, tCB, tDrop, tBM, tBM0, tFld, tMeth, rAppend, rExtend, rCat, tTup, tLst, rIxL, rIxT, scal, V.bl.injEq, V.int.injEq, V.ref.injEq, List.cons.injEq, and_true, List.getElem?_cons_succ, List.getElem?_cons_zero, List.cons_append, List.nil_append, List.append_nil, Option.some.injEq, exists_eq_left', exists_and_left, and_assoc, Int.natCast_inj, Int.zero_add, true_and, List.set_cons_succ, List.set_cons_zero, spNearest, spParts])
theorem ok_answer_leak (T : Txt K mg C aS aW) : FnG P w K mg base 8 "answer_leak" p_answer_leak (spLeak C) := by
  obtain ⟨_, _, m_Book_parts, b_Book_parts, o_Book_parts⟩ := (ok_Book_parts (P := P) (w := w) (base := base) T).ex
  obtain ⟨_, _, g_nearest, k_nearest, b_nearest, o_nearest⟩ := (ok_nearest (P := P) (w := w) (base := base) T).ex
  refine FnG.of T.d_answer_leak sc_answer_leak (fun _ _ _ _ _ _ us hl => match us, hl with | [_], _ => rfl) (by rintro vs H Q E ⟨b, g, s0, rfl, hB, hG, q⟩; rfl) (fun f cdv A outer s H vs Q E hr h => ?_)
  obtain ⟨b, g, s0, rfl, hB, hG, q⟩ := h
  refine ⟨_, (pss_cons (ps_if (pt_cmpR op_eq (pe_callB call_len_seq rfl T.b_len PySem.boot_len (pa_cons (pe_fld (pv 0) rfl) pa_nil)) pe_int (nomark _)) (pss_one (ps_ret (pe_lst (pa_cons (pe_gint T.c_DONE rfl) pa_nil)))) pss_nil)
      (pss_one (ps_ret (pe_op op_cat (pe_lst (pa_cons (pe_gint T.c_DONE rfl) pa_nil)) (pe_call o_nearest (hr.mono (by decide)) rfl g_nearest k_nearest b_nearest .nil pass0 (pa_cons (pe_meth0 (pv 0) T.cl m_Book_parts o_Book_parts (hr.mono (by decide)) b_Book_parts .nil pass0) (pa_cons (pe_fld (pv 0) rfl) (pa_cons (pe_fld (pv 0) rfl) pa_nil)))))))), ?_⟩
  obtain ⟨dx, a1, a2, a3, hL⟩ := id hB
  have hlen := hG.len
  have hnf := hG.nf
  have hnp := hG.np
  refine sIf (decide (s0.promises.length = 0)) (fun Q q => ?_) (fun h => ?_) (fun h => ?_)
  · obtain ⟨xs, x1, x2, _⟩ := hL.pr.list
    rw [List.length_map] at x2
    walk_at "rd"
    refine ⟨C, dx, _, hL.ins, T.cl, T.a_promises, _, bF_promises _ _ _, _, rfl, xs, .inl (SqL.of x1), ?_⟩
    rw [x2]
    exact cast (congrArg (fun z => Q z H) (by rw [decide_eq_decide]; omega)) q
  · rw [decide_eq_true_eq] at h
    have h0 : s0.promises = [] := List.length_eq_zero_iff.mp h
    have e : SctSecret.step s0 .leak = (s0, tells []) := by
      show (s0, _) = _
      rw [h0]
    walk_at "rd"
    exact ⟨by decide, fun p hp => q.tell hB e (Same.refl _) hp rfl⟩
  rw [decide_eq_false_iff_not] at h
  cases hp : s0.promises with
  | nil => rw [hp] at h; exact absurd rfl h
  | cons p ps =>
    have hP := hG.proms
    rw [hp] at hP
    have hn : 1 ≤ s0.shares.length := by
      have := (hP p (List.mem_cons_self ..)).2
      omega
    have esl : ∀ x, slack s0 x = spareM s0.shares.length s0.facts x := fun x => by
      unfold slack spareM
      rw [wideM_eq hn]
    have e : SctSecret.step s0 .leak = (s0, let x := ps.foldl (fun a b => if spareM s0.shares.length s0.facts b < spareM s0.shares.length s0.facts a then b else a) p; tells [num x.to_, num x.first, num x.last, spareM s0.shares.length s0.facts x]) := by
      show (s0, _) = _
      rw [hp]
      simp only [esl]
    have hpr := hL.pr
    rw [hp] at hpr
    have hps : ps.length + 1 ≤ 12 := by
      rw [hp] at hnp
      exact hnp
    refine ⟨by show 1 ≤ sizeLine; decide, fun p0 n0 => ?_⟩
    have s1 : Same H (upd H p0 (.lst [.int 0])) := same_new n0
    have hL1 := hL.same s1
    refine ⟨_, rfl, b, dx, _, rfl, hL1.ins, bF_parts _ _ _, b, g, s0, rfl, hB.same s1, _, rfl, b, C, dx, _, _, rfl, hL1.ins, T.cl, T.a_promises, bF_promises _ _ _, _, rfl, b, C, dx, _, _, rfl, hL1.ins, T.cl, T.a_facts, bF_facts _ _ _, a2, a3, s0.shares.length, p, ps, s0.facts, rfl, hpr.same s1, hL1.fa, hG.facts.one, by omega, by omega, hP, by omega, fun D H2 x ex s2 _ h2 => ?_⟩
    refine ⟨p0, D, _, _, rfl, rfl, s2 _ _ upd_same, h2, by show 1 + 4 ≤ sizeLine; decide, fun p hp => q.tell hB e (s1.trans s2) hp ?_⟩
    rw [ex]
    rfl
def prF (p : Promise) : List Int := [num p.to_, num p.first, num p.last, num p.wide]
def faF (x : Fact) : List Int := [num x.to_, num x.first, num x.last, num x.low, num x.high]
/-- the heap without D -/
def dropD (D : Addr) (H : Hp) : Hp := fun a => if a = D then none else H a
theorem dropD_none {D : Addr} {H : Hp} : dropD D H D = none := if_pos rfl
theorem same_dropD {D : Addr} {H : Hp} : Same (dropD D H) H := fun a o h => by
  unfold dropD at h
  by_cases n : a = D
  · rw [if_pos n] at h
    cases h
  · rw [if_neg n] at h
    exact h
theorem Rows.dropD {D a : Addr} {H : Hp} {rows : List (List V)} {acc : List V} (h : Rows H .tup a rows) (n : a ≠ D) (hD : H D = some (.lst acc)) : Rows (dropD D H) .tup a rows := by
  obtain ⟨xs, h1, h2, h3⟩ := h
  refine ⟨xs, (if_neg n).trans h1, h2, fun i f e => ?_⟩
  obtain ⟨p, e1, e2, e3⟩ := h3 i f e
  refine ⟨p, e1, e2, (if_neg fun z => ?_).trans e3⟩
  rw [z, hD] at e3
  cases e3
theorem flat_take {α : Type} {l : List α} {i : Nat} {x : α} (f : α → List Int) (h : l[i]? = some x) : (l.take (i + 1)).flatMap f = (l.take i).flatMap f ++ f x := by
  rw [List.take_add_one, h, List.flatMap_append]
  show _ ++ (f x ++ []) = _
  rw [List.append_nil]
theorem flat_len {α : Type} {f : α → List Int} {c : Nat} (h : ∀ x, (f x).length = c) : ∀ l : List α, (l.flatMap f).length = c * l.length
  | [] => rfl
  | x :: l => by
    rw [List.flatMap_cons, List.length_append, h, flat_len h l, List.length_cons, Nat.mul_add]
    omega
def spPromises (C : Addr) : Sp := fun vs H Q _ => ∃ (b g : Addr) (s : State), vs = [.ref b] ∧ BookAt C H g b s ∧ Good s ∧ Ans C H g b s .promises Q
local macro_rules | `(tactic| walk_at "rd") => `(tactic| simp only [L2.start, wipe, List.replicate_succ, List.replicate_zero, Nat.reduceSub, Nat.reduceAdd, Nat.zero_add, List.map_cons, List.map_nil, List.length_cons, List.length_nil, tSeq, tRet, tAsg, gName, gTup, gCons, gNil, tVar, tC, tOp, tUn, rI0, rI, rU, rEq, rNe, tChain, tChain3, tCons, tNil, tOrV, tAndV, tIfS, tNext, tTest, tB, tNot, tAnd, tOr, tAug, ipI, tCall, tCB, tDrop, tBM, tBM0, tFld, tMeth, rAppend, rExtend, rCat, tTup, tLst, rIxL, rIxT, scal, V.bl.injEq, V.int.injEq, V.ref.injEq, List.cons.injEq, and_true, List.getElem?_cons_succ, List.getElem?_cons_zero, List.cons_append, List.nil_append, List.append_nil, Option.some.injEq, exists_eq_left', exists_and_left, and_assoc, Int.natCast_inj, Int.zero_add, true_and, List.set_cons_succ, List.set_cons_zero])
theorem ok_answer_promises (T : Txt K mg C aS aW) : FnG P w K mg base 1 "answer_promises" p_answer_promises (spPromises C) := by
  refine FnG.of T.d_answer_promises sc_answer_promises (fun _ _ _ _ _ _ us hl => match us, hl with | [_], _ => rfl) (by rintro vs H Q E ⟨b, g, s0, rfl, hB, hG, q⟩; rfl) (fun f cdv A outer s H vs Q E hr h => ?_)
  obtain ⟨b, g, s0, rfl, hB, hG, q⟩ := h
  refine ⟨_, (pss_cons (ps_set (i := 1) sc_answer_promises.nd rfl (Or.inl rfl) (pe_lst (pa_cons (pe_gint T.c_DONE rfl) pa_nil)))
      (pss_cons (ps_for PassesOwn.never rfl (pi_list (pe_fld (pv 0) rfl)) (pg_K (K := K) (n := 4) (pg_tup rfl (pgs_cons (pg_name (i := 2) sc_answer_promises.nd rfl (Or.inl rfl)) (pgs_cons (pg_name (i := 3) sc_answer_promises.nd rfl (Or.inl rfl)) (pgs_cons (pg_name (i := 4) sc_answer_promises.nd rfl (Or.inl rfl)) (pgs_cons (pg_name (i := 5) sc_answer_promises.nd rfl (Or.inl rfl)) pgs_nil))))) rfl) (pss_one (ps_expr (pe_bm PySem.F.plainAttrs_list PySem.F.slot_list_extend PySem.F.type_list_extend mt_extend (pv 1) (pa_cons (pe_lst (pa_cons (pv 2) (pa_cons (pv 3) (pa_cons (pv 4) (pa_cons (pv 5) pa_nil))))) pa_nil)))))
      (pss_one (ps_ret (pv 1))))), ?_⟩
  obtain ⟨dx, a1, a2, a3, hL⟩ := id hB
  have hnp := hG.np
  have e : SctSecret.step s0 .promises = (s0, tells (s0.promises.flatMap fun (p : Promise) => [num p.to_, num p.first, num p.last, num p.wide])) := rfl
  refine sSet ⟨by show 1 ≤ sizeLine; decide, fun D nD => ?_⟩
  have s1 : Same H (upd H D (.lst [.int 0])) := same_new nD
  have hL1 := hL.same s1
  refine ⟨_, rfl, b, C, dx, _, _, rfl, hL1.ins, T.cl, T.a_promises, bF_promises _ _ _, forR (H0 := H) hL.pr (fun i σ H' => ∃ v2 v3 v4 v5, σ = [some (.ref b), some (.ref D), v2, v3, v4, v5] ∧ Same H H' ∧ H' D = some (.lst (rV (0 :: (s0.promises.take i).flatMap prF)))) ⟨_, _, _, _, rfl, s1, upd_same⟩ (by rintro i σ H' ⟨_, _, _, _, _, h, _⟩; exact h) ?_ ?_⟩
  · rintro i f p σ H' hf hp ⟨v2, v3, v4, v5, rfl, s2, h2⟩
    rw [List.getElem?_map] at hf
    cases ef : s0.promises[i]? with
    | none => rw [ef] at hf; cases hf
    | some x =>
      rw [ef] at hf
      obtain rfl := Option.some.inj hf
      have hi : i < s0.promises.length := (List.getElem?_eq_some_iff.mp ef).1
      refine ⟨_, _, rfl, SqT.of hp, rfl, _, _, rfl, _, _, rfl, _, _, rfl, _, _, rfl, rfl, ?_⟩
      walk_at "rd"
      refine ⟨.inl ⟨rfl, _, SqL.of h2⟩, by decide, fun q0 nq => ?_⟩
      have nD2 : D ≠ q0 := ne_of_none h2 nq
      refine ⟨_, by rw [upd_ne nD2]; exact h2, _, upd_same, ?_, same_mut (s2.trans (same_new nq)) nD, ?_⟩
      · rw [rV_len, List.length_cons, flat_len (c := 4) (fun _ => rfl), List.length_take]
        exact le_line (show 4 * min i s0.promises.length + 1 + 4 ≤ 10000 by omega)
      · rw [upd_same, flat_take prF ef, ← List.cons_append]
        unfold rV
        rw [List.map_append]
        rfl
  · rintro σ H' ⟨v2, v3, v4, v5, rfl, s2, h2⟩
    rw [List.length_map, List.take_length] at h2
    refine ⟨_, rfl, q H' D (Same.but s2) ?_ nD ?_⟩
    · rw [e]
      exact hB.same s2
    · rw [h2]
      unfold ans
      rw [e]
      rfl
def spTold (C : Addr) : Sp := fun vs H Q _ => ∃ (b g : Addr) (k : Int) (s : State), vs = [.ref b, .int k] ∧ BookAt C H g b s ∧ Good s ∧ Ans C H g b s (.told k) Q
local macro_rules | `(tactic| walk_at "rd") => `(tactic| simp only [L2.start, wipe, List.replicate_succ, List.replicate_zero, Nat.reduceSub, Nat.reduceAdd, Nat.zero_add, List.map_cons, List.map_nil, List.length_cons, List.length_nil, tSeq, tRet, tAsg, gName, gTup, gCons, gNil, tVar, tC, tOp, tUn, rI0, rI, rU, rEq, rNe, tChain, tChain3, tCons, tNil, tOrV, tAndV, tIfS, tNext, tTest, tB, tNot, tAnd, tOr, tAug, ipI, tCall, tCB, tDrop, tBM, tBM0, tFld, tMeth, rAppend, rExtend, rCat, tTup, tLst, rIxL, rIxT, scal, V.bl.injEq, V.int.injEq, V.ref.injEq, List.cons.injEq, and_true, List.getElem?_cons_succ, List.getElem?_cons_zero, List.cons_append, List.nil_append, List.append_nil, Option.some.injEq, exists_eq_left', exists_and_left, and_assoc, Int.natCast_inj, Int.zero_add, true_and, List.set_cons_succ, List.set_cons_zero, spIsHearers, spKnown])
theorem ok_answer_told (T : Txt K mg C aS aW) : FnG P w K mg base 3 "answer_told" p_answer_told (spTold C) := by
  obtain ⟨_, _, g_is_hearers, k_is_hearers, b_is_hearers, o_is_hearers⟩ := (ok_is_hearers (P := P) (w := w) (base := base) T).ex
  obtain ⟨_, _, g_known, k_known, b_known, o_known⟩ := (ok_known (P := P) (w := w) (base := base) T).ex
  refine FnG.of T.d_answer_told sc_answer_told (fun _ _ _ _ _ _ us hl => match us, hl with | [_, _], _ => rfl) (by rintro vs H Q E ⟨b, g, k, s0, rfl, hB, hG, q⟩; rfl) (fun f cdv A outer s H vs Q E hr h => ?_)
  obtain ⟨b, g, k, s0, rfl, hB, hG, q⟩ := h
  refine ⟨_, (pss_cons (ps_if (pt_not (pt_val (pe_call o_is_hearers (hr.mono (by decide)) rfl g_is_hearers k_is_hearers b_is_hearers .nil pass0 (pa_cons (pv 1) pa_nil)))) (pss_one (ps_ret (pe_lst (pa_cons (pe_gint T.c_OUT_OF_RANGE rfl) pa_nil)))) pss_nil)
      (pss_cons (ps_set (i := 2) sc_answer_told.nd rfl (Or.inl rfl) (pe_lst (pa_cons (pe_gint T.c_DONE rfl) pa_nil)))
      (pss_cons (ps_for PassesOwn.never rfl (pi_list (pe_call o_known (hr.mono (by decide)) rfl g_known k_known b_known .nil pass0 (pa_cons (pe_fld (pv 0) rfl) (pa_cons (pv 1) pa_nil)))) (pg_K (K := K) (n := 5) (pg_tup rfl (pgs_cons (pg_name (i := 3) sc_answer_told.nd rfl (Or.inl rfl)) (pgs_cons (pg_name (i := 4) sc_answer_told.nd rfl (Or.inl rfl)) (pgs_cons (pg_name (i := 5) sc_answer_told.nd rfl (Or.inl rfl)) (pgs_cons (pg_name (i := 6) sc_answer_told.nd rfl (Or.inl rfl)) (pgs_cons (pg_name (i := 7) sc_answer_told.nd rfl (Or.inl rfl)) pgs_nil)))))) rfl) (pss_one (ps_expr (pe_bm PySem.F.plainAttrs_list PySem.F.slot_list_extend PySem.F.type_list_extend mt_extend (pv 2) (pa_cons (pe_lst (pa_cons (pv 3) (pa_cons (pv 4) (pa_cons (pv 5) (pa_cons (pv 6) (pa_cons (pv 7) pa_nil)))))) pa_nil)))))
      (pss_one (ps_ret (pv 2)))))), ?_⟩
  obtain ⟨dx, a1, a2, a3, hL⟩ := id hB
  have hnf := hG.nf
  refine sIf (!isSet k) (fun Q q => ?_) (fun h => ?_) (fun h => ?_)
  · walk_at "rd"
    exact q
  · have e : SctSecret.step s0 (.told k) = (s0, SctBase.no 1) := congrArg (Prod.mk s0) (if_pos (by rw [Bool.not_eq_true'] at h; exact h))
    walk_at "rd"
    exact q.no hB e (Same.refl _) rfl
  rw [Bool.not_eq_false'] at h
  obtain ⟨kn, _, _⟩ := nat_of_set h
  have no0 : ¬ (isSet k = false) := by rw [h]; simp
  have e : SctSecret.step s0 (.told k) = (s0, tells ((knownTo k.toNat s0.facts).flatMap fun (x : Fact) => [num x.to_, num x.first, num x.last, num x.low, num x.high])) := congrArg (Prod.mk s0) (if_neg no0)
  refine sSet ⟨by show 1 ≤ sizeLine; decide, fun D nD => ?_⟩
  have s1 : Same H (upd H D (.lst [.int 0])) := same_new nD
  have hD1 : (upd H D (.lst [.int 0])) D = some (.lst [.int 0]) := upd_same
  generalize upd H D (.lst [.int 0]) = H1 at s1 hD1
  have hL1 := hL.same s1
  refine ⟨_, rfl, b, C, dx, _, _, rfl, hL1.ins, T.cl, T.a_facts, bF_facts _ _ _, _, rfl, a3, s0.facts, k.toNat, by rw [kn]; rfl, hL1.fa, by omega, fun D2 H2 s2 nD2 r2 => ?_⟩
  have hD2 := s2 _ _ hD1
  have nDD : D2 ≠ D := fun z => by
    rw [z, hD1] at nD2
    cases nD2
  have hkl : (knownTo k.toNat s0.facts).length ≤ 40 := Nat.le_trans (List.length_filter_le _ _) hnf
  generalize knownTo k.toNat s0.facts = l at e r2 hkl
  have s0' : Same H (dropD D H2) := fun a o h => by
    have n : a ≠ D := ne_of_none h nD
    unfold dropD
    rw [if_neg n]
    exact s2 _ _ (s1 _ _ h)
  refine forR (H0 := dropD D H2) (r2.dropD nDD hD2) (fun i σ H' => ∃ v3 v4 v5 v6 v7, σ = [some (.ref b), some (.int k), some (.ref D), v3, v4, v5, v6, v7] ∧ Same (dropD D H2) H' ∧ H' D = some (.lst (rV (0 :: (l.take i).flatMap faF)))) ⟨_, _, _, _, _, rfl, same_dropD, hD2⟩ (by rintro i σ H' ⟨_, _, _, _, _, _, h, _⟩; exact h) ?_ ?_
  · rintro i f p σ H' hf hp ⟨v3, v4, v5, v6, v7, rfl, s3, h3⟩
    rw [List.getElem?_map] at hf
    cases ef : l[i]? with
    | none => rw [ef] at hf; cases hf
    | some x =>
      rw [ef] at hf
      obtain rfl := Option.some.inj hf
      have hi : i < l.length := (List.getElem?_eq_some_iff.mp ef).1
      refine ⟨_, _, rfl, SqT.of hp, rfl, _, _, rfl, _, _, rfl, _, _, rfl, _, _, rfl, _, _, rfl, rfl, ?_⟩
      walk_at "rd"
      refine ⟨.inl ⟨rfl, _, SqL.of h3⟩, by decide, fun q0 nq => ?_⟩
      have nD3 : D ≠ q0 := ne_of_none h3 nq
      refine ⟨_, by rw [upd_ne nD3]; exact h3, _, upd_same, ?_, same_mut (s3.trans (same_new nq)) dropD_none, ?_⟩
      · rw [rV_len, List.length_cons, flat_len (c := 5) (fun _ => rfl), List.length_take]
        exact le_line (show 5 * min i l.length + 1 + 5 ≤ 10000 by omega)
      · rw [upd_same, flat_take faF ef, ← List.cons_append]
        unfold rV
        rw [List.map_append]
        rfl
  · rintro σ H' ⟨v3, v4, v5, v6, v7, rfl, s3, h3⟩
    rw [List.length_map, List.take_length] at h3
    refine ⟨_, rfl, q H' D (Same.but (s0'.trans s3)) ?_ nD ?_⟩
    · rw [e]
      exact hB.same (s0'.trans s3)
    · rw [h3]
      unfold ans
      rw [e]
      rfl
theorem lIfN {c : TT} {t : TS} {D : Ends} {σ : L2.St} {H : Hp} (v : Bool) (hc : ∀ Q : Bool → Hp → Prop, (∀ H', Same H H' → Q v H') → c σ H Q) (ht : ∀ H', Same H H' → v = true → t D σ H') (hu : ∀ H', Same H H' → v = false → D.nx σ H') : tIfS c t tNext D σ H :=
  hc _ fun H' s1 => by
    cases v with
    | true => exact ht H' s1 rfl
    | false => exact hu H' s1 rfl
theorem fok_snoc {s : State} (hG : Good s) {x : Fact} (h1 : x.first ≤ x.last) (h2 : x.last < s.shares.length) : FOk s.shares.length (s.facts ++ [x]) := by
  intro y hy
  rcases List.mem_append.mp hy with hy | hy
  · exact hG.facts y hy
  · rw [List.mem_singleton] at hy
    rw [hy]
    exact ⟨h1, h2⟩
theorem mem_steps {q : Nat} (h : q ∈ SctSecret.STEPS) : 1 ≤ q ∧ q ≤ 1000000 := by
  revert h
  revert q
  decide
theorem about_le {q n : Nat} (h : q ∈ SctSecret.STEPS) (hn : n ≤ 1000000) : (n + q - 1) / q * q ≤ 1000000 := by
  unfold SctSecret.STEPS at h
  simp only [List.mem_cons, List.mem_nil_iff, or_false] at h
  rcases h with h | h | h | h | h | h | h | h | h | h | h | h | h | h | h | h | h | h | h <;> subst h <;> omega
theorem find_first {α : Type} {p : α → Bool} {l : List α} {i : Nat} {x : α} (h : l[i]? = some x) (hx : p x = true) (h0 : ∀ y ∈ l.take i, p y = false) : l.find? p = some x := by
  rw [List.find?_eq_some_iff_append]
  refine ⟨hx, l.take i, l.drop (i + 1), ?_, fun a ha => by rw [h0 a ha]; rfl⟩
  obtain ⟨hi, e⟩ := List.getElem?_eq_some_iff.mp h
  rw [← e, List.getElem_cons_drop, List.take_append_drop]
def spBelow : Sp := fun vs H Q _ => ∃ (t q : Nat), vs = [.int t, .int q] ∧ 1 ≤ q ∧ q ≤ 1000000 ∧ t ≤ 1000000 ∧ Q (.int ((t / q * q : Nat) : Int)) H
local macro_rules | `(tactic| walk_at "rd") => `(tactic| simp only [L2.start, wipe, List.replicate_succ, List.replicate_zero, Nat.reduceSub, Nat.reduceAdd, Nat.zero_add, List.map_cons, List.map_nil, List.length_cons, List.length_nil, tSeq, tRet, tAsg, gName, gTup, gCons, gNil, tVar, tC, tOp, tUn, rI0, rI, rU, rEq, rNe, tChain, tChain3, tCons, tNil, tOrV, tAndV, tIfS, tNext, tTest, tB, tNot, tAnd, tOr, tAug, ipI, tCall, tCB, tDrop, tBM, tBM0, tFld, tMeth, rAppend, rExtend, rCat, tTup, tLst, rIxL, rIxT, scal, V.bl.injEq, V.int.injEq, V.ref.injEq, List.cons.injEq, and_true, List.getElem?_cons_succ, List.getElem?_cons_zero, List.cons_append, List.nil_append, List.append_nil, Option.some.injEq, exists_eq_left', exists_and_left, and_assoc, Int.natCast_inj, Int.zero_add, true_and, List.set_cons_succ, List.set_cons_zero])
theorem ok_multiple_below (T : Txt K mg C aS aW) : FnG P w K mg base 1 "multiple_below" p_multiple_below spBelow := by
  refine FnG.of T.d_multiple_below sc_multiple_below (fun _ _ _ _ _ _ us hl => match us, hl with | [_, _], _ => rfl) (by rintro vs H Q E ⟨t, q0, rfl, h1, h2, h3, q⟩; rfl) (fun f cdv A outer s H vs Q E hr h => ?_)
  obtain ⟨t, q0, rfl, h1, h2, h3, q⟩ := h
  refine ⟨_, (pss_one (ps_ret (pe_op op_mul (pe_op op_fdiv (pv 0) (pv 1)) (pv 1)))), ?_⟩
  walk_at "rd"
  refine ⟨⟨by omega, by omega⟩, .inr ⟨by omega, by omega⟩, ?_⟩
  rw [Int.natCast_mul, Int.natCast_ediv] at q
  exact q
def spAbove : Sp := fun vs H Q _ => ∃ (t q : Nat), vs = [.int t, .int q] ∧ 1 ≤ q ∧ q ≤ 1000000 ∧ t ≤ 1000000 ∧ Q (.int (((t + q - 1) / q * q : Nat) : Int)) H
local macro_rules | `(tactic| walk_at "rd") => `(tactic| simp only [L2.start, wipe, List.replicate_succ, List.replicate_zero, Nat.reduceSub, Nat.reduceAdd, Nat.zero_add, List.map_cons, List.map_nil, List.length_cons, List.length_nil, tSeq, tRet, tAsg, gName, gTup, gCons, gNil, tVar, tC, tOp, tUn, rI0, rI, rU, rEq, rNe, tChain, tChain3, tCons, tNil, tOrV, tAndV, tIfS, tNext, tTest, tB, tNot, tAnd, tOr, tAug, ipI, tCall, tCB, tDrop, tBM, tBM0, tFld, tMeth, rAppend, rExtend, rCat, tTup, tLst, rIxL, rIxT, scal, V.bl.injEq, V.int.injEq, V.ref.injEq, List.cons.injEq, and_true, List.getElem?_cons_succ, List.getElem?_cons_zero, List.cons_append, List.nil_append, List.append_nil, Option.some.injEq, exists_eq_left', exists_and_left, and_assoc, Int.natCast_inj, Int.zero_add, true_and, List.set_cons_succ, List.set_cons_zero])
theorem ok_multiple_above (T : Txt K mg C aS aW) : FnG P w K mg base 1 "multiple_above" p_multiple_above spAbove := by
  refine FnG.of T.d_multiple_above sc_multiple_above (fun _ _ _ _ _ _ us hl => match us, hl with | [_, _], _ => rfl) (by rintro vs H Q E ⟨t, q0, rfl, h1, h2, h3, q⟩; rfl) (fun f cdv A outer s H vs Q E hr h => ?_)
  obtain ⟨t, q0, rfl, h1, h2, h3, q⟩ := h
  refine ⟨_, (pss_one (ps_ret (pe_op op_mul (pe_op op_fdiv (pe_op op_sub (pe_op op_add (pv 0) (pv 1)) pe_int) (pv 1)) (pv 1)))), ?_⟩
  walk_at "rd"
  rw [show ((t : Int) + (q0 : Int) - 1) = ((t + q0 - 1 : Nat) : Int) by omega]
  refine ⟨⟨by omega, by omega⟩, .inr ⟨by omega, by omega⟩, ?_⟩
  rw [Int.natCast_mul, Int.natCast_ediv] at q
  exact q
def spFinest (C : Addr) : Sp := fun vs H Q _ => ∃ (b g : Addr) (m i j : Int) (s : State), vs = [.ref b, .int m, .int i, .int j] ∧ BookAt C H g b s ∧ Good s ∧ Ans C H g b s (.finest m i j) Q
local macro_rules | `(tactic| walk_at "rd") => `(tactic| simp only [L2.start, wipe, List.replicate_succ, List.replicate_zero, Nat.reduceSub, Nat.reduceAdd, Nat.zero_add, List.map_cons, List.map_nil, List.length_cons, List.length_nil, tSeq, tRet, tAsg, gName, gTup, gCons, gNil, tVar, tC, tOp, tUn, rI0, rI, rU, rEq, rNe, tChain, tChain3, tCons, tNil, tOrV, tAndV, tIfS, tNext, tTest, tB, tNot, tAnd, tOr, tAug, ipI, tCall, tCB, tDrop, tBM, tBM0, tFld, tMeth, rAppend, rExtend, rCat, tTup, tLst, rIxL, rIxT, scal, V.bl.injEq, V.int.injEq, V.ref.injEq, List.cons.injEq, and_true, List.getElem?_cons_succ, List.getElem?_cons_zero, List.cons_append, List.nil_append, List.append_nil, Option.some.injEq, exists_eq_left', exists_and_left, and_assoc, Int.natCast_inj, Int.zero_add, true_and, List.set_cons_succ, List.set_cons_zero, spAbove, spBelow, spIsHearers, spIsRun, spKeeps, spParts, spRunSum])
theorem ok_answer_finest (T : Txt K mg C aS aW) : FnG P w K mg base 10 "answer_finest" p_answer_finest (spFinest C) := by
  obtain ⟨_, _, m_Book_keeps, b_Book_keeps, o_Book_keeps⟩ := (ok_Book_keeps (P := P) (w := w) (base := base) T).ex
  obtain ⟨_, _, m_Book_parts, b_Book_parts, o_Book_parts⟩ := (ok_Book_parts (P := P) (w := w) (base := base) T).ex
  obtain ⟨_, _, g_is_hearers, k_is_hearers, b_is_hearers, o_is_hearers⟩ := (ok_is_hearers (P := P) (w := w) (base := base) T).ex
  obtain ⟨_, _, g_is_run, k_is_run, b_is_run, o_is_run⟩ := (ok_is_run (P := P) (w := w) (base := base) T).ex
  obtain ⟨_, _, g_multiple_above, k_multiple_above, b_multiple_above, o_multiple_above⟩ := (ok_multiple_above (P := P) (w := w) (base := base) T).ex
  obtain ⟨_, _, g_multiple_below, k_multiple_below, b_multiple_below, o_multiple_below⟩ := (ok_multiple_below (P := P) (w := w) (base := base) T).ex
  obtain ⟨_, _, g_run_sum, k_run_sum, b_run_sum, o_run_sum⟩ := (ok_run_sum (P := P) (w := w) (base := base) T).ex
  have g_STEPS := T.g_STEPS
  refine FnG.of T.d_answer_finest sc_answer_finest (fun _ _ _ _ _ _ us hl => match us, hl with | [_, _, _, _], _ => rfl) (by rintro vs H Q E ⟨b, g, m, i, j, s0, rfl, hB, hG, q⟩; rfl) (fun f cdv A outer s H vs Q E hr h => ?_)
  obtain ⟨b, g, m, i, j, s0, rfl, hB, hG, q⟩ := h
  refine ⟨_, (pss_cons (ps_if (pt_not (PW.pt (pw_and (pt_val (pe_call o_is_hearers (hr.mono (by decide)) rfl g_is_hearers k_is_hearers b_is_hearers .nil pass0 (pa_cons (pv 1) pa_nil))) (pw_and1 (pt_val (pe_call o_is_run (hr.mono (by decide)) rfl g_is_run k_is_run b_is_run .nil pass0 (pa_cons (pv 2) (pa_cons (pv 3) pa_nil)))))))) (pss_one (ps_ret (pe_lst (pa_cons (pe_gint T.c_OUT_OF_RANGE rfl) pa_nil)))) pss_nil)
      (pss_cons (ps_if (pt_cmpR op_ge (pv 3) (pe_meth0 (pv 0) T.cl m_Book_parts o_Book_parts (hr.mono (by decide)) b_Book_parts .nil pass0) (nomark _)) (pss_one (ps_ret (pe_lst (pa_cons (pe_gint T.c_NO_SUCH_RUN rfl) pa_nil)))) pss_nil)
      (pss_cons (ps_set (i := 4) sc_answer_finest.nd rfl (Or.inl rfl) (pe_call o_run_sum (hr.mono (by decide)) rfl g_run_sum k_run_sum b_run_sum .nil pass0 (pa_cons (pe_fld (pv 0) rfl) (pa_cons (pv 2) (pa_cons (pv 3) pa_nil)))))
      (pss_cons (ps_for PassesOwn.never rfl (pi_tup (pe_gref g_STEPS rfl)) (pg_name (i := 5) sc_answer_finest.nd rfl (Or.inl rfl)) (pss_cons (ps_set (i := 6) sc_answer_finest.nd rfl (Or.inl rfl) (pe_call o_multiple_below (hr.mono (by decide)) rfl g_multiple_below k_multiple_below b_multiple_below .nil pass0 (pa_cons (pv 4) (pa_cons (pv 5) pa_nil))))
      (pss_cons (ps_set (i := 7) sc_answer_finest.nd rfl (Or.inl rfl) (pe_call o_multiple_above (hr.mono (by decide)) rfl g_multiple_above k_multiple_above b_multiple_above .nil pass0 (pa_cons (pv 4) (pa_cons (pv 5) pa_nil))))
      (pss_one (ps_if (pt_val (pe_meth (pv 0) T.cl m_Book_keeps o_Book_keeps (hr.mono (by decide)) b_Book_keeps .nil pass0 (pa_cons (pe_op op_cat (pe_fld (pv 0) rfl) (pe_lst (pa_cons (pe_tup (pa_cons (pv 1) (pa_cons (pv 2) (pa_cons (pv 3) (pa_cons (pv 6) (pa_cons (pv 7) pa_nil)))))) pa_nil))) pa_nil))) (pss_one (ps_ret (pe_lst (pa_cons (pe_gint T.c_DONE rfl) (pa_cons (pv 5) (pa_cons (pv 6) (pa_cons (pv 7) pa_nil))))))) pss_nil)))))
      (pss_one (ps_ret (pe_lst (pa_cons (pe_gint T.c_NOT_KEPT rfl) pa_nil)))))))), ?_⟩
  obtain ⟨dx, a1, a2, a3, hL⟩ := id hB
  have hlen := hG.len
  have hnf := hG.nf
  refine sIf (!(isSet m && isRun i j)) (fun Q q => ?_) (fun h => ?_) (fun h => ?_)
  · walk_at "rd"
    exact ite2b (Q := fun z => Q z H) q
  · have e : SctSecret.step s0 (.finest m i j) = (s0, SctBase.no 1) := congrArg (Prod.mk s0) (if_pos (not2 h))
    walk_at "rd"
    exact q.no hB e (Same.refl _) rfl
  obtain ⟨g1, g2⟩ := and2 h
  obtain ⟨mn, _, _⟩ := nat_of_set g1
  obtain ⟨en, jn, ij⟩ := nat_of_run g2
  have no1 : ¬ (isSet m = false ∨ isRun i j = false) := by rw [g1, g2]; simp
  refine sIf (decide ((s0.shares.length : Int) ≤ j)) (fun Q q => ?_) (fun h => ?_) (fun h => ?_)
  · walk_at "rd"
    exact ⟨dx, _, hL.ins, bF_parts _ _ _, g, s0, hB, q⟩
  · have e : SctSecret.step s0 (.finest m i j) = (s0, SctBase.no 3) := congrArg (Prod.mk s0) ((if_neg no1).trans (if_pos (by
      unfold runThere
      rw [decide_eq_true_eq] at h
      exact decide_eq_false (by omega))))
    walk_at "rd"
    exact q.no hB e (Same.refl _) rfl
  have hj : j < (s0.shares.length : Int) := by
    rw [decide_eq_false_iff_not] at h
    omega
  have no2 : ¬ (runThere s0 j = false) := by
    unfold runThere
    rw [decide_eq_true hj]
    simp
  have ht : sumOf s0.shares i.toNat j.toNat ≤ 1000000 := Nat.le_trans (sumOf_le _ _ _) hG.sum
  let p : Nat → Bool := fun (q : Nat) => decide ((about q (sumOf s0.shares i.toNat j.toNat)).2 ≤ WHOLE) && keeps s0 (s0.facts ++ [⟨m.toNat, i.toNat, j.toNat, (about q (sumOf s0.shares i.toNat j.toNat)).1, (about q (sumOf s0.shares i.toNat j.toNat)).2⟩])
  have e1 : ∀ q, SctSecret.STEPS.find? p = some q → SctSecret.step s0 (.finest m i j) = (s0, tells [num q, num (about q (sumOf s0.shares i.toNat j.toNat)).1, num (about q (sumOf s0.shares i.toNat j.toNat)).2]) := fun q hq => congrArg (Prod.mk s0) ((if_neg no1).trans ((if_neg no2).trans (by
    show (match SctSecret.STEPS.find? p with
      | none => no 7
      | some q => tells [num q, num (about q (sumOf s0.shares i.toNat j.toNat)).1, num (about q (sumOf s0.shares i.toNat j.toNat)).2]) = _
    rw [hq])))
  have e0 : SctSecret.STEPS.find? p = none → SctSecret.step s0 (.finest m i j) = (s0, no 7) := fun hq => congrArg (Prod.mk s0) ((if_neg no1).trans ((if_neg no2).trans (by
    show (match SctSecret.STEPS.find? p with
      | none => no 7
      | some q => tells [num q, num (about q (sumOf s0.shares i.toNat j.toNat)).1, num (about q (sumOf s0.shares i.toNat j.toNat)).2]) = _
    rw [hq])))
  refine sSet ⟨_, rfl, b, C, dx, _, _, rfl, hL.ins, T.cl, T.a_shares, bF_shares _ _ _, _, rfl, _, rfl, a1, s0.shares, i.toNat, j.toNat, by rw [en, jn]; rfl, SqL.of hL.sh, ij, by omega, by omega, ?_⟩
  have gS : ∀ H, SqT K H aS (SctSecret.STEPS.map fun (n : Nat) => V.int (n : Int)) := fun H => g_STEPS.t H
  refine ⟨aS, rfl, ⟨_, gS H⟩, for_tup (K := K) (a := aS) (xs := SctSecret.STEPS.map fun (n : Nat) => V.int (n : Int)) (fun k σ H' => ∃ v5 v6 v7, σ = [some (.ref b), some (.int m), some (.int i), some (.int j), some (.int (sumOf s0.shares i.toNat j.toNat : Nat)), v5, v6, v7] ∧ Same H H' ∧ ∀ q ∈ SctSecret.STEPS.take k, p q = false) ⟨none, none, none, rfl, Same.refl _, by intro q hq; rw [List.take_zero] at hq; cases hq⟩ (fun _ _ H' _ _ => gS H') ?_ ?_⟩
  · rintro k x σ H' hx ⟨v5, v6, v7, rfl, s1, hno⟩
    rw [List.getElem?_map] at hx
    cases ek : SctSecret.STEPS[k]? with
    | none => rw [ek] at hx; cases hx
    | some q0 =>
      rw [ek] at hx
      obtain rfl := Option.some.inj hx
      have hq := mem_steps (List.mem_of_getElem? ek)
      have hL1 := hL.same s1
      have hab := about_le (List.mem_of_getElem? ek) ht
      have hpq : p q0 = keeps s0 (s0.facts ++ [⟨m.toNat, i.toNat, j.toNat, (about q0 (sumOf s0.shares i.toNat j.toNat)).1, (about q0 (sumOf s0.shares i.toNat j.toNat)).2⟩]) := by
        show (decide ((about q0 (sumOf s0.shares i.toNat j.toNat)).2 ≤ WHOLE) && _) = _
        rw [decide_eq_true (show (about q0 (sumOf s0.shares i.toNat j.toNat)).2 ≤ WHOLE from hab), Bool.true_and]
      have fok : FOk s0.shares.length (s0.facts ++ [⟨m.toNat, i.toNat, j.toNat, (about q0 (sumOf s0.shares i.toNat j.toNat)).1, (about q0 (sumOf s0.shares i.toNat j.toNat)).2⟩]) := fok_snoc hG ij (by show j.toNat < _; omega)
      refine sSet ⟨_, rfl, _, rfl, sumOf s0.shares i.toNat j.toNat, q0, rfl, hq.1, hq.2, ht, ?_⟩
      refine sSet ⟨_, rfl, _, rfl, sumOf s0.shares i.toNat j.toNat, q0, rfl, hq.1, hq.2, ht, ?_⟩
      refine lIfN (p q0) (fun Q q => ?_) (fun H3 s3 h => ?_) (fun H3 s3 h => ?_)
      · rw [hpq] at q
        refine ⟨_, rfl, b, dx, _, rfl, hL1.ins, bF_keeps _ _ _, plus_fact (x := ⟨m.toNat, i.toNat, j.toNat, (about q0 (sumOf s0.shares i.toNat j.toNat)).1, (about q0 (sumOf s0.shares i.toNat j.toNat)).2⟩) hL1 T.cl T.a_facts rfl (by omega) (fun Q q => ⟨_, rfl, _, rfl, _, rfl, _, rfl, _, rfl, by show 5 ≤ sizeLine; decide, fun c nc => q c _ (same_new nc) ?_⟩) fun d H2 s2 r2 => ?_⟩
        · rw [upd_same]
          unfold fV
          rw [mn, en, jn]
          rfl
        · exact ⟨b, d, g, s0, _, rfl, hB.same (s1.trans s2), hG, r2, fok.one, by rw [List.length_append]; show s0.facts.length + 1 ≤ 1000; omega, fun H3 s3 => ⟨_, rfl, q H3 (s2.trans s3)⟩⟩
      · have e := e1 q0 (find_first ek h hno)
        walk_at "rd"
        exact ⟨by decide, fun p hp => q.tell hB e (s1.trans s3) hp rfl⟩
      · refine ⟨_, _, _, rfl, s1.trans s3, fun q hq => ?_⟩
        rw [List.take_add_one, ek] at hq
        rcases List.mem_append.mp hq with hq | hq
        · exact hno q hq
        · have : q = q0 := by simpa using hq
          rw [this]
          exact h
  · rintro σ H' ⟨v5, v6, v7, rfl, s1, hno⟩
    rw [List.length_map, List.take_length] at hno
    have e := e0 (List.find?_eq_none.mpr fun q hq => by rw [hno q hq]; simp)
    walk_at "rd"
    exact q.no hB e s1 rfl
end
end Tl

namespace Tl
open PySem PySem.Spec PyProof.Rows L2 SctSecret SctBase
section
variable {P : Program} {w : World} {K : PySem.W.Frag} {mg : Str → Option Value} {base : Heap} {C aS aW : Addr}
local macro_rules | `(tactic| walk_at "rd") => `(tactic| simp only [L2.start, wipe, List.replicate_succ, List.replicate_zero, Nat.reduceSub, Nat.reduceAdd, Nat.zero_add, List.map_cons, List.map_nil, List.length_cons, List.length_nil, tSeq, tRet, tAsg, gName, gTup, gCons, gNil, tVar, tC, tOp, tUn, rI0, rI, rU, rEq, rNe, tChain, tChain3, tCons, tNil, tOrV, tAndV, tIfS, tNext, tTest, tB, tNot, tAnd, tOr, tAug, ipI, tCall, tCB, tDrop, tBM, tBM0, tFld, tMeth, rAppend, rExtend, rCat, tTup, tLst, rIxL, rIxT, scal, V.bl.injEq, V.int.injEq, V.ref.injEq, List.cons.injEq, and_true, List.getElem?_cons_succ, List.getElem?_cons_zero, List.cons_append, List.nil_append, List.append_nil, Option.some.injEq, exists_eq_left', exists_and_left, and_assoc, Int.natCast_inj, Int.zero_add, true_and, List.set_cons_succ, List.set_cons_zero])
open PyFlat (putRow putRows put1 put okCall)
/-- how many whole numbers a call has, how many rows -/
def wn : List Int := [0, 0, 4, 5, 5, 6, 3, 1, 3, 1, 1, 4, 0, 0, 1, 2]
theorem shape_is {p : Int} {n k : Nat} (h : PyWrsctx.shape p = some (n, k)) : ∃ i : Nat, p = i ∧ wn[i]? = some (n : Int) ∧ (k = if p = 1 ∨ p = 10 then 1 else 0) := by
  by_cases c1 : p = 1
  · subst c1
    have h : some (0, 1) = some (n, k) := h
    cases h
    exact ⟨1, rfl, rfl, rfl⟩
  by_cases c2 : p = 2
  · subst c2
    have h : some (4, 0) = some (n, k) := h
    cases h
    exact ⟨2, rfl, rfl, rfl⟩
  by_cases c3 : p = 3
  · subst c3
    have h : some (5, 0) = some (n, k) := h
    cases h
    exact ⟨3, rfl, rfl, rfl⟩
  by_cases c4 : p = 4
  · subst c4
    have h : some (5, 0) = some (n, k) := h
    cases h
    exact ⟨4, rfl, rfl, rfl⟩
  by_cases c5 : p = 5
  · subst c5
    have h : some (6, 0) = some (n, k) := h
    cases h
    exact ⟨5, rfl, rfl, rfl⟩
  by_cases c6 : p = 6
  · subst c6
    have h : some (3, 0) = some (n, k) := h
    cases h
    exact ⟨6, rfl, rfl, rfl⟩
  by_cases c7 : p = 7
  · subst c7
    have h : some (1, 0) = some (n, k) := h
    cases h
    exact ⟨7, rfl, rfl, rfl⟩
  by_cases c8 : p = 8
  · subst c8
    have h : some (3, 0) = some (n, k) := h
    cases h
    exact ⟨8, rfl, rfl, rfl⟩
  by_cases c9 : p = 9
  · subst c9
    have h : some (1, 0) = some (n, k) := h
    cases h
    exact ⟨9, rfl, rfl, rfl⟩
  by_cases c10 : p = 10
  · subst c10
    have h : some (1, 1) = some (n, k) := h
    cases h
    exact ⟨10, rfl, rfl, rfl⟩
  by_cases c11 : p = 11
  · subst c11
    have h : some (4, 0) = some (n, k) := h
    cases h
    exact ⟨11, rfl, rfl, rfl⟩
  by_cases c12 : p = 12
  · subst c12
    have h : some (0, 0) = some (n, k) := h
    cases h
    exact ⟨12, rfl, rfl, rfl⟩
  by_cases c13 : p = 13
  · subst c13
    have h : some (0, 0) = some (n, k) := h
    cases h
    exact ⟨13, rfl, rfl, rfl⟩
  by_cases c14 : p = 14
  · subst c14
    have h : some (1, 0) = some (n, k) := h
    cases h
    exact ⟨14, rfl, rfl, rfl⟩
  by_cases c15 : p = 15
  · subst c15
    have h : some (2, 0) = some (n, k) := h
    cases h
    exact ⟨15, rfl, rfl, rfl⟩
  unfold PyWrsctx.shape at h
  rw [if_neg c1, if_neg c2, if_neg c3, if_neg c4, if_neg c5, if_neg c6, if_neg c7, if_neg c8, if_neg c9, if_neg c10, if_neg c11, if_neg c12, if_neg c13, if_neg c14, if_neg c15] at h
  cases h
/-- the call that begins at a place -/
structure CallAt (ns : List Int) (u : Nat) (p : Int) (args : List Int) (rows : List (List Int)) : Prop where
  ex : ∃ pre post, pre.length = u ∧ ns = pre ++ ((p :: args) ++ (putRows rows ++ post))
  sh : PyWrsctx.shape p = some (args.length, rows.length)
theorem CallAt.head {ns : List Int} {u : Nat} {p : Int} {args : List Int} {rows : List (List Int)} (h : CallAt ns u p args rows) : atI (rV ns) (u : Int) = some (.int p) := by
  obtain ⟨pre, post, rfl, rfl⟩ := h.ex
  refine atI_nat ?_
  unfold rV
  rw [List.getElem?_map, List.getElem?_append_right (Nat.le_refl _), Nat.sub_self]
  rfl
theorem CallAt.rows {ns : List Int} {u : Nat} {p : Int} {args : List Int} {rows : List (List Int)} (h : CallAt ns u p args rows) : (rows = [] ∧ (decide (p = 1) || decide (p = 10)) = false) ∨ (∃ r, rows = [r] ∧ (decide (p = 1) || decide (p = 10)) = true) := by
  obtain ⟨i, _, _, h3⟩ := shape_is h.sh
  by_cases c : p = 1 ∨ p = 10
  · rw [if_pos c] at h3
    match rows, h3 with
    | [r], _ => exact .inr ⟨r, rfl, by rw [Bool.or_eq_true, decide_eq_true_eq, decide_eq_true_eq]; exact c⟩
  · rw [if_neg c] at h3
    match rows, h3 with
    | [], _ => exact .inl ⟨rfl, by rw [Bool.or_eq_false_iff, decide_eq_false_iff_not, decide_eq_false_iff_not]; exact ⟨fun z => c (.inl z), fun z => c (.inr z)⟩⟩
theorem CallAt.rowlen {ns : List Int} {u : Nat} {p : Int} {args r : List Int} (h : CallAt ns u p args [r]) : atI (rV ns) ((u + 1 + args.length : Nat) : Int) = some (.int (r.length : Nat)) := by
  obtain ⟨pre, post, rfl, rfl⟩ := h.ex
  refine atI_nat ?_
  unfold rV
  rw [List.getElem?_map, List.getElem?_append_right (by omega), List.getElem?_append_right (by rw [List.length_cons]; omega), List.length_cons, show pre.length + 1 + args.length - pre.length - (args.length + 1) = 0 by omega]
  rfl
theorem cut_at (pre x post : List Int) (lo hi : Int) (h1 : lo = (pre.length : Nat)) (h2 : hi = ((pre.length + x.length : Nat) : Int)) : cutV (rV (pre ++ (x ++ post))) (some lo) (some hi) = rV x := by
  subst h1 h2
  unfold cutV
  rw [HT.sIx_nat, HT.sIx_nat, rV_len]
  have l : (pre ++ (x ++ post)).length = pre.length + (x.length + post.length) := by rw [List.length_append, List.length_append]
  rw [l, show min pre.length (pre.length + (x.length + post.length)) = pre.length by omega, show min (pre.length + x.length) (pre.length + (x.length + post.length)) - pre.length = x.length by omega]
  unfold rV
  rw [List.map_append, List.map_append, List.drop_append_of_le_length (by rw [List.length_map]; omega), List.drop_of_length_le (by rw [List.length_map]; omega), List.nil_append, List.take_append_of_le_length (by rw [List.length_map]; omega), List.take_of_length_le (by rw [List.length_map]; omega)]
def spHasRow : Sp := fun vs H Q _ => ∃ (p : Int), vs = [.int p] ∧ Q (.bl (decide (p = 1) || decide (p = 10))) H
local macro_rules | `(tactic| walk_at "rd") => `(tactic| simp only [L2.start, wipe, List.replicate_succ, List.replicate_zero, Nat.reduceSub, Nat.reduceAdd, Nat.zero_add, List.map_cons, List.map_nil, List.length_cons, List.length_nil, tSeq, tRet, tAsg, gName, gTup, gCons, gNil, tVar, tC, tOp, tUn, rI0, rI, rU, rEq, rNe, tChain, tChain3, tCons, tNil, tOrV, tAndV, tIfS, tNext, tTest, tB, tNot, tAnd, tOr, tAug, ipI, tCall, tCB, tDrop, tBM, tBM0, tFld, tMeth, rAppend, rExtend, rCat, tTup, tLst, rIxL, rIxT, scal, V.bl.injEq, V.int.injEq, V.ref.injEq, List.cons.injEq, and_true, List.getElem?_cons_succ, List.getElem?_cons_zero, List.cons_append, List.nil_append, List.append_nil, Option.some.injEq, exists_eq_left', exists_and_left, and_assoc, Int.natCast_inj, Int.zero_add, true_and, List.set_cons_succ, List.set_cons_zero])
theorem ok_has_row (T : Txt K mg C aS aW) : FnG P w K mg base 1 "has_row" p_has_row spHasRow := by
  refine FnG.of T.d_has_row sc_has_row (fun _ _ _ _ _ _ us hl => match us, hl with | [_], _ => rfl) (by rintro vs H Q E ⟨p, rfl, q⟩; rfl) (fun f cdv A outer s H vs Q E hr h => ?_)
  obtain ⟨p, rfl, q⟩ := h
  refine ⟨_, (pss_one (ps_ret (pe_or (pe_cmpR op_eq (pv 0) (pe_gint T.c_FORMULA rfl) (nomark _)) (pe_one (pe_cmpR op_eq (pv 0) (pe_gint T.c_FITS rfl) (nomark _)))))), ?_⟩
  walk_at "rd"
  by_cases c : p = 1
  · rw [decide_eq_true c] at q ⊢
    exact q
  · rw [decide_eq_false c] at q ⊢
    exact q
def spPlainEnd (K : PySem.W.Frag) : Sp := fun vs H Q _ => ∃ (a : Addr) (u : Nat) (ns : List Int) (p : Int) (args : List Int) (rows : List (List Int)), vs = [.ref a, .int u] ∧ SqL K H a (rV ns) ∧ CallAt ns u p args rows ∧ Q (.int ((u + 1 + args.length : Nat) : Int)) H
local macro_rules | `(tactic| walk_at "rd") => `(tactic| simp only [L2.start, wipe, List.replicate_succ, List.replicate_zero, Nat.reduceSub, Nat.reduceAdd, Nat.zero_add, List.map_cons, List.map_nil, List.length_cons, List.length_nil, tSeq, tRet, tAsg, gName, gTup, gCons, gNil, tVar, tC, tOp, tUn, rI0, rI, rU, rEq, rNe, tChain, tChain3, tCons, tNil, tOrV, tAndV, tIfS, tNext, tTest, tB, tNot, tAnd, tOr, tAug, ipI, tCall, tCB, tDrop, tBM, tBM0, tFld, tMeth, rAppend, rExtend, rCat, tTup, tLst, rIxL, rIxT, scal, V.bl.injEq, V.int.injEq, V.ref.injEq, List.cons.injEq, and_true, List.getElem?_cons_succ, List.getElem?_cons_zero, List.cons_append, List.nil_append, List.append_nil, Option.some.injEq, exists_eq_left', exists_and_left, and_assoc, Int.natCast_inj, Int.zero_add, true_and, List.set_cons_succ, List.set_cons_zero])
theorem ok_plain_end (T : Txt K mg C aS aW) : FnG P w K mg base 1 "plain_end" p_plain_end (spPlainEnd K) := by
  have g_WHOLE_NUMBERS := T.g_WHOLE_NUMBERS
  refine FnG.of T.d_plain_end sc_plain_end (fun _ _ _ _ _ _ us hl => match us, hl with | [_, _], _ => rfl) (by rintro vs H Q E ⟨a, u, ns, p, args, rows, rfl, hS, hC, q⟩; rfl) (fun f cdv A outer s H vs Q E hr h => ?_)
  obtain ⟨a, u, ns, p, args, rows, rfl, hS, hC, q⟩ := h
  refine ⟨_, (pss_one (ps_ret (pe_op op_add (pe_op op_add (pv 1) pe_int) (pe_ix (ix_tupK (K := K) rfl) (pe_gref g_WHOLE_NUMBERS rfl) (pe_ix (ix_listK (K := K) rfl) (pv 0) (pv 1) (fun _ _ => rfl)) (fun _ _ => rfl))))), ?_⟩
  obtain ⟨i, ep, hw, _⟩ := shape_is hC.sh
  walk_at "rd"
  refine ⟨_, hS, _, hC.head, _, p, rfl, g_WHOLE_NUMBERS.t H, ?_⟩
  have hw2 : atI (([0, 0, 4, 5, 5, 6, 3, 1, 3, 1, 1, 4, 0, 0, 1, 2] : List Int).map V.int) p = some (.int (args.length : Nat)) := by
    rw [ep]
    refine atI_nat ?_
    rw [List.getElem?_map]
    have hw : ([0, 0, 4, 5, 5, 6, 3, 1, 3, 1, 1, 4, 0, 0, 1, 2] : List Int)[i]? = some (args.length : Int) := hw
    rw [hw]
    rfl
  refine ⟨_, hw2, _, rfl, ?_⟩
  exact cast (congrArg (fun z => Q (V.int z) H) (by omega)) q
def spCallEnd (K : PySem.W.Frag) : Sp := fun vs H Q _ => ∃ (a : Addr) (u : Nat) (ns : List Int) (p : Int) (args : List Int) (rows : List (List Int)), vs = [.ref a, .int u] ∧ SqL K H a (rV ns) ∧ CallAt ns u p args rows ∧ Q (.int ((u + (put1 ((p :: args) :: rows)).length : Nat) : Int)) H
local macro_rules | `(tactic| walk_at "rd") => `(tactic| simp only [L2.start, wipe, List.replicate_succ, List.replicate_zero, Nat.reduceSub, Nat.reduceAdd, Nat.zero_add, List.map_cons, List.map_nil, List.length_cons, List.length_nil, tSeq, tRet, tAsg, gName, gTup, gCons, gNil, tVar, tC, tOp, tUn, rI0, rI, rU, rEq, rNe, tChain, tChain3, tCons, tNil, tOrV, tAndV, tIfS, tNext, tTest, tB, tNot, tAnd, tOr, tAug, ipI, tCall, tCB, tDrop, tBM, tBM0, tFld, tMeth, rAppend, rExtend, rCat, tTup, tLst, rIxL, rIxT, scal, V.bl.injEq, V.int.injEq, V.ref.injEq, List.cons.injEq, and_true, List.getElem?_cons_succ, List.getElem?_cons_zero, List.cons_append, List.nil_append, List.append_nil, Option.some.injEq, exists_eq_left', exists_and_left, and_assoc, Int.natCast_inj, Int.zero_add, true_and, List.set_cons_succ, List.set_cons_zero, spHasRow, spPlainEnd])
theorem ok_call_end (T : Txt K mg C aS aW) : FnG P w K mg base 2 "call_end" p_call_end (spCallEnd K) := by
  obtain ⟨_, _, g_has_row, k_has_row, b_has_row, o_has_row⟩ := (ok_has_row (P := P) (w := w) (base := base) T).ex
  obtain ⟨_, _, g_plain_end, k_plain_end, b_plain_end, o_plain_end⟩ := (ok_plain_end (P := P) (w := w) (base := base) T).ex
  refine FnG.of T.d_call_end sc_call_end (fun _ _ _ _ _ _ us hl => match us, hl with | [_, _], _ => rfl) (by rintro vs H Q E ⟨a, u, ns, p, args, rows, rfl, hS, hC, q⟩; rfl) (fun f cdv A outer s H vs Q E hr h => ?_)
  obtain ⟨a, u, ns, p, args, rows, rfl, hS, hC, q⟩ := h
  refine ⟨_, (pss_cons (ps_set (i := 2) sc_call_end.nd rfl (Or.inl rfl) (pe_call o_plain_end (hr.mono (by decide)) rfl g_plain_end k_plain_end b_plain_end .nil pass0 (pa_cons (pv 0) (pa_cons (pv 1) pa_nil))))
      (pss_cons (ps_if (pt_val (pe_call o_has_row (hr.mono (by decide)) rfl g_has_row k_has_row b_has_row .nil pass0 (pa_cons (pe_ix (ix_listK (K := K) rfl) (pv 0) (pv 1) (fun _ _ => rfl)) pa_nil))) (pss_one (ps_ret (pe_op op_add (pe_op op_add (pv 2) pe_int) (pe_ix (ix_listK (K := K) rfl) (pv 0) (pv 2) (fun _ _ => rfl))))) pss_nil)
      (pss_one (ps_ret (pv 2))))), ?_⟩
  walk_at "rd"
  refine ⟨ns, hS, p, args, rows, hC, _, hS, _, hC.head, p, rfl, ?_⟩
  rcases hC.rows with ⟨rfl, e⟩ | ⟨r, rfl, e⟩
  · refine iteFf e ?_
    refine cast (congrArg (fun z => Q (V.int z) H) ?_) q
    show (((u + (p :: args ++ []).length : Nat)) : Int) = _
    rw [List.append_nil, List.length_cons]
    omega
  · refine iteTt e ⟨_, hS, _, hC.rowlen, _, rfl, ?_⟩
    refine cast (congrArg (fun z => Q (V.int z) H) ?_) q
    show (((u + (p :: args ++ ((r.length : Int) :: r ++ [])).length : Nat)) : Int) = _
    rw [List.append_nil, List.length_append, List.length_cons, List.length_cons]
    omega
def spPlainOf (K : PySem.W.Frag) : Sp := fun vs H Q _ => ∃ (a : Addr) (u : Nat) (ns : List Int) (p : Int) (args : List Int) (rows : List (List Int)), vs = [.ref a, .int u] ∧ SqL K H a (rV ns) ∧ CallAt ns u p args rows ∧ ∀ D H', Same H H' → H' D = some (.lst (rV args)) → Q (.ref D) H'
local macro_rules | `(tactic| walk_at "rd") => `(tactic| simp only [L2.start, wipe, List.replicate_succ, List.replicate_zero, Nat.reduceSub, Nat.reduceAdd, Nat.zero_add, List.map_cons, List.map_nil, List.length_cons, List.length_nil, tSeq, tRet, tAsg, gName, gTup, gCons, gNil, tVar, tC, tOp, tUn, rI0, rI, rU, rEq, rNe, tChain, tChain3, tCons, tNil, tOrV, tAndV, tIfS, tNext, tTest, tB, tNot, tAnd, tOr, tAug, ipI, tCall, tCB, tDrop, tBM, tBM0, tFld, tMeth, rAppend, rExtend, rCat, tTup, tLst, rIxL, rIxT, scal, V.bl.injEq, V.int.injEq, V.ref.injEq, List.cons.injEq, and_true, List.getElem?_cons_succ, List.getElem?_cons_zero, List.cons_append, List.nil_append, List.append_nil, Option.some.injEq, exists_eq_left', exists_and_left, and_assoc, Int.natCast_inj, Int.zero_add, true_and, List.set_cons_succ, List.set_cons_zero, spPlainEnd])
theorem ok_plain_of (T : Txt K mg C aS aW) : FnG P w K mg base 2 "plain_of" p_plain_of (spPlainOf K) := by
  obtain ⟨_, _, g_plain_end, k_plain_end, b_plain_end, o_plain_end⟩ := (ok_plain_end (P := P) (w := w) (base := base) T).ex
  refine FnG.of T.d_plain_of sc_plain_of (fun _ _ _ _ _ _ us hl => match us, hl with | [_, _], _ => rfl) (by rintro vs H Q E ⟨a, u, ns, p, args, rows, rfl, hS, hC, q⟩; rfl) (fun f cdv A outer s H vs Q E hr h => ?_)
  obtain ⟨a, u, ns, p, args, rows, rfl, hS, hC, q⟩ := h
  refine ⟨_, (pss_one (ps_ret (pe_slice sl_list (pv 0) (po_some (pe_op op_add (pv 1) pe_int)) (po_some (pe_call o_plain_end (hr.mono (by decide)) rfl g_plain_end k_plain_end b_plain_end .nil pass0 (pa_cons (pv 0) (pa_cons (pv 1) pa_nil))))))), ?_⟩
  obtain ⟨pre, post, hu, hns⟩ := hC.ex
  refine ⟨_, rfl, _, rfl, _, 1, rfl, rfl, _, rfl, _, rfl, _, rfl, a, u, ns, p, args, rows, rfl, hS, hC, _, rfl, a, _, rfl, hS, fun D nD => q D _ (same_new nD) ?_⟩
  rw [upd_same, hns]
  have e := cut_at (pre ++ [p]) args (putRows rows ++ post) ((u : Int) + 1) ((u + 1 + args.length : Nat) : Int) (by rw [List.length_append, hu]; rfl) (by rw [List.length_append, hu]; rfl)
  rw [List.append_assoc] at e
  rw [← e]
  rfl
def spRowOf (K : PySem.W.Frag) : Sp := fun vs H Q _ => ∃ (a : Addr) (u : Nat) (ns : List Int) (p : Int) (args : List Int) (rows : List (List Int)), vs = [.ref a, .int u] ∧ SqL K H a (rV ns) ∧ CallAt ns u p args rows ∧ ∀ D H', Same H H' → H' D = some (.lst (rV (rows.headD []))) → Q (.ref D) H'
local macro_rules | `(tactic| walk_at "rd") => `(tactic| simp only [L2.start, wipe, List.replicate_succ, List.replicate_zero, Nat.reduceSub, Nat.reduceAdd, Nat.zero_add, List.map_cons, List.map_nil, List.length_cons, List.length_nil, tSeq, tRet, tAsg, gName, gTup, gCons, gNil, tVar, tC, tOp, tUn, rI0, rI, rU, rEq, rNe, tChain, tChain3, tCons, tNil, tOrV, tAndV, tIfS, tNext, tTest, tB, tNot, tAnd, tOr, tAug, ipI, tCall, tCB, tDrop, tBM, tBM0, tFld, tMeth, rAppend, rExtend, rCat, tTup, tLst, rIxL, rIxT, scal, V.bl.injEq, V.int.injEq, V.ref.injEq, List.cons.injEq, and_true, List.getElem?_cons_succ, List.getElem?_cons_zero, List.cons_append, List.nil_append, List.append_nil, Option.some.injEq, exists_eq_left', exists_and_left, and_assoc, Int.natCast_inj, Int.zero_add, true_and, List.set_cons_succ, List.set_cons_zero, spCallEnd, spHasRow, spPlainEnd])
theorem ok_row_of (T : Txt K mg C aS aW) : FnG P w K mg base 3 "row_of" p_row_of (spRowOf K) := by
  obtain ⟨_, _, g_call_end, k_call_end, b_call_end, o_call_end⟩ := (ok_call_end (P := P) (w := w) (base := base) T).ex
  obtain ⟨_, _, g_has_row, k_has_row, b_has_row, o_has_row⟩ := (ok_has_row (P := P) (w := w) (base := base) T).ex
  obtain ⟨_, _, g_plain_end, k_plain_end, b_plain_end, o_plain_end⟩ := (ok_plain_end (P := P) (w := w) (base := base) T).ex
  refine FnG.of T.d_row_of sc_row_of (fun _ _ _ _ _ _ us hl => match us, hl with | [_, _], _ => rfl) (by rintro vs H Q E ⟨a, u, ns, p, args, rows, rfl, hS, hC, q⟩; rfl) (fun f cdv A outer s H vs Q E hr h => ?_)
  obtain ⟨a, u, ns, p, args, rows, rfl, hS, hC, q⟩ := h
  refine ⟨_, (pss_cons (ps_if (pt_not (pt_val (pe_call o_has_row (hr.mono (by decide)) rfl g_has_row k_has_row b_has_row .nil pass0 (pa_cons (pe_ix (ix_listK (K := K) rfl) (pv 0) (pv 1) (fun _ _ => rfl)) pa_nil)))) (pss_one (ps_ret (pe_lst pa_nil))) pss_nil)
      (pss_one (ps_ret (pe_slice sl_list (pv 0) (po_some (pe_op op_add (pe_call o_plain_end (hr.mono (by decide)) rfl g_plain_end k_plain_end b_plain_end .nil pass0 (pa_cons (pv 0) (pa_cons (pv 1) pa_nil))) pe_int)) (po_some (pe_call o_call_end (hr.mono (by decide)) rfl g_call_end k_call_end b_call_end .nil pass0 (pa_cons (pv 0) (pa_cons (pv 1) pa_nil)))))))), ?_⟩
  obtain ⟨pre, post, hu, hns⟩ := hC.ex
  refine sIf (!(decide (p = 1) || decide (p = 10))) (fun Q q => ?_) (fun h => ?_) (fun h => ?_)
  · walk_at "rd"
    exact ⟨_, hS, _, hC.head, p, rfl, q⟩
  · rcases hC.rows with ⟨rfl, e⟩ | ⟨r, rfl, e⟩
    · walk_at "rd"
      exact ⟨by decide, fun D nD => q D _ (same_new nD) upd_same⟩
    · rw [e] at h
      cases h
  · rcases hC.rows with ⟨rfl, e⟩ | ⟨r, rfl, e⟩
    · rw [e] at h
      cases h
    · refine ⟨_, rfl, _, rfl, _, rfl, a, u, ns, p, args, [r], rfl, hS, hC, _, 1, rfl, rfl, _, rfl, _, rfl, _, rfl, a, u, ns, p, args, [r], rfl, hS, hC, _, rfl, a, _, rfl, hS, fun D nD => q D _ (same_new nD) ?_⟩
      rw [upd_same, hns]
      have e := cut_at (pre ++ (p :: args ++ [(r.length : Int)])) r post (((u + 1 + args.length : Nat) : Int) + 1) ((u + (put1 [p :: args, r]).length : Nat) : Int) (by
        rw [List.length_append, List.length_append, hu, List.length_cons, List.length_singleton]
        omega) (by
        show (((u + (p :: args ++ ((r.length : Int) :: r ++ [])).length : Nat)) : Int) = _
        rw [List.append_nil, List.length_append, List.length_append, List.length_append, hu, List.length_cons, List.length_cons, List.length_singleton]
        omega)
      have e2 : (pre ++ (p :: args ++ [(r.length : Int)])) ++ (r ++ post) = pre ++ (p :: args ++ (putRows [r] ++ post)) := by
        show _ = pre ++ (p :: args ++ (((r.length : Int) :: r ++ []) ++ post))
        rw [List.append_nil, List.append_assoc, List.append_assoc]
        rfl
      rw [e2] at e
      rw [e]
      rfl
end
end Tl

namespace Tl
open PySem PySem.Spec PyProof.Rows L2 SctSecret SctBase
section
variable {P : Program} {w : World} {K : PySem.W.Frag} {mg : Str → Option Value} {base : Heap} {C aS aW : Addr}
local macro_rules | `(tactic| walk_at "rd") => `(tactic| simp only [L2.start, wipe, List.replicate_succ, List.replicate_zero, Nat.reduceSub, Nat.reduceAdd, Nat.zero_add, List.map_cons, List.map_nil, List.length_cons, List.length_nil, tSeq, tRet, tAsg, gName, gTup, gCons, gNil, tVar, tC, tOp, tUn, rI0, rI, rU, rEq, rNe, tChain, tChain3, tCons, tNil, tOrV, tAndV, tIfS, tNext, tTest, tB, tNot, tAnd, tOr, tAug, ipI, tCall, tCB, tDrop, tBM, tBM0, tFld, tMeth, rAppend, rExtend, rCat, tTup, tLst, rIxL, rIxT, scal, V.bl.injEq, V.int.injEq, V.ref.injEq, List.cons.injEq, and_true, List.getElem?_cons_succ, List.getElem?_cons_zero, List.cons_append, List.nil_append, List.append_nil, Option.some.injEq, exists_eq_left', exists_and_left, and_assoc, Int.natCast_inj, Int.zero_add, true_and, List.set_cons_succ, List.set_cons_zero])
theorem at3 {a b c d : V} {r : List V} : atI (a :: b :: c :: d :: r) 3 = some d := atI_nat (j := 3) rfl
theorem at4 {a b c d e : V} {r : List V} : atI (a :: b :: c :: d :: e :: r) 4 = some e := atI_nat (j := 4) rfl
theorem at5 {a b c d e f : V} {r : List V} : atI (a :: b :: c :: d :: e :: f :: r) 5 = some f := atI_nat (j := 5) rfl
theorem len0 {α : Type} {l : List α} (h : 0 = l.length) : l = [] := List.length_eq_zero_iff.mp h.symm
theorem lenS {α : Type} {l : List α} {n : Nat} (h : n + 1 = l.length) : ∃ x r, l = x :: r ∧ n = r.length := by
  cases l with
  | nil => cases h
  | cons x r => exact ⟨x, r, rfl, Nat.succ.inj h⟩
def spChange (K : PySem.W.Frag) (C : Addr) : Sp := fun vs H Q _ => ∃ (b pl rw' g : Addr) (p : Int) (args : List Int) (rows : List (List Int)) (s : State) (cl : Call), vs = [.ref b, .int p, .ref pl, .ref rw'] ∧ PyWrsctx.shape p = some (args.length, rows.length) ∧ SctSecretNeutral.read ((p :: args) :: rows) = some cl ∧ BookAt C H g b s ∧ Good s ∧ H g ≠ none ∧ SqL K H pl (rV args) ∧ SqL K H rw' (rV (rows.headD [])) ∧ (p = 1 ∨ p = 2 ∨ p = 3 ∨ p = 7) ∧ Ans C H g b s cl Q
local macro_rules | `(tactic| walk_at "rd") => `(tactic| simp only [L2.start, wipe, List.replicate_succ, List.replicate_zero, Nat.reduceSub, Nat.reduceAdd, Nat.zero_add, List.map_cons, List.map_nil, List.length_cons, List.length_nil, tSeq, tRet, tAsg, gName, gTup, gCons, gNil, tVar, tC, tOp, tUn, rI0, rI, rU, rEq, rNe, tChain, tChain3, tCons, tNil, tOrV, tAndV, tIfS, tNext, tTest, tB, tNot, tAnd, tOr, tAug, ipI, tCall, tCB, tDrop, tBM, tBM0, tFld, tMeth, rAppend, rExtend, rCat, tTup, tLst, rIxL, rIxT, scal, V.bl.injEq, V.int.injEq, V.ref.injEq, List.cons.injEq, and_true, List.getElem?_cons_succ, List.getElem?_cons_zero, List.cons_append, List.nil_append, List.append_nil, Option.some.injEq, exists_eq_left', exists_and_left, and_assoc, Int.natCast_inj, Int.zero_add, true_and, List.set_cons_succ, List.set_cons_zero, spFormula, spMeet, spPromise, spTell])
theorem ok_answer_change (T : Txt K mg C aS aW) : FnG P w K mg base 11 "answer_change" p_answer_change (spChange K C) := by
  obtain ⟨_, _, g_answer_formula, k_answer_formula, b_answer_formula, o_answer_formula⟩ := (ok_answer_formula (P := P) (w := w) (base := base) T).ex
  obtain ⟨_, _, g_answer_meet, k_answer_meet, b_answer_meet, o_answer_meet⟩ := (ok_answer_meet (P := P) (w := w) (base := base) T).ex
  obtain ⟨_, _, g_answer_promise, k_answer_promise, b_answer_promise, o_answer_promise⟩ := (ok_answer_promise (P := P) (w := w) (base := base) T).ex
  obtain ⟨_, _, g_answer_tell, k_answer_tell, b_answer_tell, o_answer_tell⟩ := (ok_answer_tell (P := P) (w := w) (base := base) T).ex
  refine FnG.of T.d_answer_change sc_answer_change (fun _ _ _ _ _ _ us hl => match us, hl with | [_, _, _, _], _ => rfl) (by rintro vs H Q E ⟨b, pl, rw', g, p, args, rows, s0, cl, rfl, hsh, hcl, hB, hG, hg, hP, hR, hp, q⟩; rfl) (fun f cdv A outer s H vs Q E hr h => ?_)
  obtain ⟨b, pl, rw', g, p, args, rows, s0, cl, rfl, hsh, hcl, hB, hG, hg, hP, hR, hp, q⟩ := h
  refine ⟨_, (pss_cons (ps_if (pt_cmpR op_eq (pv 1) (pe_gint T.c_FORMULA rfl) (nomark _)) (pss_one (ps_ret (pe_call o_answer_formula (hr.mono (by decide)) rfl g_answer_formula k_answer_formula b_answer_formula .nil pass0 (pa_cons (pv 0) (pa_cons (pv 3) pa_nil))))) pss_nil)
      (pss_cons (ps_if (pt_cmpR op_eq (pv 1) (pe_gint T.c_PROMISE rfl) (nomark _)) (pss_one (ps_ret (pe_call o_answer_promise (hr.mono (by decide)) rfl g_answer_promise k_answer_promise b_answer_promise .nil pass0 (pa_cons (pv 0) (pa_cons (pe_ix (ix_listK (K := K) rfl) (pv 2) pe_int (fun _ _ => rfl)) (pa_cons (pe_ix (ix_listK (K := K) rfl) (pv 2) pe_int (fun _ _ => rfl)) (pa_cons (pe_ix (ix_listK (K := K) rfl) (pv 2) pe_int (fun _ _ => rfl)) (pa_cons (pe_ix (ix_listK (K := K) rfl) (pv 2) pe_int (fun _ _ => rfl)) pa_nil)))))))) pss_nil)
      (pss_cons (ps_if (pt_cmpR op_eq (pv 1) (pe_gint T.c_TELL rfl) (nomark _)) (pss_one (ps_ret (pe_call o_answer_tell (hr.mono (by decide)) rfl g_answer_tell k_answer_tell b_answer_tell .nil pass0 (pa_cons (pv 0) (pa_cons (pe_ix (ix_listK (K := K) rfl) (pv 2) pe_int (fun _ _ => rfl)) (pa_cons (pe_ix (ix_listK (K := K) rfl) (pv 2) pe_int (fun _ _ => rfl)) (pa_cons (pe_ix (ix_listK (K := K) rfl) (pv 2) pe_int (fun _ _ => rfl)) (pa_cons (pe_ix (ix_listK (K := K) rfl) (pv 2) pe_int (fun _ _ => rfl)) (pa_cons (pe_ix (ix_listK (K := K) rfl) (pv 2) pe_int (fun _ _ => rfl)) pa_nil))))))))) pss_nil)
      (pss_one (ps_ret (pe_call o_answer_meet (hr.mono (by decide)) rfl g_answer_meet k_answer_meet b_answer_meet .nil pass0 (pa_cons (pv 0) (pa_cons (pe_ix (ix_listK (K := K) rfl) (pv 2) pe_int (fun _ _ => rfl)) pa_nil)))))))), ?_⟩
  rcases hp with rfl | rfl | rfl | rfl
  · have hsh : some (0, 1) = some (args.length, rows.length) := hsh
    injection hsh with hsh
    injection hsh with ha hr0
    obtain rfl := len0 ha
    obtain ⟨r0, rows1, rfl, hr1⟩ := lenS hr0
    obtain rfl := len0 hr1
    obtain rfl := Option.some.inj (show some (Call.formula  r0) = some cl from hcl)
    refine sIf true (fun Q q => by walk_at "rd"; exact q) (fun _ => ?_) (fun h => by cases h)
    exact ⟨_, rfl, _, rfl, b, rw', g, s0, r0, rfl, hB, hg, hR, q⟩
  · have hsh : some (4, 0) = some (args.length, rows.length) := hsh
    injection hsh with hsh
    injection hsh with ha hr0
    obtain ⟨x0, as0, rfl, hb0⟩ := lenS ha
    obtain ⟨x1, as1, rfl, hb1⟩ := lenS hb0
    obtain ⟨x2, as2, rfl, hb2⟩ := lenS hb1
    obtain ⟨x3, as3, rfl, hb3⟩ := lenS hb2
    obtain rfl := len0 hb3
    obtain rfl := len0 hr0
    obtain rfl := Option.some.inj (show some (Call.promise x0 x1 x2 x3) = some cl from hcl)
    have hP : SqL K H pl [.int x0, .int x1, .int x2, .int x3] := hP
    refine sIf false (fun Q q => by walk_at "rd"; exact q) (fun h => by cases h) (fun _ => ?_)
    refine sIf true (fun Q q => by walk_at "rd"; exact q) (fun _ => ?_) (fun h => by cases h)
    exact ⟨_, rfl, _, rfl, pl, _, _, _, rfl, rfl, hP, at0, _, rfl, pl, _, _, _, rfl, rfl, hP, at1, _, rfl, pl, _, _, _, rfl, rfl, hP, at2, _, rfl, pl, _, _, _, rfl, rfl, hP, at3, b, g, x0, x1, x2, x3, s0, rfl, hB, hG, hg, q⟩
  · have hsh : some (5, 0) = some (args.length, rows.length) := hsh
    injection hsh with hsh
    injection hsh with ha hr0
    obtain ⟨x0, as0, rfl, hb0⟩ := lenS ha
    obtain ⟨x1, as1, rfl, hb1⟩ := lenS hb0
    obtain ⟨x2, as2, rfl, hb2⟩ := lenS hb1
    obtain ⟨x3, as3, rfl, hb3⟩ := lenS hb2
    obtain ⟨x4, as4, rfl, hb4⟩ := lenS hb3
    obtain rfl := len0 hb4
    obtain rfl := len0 hr0
    obtain rfl := Option.some.inj (show some (Call.tell x0 x1 x2 x3 x4) = some cl from hcl)
    have hP : SqL K H pl [.int x0, .int x1, .int x2, .int x3, .int x4] := hP
    refine sIf false (fun Q q => by walk_at "rd"; exact q) (fun h => by cases h) (fun _ => ?_)
    refine sIf false (fun Q q => by walk_at "rd"; exact q) (fun h => by cases h) (fun _ => ?_)
    refine sIf true (fun Q q => by walk_at "rd"; exact q) (fun _ => ?_) (fun h => by cases h)
    exact ⟨_, rfl, _, rfl, pl, _, _, _, rfl, rfl, hP, at0, _, rfl, pl, _, _, _, rfl, rfl, hP, at1, _, rfl, pl, _, _, _, rfl, rfl, hP, at2, _, rfl, pl, _, _, _, rfl, rfl, hP, at3, _, rfl, pl, _, _, _, rfl, rfl, hP, at4, b, g, x0, x1, x2, x3, x4, s0, rfl, hB, hG, hg, q⟩
  · have hsh : some (1, 0) = some (args.length, rows.length) := hsh
    injection hsh with hsh
    injection hsh with ha hr0
    obtain ⟨x0, as0, rfl, hb0⟩ := lenS ha
    obtain rfl := len0 hb0
    obtain rfl := len0 hr0
    obtain rfl := Option.some.inj (show some (Call.meet x0) = some cl from hcl)
    have hP : SqL K H pl [.int x0] := hP
    refine sIf false (fun Q q => by walk_at "rd"; exact q) (fun h => by cases h) (fun _ => ?_)
    refine sIf false (fun Q q => by walk_at "rd"; exact q) (fun h => by cases h) (fun _ => ?_)
    refine sIf false (fun Q q => by walk_at "rd"; exact q) (fun h => by cases h) (fun _ => ?_)
    exact ⟨_, rfl, _, rfl, pl, _, _, _, rfl, rfl, hP, at0, b, g, x0, s0, rfl, hB, hG, hg, q⟩
def spQuestion (K : PySem.W.Frag) (C : Addr) : Sp := fun vs H Q _ => ∃ (b pl rw' g : Addr) (p : Int) (args : List Int) (rows : List (List Int)) (s : State) (cl : Call), vs = [.ref b, .int p, .ref pl, .ref rw'] ∧ PyWrsctx.shape p = some (args.length, rows.length) ∧ SctSecretNeutral.read ((p :: args) :: rows) = some cl ∧ BookAt C H g b s ∧ Good s ∧ H g ≠ none ∧ SqL K H pl (rV args) ∧ SqL K H rw' (rV (rows.headD [])) ∧ (p = 4 ∨ p = 5 ∨ p = 6 ∨ p = 8 ∨ p = 9 ∨ p = 10 ∨ p = 11 ∨ p = 12 ∨ p = 13 ∨ p = 14 ∨ p = 15) ∧ Ans C H g b s cl Q
local macro_rules | `(tactic| walk_at "rd") => `(tactic| simp only [L2.start, wipe, List.replicate_succ, List.replicate_zero, Nat.reduceSub, Nat.reduceAdd, Nat.zero_add, List.map_cons, List.map_nil, List.length_cons, List.length_nil, tSeq, tRet, tAsg, gName, gTup, gCons, gNil, tVar, tC, tOp, tUn, rI0, rI, rU, rEq, rNe, tChain, tChain3, tCons, tNil, tOrV, tAndV, tIfS, tNext, tTest, tB, tNot, tAnd, tOr, tAug, ipI, tCall, tCB, tDrop, tBM, tBM0, tFld, tMeth, rAppend, rExtend, rCat, tTup, tLst, rIxL, rIxT, scal, V.bl.injEq, V.int.injEq, V.ref.injEq, List.cons.injEq, and_true, List.getElem?_cons_succ, List.getElem?_cons_zero, List.cons_append, List.nil_append, List.append_nil, Option.some.injEq, exists_eq_left', exists_and_left, and_assoc, Int.natCast_inj, Int.zero_add, true_and, List.set_cons_succ, List.set_cons_zero, spAFits, spAll, spFinest, spInferred, spLeak, spMay, spPromises, spShows, spSum, spTold, spWould])
theorem ok_answer_question (T : Txt K mg C aS aW) : FnG P w K mg base 11 "answer_question" p_answer_question (spQuestion K C) := by
  obtain ⟨_, _, g_answer_all, k_answer_all, b_answer_all, o_answer_all⟩ := (ok_answer_all (P := P) (w := w) (base := base) T).ex
  obtain ⟨_, _, g_answer_finest, k_answer_finest, b_answer_finest, o_answer_finest⟩ := (ok_answer_finest (P := P) (w := w) (base := base) T).ex
  obtain ⟨_, _, g_answer_fits, k_answer_fits, b_answer_fits, o_answer_fits⟩ := (ok_answer_fits (P := P) (w := w) (base := base) T).ex
  obtain ⟨_, _, g_answer_inferred, k_answer_inferred, b_answer_inferred, o_answer_inferred⟩ := (ok_answer_inferred (P := P) (w := w) (base := base) T).ex
  obtain ⟨_, _, g_answer_leak, k_answer_leak, b_answer_leak, o_answer_leak⟩ := (ok_answer_leak (P := P) (w := w) (base := base) T).ex
  obtain ⟨_, _, g_answer_may, k_answer_may, b_answer_may, o_answer_may⟩ := (ok_answer_may (P := P) (w := w) (base := base) T).ex
  obtain ⟨_, _, g_answer_promises, k_answer_promises, b_answer_promises, o_answer_promises⟩ := (ok_answer_promises (P := P) (w := w) (base := base) T).ex
  obtain ⟨_, _, g_answer_shows, k_answer_shows, b_answer_shows, o_answer_shows⟩ := (ok_answer_shows (P := P) (w := w) (base := base) T).ex
  obtain ⟨_, _, g_answer_sum, k_answer_sum, b_answer_sum, o_answer_sum⟩ := (ok_answer_sum (P := P) (w := w) (base := base) T).ex
  obtain ⟨_, _, g_answer_told, k_answer_told, b_answer_told, o_answer_told⟩ := (ok_answer_told (P := P) (w := w) (base := base) T).ex
  obtain ⟨_, _, g_answer_would, k_answer_would, b_answer_would, o_answer_would⟩ := (ok_answer_would (P := P) (w := w) (base := base) T).ex
  refine FnG.of T.d_answer_question sc_answer_question (fun _ _ _ _ _ _ us hl => match us, hl with | [_, _, _, _], _ => rfl) (by rintro vs H Q E ⟨b, pl, rw', g, p, args, rows, s0, cl, rfl, hsh, hcl, hB, hG, hg, hP, hR, hp, q⟩; rfl) (fun f cdv A outer s H vs Q E hr h => ?_)
  obtain ⟨b, pl, rw', g, p, args, rows, s0, cl, rfl, hsh, hcl, hB, hG, hg, hP, hR, hp, q⟩ := h
  refine ⟨_, (pss_cons (ps_if (pt_cmpR op_eq (pv 1) (pe_gint T.c_MAY rfl) (nomark _)) (pss_one (ps_ret (pe_call o_answer_may (hr.mono (by decide)) rfl g_answer_may k_answer_may b_answer_may .nil pass0 (pa_cons (pv 0) (pa_cons (pe_ix (ix_listK (K := K) rfl) (pv 2) pe_int (fun _ _ => rfl)) (pa_cons (pe_ix (ix_listK (K := K) rfl) (pv 2) pe_int (fun _ _ => rfl)) (pa_cons (pe_ix (ix_listK (K := K) rfl) (pv 2) pe_int (fun _ _ => rfl)) (pa_cons (pe_ix (ix_listK (K := K) rfl) (pv 2) pe_int (fun _ _ => rfl)) (pa_cons (pe_ix (ix_listK (K := K) rfl) (pv 2) pe_int (fun _ _ => rfl)) pa_nil))))))))) pss_nil)
      (pss_cons (ps_if (pt_cmpR op_eq (pv 1) (pe_gint T.c_WOULD rfl) (nomark _)) (pss_one (ps_ret (pe_call o_answer_would (hr.mono (by decide)) rfl g_answer_would k_answer_would b_answer_would .nil pass0 (pa_cons (pv 0) (pa_cons (pe_ix (ix_listK (K := K) rfl) (pv 2) pe_int (fun _ _ => rfl)) (pa_cons (pe_ix (ix_listK (K := K) rfl) (pv 2) pe_int (fun _ _ => rfl)) (pa_cons (pe_ix (ix_listK (K := K) rfl) (pv 2) pe_int (fun _ _ => rfl)) (pa_cons (pe_ix (ix_listK (K := K) rfl) (pv 2) pe_int (fun _ _ => rfl)) (pa_cons (pe_ix (ix_listK (K := K) rfl) (pv 2) pe_int (fun _ _ => rfl)) (pa_cons (pe_ix (ix_listK (K := K) rfl) (pv 2) pe_int (fun _ _ => rfl)) pa_nil)))))))))) pss_nil)
      (pss_cons (ps_if (pt_cmpR op_eq (pv 1) (pe_gint T.c_FINEST rfl) (nomark _)) (pss_one (ps_ret (pe_call o_answer_finest (hr.mono (by decide)) rfl g_answer_finest k_answer_finest b_answer_finest .nil pass0 (pa_cons (pv 0) (pa_cons (pe_ix (ix_listK (K := K) rfl) (pv 2) pe_int (fun _ _ => rfl)) (pa_cons (pe_ix (ix_listK (K := K) rfl) (pv 2) pe_int (fun _ _ => rfl)) (pa_cons (pe_ix (ix_listK (K := K) rfl) (pv 2) pe_int (fun _ _ => rfl)) pa_nil))))))) pss_nil)
      (pss_cons (ps_if (pt_cmpR op_eq (pv 1) (pe_gint T.c_INFERRED rfl) (nomark _)) (pss_one (ps_ret (pe_call o_answer_inferred (hr.mono (by decide)) rfl g_answer_inferred k_answer_inferred b_answer_inferred .nil pass0 (pa_cons (pv 0) (pa_cons (pe_ix (ix_listK (K := K) rfl) (pv 2) pe_int (fun _ _ => rfl)) (pa_cons (pe_ix (ix_listK (K := K) rfl) (pv 2) pe_int (fun _ _ => rfl)) (pa_cons (pe_ix (ix_listK (K := K) rfl) (pv 2) pe_int (fun _ _ => rfl)) pa_nil))))))) pss_nil)
      (pss_cons (ps_if (pt_cmpR op_eq (pv 1) (pe_gint T.c_ALL rfl) (nomark _)) (pss_one (ps_ret (pe_call o_answer_all (hr.mono (by decide)) rfl g_answer_all k_answer_all b_answer_all .nil pass0 (pa_cons (pv 0) (pa_cons (pe_ix (ix_listK (K := K) rfl) (pv 2) pe_int (fun _ _ => rfl)) pa_nil))))) pss_nil)
      (pss_cons (ps_if (pt_cmpR op_eq (pv 1) (pe_gint T.c_FITS rfl) (nomark _)) (pss_one (ps_ret (pe_call o_answer_fits (hr.mono (by decide)) rfl g_answer_fits k_answer_fits b_answer_fits .nil pass0 (pa_cons (pv 0) (pa_cons (pe_ix (ix_listK (K := K) rfl) (pv 2) pe_int (fun _ _ => rfl)) (pa_cons (pv 3) pa_nil)))))) pss_nil)
      (pss_cons (ps_if (pt_cmpR op_eq (pv 1) (pe_gint T.c_SHOWS rfl) (nomark _)) (pss_one (ps_ret (pe_call o_answer_shows (hr.mono (by decide)) rfl g_answer_shows k_answer_shows b_answer_shows .nil pass0 (pa_cons (pv 0) (pa_cons (pe_ix (ix_listK (K := K) rfl) (pv 2) pe_int (fun _ _ => rfl)) (pa_cons (pe_ix (ix_listK (K := K) rfl) (pv 2) pe_int (fun _ _ => rfl)) (pa_cons (pe_ix (ix_listK (K := K) rfl) (pv 2) pe_int (fun _ _ => rfl)) (pa_cons (pe_ix (ix_listK (K := K) rfl) (pv 2) pe_int (fun _ _ => rfl)) pa_nil)))))))) pss_nil)
      (pss_cons (ps_if (pt_cmpR op_eq (pv 1) (pe_gint T.c_LEAK rfl) (nomark _)) (pss_one (ps_ret (pe_call o_answer_leak (hr.mono (by decide)) rfl g_answer_leak k_answer_leak b_answer_leak .nil pass0 (pa_cons (pv 0) pa_nil)))) pss_nil)
      (pss_cons (ps_if (pt_cmpR op_eq (pv 1) (pe_gint T.c_PROMISES rfl) (nomark _)) (pss_one (ps_ret (pe_call o_answer_promises (hr.mono (by decide)) rfl g_answer_promises k_answer_promises b_answer_promises .nil pass0 (pa_cons (pv 0) pa_nil)))) pss_nil)
      (pss_cons (ps_if (pt_cmpR op_eq (pv 1) (pe_gint T.c_TOLD rfl) (nomark _)) (pss_one (ps_ret (pe_call o_answer_told (hr.mono (by decide)) rfl g_answer_told k_answer_told b_answer_told .nil pass0 (pa_cons (pv 0) (pa_cons (pe_ix (ix_listK (K := K) rfl) (pv 2) pe_int (fun _ _ => rfl)) pa_nil))))) pss_nil)
      (pss_one (ps_ret (pe_call o_answer_sum (hr.mono (by decide)) rfl g_answer_sum k_answer_sum b_answer_sum .nil pass0 (pa_cons (pv 0) (pa_cons (pe_ix (ix_listK (K := K) rfl) (pv 2) pe_int (fun _ _ => rfl)) (pa_cons (pe_ix (ix_listK (K := K) rfl) (pv 2) pe_int (fun _ _ => rfl)) pa_nil)))))))))))))))), ?_⟩
  rcases hp with rfl | rfl | rfl | rfl | rfl | rfl | rfl | rfl | rfl | rfl | rfl
  · have hsh : some (5, 0) = some (args.length, rows.length) := hsh
    injection hsh with hsh
    injection hsh with ha hr0
    obtain ⟨x0, as0, rfl, hb0⟩ := lenS ha
    obtain ⟨x1, as1, rfl, hb1⟩ := lenS hb0
    obtain ⟨x2, as2, rfl, hb2⟩ := lenS hb1
    obtain ⟨x3, as3, rfl, hb3⟩ := lenS hb2
    obtain ⟨x4, as4, rfl, hb4⟩ := lenS hb3
    obtain rfl := len0 hb4
    obtain rfl := len0 hr0
    obtain rfl := Option.some.inj (show some (Call.may x0 x1 x2 x3 x4) = some cl from hcl)
    have hP : SqL K H pl [.int x0, .int x1, .int x2, .int x3, .int x4] := hP
    refine sIf true (fun Q q => by walk_at "rd"; exact q) (fun _ => ?_) (fun h => by cases h)
    exact ⟨_, rfl, _, rfl, pl, _, _, _, rfl, rfl, hP, at0, _, rfl, pl, _, _, _, rfl, rfl, hP, at1, _, rfl, pl, _, _, _, rfl, rfl, hP, at2, _, rfl, pl, _, _, _, rfl, rfl, hP, at3, _, rfl, pl, _, _, _, rfl, rfl, hP, at4, b, g, x0, x1, x2, x3, x4, s0, rfl, hB, hG, q⟩
  · have hsh : some (6, 0) = some (args.length, rows.length) := hsh
    injection hsh with hsh
    injection hsh with ha hr0
    obtain ⟨x0, as0, rfl, hb0⟩ := lenS ha
    obtain ⟨x1, as1, rfl, hb1⟩ := lenS hb0
    obtain ⟨x2, as2, rfl, hb2⟩ := lenS hb1
    obtain ⟨x3, as3, rfl, hb3⟩ := lenS hb2
    obtain ⟨x4, as4, rfl, hb4⟩ := lenS hb3
    obtain ⟨x5, as5, rfl, hb5⟩ := lenS hb4
    obtain rfl := len0 hb5
    obtain rfl := len0 hr0
    obtain rfl := Option.some.inj (show some (Call.would x0 x1 x2 x3 x4 x5) = some cl from hcl)
    have hP : SqL K H pl [.int x0, .int x1, .int x2, .int x3, .int x4, .int x5] := hP
    refine sIf false (fun Q q => by walk_at "rd"; exact q) (fun h => by cases h) (fun _ => ?_)
    refine sIf true (fun Q q => by walk_at "rd"; exact q) (fun _ => ?_) (fun h => by cases h)
    exact ⟨_, rfl, _, rfl, pl, _, _, _, rfl, rfl, hP, at0, _, rfl, pl, _, _, _, rfl, rfl, hP, at1, _, rfl, pl, _, _, _, rfl, rfl, hP, at2, _, rfl, pl, _, _, _, rfl, rfl, hP, at3, _, rfl, pl, _, _, _, rfl, rfl, hP, at4, _, rfl, pl, _, _, _, rfl, rfl, hP, at5, b, g, x0, x1, x2, x3, x4, x5, s0, rfl, hB, hG, q⟩
  · have hsh : some (3, 0) = some (args.length, rows.length) := hsh
    injection hsh with hsh
    injection hsh with ha hr0
    obtain ⟨x0, as0, rfl, hb0⟩ := lenS ha
    obtain ⟨x1, as1, rfl, hb1⟩ := lenS hb0
    obtain ⟨x2, as2, rfl, hb2⟩ := lenS hb1
    obtain rfl := len0 hb2
    obtain rfl := len0 hr0
    obtain rfl := Option.some.inj (show some (Call.finest x0 x1 x2) = some cl from hcl)
    have hP : SqL K H pl [.int x0, .int x1, .int x2] := hP
    refine sIf false (fun Q q => by walk_at "rd"; exact q) (fun h => by cases h) (fun _ => ?_)
    refine sIf false (fun Q q => by walk_at "rd"; exact q) (fun h => by cases h) (fun _ => ?_)
    refine sIf true (fun Q q => by walk_at "rd"; exact q) (fun _ => ?_) (fun h => by cases h)
    exact ⟨_, rfl, _, rfl, pl, _, _, _, rfl, rfl, hP, at0, _, rfl, pl, _, _, _, rfl, rfl, hP, at1, _, rfl, pl, _, _, _, rfl, rfl, hP, at2, b, g, x0, x1, x2, s0, rfl, hB, hG, q⟩
  · have hsh : some (3, 0) = some (args.length, rows.length) := hsh
    injection hsh with hsh
    injection hsh with ha hr0
    obtain ⟨x0, as0, rfl, hb0⟩ := lenS ha
    obtain ⟨x1, as1, rfl, hb1⟩ := lenS hb0
    obtain ⟨x2, as2, rfl, hb2⟩ := lenS hb1
    obtain rfl := len0 hb2
    obtain rfl := len0 hr0
    obtain rfl := Option.some.inj (show some (Call.inferred x0 x1 x2) = some cl from hcl)
    have hP : SqL K H pl [.int x0, .int x1, .int x2] := hP
    refine sIf false (fun Q q => by walk_at "rd"; exact q) (fun h => by cases h) (fun _ => ?_)
    refine sIf false (fun Q q => by walk_at "rd"; exact q) (fun h => by cases h) (fun _ => ?_)
    refine sIf false (fun Q q => by walk_at "rd"; exact q) (fun h => by cases h) (fun _ => ?_)
    refine sIf true (fun Q q => by walk_at "rd"; exact q) (fun _ => ?_) (fun h => by cases h)
    exact ⟨_, rfl, _, rfl, pl, _, _, _, rfl, rfl, hP, at0, _, rfl, pl, _, _, _, rfl, rfl, hP, at1, _, rfl, pl, _, _, _, rfl, rfl, hP, at2, b, g, x0, x1, x2, s0, rfl, hB, hG, q⟩
  · have hsh : some (1, 0) = some (args.length, rows.length) := hsh
    injection hsh with hsh
    injection hsh with ha hr0
    obtain ⟨x0, as0, rfl, hb0⟩ := lenS ha
    obtain rfl := len0 hb0
    obtain rfl := len0 hr0
    obtain rfl := Option.some.inj (show some (Call.all_ x0) = some cl from hcl)
    have hP : SqL K H pl [.int x0] := hP
    refine sIf false (fun Q q => by walk_at "rd"; exact q) (fun h => by cases h) (fun _ => ?_)
    refine sIf false (fun Q q => by walk_at "rd"; exact q) (fun h => by cases h) (fun _ => ?_)
    refine sIf false (fun Q q => by walk_at "rd"; exact q) (fun h => by cases h) (fun _ => ?_)
    refine sIf false (fun Q q => by walk_at "rd"; exact q) (fun h => by cases h) (fun _ => ?_)
    refine sIf true (fun Q q => by walk_at "rd"; exact q) (fun _ => ?_) (fun h => by cases h)
    exact ⟨_, rfl, _, rfl, pl, _, _, _, rfl, rfl, hP, at0, b, g, x0, s0, rfl, hB, hG, q⟩
  · have hsh : some (1, 1) = some (args.length, rows.length) := hsh
    injection hsh with hsh
    injection hsh with ha hr0
    obtain ⟨x0, as0, rfl, hb0⟩ := lenS ha
    obtain rfl := len0 hb0
    obtain ⟨r0, rows1, rfl, hr1⟩ := lenS hr0
    obtain rfl := len0 hr1
    obtain rfl := Option.some.inj (show some (Call.fits x0 r0) = some cl from hcl)
    have hP : SqL K H pl [.int x0] := hP
    refine sIf false (fun Q q => by walk_at "rd"; exact q) (fun h => by cases h) (fun _ => ?_)
    refine sIf false (fun Q q => by walk_at "rd"; exact q) (fun h => by cases h) (fun _ => ?_)
    refine sIf false (fun Q q => by walk_at "rd"; exact q) (fun h => by cases h) (fun _ => ?_)
    refine sIf false (fun Q q => by walk_at "rd"; exact q) (fun h => by cases h) (fun _ => ?_)
    refine sIf false (fun Q q => by walk_at "rd"; exact q) (fun h => by cases h) (fun _ => ?_)
    refine sIf true (fun Q q => by walk_at "rd"; exact q) (fun _ => ?_) (fun h => by cases h)
    exact ⟨_, rfl, _, rfl, pl, _, _, _, rfl, rfl, hP, at0, _, rfl, b, rw', g, x0, s0, r0, rfl, hB, hG, hR, q⟩
  · have hsh : some (4, 0) = some (args.length, rows.length) := hsh
    injection hsh with hsh
    injection hsh with ha hr0
    obtain ⟨x0, as0, rfl, hb0⟩ := lenS ha
    obtain ⟨x1, as1, rfl, hb1⟩ := lenS hb0
    obtain ⟨x2, as2, rfl, hb2⟩ := lenS hb1
    obtain ⟨x3, as3, rfl, hb3⟩ := lenS hb2
    obtain rfl := len0 hb3
    obtain rfl := len0 hr0
    obtain rfl := Option.some.inj (show some (Call.shows x0 x1 x2 x3) = some cl from hcl)
    have hP : SqL K H pl [.int x0, .int x1, .int x2, .int x3] := hP
    refine sIf false (fun Q q => by walk_at "rd"; exact q) (fun h => by cases h) (fun _ => ?_)
    refine sIf false (fun Q q => by walk_at "rd"; exact q) (fun h => by cases h) (fun _ => ?_)
    refine sIf false (fun Q q => by walk_at "rd"; exact q) (fun h => by cases h) (fun _ => ?_)
    refine sIf false (fun Q q => by walk_at "rd"; exact q) (fun h => by cases h) (fun _ => ?_)
    refine sIf false (fun Q q => by walk_at "rd"; exact q) (fun h => by cases h) (fun _ => ?_)
    refine sIf false (fun Q q => by walk_at "rd"; exact q) (fun h => by cases h) (fun _ => ?_)
    refine sIf true (fun Q q => by walk_at "rd"; exact q) (fun _ => ?_) (fun h => by cases h)
    exact ⟨_, rfl, _, rfl, pl, _, _, _, rfl, rfl, hP, at0, _, rfl, pl, _, _, _, rfl, rfl, hP, at1, _, rfl, pl, _, _, _, rfl, rfl, hP, at2, _, rfl, pl, _, _, _, rfl, rfl, hP, at3, b, g, x0, x1, x2, x3, s0, rfl, hB, hG, q⟩
  · have hsh : some (0, 0) = some (args.length, rows.length) := hsh
    injection hsh with hsh
    injection hsh with ha hr0
    obtain rfl := len0 ha
    obtain rfl := len0 hr0
    obtain rfl := Option.some.inj (show some (Call.leak ) = some cl from hcl)
    refine sIf false (fun Q q => by walk_at "rd"; exact q) (fun h => by cases h) (fun _ => ?_)
    refine sIf false (fun Q q => by walk_at "rd"; exact q) (fun h => by cases h) (fun _ => ?_)
    refine sIf false (fun Q q => by walk_at "rd"; exact q) (fun h => by cases h) (fun _ => ?_)
    refine sIf false (fun Q q => by walk_at "rd"; exact q) (fun h => by cases h) (fun _ => ?_)
    refine sIf false (fun Q q => by walk_at "rd"; exact q) (fun h => by cases h) (fun _ => ?_)
    refine sIf false (fun Q q => by walk_at "rd"; exact q) (fun h => by cases h) (fun _ => ?_)
    refine sIf false (fun Q q => by walk_at "rd"; exact q) (fun h => by cases h) (fun _ => ?_)
    refine sIf true (fun Q q => by walk_at "rd"; exact q) (fun _ => ?_) (fun h => by cases h)
    exact ⟨_, rfl, b, g, s0, rfl, hB, hG, q⟩
  · have hsh : some (0, 0) = some (args.length, rows.length) := hsh
    injection hsh with hsh
    injection hsh with ha hr0
    obtain rfl := len0 ha
    obtain rfl := len0 hr0
    obtain rfl := Option.some.inj (show some (Call.promises ) = some cl from hcl)
    refine sIf false (fun Q q => by walk_at "rd"; exact q) (fun h => by cases h) (fun _ => ?_)
    refine sIf false (fun Q q => by walk_at "rd"; exact q) (fun h => by cases h) (fun _ => ?_)
    refine sIf false (fun Q q => by walk_at "rd"; exact q) (fun h => by cases h) (fun _ => ?_)
    refine sIf false (fun Q q => by walk_at "rd"; exact q) (fun h => by cases h) (fun _ => ?_)
    refine sIf false (fun Q q => by walk_at "rd"; exact q) (fun h => by cases h) (fun _ => ?_)
    refine sIf false (fun Q q => by walk_at "rd"; exact q) (fun h => by cases h) (fun _ => ?_)
    refine sIf false (fun Q q => by walk_at "rd"; exact q) (fun h => by cases h) (fun _ => ?_)
    refine sIf false (fun Q q => by walk_at "rd"; exact q) (fun h => by cases h) (fun _ => ?_)
    refine sIf true (fun Q q => by walk_at "rd"; exact q) (fun _ => ?_) (fun h => by cases h)
    exact ⟨_, rfl, b, g, s0, rfl, hB, hG, q⟩
  · have hsh : some (1, 0) = some (args.length, rows.length) := hsh
    injection hsh with hsh
    injection hsh with ha hr0
    obtain ⟨x0, as0, rfl, hb0⟩ := lenS ha
    obtain rfl := len0 hb0
    obtain rfl := len0 hr0
    obtain rfl := Option.some.inj (show some (Call.told x0) = some cl from hcl)
    have hP : SqL K H pl [.int x0] := hP
    refine sIf false (fun Q q => by walk_at "rd"; exact q) (fun h => by cases h) (fun _ => ?_)
    refine sIf false (fun Q q => by walk_at "rd"; exact q) (fun h => by cases h) (fun _ => ?_)
    refine sIf false (fun Q q => by walk_at "rd"; exact q) (fun h => by cases h) (fun _ => ?_)
    refine sIf false (fun Q q => by walk_at "rd"; exact q) (fun h => by cases h) (fun _ => ?_)
    refine sIf false (fun Q q => by walk_at "rd"; exact q) (fun h => by cases h) (fun _ => ?_)
    refine sIf false (fun Q q => by walk_at "rd"; exact q) (fun h => by cases h) (fun _ => ?_)
    refine sIf false (fun Q q => by walk_at "rd"; exact q) (fun h => by cases h) (fun _ => ?_)
    refine sIf false (fun Q q => by walk_at "rd"; exact q) (fun h => by cases h) (fun _ => ?_)
    refine sIf false (fun Q q => by walk_at "rd"; exact q) (fun h => by cases h) (fun _ => ?_)
    refine sIf true (fun Q q => by walk_at "rd"; exact q) (fun _ => ?_) (fun h => by cases h)
    exact ⟨_, rfl, _, rfl, pl, _, _, _, rfl, rfl, hP, at0, b, g, x0, s0, rfl, hB, hG, q⟩
  · have hsh : some (2, 0) = some (args.length, rows.length) := hsh
    injection hsh with hsh
    injection hsh with ha hr0
    obtain ⟨x0, as0, rfl, hb0⟩ := lenS ha
    obtain ⟨x1, as1, rfl, hb1⟩ := lenS hb0
    obtain rfl := len0 hb1
    obtain rfl := len0 hr0
    obtain rfl := Option.some.inj (show some (Call.sum x0 x1) = some cl from hcl)
    have hP : SqL K H pl [.int x0, .int x1] := hP
    refine sIf false (fun Q q => by walk_at "rd"; exact q) (fun h => by cases h) (fun _ => ?_)
    refine sIf false (fun Q q => by walk_at "rd"; exact q) (fun h => by cases h) (fun _ => ?_)
    refine sIf false (fun Q q => by walk_at "rd"; exact q) (fun h => by cases h) (fun _ => ?_)
    refine sIf false (fun Q q => by walk_at "rd"; exact q) (fun h => by cases h) (fun _ => ?_)
    refine sIf false (fun Q q => by walk_at "rd"; exact q) (fun h => by cases h) (fun _ => ?_)
    refine sIf false (fun Q q => by walk_at "rd"; exact q) (fun h => by cases h) (fun _ => ?_)
    refine sIf false (fun Q q => by walk_at "rd"; exact q) (fun h => by cases h) (fun _ => ?_)
    refine sIf false (fun Q q => by walk_at "rd"; exact q) (fun h => by cases h) (fun _ => ?_)
    refine sIf false (fun Q q => by walk_at "rd"; exact q) (fun h => by cases h) (fun _ => ?_)
    refine sIf false (fun Q q => by walk_at "rd"; exact q) (fun h => by cases h) (fun _ => ?_)
    exact ⟨_, rfl, _, rfl, pl, _, _, _, rfl, rfl, hP, at0, _, rfl, pl, _, _, _, rfl, rfl, hP, at1, b, g, x0, x1, s0, rfl, hB, hG, q⟩
end
end Tl

namespace Tl
open PySem PySem.Spec PyProof.Rows L2 SctSecret SctBase
section
variable {P : Program} {w : World} {K : PySem.W.Frag} {mg : Str → Option Value} {base : Heap} {C aS aW : Addr}
local macro_rules | `(tactic| walk_at "rd") => `(tactic| simp only [L2.start, wipe, List.replicate_succ, List.replicate_zero, Nat.reduceSub, Nat.reduceAdd, Nat.zero_add, List.map_cons, List.map_nil, List.length_cons, List.length_nil, tSeq, tRet, tAsg, gName, gTup, gCons, gNil, tVar, tC, tOp, tUn, rI0, rI, rU, rEq, rNe, tChain, tChain3, tCons, tNil, tOrV, tAndV, tIfS, tNext, tTest, tB, tNot, tAnd, tOr, tAug, ipI, tCall, tCB, tDrop, tBM, tBM0, tFld, tMeth, rAppend, rExtend, rCat, tTup, tLst, rIxL, rIxT, scal, V.bl.injEq, V.int.injEq, V.ref.injEq, List.cons.injEq, and_true, List.getElem?_cons_succ, List.getElem?_cons_zero, List.cons_append, List.nil_append, List.append_nil, Option.some.injEq, exists_eq_left', exists_and_left, and_assoc, Int.natCast_inj, Int.zero_add, true_and, List.set_cons_succ, List.set_cons_zero])
open PyFlat (putRow putRows put1 put okCall)
theorem ite4or {a b c d : Bool} {Q : Bool → Prop} (q : Q (a || (b || (c || d)))) : if a = true then Q true else if b = true then Q true else if c = true then Q true else Q d := by
  cases a <;> cases b <;> cases c <;> exact q
/-- a call that is in form is one of the fifteen -/
theorem read_some {p : Int} {args : List Int} {rows : List (List Int)} (h : PyWrsctx.shape p = some (args.length, rows.length)) : ∃ cl, SctSecretNeutral.read ((p :: args) :: rows) = some cl := by
  by_cases c1 : p = 1
  · subst c1
    have h : some (0, 1) = some (args.length, rows.length) := h
    injection h with h
    injection h with hb hr
    obtain rfl := len0 hb
    obtain ⟨r0, rs0, rfl, hr0⟩ := lenS hr
    obtain rfl := len0 hr0
    exact ⟨_, rfl⟩
  by_cases c2 : p = 2
  · subst c2
    have h : some (4, 0) = some (args.length, rows.length) := h
    injection h with h
    injection h with hb hr
    obtain ⟨x0, as0, rfl, hb0⟩ := lenS hb
    obtain ⟨x1, as1, rfl, hb1⟩ := lenS hb0
    obtain ⟨x2, as2, rfl, hb2⟩ := lenS hb1
    obtain ⟨x3, as3, rfl, hb3⟩ := lenS hb2
    obtain rfl := len0 hb3
    obtain rfl := len0 hr
    exact ⟨_, rfl⟩
  by_cases c3 : p = 3
  · subst c3
    have h : some (5, 0) = some (args.length, rows.length) := h
    injection h with h
    injection h with hb hr
    obtain ⟨x0, as0, rfl, hb0⟩ := lenS hb
    obtain ⟨x1, as1, rfl, hb1⟩ := lenS hb0
    obtain ⟨x2, as2, rfl, hb2⟩ := lenS hb1
    obtain ⟨x3, as3, rfl, hb3⟩ := lenS hb2
    obtain ⟨x4, as4, rfl, hb4⟩ := lenS hb3
    obtain rfl := len0 hb4
    obtain rfl := len0 hr
    exact ⟨_, rfl⟩
  by_cases c4 : p = 4
  · subst c4
    have h : some (5, 0) = some (args.length, rows.length) := h
    injection h with h
    injection h with hb hr
    obtain ⟨x0, as0, rfl, hb0⟩ := lenS hb
    obtain ⟨x1, as1, rfl, hb1⟩ := lenS hb0
    obtain ⟨x2, as2, rfl, hb2⟩ := lenS hb1
    obtain ⟨x3, as3, rfl, hb3⟩ := lenS hb2
    obtain ⟨x4, as4, rfl, hb4⟩ := lenS hb3
    obtain rfl := len0 hb4
    obtain rfl := len0 hr
    exact ⟨_, rfl⟩
  by_cases c5 : p = 5
  · subst c5
    have h : some (6, 0) = some (args.length, rows.length) := h
    injection h with h
    injection h with hb hr
    obtain ⟨x0, as0, rfl, hb0⟩ := lenS hb
    obtain ⟨x1, as1, rfl, hb1⟩ := lenS hb0
    obtain ⟨x2, as2, rfl, hb2⟩ := lenS hb1
    obtain ⟨x3, as3, rfl, hb3⟩ := lenS hb2
    obtain ⟨x4, as4, rfl, hb4⟩ := lenS hb3
    obtain ⟨x5, as5, rfl, hb5⟩ := lenS hb4
    obtain rfl := len0 hb5
    obtain rfl := len0 hr
    exact ⟨_, rfl⟩
  by_cases c6 : p = 6
  · subst c6
    have h : some (3, 0) = some (args.length, rows.length) := h
    injection h with h
    injection h with hb hr
    obtain ⟨x0, as0, rfl, hb0⟩ := lenS hb
    obtain ⟨x1, as1, rfl, hb1⟩ := lenS hb0
    obtain ⟨x2, as2, rfl, hb2⟩ := lenS hb1
    obtain rfl := len0 hb2
    obtain rfl := len0 hr
    exact ⟨_, rfl⟩
  by_cases c7 : p = 7
  · subst c7
    have h : some (1, 0) = some (args.length, rows.length) := h
    injection h with h
    injection h with hb hr
    obtain ⟨x0, as0, rfl, hb0⟩ := lenS hb
    obtain rfl := len0 hb0
    obtain rfl := len0 hr
    exact ⟨_, rfl⟩
  by_cases c8 : p = 8
  · subst c8
    have h : some (3, 0) = some (args.length, rows.length) := h
    injection h with h
    injection h with hb hr
    obtain ⟨x0, as0, rfl, hb0⟩ := lenS hb
    obtain ⟨x1, as1, rfl, hb1⟩ := lenS hb0
    obtain ⟨x2, as2, rfl, hb2⟩ := lenS hb1
    obtain rfl := len0 hb2
    obtain rfl := len0 hr
    exact ⟨_, rfl⟩
  by_cases c9 : p = 9
  · subst c9
    have h : some (1, 0) = some (args.length, rows.length) := h
    injection h with h
    injection h with hb hr
    obtain ⟨x0, as0, rfl, hb0⟩ := lenS hb
    obtain rfl := len0 hb0
    obtain rfl := len0 hr
    exact ⟨_, rfl⟩
  by_cases c10 : p = 10
  · subst c10
    have h : some (1, 1) = some (args.length, rows.length) := h
    injection h with h
    injection h with hb hr
    obtain ⟨x0, as0, rfl, hb0⟩ := lenS hb
    obtain rfl := len0 hb0
    obtain ⟨r0, rs0, rfl, hr0⟩ := lenS hr
    obtain rfl := len0 hr0
    exact ⟨_, rfl⟩
  by_cases c11 : p = 11
  · subst c11
    have h : some (4, 0) = some (args.length, rows.length) := h
    injection h with h
    injection h with hb hr
    obtain ⟨x0, as0, rfl, hb0⟩ := lenS hb
    obtain ⟨x1, as1, rfl, hb1⟩ := lenS hb0
    obtain ⟨x2, as2, rfl, hb2⟩ := lenS hb1
    obtain ⟨x3, as3, rfl, hb3⟩ := lenS hb2
    obtain rfl := len0 hb3
    obtain rfl := len0 hr
    exact ⟨_, rfl⟩
  by_cases c12 : p = 12
  · subst c12
    have h : some (0, 0) = some (args.length, rows.length) := h
    injection h with h
    injection h with hb hr
    obtain rfl := len0 hb
    obtain rfl := len0 hr
    exact ⟨_, rfl⟩
  by_cases c13 : p = 13
  · subst c13
    have h : some (0, 0) = some (args.length, rows.length) := h
    injection h with h
    injection h with hb hr
    obtain rfl := len0 hb
    obtain rfl := len0 hr
    exact ⟨_, rfl⟩
  by_cases c14 : p = 14
  · subst c14
    have h : some (1, 0) = some (args.length, rows.length) := h
    injection h with h
    injection h with hb hr
    obtain ⟨x0, as0, rfl, hb0⟩ := lenS hb
    obtain rfl := len0 hb0
    obtain rfl := len0 hr
    exact ⟨_, rfl⟩
  by_cases c15 : p = 15
  · subst c15
    have h : some (2, 0) = some (args.length, rows.length) := h
    injection h with h
    injection h with hb hr
    obtain ⟨x0, as0, rfl, hb0⟩ := lenS hb
    obtain ⟨x1, as1, rfl, hb1⟩ := lenS hb0
    obtain rfl := len0 hb1
    obtain rfl := len0 hr
    exact ⟨_, rfl⟩
  unfold PyWrsctx.shape at h
  rw [if_neg c1, if_neg c2, if_neg c3, if_neg c4, if_neg c5, if_neg c6, if_neg c7, if_neg c8, if_neg c9, if_neg c10, if_neg c11, if_neg c12, if_neg c13, if_neg c14, if_neg c15] at h
  cases h
theorem good_step {s : State} (g : Good s) (c : Call) : Good (SctSecret.step s c).1 := by
  cases c with
  | formula l =>
    show Good (if l.length < 1 ∨ PARTS < l.length ∨ isShares l = false then (s, no 1) else
      if sumN (l.map Int.toNat) ≠ WHOLE then (s, no 4) else (⟨l.map Int.toNat, [], []⟩, tells [num (l.map Int.toNat).length])).1
    split
    · exact g
    · rename_i h
      split
      · exact g
      · rename_i h2
        refine ⟨?_, ?_, (fun x hx => by cases hx), (fun x hx => by cases hx), Nat.zero_le _, Nat.zero_le _⟩
        · show (l.map Int.toNat).length ≤ 10
          rw [List.length_map]
          unfold PARTS at h
          omega
        · show sumN (l.map Int.toNat) ≤ 1000000
          unfold WHOLE at h2
          omega
  | promise m i j w =>
    show Good (if isSet m = false ∨ isRun i j = false ∨ w < 0 ∨ (WHOLE : Int) < w then (s, no 1) else if runThere s j = false then (s, no 3) else if (s.promises.any fun (p : Promise) => p.to_ == m.toNat && (p.first == i.toNat && p.last == j.toNat)) = true then (s, no 8) else if wide s.shares.length (knownTo m.toNat s.facts) i.toNat j.toNat < w then (s, no 4) else if PROMISES ≤ s.promises.length then (s, no 9) else ({ s with promises := s.promises ++ [⟨m.toNat, i.toNat, j.toNat, w.toNat⟩] }, tells [num (s.promises.length + 1)])).1
    split
    · exact g
    · rename_i h1
      split
      · exact g
      · rename_i h2
        split
        · exact g
        · split
          · exact g
          · split
            · exact g
            · rename_i h5
              refine ⟨g.len, g.sum, g.facts, fun x hx => ?_, g.nf, ?_⟩
              · rcases List.mem_append.mp hx with hx | hx
                · exact g.proms x hx
                · rw [List.mem_singleton] at hx
                  subst hx
                  have hr : isRun i j = true := by
                    cases e : isRun i j with
                    | true => rfl
                    | false => exact absurd (.inr (.inl e)) h1
                  obtain ⟨_, jn, ij⟩ := nat_of_run hr
                  unfold runThere at h2
                  rw [Bool.not_eq_false, decide_eq_true_eq] at h2
                  exact ⟨ij, by show j.toNat < s.shares.length; omega⟩
              · show (s.promises ++ [_]).length ≤ 12
                rw [List.length_append]
                unfold PROMISES at h5
                show s.promises.length + 1 ≤ 12
                omega
  | tell m i j a b =>
    show Good (if wrong s m i j a b ≠ 0 then (s, no (wrong s m i j a b)) else if keeps s (withFact s m i j a b) = false then (s, no 7) else if FACTS ≤ s.facts.length then (s, no 9) else ({ s with facts := withFact s m i j a b }, tells [num (s.facts.length + 1)])).1
    split
    · exact g
    · rename_i h1
      split
      · exact g
      · split
        · exact g
        · rename_i h3
          have hw : wrongL s.shares m i j a b = 0 := by
            have : wrong s m i j a b = 0 := by omega
            exact this
          obtain ⟨_, g2, _, g4, _⟩ := wrong_none hw
          refine ⟨g.len, g.sum, fok_with g g2 g4, g.proms, ?_, g.np⟩
          show (s.facts ++ [_]).length ≤ 40
          rw [List.length_append]
          unfold FACTS at h3
          show s.facts.length + 1 ≤ 40
          omega
  | meet m =>
    show Good (if isSet m = false then (s, no 1) else if keeps s (s.facts.map (toldOn m.toNat)) = false then (s, no 7) else ({ s with facts := s.facts.map (toldOn m.toNat) }, tells [])).1
    split
    · exact g
    · split
      · exact g
      · exact ⟨g.len, g.sum, fok_told g, g.proms, by show (s.facts.map _).length ≤ 40; rw [List.length_map]; exact g.nf, g.np⟩
  | may m i j a b => exact g
  | would m i j a b k => exact g
  | finest m i j => exact g
  | inferred k i j => exact g
  | all_ k => exact g
  | fits k l => exact g
  | shows k i j e => exact g
  | leak => exact g
  | promises => exact g
  | told k => exact g
  | sum i j => exact g
theorem good_start : Good SctSecret.start := ⟨by decide, by decide, (fun x hx => by cases hx), (fun x hx => by cases hx), by decide, by decide⟩
theorem whole_id (c : List (List Int)) : PyWrsctx.whole c = c := by
  unfold PyWrsctx.whole
  split <;> rfl
/-- the state behind so many calls -/
def stAfter (s : State) (cs : List (List (List Int))) : State := cs.foldl (fun s c => (SctSecretNeutral.step s c).1) s
theorem played_snoc : ∀ (l : List (List (List Int))) (s : State) (c : List (List Int)), PyFlat.played SctSecretNeutral.step s (l ++ [c]) = PyFlat.played SctSecretNeutral.step s l ++ [(SctSecretNeutral.step (stAfter s l) c).2]
  | [], s, c => rfl
  | d :: l, s, c => by
    show (SctSecretNeutral.step s d).2 :: PyFlat.played SctSecretNeutral.step (SctSecretNeutral.step s d).1 (l ++ [c]) = _
    rw [played_snoc l _ c]
    rfl
theorem stAfter_snoc (s : State) (l : List (List (List Int))) (c : List (List Int)) : stAfter s (l ++ [c]) = (SctSecretNeutral.step (stAfter s l) c).1 := by
  unfold stAfter
  rw [List.foldl_append]
  rfl
theorem told_snoc (l : List (List Int)) (a : List Int) : PyFlat.told (l ++ [a]) = PyFlat.told l ++ ((a.length : Int) :: a) := by
  unfold PyFlat.told
  rw [List.flatMap_append]
  show _ ++ (((a.length : Int) :: a) ++ []) = _
  rw [List.append_nil]
theorem told_append (l m : List (List Int)) : PyFlat.told (l ++ m) = PyFlat.told l ++ PyFlat.told m := by
  unfold PyFlat.told
  rw [List.flatMap_append]
theorem played_append : ∀ (l m : List (List (List Int))) (s : State), PyFlat.played SctSecretNeutral.step s (l ++ m) = PyFlat.played SctSecretNeutral.step s l ++ PyFlat.played SctSecretNeutral.step (stAfter s l) m
  | [], m, s => rfl
  | d :: l, m, s => by
    show (SctSecretNeutral.step s d).2 :: PyFlat.played SctSecretNeutral.step (SctSecretNeutral.step s d).1 (l ++ m) = _
    rw [played_append l m _]
    rfl
theorem put_append : ∀ (l m : List (List (List Int))), put (l ++ m) = put l ++ put m
  | [], m => rfl
  | c :: l, m => by
    show put1 c ++ put (l ++ m) = put1 c ++ put l ++ put m
    rw [put_append l m, List.append_assoc]
theorem put_one (c : List (List Int)) : put [c] = put1 c := List.append_nil _
theorem step_read {s : State} {c : List (List Int)} {cl : Call} (h : SctSecretNeutral.read c = some cl) : SctSecretNeutral.step s c = ((SctSecret.step s cl).1, ans s cl) := by
  unfold SctSecretNeutral.step ans
  rw [h]
/-- the book stands when the answers' list grows -/
theorem BookAt.updg {C : Addr} {H : Hp} {g b : Addr} {s : State} {xs ys : List V} (h : BookAt C H g b s) (hg : H g = some (.lst xs)) : BookAt C (upd H g (.lst ys)) g b s := by
  obtain ⟨dx, a1, a2, a3, h⟩ := h
  have rw' : ∀ {a : Addr} {rows : List (List V)}, a ≠ g → Rows H .tup a rows → Rows (upd H g (.lst ys)) .tup a rows := fun n ⟨xs', h1, h2, h3⟩ => ⟨xs', by rw [upd_ne n]; exact h1, h2, fun i f e => by
    obtain ⟨p, e1, e2, e3⟩ := h3 i f e
    refine ⟨p, e1, e2, ?_⟩
    rw [upd_ne (fun z => by rw [z, hg] at e3; cases e3)]
    exact e3⟩
  exact ⟨dx, a1, a2, a3, by rw [upd_ne h.nb]; exact h.ins, by rw [upd_ne h.n1]; exact h.sh, rw' h.n2 h.pr, rw' h.n3 h.fa, h.n1, h.n2, h.n3, h.nb⟩
def spCall (K : PySem.W.Frag) (C : Addr) : Sp := fun vs H Q _ => ∃ (b pl rw' g : Addr) (p : Int) (args : List Int) (rows : List (List Int)) (s : State) (cl : Call), vs = [.ref b, .int p, .ref pl, .ref rw'] ∧ PyWrsctx.shape p = some (args.length, rows.length) ∧ SctSecretNeutral.read ((p :: args) :: rows) = some cl ∧ BookAt C H g b s ∧ Good s ∧ H g ≠ none ∧ SqL K H pl (rV args) ∧ SqL K H rw' (rV (rows.headD [])) ∧ Ans C H g b s cl Q
local macro_rules | `(tactic| walk_at "rd") => `(tactic| simp only [L2.start, wipe, List.replicate_succ, List.replicate_zero, Nat.reduceSub, Nat.reduceAdd, Nat.zero_add, List.map_cons, List.map_nil, List.length_cons, List.length_nil, tSeq, tRet, tAsg, gName, gTup, gCons, gNil, tVar, tC, tOp, tUn, rI0, rI, rU, rEq, rNe, tChain, tChain3, tCons, tNil, tOrV, tAndV, tIfS, tNext, tTest, tB, tNot, tAnd, tOr, tAug, ipI, tCall, tCB, tDrop, tBM, tBM0, tFld, tMeth, rAppend, rExtend, rCat, tTup, tLst, rIxL, rIxT, scal, V.bl.injEq, V.int.injEq, V.ref.injEq, List.cons.injEq, and_true, List.getElem?_cons_succ, List.getElem?_cons_zero, List.cons_append, List.nil_append, List.append_nil, Option.some.injEq, exists_eq_left', exists_and_left, and_assoc, Int.natCast_inj, Int.zero_add, true_and, List.set_cons_succ, List.set_cons_zero, spChange, spQuestion])
theorem ok_answer_call (T : Txt K mg C aS aW) : FnG P w K mg base 12 "answer_call" p_answer_call (spCall K C) := by
  obtain ⟨_, _, g_answer_change, k_answer_change, b_answer_change, o_answer_change⟩ := (ok_answer_change (P := P) (w := w) (base := base) T).ex
  obtain ⟨_, _, g_answer_question, k_answer_question, b_answer_question, o_answer_question⟩ := (ok_answer_question (P := P) (w := w) (base := base) T).ex
  refine FnG.of T.d_answer_call sc_answer_call (fun _ _ _ _ _ _ us hl => match us, hl with | [_, _, _, _], _ => rfl) (by rintro vs H Q E ⟨b, pl, rw', g, p, args, rows, s0, cl, rfl, hsh, hcl, hB, hG, hg, hP, hR, q⟩; rfl) (fun f cdv A outer s H vs Q E hr h => ?_)
  obtain ⟨b, pl, rw', g, p, args, rows, s0, cl, rfl, hsh, hcl, hB, hG, hg, hP, hR, q⟩ := h
  refine ⟨_, (pss_cons (ps_if (PW.pt (pw_or (pt_cmpR op_eq (pv 1) (pe_gint T.c_FORMULA rfl) (nomark _)) (pw_or (pt_cmpR op_eq (pv 1) (pe_gint T.c_PROMISE rfl) (nomark _)) (pw_or (pt_cmpR op_eq (pv 1) (pe_gint T.c_TELL rfl) (nomark _)) (pw_or1 (pt_cmpR op_eq (pv 1) (pe_gint T.c_MEET rfl) (nomark _))))))) (pss_one (ps_ret (pe_call o_answer_change (hr.mono (by decide)) rfl g_answer_change k_answer_change b_answer_change .nil pass0 (pa_cons (pv 0) (pa_cons (pv 1) (pa_cons (pv 2) (pa_cons (pv 3) pa_nil))))))) pss_nil)
      (pss_one (ps_ret (pe_call o_answer_question (hr.mono (by decide)) rfl g_answer_question k_answer_question b_answer_question .nil pass0 (pa_cons (pv 0) (pa_cons (pv 1) (pa_cons (pv 2) (pa_cons (pv 3) pa_nil)))))))), ?_⟩
  refine sIf (decide (p = 1) || (decide (p = 2) || (decide (p = 3) || decide (p = 7)))) (fun Q q => ?_) (fun h => ?_) (fun h => ?_)
  · walk_at "rd"
    exact ite4or (Q := fun z => Q z H) q
  · rw [Bool.or_eq_true, Bool.or_eq_true, Bool.or_eq_true, decide_eq_true_eq, decide_eq_true_eq, decide_eq_true_eq, decide_eq_true_eq] at h
    exact ⟨_, rfl, _, rfl, _, rfl, _, rfl, b, pl, rw', g, p, args, rows, s0, cl, rfl, hsh, hcl, hB, hG, hg, hP, hR, h, q⟩
  · rw [Bool.or_eq_false_iff, Bool.or_eq_false_iff, Bool.or_eq_false_iff, decide_eq_false_iff_not, decide_eq_false_iff_not, decide_eq_false_iff_not, decide_eq_false_iff_not] at h
    have hp : p = 4 ∨ p = 5 ∨ p = 6 ∨ p = 8 ∨ p = 9 ∨ p = 10 ∨ p = 11 ∨ p = 12 ∨ p = 13 ∨ p = 14 ∨ p = 15 := by
      obtain ⟨i, ep, hw, _⟩ := shape_is hsh
      have hi : i < 16 := (List.getElem?_eq_some_iff.mp hw).1
      have h0 : i ≠ 0 := fun z => by
        subst z
        subst ep
        cases hsh
      omega
    exact ⟨_, rfl, _, rfl, _, rfl, _, rfl, b, pl, rw', g, p, args, rows, s0, cl, rfl, hsh, hcl, hB, hG, hg, hP, hR, hp, q⟩
end
end Tl

namespace Tl
open PySem PySem.Spec PyProof.Rows L2 SctSecret SctBase
section
variable {P : Program} {w : World} {K : PySem.W.Frag} {mg : Str → Option Value} {base : Heap} {C aS aW : Addr}
local macro_rules | `(tactic| walk_at "rd") => `(tactic| simp only [L2.start, wipe, List.replicate_succ, List.replicate_zero, Nat.reduceSub, Nat.reduceAdd, Nat.zero_add, List.map_cons, List.map_nil, List.length_cons, List.length_nil, tSeq, tRet, tAsg, gName, gTup, gCons, gNil, tVar, tC, tOp, tUn, rI0, rI, rU, rEq, rNe, tChain, tChain3, tCons, tNil, tOrV, tAndV, tIfS, tNext, tTest, tB, tNot, tAnd, tOr, tAug, ipI, tCall, tCB, tDrop, tBM, tBM0, tFld, tMeth, rAppend, rExtend, rCat, tTup, tLst, rIxL, rIxT, scal, V.bl.injEq, V.int.injEq, V.ref.injEq, List.cons.injEq, and_true, List.getElem?_cons_succ, List.getElem?_cons_zero, List.cons_append, List.nil_append, List.append_nil, Option.some.injEq, exists_eq_left', exists_and_left, and_assoc, Int.natCast_inj, Int.zero_add, true_and, List.set_cons_succ, List.set_cons_zero])
open PyFlat (putRow putRows put1 put okCall)
def spAnswers (K : PySem.W.Frag) : Sp := fun vs H Q _ => ∃ (a : Addr) (ns : List Int), vs = [.ref a] ∧ SqL K H a (ns.map V.int) ∧ ns.length ≤ 900 ∧ PyWrsctx.answers_asked ns = true ∧ ∀ (H' : Hp) (p : Addr), H' p = some (.lst ((PyWrsctx.answers ns).map V.int)) → Q (.ref p) H'
local macro_rules | `(tactic| walk_at "rd") => `(tactic| simp only [L2.start, wipe, List.replicate_succ, List.replicate_zero, Nat.reduceSub, Nat.reduceAdd, Nat.zero_add, List.map_cons, List.map_nil, List.length_cons, List.length_nil, tSeq, tRet, tAsg, gName, gTup, gCons, gNil, tVar, tC, tOp, tUn, rI0, rI, rU, rEq, rNe, tChain, tChain3, tCons, tNil, tOrV, tAndV, tIfS, tNext, tTest, tB, tNot, tAnd, tOr, tAug, ipI, tCall, tCB, tDrop, tBM, tBM0, tFld, tMeth, rAppend, rExtend, rCat, tTup, tLst, rIxL, rIxT, scal, V.bl.injEq, V.int.injEq, V.ref.injEq, List.cons.injEq, and_true, List.getElem?_cons_succ, List.getElem?_cons_zero, List.cons_append, List.nil_append, List.append_nil, Option.some.injEq, exists_eq_left', exists_and_left, and_assoc, Int.natCast_inj, Int.zero_add, true_and, List.set_cons_succ, List.set_cons_zero, spCall, spCallEnd, spInit, spPlainOf, spRowOf])
theorem ok_answers {f : Addr} {fd : FuncData} (F : Fun K "answers" "answers" s_answers f fd) (T : Txt K mg C aS aW) : FnOk P w K mg base CX0 13 f fd p_answers (spAnswers K) := by
  obtain ⟨_, _, m_Book___init__, b_Book___init__, o_Book___init__⟩ := (ok_Book___init__ (P := P) (w := w) (base := base) T).ex
  obtain ⟨_, _, g_answer_call, k_answer_call, b_answer_call, o_answer_call⟩ := (ok_answer_call (P := P) (w := w) (base := base) T).ex
  obtain ⟨_, _, g_call_end, k_call_end, b_call_end, o_call_end⟩ := (ok_call_end (P := P) (w := w) (base := base) T).ex
  obtain ⟨_, _, g_plain_of, k_plain_of, b_plain_of, o_plain_of⟩ := (ok_plain_of (P := P) (w := w) (base := base) T).ex
  obtain ⟨_, _, g_row_of, k_row_of, b_row_of, o_row_of⟩ := (ok_row_of (P := P) (w := w) (base := base) T).ex
  refine F.ok sc_answers (by rintro vs H Q E ⟨a, ns, rfl, hS, hlen, hask, q⟩; rfl) (fun cdv A outer s H vs Q E hr h => ?_)
  obtain ⟨a, ns, rfl, hS, hlen, hask, q⟩ := h
  refine ⟨_, (pss_cons (ps_set (i := 1) sc_answers.nd rfl (Or.inl rfl) (pe_callTy call_list_of rfl T.b_list (by decide +kernel) (pa_cons (pv 0) pa_nil)))
      (pss_cons (ps_set (i := 2) sc_answers.nd rfl (Or.inl rfl) (pe_make0 ⟨T.mC, m_Book___init__.at_, m_Book___init__.fn, T.kC⟩ o_Book___init__ (hr.mono (by decide)) rfl T.g_Book b_Book___init__ .nil pass0))
      (pss_cons (ps_set (i := 3) sc_answers.nd rfl (Or.inl rfl) (pe_lst pa_nil))
      (pss_cons (ps_set (i := 4) sc_answers.nd rfl (Or.inl rfl) pe_int)
      (pss_cons (ps_while PassesOwn.never (pt_cmpR op_lt (pv 4) (pe_callB call_len_seq rfl T.b_len PySem.boot_len (pa_cons (pv 1) pa_nil)) (nomark _)) (pss_cons (ps_set (i := 5) sc_answers.nd rfl (Or.inl rfl) (pe_call o_answer_call (hr.mono (by decide)) rfl g_answer_call k_answer_call b_answer_call .nil pass0 (pa_cons (pv 2) (pa_cons (pe_ix (ix_listK (K := K) rfl) (pv 1) (pv 4) (fun _ _ => rfl)) (pa_cons (pe_call o_plain_of (hr.mono (by decide)) rfl g_plain_of k_plain_of b_plain_of .nil pass0 (pa_cons (pv 1) (pa_cons (pv 4) pa_nil))) (pa_cons (pe_call o_row_of (hr.mono (by decide)) rfl g_row_of k_row_of b_row_of .nil pass0 (pa_cons (pv 1) (pa_cons (pv 4) pa_nil))) pa_nil))))))
      (pss_cons (ps_expr (pe_bm PySem.F.plainAttrs_list PySem.F.slot_list_append PySem.F.type_list_append mt_append (pv 3) (pa_cons (pe_callB call_len_seq rfl T.b_len PySem.boot_len (pa_cons (pv 5) pa_nil)) pa_nil)))
      (pss_cons (ps_expr (pe_bm PySem.F.plainAttrs_list PySem.F.slot_list_extend PySem.F.type_list_extend mt_extend (pv 3) (pa_cons (pv 5) pa_nil)))
      (pss_one (ps_set (i := 4) sc_answers.nd rfl (Or.inl rfl) (pe_call o_call_end (hr.mono (by decide)) rfl g_call_end k_call_end b_call_end .nil pass0 (pa_cons (pv 1) (pa_cons (pv 4) pa_nil)))))))))
      (pss_one (ps_ret (pv 3)))))))), ?_⟩
  unfold PyWrsctx.answers_asked at hask
  cases hraw : PyFlat.calls PyWrsctx.shape ns.length ns with
  | none =>
    rw [hraw] at hask
    cases hask
  | some raw =>
    rw [hraw] at hask
    obtain ⟨hput, hok⟩ := PyFlat.put_calls _ _ _ hraw
    have hans : PyWrsctx.answers ns = PyFlat.told (PyFlat.played SctSecretNeutral.step SctSecret.start raw) := by
      unfold PyWrsctx.answers PyWrsctx.calls
      rw [hraw]
      show PyFlat.told (PyFlat.played SctSecretNeutral.step SctSecretNeutral.start (raw.map PyWrsctx.whole)) = _
      rw [List.map_congr_left (g := id) (fun c _ => whole_id c), List.map_id]
      rfl
    have hshort : (PyWrsctx.answers ns).length ≤ 10000000 := by
      have h2 := (Bool.and_eq_true_iff.mp hask).2
      unfold PyFlat.short at h2
      exact of_decide_eq_true h2
    refine sSet ⟨_, rfl, a, _, rfl, .inl hS, fun ln nl => ?_⟩
    have s1 : Same H (upd H ln (.lst (ns.map V.int))) := same_new nl
    have l1 : (upd H ln (.lst (ns.map V.int))) ln = some (.lst (rV ns)) := upd_same
    generalize upd H ln (.lst (ns.map V.int)) = H1 at s1 l1
    refine sSet (fun b dx nb ndx ne => ⟨b, dx, rfl, upd_same, fun H3 k3 hB3 => ⟨rfl, ?_⟩⟩)
    have s3 : Same H1 H3 := Same.made nb ndx k3
    refine sSet ⟨Nat.zero_le _, fun gv ng => ?_⟩
    have s4 : Same H3 (upd H3 gv (.lst [])) := same_new ng
    have hB4 := (hB3 gv ng).same s4
    have g4 : (upd H3 gv (.lst [])) gv = some (.lst []) := upd_same
    have l4 := s4 _ _ (s3 _ _ l1)
    have lg : ln ≠ gv := ne_of_none (s3 _ _ l1) ng
    generalize upd H3 gv (.lst []) = H4 at s4 hB4 g4 l4
    refine sSet ?_
    refine ⟨fun m σ H' => ∃ (c1 c2 : List (List (List Int))) (s : State) (v5 : Option V), m = c2.length ∧ raw = c1 ++ c2 ∧ σ = [some (.ref a), some (.ref ln), some (.ref b), some (.ref gv), some (.int ((put c1).length : Nat)), v5] ∧ s = stAfter SctSecret.start c1 ∧ BookAt C H' gv b s ∧ Good s ∧ H' ln = some (.lst (rV ns)) ∧ H' gv = some (.lst (rV (PyFlat.told (PyFlat.played SctSecretNeutral.step SctSecret.start c1)))), ⟨raw.length, [], raw, _, none, rfl, rfl, rfl, rfl, hB4, good_start, l4, g4⟩, ?_⟩
    rintro m σ H' ⟨c1, c2, s0, v5, rfl, hcs, rfl, hs0, hB, hG, hl, hgv⟩
    refine ⟨_, rfl, _, rfl, ln, _, rfl, .inl (SqL.of hl), _, _, rfl, rfl, _, rfl, ?_⟩
    cases c2 with
    | nil =>
      rw [List.append_nil] at hcs
      refine iteFf (decide_eq_false ?_) ⟨_, rfl, q H' gv ?_⟩
      · rw [rV_len, hput, hcs]
        omega
      · rw [hgv, hans, hcs]
        rfl
    | cons c c2 =>
      obtain ⟨p, args, rows, rfl, hsh⟩ := hok c (by rw [hcs]; exact List.mem_append.mpr (.inr (List.mem_cons_self ..)))
      have hns : ns = put c1 ++ ((p :: args) ++ (putRows rows ++ put c2)) := by
        rw [hput, hcs, put_append]
        show put c1 ++ (((p :: args) ++ putRows rows) ++ put c2) = _
        rw [List.append_assoc]
      have hC : CallAt ns (put c1).length p args rows := ⟨⟨put c1, put c2, rfl, hns⟩, hsh⟩
      obtain ⟨cl, hcl⟩ := read_some hsh
      have hstep := step_read (s := s0) hcl
      have hpl : PyFlat.played SctSecretNeutral.step SctSecret.start (c1 ++ [(p :: args) :: rows]) = PyFlat.played SctSecretNeutral.step SctSecret.start c1 ++ [ans s0 cl] := by
        rw [played_snoc, ← hs0, hstep]
      have hle : (PyFlat.told (PyFlat.played SctSecretNeutral.step SctSecret.start c1)).length + 1 + (ans s0 cl).length ≤ 10000000 := by
        rw [hans, hcs, show c1 ++ ((p :: args) :: rows) :: c2 = (c1 ++ [(p :: args) :: rows]) ++ c2 by rw [List.append_assoc]; rfl, played_append, told_append, hpl, told_snoc, List.length_append, List.length_append, List.length_cons] at hshort
        omega
      refine iteTt (decide_eq_true ?_) ⟨fun σ' H' => ∃ v5, σ' = [some (.ref a), some (.ref ln), some (.ref b), some (.ref gv), some (.int (((put c1).length + (put1 ((p :: args) :: rows)).length : Nat) : Int)), v5] ∧ BookAt C H' gv b (SctSecret.step s0 cl).1 ∧ H' ln = some (.lst (rV ns)) ∧ H' gv = some (.lst (rV (PyFlat.told (PyFlat.played SctSecretNeutral.step SctSecret.start c1) ++ (((ans s0 cl).length : Int) :: ans s0 cl)))), ?_, ?_⟩
      · rw [rV_len, hns, List.length_append, List.length_append, List.length_cons]
        omega
      · rintro σ' H2 ⟨v, rfl, hB2, hl2, hg2⟩
        refine ⟨c2.length, Nat.lt_succ_self _, c1 ++ [(p :: args) :: rows], c2, _, v, rfl, by rw [hcs, List.append_assoc]; rfl, ?_, ?_, hB2, good_step hG cl, hl2, ?_⟩
        · rw [put_append, put_one, List.length_append]
        · rw [stAfter_snoc, ← hs0, hstep]
        · rw [hpl, told_snoc]
          exact hg2
      · refine sSet ⟨_, rfl, _, rfl, _, rfl, ln, _, _, _, rfl, rfl, SqL.of hl, hC.head, _, rfl, _, rfl, ln, _, ns, p, args, rows, rfl, SqL.of hl, hC, fun D1 H5 s5 h5 => ⟨_, rfl, _, rfl, ln, _, ns, p, args, rows, rfl, s5.seq (SqL.of hl), hC, fun D2 H6 s6 h6 => ⟨b, D1, D2, gv, p, args, rows, s0, cl, rfl, hsh, hcl, hB.same (s5.trans s6), hG, ?_, SqL.of (s6 _ _ h5), SqL.of h6, fun H7 r k7 hB7 nr h7 => ?_⟩⟩⟩
        · rw [(s5.trans s6) _ _ hgv]
          simp
        · obtain ⟨dx0, a1, a2, a3, hL⟩ := hB.same (s5.trans s6)
          have g6 := (s5.trans s6) _ _ hgv
          have g7 := k7 _ _ g6 hL.nb.symm
          have l6 := (s5.trans s6) _ _ hl
          have l7 := k7 _ _ l6 (fun z => by
            rw [z, hL.ins] at l6
            cases l6)
          have nrg : r ≠ gv := fun z => by
            rw [z, g6] at nr
            cases nr
          refine ⟨_, rfl, .inl ⟨rfl, _, SqL.of g7⟩, _, rfl, r, _, rfl, .inl (SqL.of h7), gv, _, _, rfl, rfl, g7, ?_, ?_⟩
          · rw [rV_len]
            exact Nat.lt_of_le_of_lt (show _ ≤ 10000000 by omega) (by decide)
          · refine ⟨_, rfl, .inl ⟨rfl, _, SqL.of upd_same⟩, _, rfl, gv, r, _, _, rfl, rfl, upd_same, by rw [upd_ne nrg]; exact h7, ?_, ?_⟩
            · rw [List.length_append, rV_len, rV_len]
              exact Nat.le_trans (show _ ≤ 10000000 from hle) (by decide)
            · refine ⟨_, rfl, _, rfl, ln, _, ns, p, args, rows, rfl, SqL.of (by rw [upd_ne lg, upd_ne lg]; exact l7), hC, _, rfl, (hB7.updg g7).updg upd_same, by rw [upd_ne lg, upd_ne lg]; exact l7, ?_⟩
              rw [upd_same, rV_len]
              unfold rV
              rw [List.map_append, List.append_assoc]
              rfl
theorem all_mk {P : Program} {w : World} {K : PySem.W.Frag} {h : Heap} {mg : Str → Option Value} {fa C aS aW : Addr} (X : K.In h) (G : h.Ns mainGlobals mg) (hfa : mg "answers" = some (.ref fa)) (T : Txt K mg C aS aW) :
    ∃ fd : FuncData, (∀ (s : Shared) (us : List Value), us.length = (["calls"] : List Str).length → BindsTo s fd ⟨us, []⟩ ((["calls"] : List Str).zip us)) ∧ ∀ base : Heap, K.In base → base.Ns mainGlobals mg → FnOk P w K mg base CX0 13 fa fd ["calls"] (spAnswers K) := by
  obtain ⟨f, fd, h1, F⟩ := T.d_answers.ex
  have e := hfa.symm.trans h1
  cases e
  obtain ⟨oc, od, kV, doc, pm, an, cdv, ct, osl, rfl, lk, hcd⟩ := id F.ex
  exact ⟨_, fun s us hu => match us, hu with | [_], _ => .of_eq rfl, fun base _ _ => ok_answers F T⟩
end
end Tl

namespace Tl
open PySem PySem.Spec PyProof.Rows L2 SctSecret SctBase
theorem DefAt.mk_ {K : PySem.W.Frag} {h : Heap} {mg : Str → Option Value} {x : Str} {st : Stmt} {f : Addr} {oc : Value} {od an : Option Addr} {osl : Array (Option Value)} {kV doc pm cdv ct : Value} (X : K.In h) (G : h.Ns mainGlobals mg) (a : PySem.W.nsIn K mainGlobals x = some (some (.ref f)))
    (l : K.lookup f = some ⟨oc, od, .func (PySem.W.fnOf x x (defArgs st) (defBody st) (defScope st) .none kV doc pm an cdv ct), osl⟩) (c : PySem.W.codeIn K cdv x = true) (k : PySem.W.keepIn K (.ref f) = true) : DefAt K mg x st :=
  ⟨f, _, PySem.W.mg_of X G a, fun_mk l c k⟩
theorem MethAt.mk_ {K : PySem.W.Frag} {C : Addr} {x qual : Str} {st : Stmt} {f : Addr} {oc : Value} {od an : Option Addr} {osl : Array (Option Value)} {kV doc pm cdv ct : Value} (a : PySem.W.findIn K (.ref C) x = some (some (.ref f))) (i : PySem.W.isFn K (.ref f) = true)
    (l : K.lookup f = some ⟨oc, od, .func (PySem.W.fnOf x qual (defArgs st) (defBody st) (defScope st) .none kV doc pm an cdv ct), osl⟩) (c : PySem.W.codeIn K cdv qual = true) (k : PySem.W.keepIn K (.ref f) = true) : MethAt K C x qual st :=
  ⟨f, _, ⟨a, i, k⟩, fun_mk l c k⟩
theorem GInt.mk_ {K : PySem.W.Frag} {h : Heap} {mg : Str → Option Value} {x : Str} {i : Int} {t : Tok} (X : K.In h) (G : h.Ns mainGlobals mg) (a : PySem.W.nsIn K mainGlobals x = some (some (.int i t))) : GInt mg x i := ⟨t, PySem.W.mg_of X G a⟩
theorem GTup.mk_ {K : PySem.W.Frag} {h : Heap} {mg : Str → Option Value} {x : Str} {a : Addr} {ns : List Int} {od : Option Addr} {its : Array Value} {n : Nat} {osl : Array (Option Value)} (X : K.In h) (G : h.Ns mainGlobals mg) (e : PySem.W.nsIn K mainGlobals x = some (some (.ref a)))
    (l : K.lookup a = some ⟨.type "tuple", od, .seq its n, osl⟩) (hs : its.size ≤ sizeLine) (hv : Vals (ns.map V.int) its.toList) : GTup K mg x a ns := ⟨PySem.W.mg_of X G e, fun _ => .inr ⟨_, its, n, l, rfl, rfl, hs, hv⟩⟩
end Tl
open PySem PySem.W PyProof.Rows
set_option maxRecDepth 100000 in
set_option maxHeartbeats 0 in
theorem PySem.Challenge.cw_toldshares_s01_answers_holds : PySem.Challenge.rw_toldshares_s01_answers.Holds := by
  w_on; k_headS; (case hw => exact ⟨[.list [.int 12]], by decide +kernel, by decide +kernel⟩)
  k_fillS
  refine L2.walk_specK (r := PySem.Challenge.rw_toldshares_s01_answers) (k := 13) (CX := L2.CX0) (ps := ["calls"]) (sp := Tl.spAnswers) (by decide +kernel) rfl rfl ⟨rfl, by decide, by decide⟩ (fun w h Y => PySem.W.kIn_of Y) ?F ?S (fun _ _ _ _ z => z)
  case F =>
    intro w mg fa h Y KX G hmg
    refine' Tl.all_mk KX G hmg (Tl.Txt.mk ?d_is_amount ?d_is_hearers ?d_is_run ?d_is_bounds ?d_is_side ?d_are_parts ?d_are_shares ?d_is_whole ?d_run_sum ?d_is_known ?d_known ?d_holds ?d_fits ?d_told_on ?d_after_meeting ?d_fact_refusal ?d_rule_limit ?d_direct_limit ?d_direct_row ?d_direct_table ?d_lowered ?d_through ?d_closed ?d_found_out ?d_least_sum ?d_greatest_sum ?d_width ?d_part_bands ?d_shown ?d_to_spare ?d_is_kept ?d_all_kept ?d_is_promised ?d_nearest ?d_Book___init__ ?d_Book_parts ?d_Book_keeps ?d_Book_begin ?d_Book_add_promise ?d_Book_put_facts ?d_answer_formula ?d_answer_promise ?d_answer_tell ?d_answer_meet ?d_answer_may ?d_answer_would ?d_multiple_below ?d_multiple_above ?d_answer_finest ?d_answer_inferred ?d_answer_all ?d_answer_fits ?d_answer_shows ?d_answer_leak ?d_answer_promises ?d_answer_told ?d_answer_sum ?d_has_row ?d_plain_end ?d_call_end ?d_plain_of ?d_row_of ?d_answer_change ?d_answer_question ?d_answer_call ?d_answers ?c_WHOLE ?c_MOST_PARTS ?c_ALL_HEARERS ?c_MOST_PROMISES ?c_MOST_FACTS ?c_DONE ?c_OUT_OF_RANGE ?c_NO_SUCH_RUN ?c_THERE_ALREADY ?c_CANT_BE_SO ?c_NOT_KEPT ?c_TOO_MUCH ?c_LEAST_SIDE ?c_GREATEST_SIDE ?c_FORMULA ?c_PROMISE ?c_TELL ?c_MAY ?c_WOULD ?c_FINEST ?c_MEET ?c_INFERRED ?c_ALL ?c_FITS ?c_SHOWS ?c_LEAK ?c_PROMISES ?c_TOLD ?g_STEPS ?g_WHOLE_NUMBERS ?b_len ?b_sum ?b_list ?b_min ?b_range ?b_zip ?cl ?a_shares ?a_promises ?a_facts ?g_Book ?kC ?mC)
    (case g_Book => (refine' PySem.W.mg_of KX G ?_; k_is))
    (case g_STEPS => (refine' Tl.GTup.mk_ KX G ?e ?l ?s ?v; (case e => k_is); (case l => k_is); (case s => decide); (case v => (repeat (first | exact .nil | refine .cons ⟨_, rfl⟩ ?_)))))
    (case g_WHOLE_NUMBERS => (refine' Tl.GTup.mk_ KX G ?e ?l ?s ?v; (case e => k_is); (case l => k_is); (case s => decide); (case v => (repeat (first | exact .nil | refine .cons ⟨_, rfl⟩ ?_)))))
    (case d_is_amount => (refine' Tl.DefAt.mk_ KX G ?a ?l ?c ?k; (case a => k_is); (case l => k_is); (case c => k_is); (case k => k_is)))
    (case d_is_hearers => (refine' Tl.DefAt.mk_ KX G ?a ?l ?c ?k; (case a => k_is); (case l => k_is); (case c => k_is); (case k => k_is)))
    (case d_is_run => (refine' Tl.DefAt.mk_ KX G ?a ?l ?c ?k; (case a => k_is); (case l => k_is); (case c => k_is); (case k => k_is)))
    (case d_is_bounds => (refine' Tl.DefAt.mk_ KX G ?a ?l ?c ?k; (case a => k_is); (case l => k_is); (case c => k_is); (case k => k_is)))
    (case d_is_side => (refine' Tl.DefAt.mk_ KX G ?a ?l ?c ?k; (case a => k_is); (case l => k_is); (case c => k_is); (case k => k_is)))
    (case d_are_parts => (refine' Tl.DefAt.mk_ KX G ?a ?l ?c ?k; (case a => k_is); (case l => k_is); (case c => k_is); (case k => k_is)))
    (case d_are_shares => (refine' Tl.DefAt.mk_ KX G ?a ?l ?c ?k; (case a => k_is); (case l => k_is); (case c => k_is); (case k => k_is)))
    (case d_is_whole => (refine' Tl.DefAt.mk_ KX G ?a ?l ?c ?k; (case a => k_is); (case l => k_is); (case c => k_is); (case k => k_is)))
    (case d_run_sum => (refine' Tl.DefAt.mk_ KX G ?a ?l ?c ?k; (case a => k_is); (case l => k_is); (case c => k_is); (case k => k_is)))
    (case d_is_known => (refine' Tl.DefAt.mk_ KX G ?a ?l ?c ?k; (case a => k_is); (case l => k_is); (case c => k_is); (case k => k_is)))
    (case d_known => (refine' Tl.DefAt.mk_ KX G ?a ?l ?c ?k; (case a => k_is); (case l => k_is); (case c => k_is); (case k => k_is)))
    (case d_holds => (refine' Tl.DefAt.mk_ KX G ?a ?l ?c ?k; (case a => k_is); (case l => k_is); (case c => k_is); (case k => k_is)))
    (case d_fits => (refine' Tl.DefAt.mk_ KX G ?a ?l ?c ?k; (case a => k_is); (case l => k_is); (case c => k_is); (case k => k_is)))
    (case d_told_on => (refine' Tl.DefAt.mk_ KX G ?a ?l ?c ?k; (case a => k_is); (case l => k_is); (case c => k_is); (case k => k_is)))
    (case d_after_meeting => (refine' Tl.DefAt.mk_ KX G ?a ?l ?c ?k; (case a => k_is); (case l => k_is); (case c => k_is); (case k => k_is)))
    (case d_fact_refusal => (refine' Tl.DefAt.mk_ KX G ?a ?l ?c ?k; (case a => k_is); (case l => k_is); (case c => k_is); (case k => k_is)))
    (case d_rule_limit => (refine' Tl.DefAt.mk_ KX G ?a ?l ?c ?k; (case a => k_is); (case l => k_is); (case c => k_is); (case k => k_is)))
    (case d_direct_limit => (refine' Tl.DefAt.mk_ KX G ?a ?l ?c ?k; (case a => k_is); (case l => k_is); (case c => k_is); (case k => k_is)))
    (case d_direct_row => (refine' Tl.DefAt.mk_ KX G ?a ?l ?c ?k; (case a => k_is); (case l => k_is); (case c => k_is); (case k => k_is)))
    (case d_direct_table => (refine' Tl.DefAt.mk_ KX G ?a ?l ?c ?k; (case a => k_is); (case l => k_is); (case c => k_is); (case k => k_is)))
    (case d_lowered => (refine' Tl.DefAt.mk_ KX G ?a ?l ?c ?k; (case a => k_is); (case l => k_is); (case c => k_is); (case k => k_is)))
    (case d_through => (refine' Tl.DefAt.mk_ KX G ?a ?l ?c ?k; (case a => k_is); (case l => k_is); (case c => k_is); (case k => k_is)))
    (case d_closed => (refine' Tl.DefAt.mk_ KX G ?a ?l ?c ?k; (case a => k_is); (case l => k_is); (case c => k_is); (case k => k_is)))
    (case d_found_out => (refine' Tl.DefAt.mk_ KX G ?a ?l ?c ?k; (case a => k_is); (case l => k_is); (case c => k_is); (case k => k_is)))
    (case d_least_sum => (refine' Tl.DefAt.mk_ KX G ?a ?l ?c ?k; (case a => k_is); (case l => k_is); (case c => k_is); (case k => k_is)))
    (case d_greatest_sum => (refine' Tl.DefAt.mk_ KX G ?a ?l ?c ?k; (case a => k_is); (case l => k_is); (case c => k_is); (case k => k_is)))
    (case d_width => (refine' Tl.DefAt.mk_ KX G ?a ?l ?c ?k; (case a => k_is); (case l => k_is); (case c => k_is); (case k => k_is)))
    (case d_part_bands => (refine' Tl.DefAt.mk_ KX G ?a ?l ?c ?k; (case a => k_is); (case l => k_is); (case c => k_is); (case k => k_is)))
    (case d_shown => (refine' Tl.DefAt.mk_ KX G ?a ?l ?c ?k; (case a => k_is); (case l => k_is); (case c => k_is); (case k => k_is)))
    (case d_to_spare => (refine' Tl.DefAt.mk_ KX G ?a ?l ?c ?k; (case a => k_is); (case l => k_is); (case c => k_is); (case k => k_is)))
    (case d_is_kept => (refine' Tl.DefAt.mk_ KX G ?a ?l ?c ?k; (case a => k_is); (case l => k_is); (case c => k_is); (case k => k_is)))
    (case d_all_kept => (refine' Tl.DefAt.mk_ KX G ?a ?l ?c ?k; (case a => k_is); (case l => k_is); (case c => k_is); (case k => k_is)))
    (case d_is_promised => (refine' Tl.DefAt.mk_ KX G ?a ?l ?c ?k; (case a => k_is); (case l => k_is); (case c => k_is); (case k => k_is)))
    (case d_nearest => (refine' Tl.DefAt.mk_ KX G ?a ?l ?c ?k; (case a => k_is); (case l => k_is); (case c => k_is); (case k => k_is)))
    (case d_Book___init__ => (refine' Tl.MethAt.mk_ ?a ?i ?l ?c ?k; (case a => k_is); (case i => k_is); (case l => k_is); (case c => k_is); (case k => k_is)))
    (case d_Book_parts => (refine' Tl.MethAt.mk_ ?a ?i ?l ?c ?k; (case a => k_is); (case i => k_is); (case l => k_is); (case c => k_is); (case k => k_is)))
    (case d_Book_keeps => (refine' Tl.MethAt.mk_ ?a ?i ?l ?c ?k; (case a => k_is); (case i => k_is); (case l => k_is); (case c => k_is); (case k => k_is)))
    (case d_Book_begin => (refine' Tl.MethAt.mk_ ?a ?i ?l ?c ?k; (case a => k_is); (case i => k_is); (case l => k_is); (case c => k_is); (case k => k_is)))
    (case d_Book_add_promise => (refine' Tl.MethAt.mk_ ?a ?i ?l ?c ?k; (case a => k_is); (case i => k_is); (case l => k_is); (case c => k_is); (case k => k_is)))
    (case d_Book_put_facts => (refine' Tl.MethAt.mk_ ?a ?i ?l ?c ?k; (case a => k_is); (case i => k_is); (case l => k_is); (case c => k_is); (case k => k_is)))
    (case d_answer_formula => (refine' Tl.DefAt.mk_ KX G ?a ?l ?c ?k; (case a => k_is); (case l => k_is); (case c => k_is); (case k => k_is)))
    (case d_answer_promise => (refine' Tl.DefAt.mk_ KX G ?a ?l ?c ?k; (case a => k_is); (case l => k_is); (case c => k_is); (case k => k_is)))
    (case d_answer_tell => (refine' Tl.DefAt.mk_ KX G ?a ?l ?c ?k; (case a => k_is); (case l => k_is); (case c => k_is); (case k => k_is)))
    (case d_answer_meet => (refine' Tl.DefAt.mk_ KX G ?a ?l ?c ?k; (case a => k_is); (case l => k_is); (case c => k_is); (case k => k_is)))
    (case d_answer_may => (refine' Tl.DefAt.mk_ KX G ?a ?l ?c ?k; (case a => k_is); (case l => k_is); (case c => k_is); (case k => k_is)))
    (case d_answer_would => (refine' Tl.DefAt.mk_ KX G ?a ?l ?c ?k; (case a => k_is); (case l => k_is); (case c => k_is); (case k => k_is)))
    (case d_multiple_below => (refine' Tl.DefAt.mk_ KX G ?a ?l ?c ?k; (case a => k_is); (case l => k_is); (case c => k_is); (case k => k_is)))
    (case d_multiple_above => (refine' Tl.DefAt.mk_ KX G ?a ?l ?c ?k; (case a => k_is); (case l => k_is); (case c => k_is); (case k => k_is)))
    (case d_answer_finest => (refine' Tl.DefAt.mk_ KX G ?a ?l ?c ?k; (case a => k_is); (case l => k_is); (case c => k_is); (case k => k_is)))
    (case d_answer_inferred => (refine' Tl.DefAt.mk_ KX G ?a ?l ?c ?k; (case a => k_is); (case l => k_is); (case c => k_is); (case k => k_is)))
    (case d_answer_all => (refine' Tl.DefAt.mk_ KX G ?a ?l ?c ?k; (case a => k_is); (case l => k_is); (case c => k_is); (case k => k_is)))
    (case d_answer_fits => (refine' Tl.DefAt.mk_ KX G ?a ?l ?c ?k; (case a => k_is); (case l => k_is); (case c => k_is); (case k => k_is)))
    (case d_answer_shows => (refine' Tl.DefAt.mk_ KX G ?a ?l ?c ?k; (case a => k_is); (case l => k_is); (case c => k_is); (case k => k_is)))
    (case d_answer_leak => (refine' Tl.DefAt.mk_ KX G ?a ?l ?c ?k; (case a => k_is); (case l => k_is); (case c => k_is); (case k => k_is)))
    (case d_answer_promises => (refine' Tl.DefAt.mk_ KX G ?a ?l ?c ?k; (case a => k_is); (case l => k_is); (case c => k_is); (case k => k_is)))
    (case d_answer_told => (refine' Tl.DefAt.mk_ KX G ?a ?l ?c ?k; (case a => k_is); (case l => k_is); (case c => k_is); (case k => k_is)))
    (case d_answer_sum => (refine' Tl.DefAt.mk_ KX G ?a ?l ?c ?k; (case a => k_is); (case l => k_is); (case c => k_is); (case k => k_is)))
    (case d_has_row => (refine' Tl.DefAt.mk_ KX G ?a ?l ?c ?k; (case a => k_is); (case l => k_is); (case c => k_is); (case k => k_is)))
    (case d_plain_end => (refine' Tl.DefAt.mk_ KX G ?a ?l ?c ?k; (case a => k_is); (case l => k_is); (case c => k_is); (case k => k_is)))
    (case d_call_end => (refine' Tl.DefAt.mk_ KX G ?a ?l ?c ?k; (case a => k_is); (case l => k_is); (case c => k_is); (case k => k_is)))
    (case d_plain_of => (refine' Tl.DefAt.mk_ KX G ?a ?l ?c ?k; (case a => k_is); (case l => k_is); (case c => k_is); (case k => k_is)))
    (case d_row_of => (refine' Tl.DefAt.mk_ KX G ?a ?l ?c ?k; (case a => k_is); (case l => k_is); (case c => k_is); (case k => k_is)))
    (case d_answer_change => (refine' Tl.DefAt.mk_ KX G ?a ?l ?c ?k; (case a => k_is); (case l => k_is); (case c => k_is); (case k => k_is)))
    (case d_answer_question => (refine' Tl.DefAt.mk_ KX G ?a ?l ?c ?k; (case a => k_is); (case l => k_is); (case c => k_is); (case k => k_is)))
    (case d_answer_call => (refine' Tl.DefAt.mk_ KX G ?a ?l ?c ?k; (case a => k_is); (case l => k_is); (case c => k_is); (case k => k_is)))
    (case d_answers => (refine' Tl.DefAt.mk_ KX G ?a ?l ?c ?k; (case a => k_is); (case l => k_is); (case c => k_is); (case k => k_is)))
    (case c_WHOLE => (refine' Tl.GInt.mk_ KX G ?a; (case a => k_is)))
    (case c_MOST_PARTS => (refine' Tl.GInt.mk_ KX G ?a; (case a => k_is)))
    (case c_ALL_HEARERS => (refine' Tl.GInt.mk_ KX G ?a; (case a => k_is)))
    (case c_MOST_PROMISES => (refine' Tl.GInt.mk_ KX G ?a; (case a => k_is)))
    (case c_MOST_FACTS => (refine' Tl.GInt.mk_ KX G ?a; (case a => k_is)))
    (case c_DONE => (refine' Tl.GInt.mk_ KX G ?a; (case a => k_is)))
    (case c_OUT_OF_RANGE => (refine' Tl.GInt.mk_ KX G ?a; (case a => k_is)))
    (case c_NO_SUCH_RUN => (refine' Tl.GInt.mk_ KX G ?a; (case a => k_is)))
    (case c_THERE_ALREADY => (refine' Tl.GInt.mk_ KX G ?a; (case a => k_is)))
    (case c_CANT_BE_SO => (refine' Tl.GInt.mk_ KX G ?a; (case a => k_is)))
    (case c_NOT_KEPT => (refine' Tl.GInt.mk_ KX G ?a; (case a => k_is)))
    (case c_TOO_MUCH => (refine' Tl.GInt.mk_ KX G ?a; (case a => k_is)))
    (case c_LEAST_SIDE => (refine' Tl.GInt.mk_ KX G ?a; (case a => k_is)))
    (case c_GREATEST_SIDE => (refine' Tl.GInt.mk_ KX G ?a; (case a => k_is)))
    (case c_FORMULA => (refine' Tl.GInt.mk_ KX G ?a; (case a => k_is)))
    (case c_PROMISE => (refine' Tl.GInt.mk_ KX G ?a; (case a => k_is)))
    (case c_TELL => (refine' Tl.GInt.mk_ KX G ?a; (case a => k_is)))
    (case c_MAY => (refine' Tl.GInt.mk_ KX G ?a; (case a => k_is)))
    (case c_WOULD => (refine' Tl.GInt.mk_ KX G ?a; (case a => k_is)))
    (case c_FINEST => (refine' Tl.GInt.mk_ KX G ?a; (case a => k_is)))
    (case c_MEET => (refine' Tl.GInt.mk_ KX G ?a; (case a => k_is)))
    (case c_INFERRED => (refine' Tl.GInt.mk_ KX G ?a; (case a => k_is)))
    (case c_ALL => (refine' Tl.GInt.mk_ KX G ?a; (case a => k_is)))
    (case c_FITS => (refine' Tl.GInt.mk_ KX G ?a; (case a => k_is)))
    (case c_SHOWS => (refine' Tl.GInt.mk_ KX G ?a; (case a => k_is)))
    (case c_LEAK => (refine' Tl.GInt.mk_ KX G ?a; (case a => k_is)))
    (case c_PROMISES => (refine' Tl.GInt.mk_ KX G ?a; (case a => k_is)))
    (case c_TOLD => (refine' Tl.GInt.mk_ KX G ?a; (case a => k_is)))
    (case b_len => (refine' PySem.W.mg_none_of KX G ?_; k_is))
    (case b_sum => (refine' PySem.W.mg_none_of KX G ?_; k_is))
    (case b_list => (refine' PySem.W.mg_none_of KX G ?_; k_is))
    (case b_min => (refine' PySem.W.mg_none_of KX G ?_; k_is))
    (case b_range => (refine' PySem.W.mg_none_of KX G ?_; k_is))
    (case b_zip => (refine' PySem.W.mg_none_of KX G ?_; k_is))
    (case cl => exact ⟨by k_is, by k_is, by k_is, by k_is⟩)
    (case a_shares => (show PySem.W.findIn _ _ _ = _; k_is))
    (case a_promises => (show PySem.W.findIn _ _ _ = _; k_is))
    (case a_facts => (show PySem.W.findIn _ _ _ = _; k_is))
    (case kC => k_is); (case mC => k_is)
  case S =>
    intro K H xs a hO hwi hask hx
    cases hx with
    | cons h1 h2 =>
      cases h2
      cases h1 with
      | lst hs ha =>
        have e := L2.ints_dw a.1 _ ha
        subst e
        have q : ((Codec.inLen 0 900 a.1 && a.1.all (Codec.inInt (-10000000) 10000000)) && true) = true := hwi
        rw [Bool.and_eq_true, Bool.and_eq_true] at q
        exact ⟨_, a.1, rfl, hs, (Codec.inNat_iff.mp q.1.1).2, hask, fun H' p hp => .lst (L2.SqL.of hp) (L2.dw_ints _)⟩
#print axioms PySem.Challenge.cw_toldshares_s01_answers_holds
